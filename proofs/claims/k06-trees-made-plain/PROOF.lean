import PyProof.Rows.All
import Wide.All
import OpenK.AllK
import Wide.FinOn
import HandS.ForMost
import HandS.More
import HandS.IsInst
import HandS.Flow
import HandS.Style
import HandS.TupAny
import HandS.TupMul
import HandS.TupLe
import HandS.Deep
import HandS.Wide
import PyProof.ReprRoads
import KE.KDictCopyH
import PyProof.Rows.SetFrom
import PyProof.TupleIter
import KE.GoesSet
import HandS.SetKeys
import HandS.SetBool
import HandS.Head0
import HandS.Head1
import HandS.Head2
import HandS.HeadEnd
import HandS.HeadHook1
import HandS.HeadHook2
import HandS.HeadHook3
import HandS.HeadHook4
import Open.Row
import PySem.Challenge.RW_sortclues_k06_trees_made_plain
set_option Elab.async false
set_option linter.all false
set_option maxRecDepth 100000
namespace Ev
open PySem L2

/-! ### data, cells, what an expression hands on -/
inductive D where
  | non | bl (b : Bool) | int (i : Int) | str (x : Str)
  | tup (xs : List D) | lst (xs : List D) | rol (ns : List Int) | hdl (n : Nat)
inductive Cell where
  | lst (xs : List D)
abbrev Wd := List Cell
abbrev En := List (Option D)
/-- d: data; fr: a list that nobody else holds yet -/
inductive R where
  | d (x : D) | fr (xs : List D)

/-! the objects whose content is settled are Z; the cells' addresses are mu -/
mutual
inductive Rp (K : PySem.W.Frag) (Z : Hp) (mu : List Addr) : V → D → Prop
  | non : Rp K Z mu .non .non
  | bl (b : Bool) : Rp K Z mu (.bl b) (.bl b)
  | int (i : Int) : Rp K Z mu (.int i) (.int i)
  | str (x : Str) : Rp K Z mu (.str x) (.str x)
  | tup {a : Addr} {vs : List V} {ds : List D} : SqT K Z a vs → RpA K Z mu vs ds → Rp K Z mu (.ref a) (.tup ds)
  | lst {a : Addr} {vs : List V} {ds : List D} : Z a = some (.lst vs) → RpA K Z mu vs ds → Rp K Z mu (.ref a) (.lst ds)
  | rol {a : Addr} {ns : List Int} : SqL K Z a (ns.map V.int) → Rp K Z mu (.ref a) (.rol ns)
  | hdl {a : Addr} {n : Nat} : mu[n]? = some a → Rp K Z mu (.ref a) (.hdl n)
inductive RpA (K : PySem.W.Frag) (Z : Hp) (mu : List Addr) : List V → List D → Prop
  | nil : RpA K Z mu [] []
  | cons {v : V} {vs : List V} {d : D} {ds : List D} : Rp K Z mu v d → RpA K Z mu vs ds → RpA K Z mu (v :: vs) (d :: ds)
end

def Sub (Z Y : Hp) : Prop := ∀ a o, Z a = some o → Y a = some o
theorem Sub.rd {Z Y : Hp} (s : Sub Z Y) {a : Addr} {u : HO} (h : Rd Z a u) : Rd Y a u := by
  rcases h with h | ⟨o, h⟩
  · exact .inl (s _ _ h)
  · exact .inr ⟨o, s _ _ h⟩
theorem Sub.sqL {K : PySem.W.Frag} {Z Y : Hp} (s : Sub Z Y) {a : Addr} {xs : List V} (h : SqL K Z a xs) : SqL K Y a xs := h.imp s.rd id
theorem Sub.sqT {K : PySem.W.Frag} {Z Y : Hp} (s : Sub Z Y) {a : Addr} {xs : List V} (h : SqT K Z a xs) : SqT K Y a xs := h.imp s.rd id
theorem Sub.refl (Z : Hp) : Sub Z Z := fun _ _ h => h
theorem Sub.trans {Z Y X : Hp} (a : Sub Z Y) (b : Sub Y X) : Sub Z X := fun p o h => b p o (a p o h)

section
variable {K : PySem.W.Frag} {Z Z' : Hp} {mu mu' : List Addr}
mutual
theorem Rp.mono (s : Sub Z Z') (m : ∀ (n : Nat) (a : Addr), mu[n]? = some a → mu'[n]? = some a) : ∀ (d : D) (v : V), Rp K Z mu v d → Rp K Z' mu' v d
  | .non, _, h => by cases h; exact .non
  | .bl b, _, h => by cases h; exact .bl b
  | .int i, _, h => by cases h; exact .int i
  | .str x, _, h => by cases h; exact .str x
  | .tup ds, _, h => by
    cases h with
    | tup h1 h2 => exact .tup (s.sqT h1) (RpA.mono s m ds _ h2)
  | .lst ds, _, h => by
    cases h with
    | lst h1 h2 => exact .lst (s _ _ h1) (RpA.mono s m ds _ h2)
  | .rol ns, _, h => by
    cases h with
    | rol h1 => exact .rol (s.sqL h1)
  | .hdl n, _, h => by
    cases h with
    | hdl h1 => exact .hdl (m _ _ h1)
theorem RpA.mono (s : Sub Z Z') (m : ∀ (n : Nat) (a : Addr), mu[n]? = some a → mu'[n]? = some a) : ∀ (ds : List D) (vs : List V), RpA K Z mu vs ds → RpA K Z' mu' vs ds
  | [], _, h => by cases h; exact .nil
  | d :: ds, _, h => by
    cases h with
    | cons h1 h2 => exact .cons (Rp.mono s m d _ h1) (RpA.mono s m ds _ h2)
end
theorem RpA.length {vs : List V} : ∀ {ds : List D}, RpA K Z mu vs ds → vs.length = ds.length := by
  intro ds h
  induction ds generalizing vs with
  | nil => cases h; rfl
  | cons d ds ih =>
    cases h with
    | cons _ h2 => rw [List.length_cons, List.length_cons, ih h2]
theorem RpA.app : ∀ {ds es : List D} {vs us : List V}, RpA K Z mu vs ds → RpA K Z mu us es → RpA K Z mu (vs ++ us) (ds ++ es)
  | [], _, _, _, h, h' => by cases h; exact h'
  | _ :: _, _, _, _, h, h' => by
    cases h with
    | cons h1 h2 => exact .cons h1 (RpA.app h2 h')
theorem RpA.get : ∀ {ds : List D} {vs : List V} {i : Nat} {d : D}, RpA K Z mu vs ds → ds[i]? = some d → ∃ v, vs[i]? = some v ∧ Rp K Z mu v d
  | [], _, _, _, _, e => by simp at e
  | d :: ds, _, 0, _, h, e => by
    cases h with
    | cons h1 h2 =>
      rw [List.getElem?_cons_zero] at e
      cases e; exact ⟨_, rfl, h1⟩
  | _ :: ds, _, i + 1, _, h, e => by
    cases h with
    | cons h1 h2 =>
      obtain ⟨v, q, r⟩ := RpA.get (i := i) h2 (by simpa using e)
      exact ⟨v, by simpa using q, r⟩
theorem RpA.take : ∀ {ds : List D} {vs : List V} (n : Nat), RpA K Z mu vs ds → RpA K Z mu (vs.take n) (ds.take n)
  | _, _, 0, _ => by simpa using RpA.nil
  | [], _, n + 1, h => by cases h; simpa using RpA.nil
  | _ :: _, _, n + 1, h => by
    cases h with
    | cons h1 h2 => simpa using RpA.cons h1 (RpA.take n h2)
theorem RpA.drop : ∀ {ds : List D} {vs : List V} (n : Nat), RpA K Z mu vs ds → RpA K Z mu (vs.drop n) (ds.drop n)
  | _, _, 0, h => by simpa using h
  | [], _, n + 1, h => by cases h; simpa using RpA.nil
  | _ :: _, _, n + 1, h => by
    cases h with
    | cons h1 h2 => simpa using RpA.drop n h2
theorem RpA.set : ∀ {ds : List D} {vs : List V} (n : Nat) {v : V} {d : D}, RpA K Z mu vs ds → Rp K Z mu v d → RpA K Z mu (vs.set n v) (ds.set n d)
  | [], _, _, _, _, h, _ => by cases h; simpa using RpA.nil
  | _ :: _, _, 0, _, _, h, r => by
    cases h with
    | cons h1 h2 => simpa using RpA.cons r h2
  | _ :: _, _, n + 1, _, _, h, r => by
    cases h with
    | cons h1 h2 => simpa using RpA.cons h1 (RpA.set n h2 r)
theorem RpA.rev {ds : List D} {vs : List V} (h : RpA K Z mu vs ds) : RpA K Z mu vs.reverse ds.reverse := by
  induction ds generalizing vs with
  | nil => cases h; exact .nil
  | cons d ds ih =>
    cases h with
    | cons h1 h2 =>
      rw [List.reverse_cons, List.reverse_cons]
      exact RpA.app (ih h2) (.cons h1 .nil)
end

/-! ### the state -/
structure Mem where
  H : Hp
  Z : Hp
  mu : List Addr
def CellOk (K : PySem.W.Frag) (m : Mem) (a : Addr) : Cell → Prop
  | .lst xs => ∃ vs, m.H a = some (.lst vs) ∧ RpA K m.Z m.mu vs xs
structure SR (K : PySem.W.Frag) (m : Mem) (W : Wd) : Prop where
  sub : Sub m.Z m.H
  nd : m.mu.Nodup
  len : m.mu.length = W.length
  cell : ∀ (n : Nat) (a : Addr) (c : Cell), m.mu[n]? = some a → W[n]? = some c → CellOk K m a c
  zf : ∀ a ∈ m.mu, m.Z a = none
structure Ext (m n : Mem) : Prop where
  zle : Sub m.Z n.Z
  mu : ∃ l, n.mu = m.mu ++ l
  keep : ∀ a o, m.H a = some o → a ∉ m.mu → n.H a = some o
  live : ∀ a, m.H a ≠ none → n.H a ≠ none
  zold : ∀ a, m.H a ≠ none → n.Z a = m.Z a
  munew : ∀ a, a ∈ n.mu → a ∈ m.mu ∨ m.H a = none
theorem Ext.refl (m : Mem) : Ext m m := ⟨Sub.refl _, ⟨[], by simp⟩, fun _ _ h _ => h, fun _ h => h, fun _ _ => rfl, fun _ h => .inl h⟩
theorem Ext.trans {a b c : Mem} (p : Ext a b) (q : Ext b c) : Ext a c where
  zle := p.zle.trans q.zle
  mu := by
    obtain ⟨l, e⟩ := p.mu
    obtain ⟨k, f⟩ := q.mu
    exact ⟨l ++ k, by rw [f, e, List.append_assoc]⟩
  keep := fun x o h n => q.keep x o (p.keep x o h n) fun hm => by
    rcases p.munew x hm with z | z
    · exact n z
    · rw [h] at z; cases z
  live := fun x h => q.live x (p.live x h)
  zold := fun x h => (q.zold x (p.live x h)).trans (p.zold x h)
  munew := fun x h => by
    rcases q.munew x h with z | z
    · exact p.munew x z
    · refine .inr ?_
      cases e : a.H x with
      | none => rfl
      | some o => exact absurd z (p.live x (by rw [e]; simp))
theorem Ext.fresh {a b : Mem} (p : Ext a b) {x : Addr} (h : b.H x = none) : a.H x = none := by
  cases e : a.H x with
  | none => rfl
  | some o => exact absurd h (p.live x (by rw [e]; simp))
theorem Ext.ix {a b : Mem} (p : Ext a b) : ∀ (n : Nat) (x : Addr), a.mu[n]? = some x → b.mu[n]? = some x := fun n x h => by
  obtain ⟨l, e⟩ := p.mu
  rw [e]
  have hn : n < a.mu.length := by
    rcases Nat.lt_or_ge n a.mu.length with q | q
    · exact q
    · rw [List.getElem?_eq_none q] at h; cases h
  rw [List.getElem?_append_left hn]; exact h
section
variable {K : PySem.W.Frag} {a b : Mem}
theorem Rp.ext (p : Ext a b) {d : D} {v : V} (h : Rp K a.Z a.mu v d) : Rp K b.Z b.mu v d := h.mono p.zle p.ix d v
theorem RpA.ext (p : Ext a b) {ds : List D} {vs : List V} (h : RpA K a.Z a.mu vs ds) : RpA K b.Z b.mu vs ds := RpA.mono p.zle p.ix ds vs h

/-- o: the objects ahead of the run that handed it on -/
def RpR (K : PySem.W.Frag) (o : Hp) (m : Mem) (v : V) : R → Prop
  | .d x => Rp K m.Z m.mu v x
  | .fr xs => ∃ p vs, v = .ref p ∧ m.H p = some (.lst vs) ∧ RpA K m.Z m.mu vs xs ∧ m.Z p = none ∧ p ∉ m.mu ∧ o p = none
theorem RpR.ext {o : Hp} (p : Ext a b) {v : V} : ∀ {r : R}, RpR K o a v r → RpR K o b v r
  | .d _, h => Rp.ext p h
  | .fr xs, ⟨q, vs, e, h1, h2, h3, h4, h5⟩ => by
    have live : a.H q ≠ none := by rw [h1]; simp
    refine ⟨q, vs, e, p.keep _ _ h1 h4, RpA.ext p h2, (p.zold q live).trans h3, fun hm => ?_, h5⟩
    rcases p.munew q hm with z | z
    · exact h4 z
    · exact live z
theorem RpR.old {o o' : Hp} {m : Mem} {v : V} (h : ∀ p, o p = none → o' p = none) : ∀ {r : R}, RpR K o m v r → RpR K o' m v r
  | .d _, q => q
  | .fr _, ⟨q, vs, e, h1, h2, h3, h4, h5⟩ => ⟨q, vs, e, h1, h2, h3, h4, h q h5⟩

/-- the slots -/
def RpS (K : PySem.W.Frag) (m : Mem) (σ : St) (ρ : En) : Prop := σ.length = ρ.length ∧ ∀ (i : Nat) (d : D), ρ[i]? = some (some d) → ∃ v, σ[i]? = some (some v) ∧ Rp K m.Z m.mu v d
theorem RpS.ext (p : Ext a b) {σ : St} {ρ : En} (h : RpS K a σ ρ) : RpS K b σ ρ := ⟨h.1, fun i d e => let ⟨v, q, r⟩ := h.2 i d e; ⟨v, q, Rp.ext p r⟩⟩
theorem RpS.set {m : Mem} {σ : St} {ρ : En} {v : V} {d : D} (h : RpS K m σ ρ) (r : Rp K m.Z m.mu v d) (i : Nat) : RpS K m (σ.set i (some v)) (ρ.set i (some d)) := by
  refine ⟨by simpa using h.1, fun j e q => ?_⟩
  by_cases hj : i = j
  · subst hj
    have hi : i < ρ.length := by
      rcases Nat.lt_or_ge i ρ.length with z | z
      · exact z
      · rw [List.getElem?_eq_none (by simpa using z)] at q; cases q
    rw [List.getElem?_set_self hi] at q
    cases q
    exact ⟨v, by rw [List.getElem?_set_self (by rw [h.1]; exact hi)], r⟩
  · rw [List.getElem?_set_ne hj] at q
    obtain ⟨w, q1, q2⟩ := h.2 j e q
    exact ⟨w, by rw [List.getElem?_set_ne hj]; exact q1, q2⟩
/-- what is known of fewer slots -/
theorem RpS.less {m : Mem} {σ : St} {ρ ρ' : En} (h : RpS K m σ ρ) (hl : ρ'.length = ρ.length) (hs : ∀ (i : Nat) (d : D), ρ'[i]? = some (some d) → ρ[i]? = some (some d)) : RpS K m σ ρ' :=
  ⟨h.1.trans hl.symm, fun i d e => h.2 i d (hs i d e)⟩
end

/-! ### new objects -/
section
variable {K : PySem.W.Frag} {m : Mem} {W : Wd} {p : Addr}
theorem sub_upd {Z H : Hp} (s : Sub Z H) (hp : H p = none) (o : HO) : Sub Z (upd H p o) := fun a u h => by
  have := s a u h
  rw [upd_ne (ne_of_none this hp)]; exact this
theorem sub_upd2 {Z H : Hp} (s : Sub Z H) (hp : H p = none) (o : HO) : Sub (upd Z p o) (upd H p o) := fun a u h => by
  by_cases e : a = p
  · subst e; rw [upd_same] at h ⊢; exact h
  · rw [upd_ne e] at h ⊢; exact s a u h
theorem sub_self {Z : Hp} (hz : Z p = none) (o : HO) : Sub Z (upd Z p o) := fun a u h => by
  rw [upd_ne (ne_of_none h hz)]; exact h
theorem SR.zn (s : SR K m W) (h : m.H p = none) : m.Z p = none := by
  cases e : m.Z p with
  | none => rfl
  | some o => have := s.sub p o e; rw [h] at this; cases this
theorem SR.mun (s : SR K m W) (h : m.H p = none) : p ∉ m.mu := fun hm => by
  obtain ⟨n, hn⟩ := List.mem_iff_getElem?.mp hm
  have hl : n < W.length := by
    rw [← s.len]
    rcases Nat.lt_or_ge n m.mu.length with z | z
    · exact z
    · rw [List.getElem?_eq_none z] at hn; cases hn
  have c := s.cell n p W[n] hn (List.getElem?_eq_getElem hl)
  cases e : W[n] with
  | lst xs =>
    rw [e] at c
    obtain ⟨vs, q, _⟩ := c
    rw [h] at q; cases q
/-- cells stay as they are when nothing of theirs is written -/
theorem CellOk.ext (n : Mem) {a : Addr} (hz : Sub m.Z n.Z) (hm : ∀ (i : Nat) (x : Addr), m.mu[i]? = some x → n.mu[i]? = some x) (hk : ∀ o, m.H a = some o → n.H a = some o) {c : Cell} (hc : CellOk K m a c) : CellOk K n a c := by
  cases c with
  | lst xs =>
    obtain ⟨vs, q, r⟩ := hc
    exact ⟨vs, hk _ q, RpA.mono hz hm xs vs r⟩
/-- a new object, its content not settled -/
theorem laid_ext (s : SR K m W) (h : m.H p = none) (o : HO) : Ext m ⟨upd m.H p o, m.Z, m.mu⟩ :=
  ⟨Sub.refl _, ⟨[], by simp⟩, fun a u q _ => by show upd m.H p o a = some u; rw [upd_ne (ne_of_none q h)]; exact q, fun a q => by
    show upd m.H p o a ≠ none
    by_cases e : a = p
    · subst e; exact absurd h q
    · rw [upd_ne e]; exact q, fun _ _ => rfl, fun _ q => .inl q⟩
theorem laid_sr (s : SR K m W) (h : m.H p = none) (o : HO) : SR K ⟨upd m.H p o, m.Z, m.mu⟩ W :=
  ⟨sub_upd s.sub h o, s.nd, s.len, fun n a c e1 e2 => CellOk.ext (m := m) (hc := s.cell n a c e1 e2) ⟨upd m.H p o, m.Z, m.mu⟩ (Sub.refl _) (fun _ _ q => q) fun u q => by
    show upd m.H p o a = some u; rw [upd_ne (ne_of_none q h)]; exact q, s.zf⟩
/-- a new object, its content settled at once -/
theorem settled_ext (s : SR K m W) (h : m.H p = none) (o : HO) : Ext m ⟨upd m.H p o, upd m.Z p o, m.mu⟩ :=
  ⟨sub_self (s.zn h) o, ⟨[], by simp⟩, fun a u q _ => by show upd m.H p o a = some u; rw [upd_ne (ne_of_none q h)]; exact q, fun a q => by
    show upd m.H p o a ≠ none
    by_cases e : a = p
    · subst e; exact absurd h q
    · rw [upd_ne e]; exact q, fun a q => by
    show upd m.Z p o a = m.Z a
    exact upd_ne fun e => q (by rw [e]; exact h), fun _ q => .inl q⟩
theorem settled_sr (s : SR K m W) (h : m.H p = none) (o : HO) : SR K ⟨upd m.H p o, upd m.Z p o, m.mu⟩ W :=
  ⟨sub_upd2 s.sub h o, s.nd, s.len, fun n a c e1 e2 => CellOk.ext (m := m) (hc := s.cell n a c e1 e2) ⟨upd m.H p o, upd m.Z p o, m.mu⟩ (sub_self (s.zn h) o) (fun _ _ q => q) fun u q => by
    show upd m.H p o a = some u; rw [upd_ne (ne_of_none q h)]; exact q, fun a q => by
    show upd m.Z p o a = none
    rw [upd_ne fun e => s.mun h (by rw [← e]; exact q)]; exact s.zf a q⟩
/-- an unsettled list is settled -/
theorem settle_sr (s : SR K m W) {vs : List V} (h : m.H p = some (.lst vs)) (hz : m.Z p = none) (hm : p ∉ m.mu) : SR K ⟨m.H, upd m.Z p (.lst vs), m.mu⟩ W :=
  ⟨fun a u q => by
    by_cases e : a = p
    · subst e
      have q' : upd m.Z a (.lst vs) a = some u := q
      rw [upd_same] at q'; cases q'; exact h
    · have q' : upd m.Z p (.lst vs) a = some u := q
      rw [upd_ne e] at q'; exact s.sub a u q', s.nd, s.len, fun n a c e1 e2 => CellOk.ext (m := m) (hc := s.cell n a c e1 e2) ⟨m.H, upd m.Z p (.lst vs), m.mu⟩ (sub_self hz _) (fun _ _ q => q) fun u q => q, fun a q => by
    show upd m.Z p _ a = none
    rw [upd_ne fun e => hm (by rw [← e]; exact q)]; exact s.zf a q⟩
theorem settle_ext {n : Mem} (e : Ext n m) (hn : n.H p = none) {vs : List V} (hz : m.Z p = none) : Ext n ⟨m.H, upd m.Z p (.lst vs), m.mu⟩ :=
  ⟨e.zle.trans (sub_self hz _), e.mu, e.keep, e.live, fun a q => by
    show upd m.Z p _ a = n.Z a
    rw [upd_ne fun z => q (by rw [z]; exact hn)]; exact e.zold a q, e.munew⟩
/-- an unsettled list becomes a cell -/
theorem cell_sr (s : SR K m W) {vs : List V} {xs : List D} (h : m.H p = some (.lst vs)) (r : RpA K m.Z m.mu vs xs) (hz : m.Z p = none) (hm : p ∉ m.mu) : SR K ⟨m.H, m.Z, m.mu ++ [p]⟩ (W ++ [.lst xs]) := by
  have up : ∀ (i : Nat) (x : Addr), m.mu[i]? = some x → (m.mu ++ [p])[i]? = some x := fun i x q => by
    have hi : i < m.mu.length := by
      rcases Nat.lt_or_ge i m.mu.length with z | z
      · exact z
      · rw [List.getElem?_eq_none z] at q; cases q
    rw [List.getElem?_append_left hi]; exact q
  refine ⟨s.sub, ?_, by simp [s.len], fun n a c e1 e2 => ?_, fun a q => ?_⟩
  · show (m.mu ++ [p]).Nodup
    rw [List.nodup_append]
    refine ⟨s.nd, by simp, fun a ha b hb => ?_⟩
    have e : b = p := by simpa using hb
    subst e
    intro e; subst e; exact hm ha
  · have e1 : (m.mu ++ [p])[n]? = some a := e1
    rcases Nat.lt_or_ge n m.mu.length with z | z
    · rw [List.getElem?_append_left z] at e1
      rw [List.getElem?_append_left (by rw [← s.len]; exact z)] at e2
      exact CellOk.ext (m := m) (hc := s.cell n a c e1 e2) ⟨m.H, m.Z, m.mu ++ [p]⟩ (Sub.refl _) up fun u q => q
    · rw [List.getElem?_append_right z] at e1
      rw [List.getElem?_append_right (by rw [← s.len]; exact z), ← s.len] at e2
      have hn : n - m.mu.length = 0 := by
        rcases Nat.eq_zero_or_pos (n - m.mu.length) with q | q
        · exact q
        · rw [List.getElem?_eq_none (by rw [List.length_singleton]; exact q)] at e1; cases e1
      rw [hn] at e1 e2
      cases e1; cases e2
      exact ⟨vs, h, RpA.mono (Sub.refl _) up xs vs r⟩
  · have q : a ∈ m.mu ++ [p] := q
    rcases List.mem_append.mp q with z | z
    · exact s.zf a z
    · have e : a = p := by simpa using z
      subst e; exact hz
theorem cell_ext {n : Mem} (e : Ext n m) (hn : n.H p = none) : Ext n ⟨m.H, m.Z, m.mu ++ [p]⟩ := by
  refine ⟨e.zle, ?_, e.keep, e.live, e.zold, fun a q => ?_⟩
  · obtain ⟨l, el⟩ := e.mu
    exact ⟨l ++ [p], by show m.mu ++ [p] = _; rw [el, List.append_assoc]⟩
  · have q : a ∈ m.mu ++ [p] := q
    rcases List.mem_append.mp q with z | z
    · exact e.munew a z
    · have e : a = p := by simpa using z
      subst e; exact .inr hn
/-- a cell is written -/
theorem write_sr (s : SR K m W) {n : Nat} {a : Addr} {vs : List V} {xs : List D} (hn : m.mu[n]? = some a) (r : RpA K m.Z m.mu vs xs) : SR K ⟨upd m.H a (.lst vs), m.Z, m.mu⟩ (W.set n (.lst xs)) := by
  have hz := s.zf a (List.mem_of_getElem? hn)
  refine ⟨fun b u q => ?_, s.nd, by simpa using s.len, fun k b c e1 e2 => ?_, s.zf⟩
  · show upd m.H a _ b = some u
    rw [upd_ne (ne_of_none q hz)]; exact s.sub b u q
  · by_cases hk : n = k
    · subst hk
      have e1 : m.mu[n]? = some b := e1
      rw [hn] at e1; cases e1
      have hl : n < W.length := by
        rcases Nat.lt_or_ge n W.length with z | z
        · exact z
        · rw [List.getElem?_eq_none (by simpa using z)] at e2; cases e2
      rw [List.getElem?_set_self hl] at e2
      cases e2
      exact ⟨vs, upd_same, r⟩
    · rw [List.getElem?_set_ne hk] at e2
      have hb : b ≠ a := by
        rintro rfl
        have e1 : m.mu[k]? = some b := e1
        obtain ⟨h1, q1⟩ := List.getElem?_eq_some_iff.mp hn
        obtain ⟨h2, q2⟩ := List.getElem?_eq_some_iff.mp e1
        exact hk ((List.getElem_inj s.nd).mp (q1.trans q2.symm))
      exact CellOk.ext (m := m) (hc := s.cell k b c e1 e2) ⟨upd m.H a (.lst vs), m.Z, m.mu⟩ (Sub.refl _) (fun _ _ q => q) fun u q => by
        show upd m.H a _ b = some u
        rw [upd_ne hb]; exact q
theorem write_ext (s : SR K m W) {n : Nat} {a : Addr} {o : HO} (hn : m.mu[n]? = some a) : Ext m ⟨upd m.H a o, m.Z, m.mu⟩ :=
  ⟨Sub.refl _, ⟨[], by simp⟩, fun b u q hb => by
    show upd m.H a o b = some u
    rw [upd_ne fun e => hb (by rw [e]; exact List.mem_of_getElem? hn)]; exact q, fun b q => by
    show upd m.H a o b ≠ none
    by_cases e : b = a
    · subst e; rw [upd_same]; simp
    · rw [upd_ne e]; exact q, fun _ _ => rfl, fun _ q => .inl q⟩
end
end Ev

set_option Elab.async false
set_option linter.all false
set_option maxRecDepth 100000
namespace Ev
open PySem L2

/-! ### the same data, letter by letter -/
mutual
def D.same : D → D → Bool
  | .non, .non => true
  | .bl a, .bl b => a == b
  | .int a, .int b => a == b
  | .str a, .str b => decide (a = b)
  | .tup a, .tup b => sameA a b
  | .lst a, .lst b => sameA a b
  | .rol a, .rol b => a == b
  | .hdl a, .hdl b => a == b
  | _, _ => false
def sameA : List D → List D → Bool
  | [], [] => true
  | a :: r, b :: q => D.same a b && sameA r q
  | _, _ => false
end
mutual
theorem D.same_refl : ∀ a : D, D.same a a = true
  | .non => by simp [D.same]
  | .bl _ => by simp [D.same]
  | .int _ => by simp [D.same]
  | .str _ => by simp [D.same]
  | .tup a => by simp [D.same, sameA_refl a]
  | .lst a => by simp [D.same, sameA_refl a]
  | .rol _ => by simp [D.same]
  | .hdl _ => by simp [D.same]
theorem sameA_refl : ∀ a : List D, sameA a a = true
  | [] => by simp [sameA]
  | a :: r => by simp [sameA, D.same_refl a, sameA_refl r]
end
mutual
theorem D.same_eq : ∀ a b : D, D.same a b = true → a = b
  | .non, b, h => by cases b <;> simp [D.same] at h; rfl
  | .bl _, b, h => by cases b <;> simp [D.same] at h; rw [h]
  | .int _, b, h => by cases b <;> simp [D.same] at h; rw [h]
  | .str _, b, h => by cases b <;> simp [D.same] at h; rw [h]
  | .tup a, b, h => by
    cases b <;> simp [D.same] at h
    rw [sameA_eq a _ h]
  | .lst a, b, h => by
    cases b <;> simp [D.same] at h
    rw [sameA_eq a _ h]
  | .rol _, b, h => by cases b <;> simp [D.same] at h; rw [h]
  | .hdl _, b, h => by cases b <;> simp [D.same] at h; rw [h]
theorem sameA_eq : ∀ a b : List D, sameA a b = true → a = b
  | [], b, h => by cases b <;> simp [sameA] at h; rfl
  | a :: r, b, h => by
    cases b with
    | nil => simp [sameA] at h
    | cons b q =>
      simp [sameA] at h
      rw [D.same_eq a b h.1, sameA_eq r q h.2]
end

/-! ### the runs' forms -/
abbrev FE := En → Wd → Option (R × Wd)
abbrev FT := En → Wd → Option (Bool × Wd)
abbrev FA := En → Wd → Option (List D × Wd)
inductive Out where
  | nx (ρ : En) (W : Wd) | rt (r : R) (W : Wd) | bk (ρ : En) (W : Wd) | ct (ρ : En) (W : Wd)
abbrev FS := En → Wd → Option Out

def rdE (K : PySem.W.Frag) (f : FE) : TE := fun σ H Q => ∃ m W ρ r W', m.H = H ∧ SR K m W ∧ RpS K m σ ρ ∧ f ρ W = some (r, W') ∧ ∀ v n, Ext m n → SR K n W' → RpR K m.H n v r → Q v n.H
def rdT (K : PySem.W.Frag) (f : FT) : TT := fun σ H Q => ∃ m W ρ b W', m.H = H ∧ SR K m W ∧ RpS K m σ ρ ∧ f ρ W = some (b, W') ∧ ∀ n, Ext m n → SR K n W' → Q b n.H
def rdA (K : PySem.W.Frag) (f : FA) : TA := fun σ H Q => ∃ m W ρ ds W', m.H = H ∧ SR K m W ∧ RpS K m σ ρ ∧ f ρ W = some (ds, W') ∧ ∀ vs n, Ext m n → SR K n W' → RpA K n.Z n.mu vs ds → Q vs n.H
def OutK (K : PySem.W.Frag) (m : Mem) (D : Ends) : Out → Prop
  | .nx ρ W => ∀ σ n, Ext m n → SR K n W → RpS K n σ ρ → D.nx σ n.H
  | .rt r W => ∀ v n, Ext m n → SR K n W → RpR K m.H n v r → D.rt v n.H
  | .bk ρ W => ∀ σ n, Ext m n → SR K n W → RpS K n σ ρ → D.bk σ n.H
  | .ct ρ W => ∀ σ n, Ext m n → SR K n W → RpS K n σ ρ → D.ct σ n.H
def rdS (K : PySem.W.Frag) (g : FS) : TS := fun D σ H => ∃ m W ρ o, m.H = H ∧ SR K m W ∧ RpS K m σ ρ ∧ g ρ W = some o ∧ OutK K m D o
theorem OutK.ext {K : PySem.W.Frag} {m n : Mem} {D : Ends} (e : Ext m n) : ∀ {o : Out}, OutK K m D o → OutK K n D o
  | .nx _ _, h => fun σ k q s r => h σ k (e.trans q) s r
  | .rt _ _, h => fun v k q s r => h v k (e.trans q) s (r.old fun _ z => e.fresh z)
  | .bk _ _, h => fun σ k q s r => h σ k (e.trans q) s r
  | .ct _ _, h => fun σ k q s r => h σ k (e.trans q) s r

structure EvE (X : Cx) (e : Expr) (f : FE) : Prop where
  ok : PE X e (rdE X.K f)
structure EvT (X : Cx) (e : Expr) (f : FT) : Prop where
  ok : PT X e (rdT X.K f)
structure EvW (X : Cx) (e : Expr) (f : FT) : Prop where
  ok : PW X e (rdT X.K f)
structure EvA (X : Cx) (es : List Expr) (f : FA) : Prop where
  ok : PA X es (rdA X.K f)
structure EvS (X : Cx) (st : Stmt) (g : FS) : Prop where
  ok : PS X st (rdS X.K g)
structure EvB (X : Cx) (st : List Stmt) (g : FS) : Prop where
  ok : PSs X st (rdS X.K g)

theorem peI {X : Cx} {e : Expr} {t u : TE} (h : PE X e t) (i : ∀ σ H Q, u σ H Q → t σ H Q) : PE X e u := ⟨fun pins s σ H Q I q => h.run pins s σ H Q I (i σ H Q q)⟩
theorem ptI {X : Cx} {e : Expr} {t u : TT} (h : PT X e t) (i : ∀ σ H Q, u σ H Q → t σ H Q) : PT X e u := ⟨fun pins s σ H Q I q => h.run pins s σ H Q I (i σ H Q q)⟩
theorem pwI {X : Cx} {e : Expr} {t u : TT} (h : PW X e t) (i : ∀ σ H Q, u σ H Q → t σ H Q) : PW X e u := ⟨fun wh pins s σ H Q I q => h.run wh pins s σ H Q I (i σ H Q q)⟩
theorem paI {X : Cx} {es : List Expr} {t u : TA} (h : PA X es t) (i : ∀ σ H Q, u σ H Q → t σ H Q) : PA X es u := ⟨fun p pins s σ H Q I q => h.run p pins s σ H Q I (i σ H Q q)⟩
theorem psI {X : Cx} {st : Stmt} {t u : TS} (h : PS X st t) (i : ∀ D σ H, u D σ H → t D σ H) : PS X st u := ⟨fun pins s σ H D I q => h.run pins s σ H D I (i D σ H q)⟩
theorem pssI {X : Cx} {st : List Stmt} {t u : TS} (h : PSs X st t) (i : ∀ D σ H, u D σ H → t D σ H) : PSs X st u := ⟨fun pins s σ H D I q => h.run pins s σ H D I (i D σ H q)⟩

/-! ### a new list becomes data, or a cell -/
def toD (al : Bool) : R → Wd → D × Wd
  | .d x, W => (x, W)
  | .fr xs, W => if al then (.hdl W.length, W ++ [.lst xs]) else (.lst xs, W)
structure Gr (m n : Mem) : Prop where
  z : Sub m.Z n.Z
  ix : ∀ (i : Nat) (x : Addr), m.mu[i]? = some x → n.mu[i]? = some x
theorem Gr.refl (m : Mem) : Gr m m := ⟨Sub.refl _, fun _ _ h => h⟩
theorem Ext.gr {m n : Mem} (e : Ext m n) : Gr m n := ⟨e.zle, e.ix⟩
section
variable {K : PySem.W.Frag} {m n : Mem}
theorem Rp.gr (g : Gr m n) {d : D} {v : V} (h : Rp K m.Z m.mu v d) : Rp K n.Z n.mu v d := h.mono g.z g.ix d v
theorem RpA.gr (g : Gr m n) {d : List D} {v : List V} (h : RpA K m.Z m.mu v d) : RpA K n.Z n.mu v d := RpA.mono g.z g.ix d v h
theorem RpS.gr (g : Gr m n) {σ : St} {ρ : En} (h : RpS K m σ ρ) : RpS K n σ ρ := ⟨h.1, fun i d e => let ⟨v, q, r⟩ := h.2 i d e; ⟨v, q, r.gr g⟩⟩
theorem app_ix {α : Type} {l k : List α} {i : Nat} {x : α} (h : l[i]? = some x) : (l ++ k)[i]? = some x := by
  have hi : i < l.length := by
    rcases Nat.lt_or_ge i l.length with q | q
    · exact q
    · rw [List.getElem?_eq_none q] at h; cases h
  rw [List.getElem?_append_left hi]; exact h
theorem toD_ok {W : Wd} {v : V} (al : Bool) {r : R} (e : Ext m n) (s : SR K n W) (h : RpR K m.H n v r) :
    ∃ k, k.H = n.H ∧ Ext m k ∧ Gr n k ∧ SR K k (toD al r W).2 ∧ Rp K k.Z k.mu v (toD al r W).1 := by
  cases r with
  | d x => exact ⟨n, rfl, e, Gr.refl n, s, h⟩
  | fr xs =>
    obtain ⟨p, vs, rfl, h1, h2, h3, h4, h5⟩ := h
    cases al with
    | false =>
      refine ⟨⟨n.H, upd n.Z p (.lst vs), n.mu⟩, rfl, settle_ext e h5 h3, ⟨sub_self h3 _, fun _ _ q => q⟩, settle_sr s h1 h3 h4, ?_⟩
      exact .lst upd_same (h2.mono (sub_self h3 _) (fun _ _ q => q))
    | true =>
      refine ⟨⟨n.H, n.Z, n.mu ++ [p]⟩, rfl, cell_ext e h5, ⟨Sub.refl _, fun i x q => app_ix q⟩, cell_sr s h1 h2 h3 h4, .hdl ?_⟩
      show (n.mu ++ [p])[W.length]? = some p
      rw [← s.len, List.getElem?_append_right (Nat.le_refl _), Nat.sub_self]; rfl
end

/-! ### statements, blocks -/
def fSeq (g h : FS) : FS := fun ρ W => (g ρ W).bind fun o => match o with
  | .nx ρ' W' => h ρ' W'
  | o => some o
def fNil : FS := fun ρ W => some (.nx ρ W)
section
variable {X : Cx} {st : Stmt} {sts : List Stmt} {g h : FS}
theorem ev_nil : EvB X [] fNil := ⟨pssI pss_nil fun D σ H ⟨m, W, ρ, o, eH, s, r, e, k⟩ => by
  cases e
  rw [← eH]
  exact k σ m (Ext.refl m) s r⟩
theorem rd_seq {K : PySem.W.Frag} {D : Ends} {σ : St} {H : Hp} (q : rdS K (fSeq g h) D σ H) : tSeq (rdS K g) (rdS K h) D σ H := by
  obtain ⟨m, W, ρ, o, eH, s, r, e, k⟩ := q
  unfold fSeq at e
  cases e1 : g ρ W with
  | none => rw [e1] at e; cases e
  | some o1 =>
    rw [e1, Option.bind_some] at e
    refine ⟨m, W, ρ, o1, eH, s, r, e1, ?_⟩
    cases o1 with
    | nx ρ' W' => exact fun σ' n x s' r' => ⟨n, W', ρ', o, rfl, s', r', e, k.ext x⟩
    | rt v W' => cases e; exact k
    | bk ρ' W' => cases e; exact k
    | ct ρ' W' => cases e; exact k
theorem ev_cons (h1 : EvS X st g) (h2 : EvB X sts h) : EvB X (st :: sts) (fSeq g h) := ⟨pssI (pss_cons h1.ok h2.ok) fun _ _ _ q => rd_seq q⟩
theorem ev_one (h1 : EvS X st g) : EvB X [st] g := ⟨pss_one h1.ok⟩
/-- what is never reached -/
def fNo : FS := fun _ _ => none
theorem ev_no : EvS X st fNo := ⟨psI ps_never fun D σ H ⟨_, _, _, _, _, _, _, e, _⟩ => by cases e⟩
theorem ev_noB : EvB X sts fNo := ⟨pssI pss_never fun D σ H ⟨_, _, _, _, _, _, _, e, _⟩ => by cases e⟩

def fIf (t : FT) (g h : FS) : FS := fun ρ W => (t ρ W).bind fun p => if p.1 = true then g ρ p.2 else h ρ p.2
theorem ev_if {c : Expr} {a b : List Stmt} {pos : Pos} {t : FT} (hc : EvT X c t) (ha : EvB X a g) (hb : EvB X b h) : EvS X (.If c a b pos) (fIf t g h) :=
  ⟨psI (ps_if hc.ok ha.ok hb.ok) fun D σ H ⟨m, W, ρ, o, eH, s, r, e, k⟩ => by
    unfold fIf at e
    cases e1 : t ρ W with
    | none => rw [e1] at e; cases e
    | some p =>
      rw [e1, Option.bind_some] at e
      refine ⟨m, W, ρ, p.1, p.2, eH, s, r, e1, fun n x s' => ?_⟩
      by_cases hp : p.1 = true
      · rw [if_pos hp] at e ⊢
        exact ⟨n, p.2, ρ, o, rfl, s', r.ext x, e, k.ext x⟩
      · rw [if_neg hp] at e ⊢
        exact ⟨n, p.2, ρ, o, rfl, s', r.ext x, e, k.ext x⟩⟩
def fRet (f : FE) : FS := fun ρ W => (f ρ W).map fun p => .rt p.1 p.2
theorem ev_ret {e : Expr} {pos : Pos} {f : FE} (he : EvE X e f) : EvS X (.Return (some e) pos) (fRet f) :=
  ⟨psI (ps_ret he.ok) fun D σ H ⟨m, W, ρ, o, eH, s, r, q, k⟩ => by
    unfold fRet at q
    cases e1 : f ρ W with
    | none => rw [e1] at q; cases q
    | some p =>
      rw [e1] at q
      cases q
      exact ⟨m, W, ρ, p.1, p.2, eH, s, r, e1, fun v n x s' r' => k v n x s' r'⟩⟩
def fRetN : FS := fun _ W => some (.rt (.d .non) W)
theorem ev_retN {pos : Pos} : EvS X (.Return none pos) fRetN := ⟨psI ps_retN fun D σ H ⟨m, W, ρ, o, eH, s, r, q, k⟩ => by
  cases q
  rw [← eH]
  exact k .non m (Ext.refl m) s .non⟩
def fDrop (f : FE) : FS := fun ρ W => (f ρ W).map fun p => .nx ρ p.2
theorem ev_drop {e : Expr} {pos : Pos} {f : FE} (he : EvE X e f) (hs : swapsWith e none pos.line X.env = pure false := by rfl) : EvS X (.Expr e pos) (fDrop f) :=
  ⟨psI (ps_expr he.ok hs) fun D σ H ⟨m, W, ρ, o, eH, s, r, q, k⟩ => by
    unfold fDrop at q
    cases e1 : f ρ W with
    | none => rw [e1] at q; cases q
    | some p =>
      rw [e1] at q
      cases q
      exact ⟨m, W, ρ, p.1, p.2, eH, s, r, e1, fun v n x s' r' => k σ n x s' (r.ext x)⟩⟩
def fPass : FS := fNil
theorem ev_pass {pos : Pos} : EvS X (.Pass pos) fPass := ⟨psI ps_pass fun D σ H ⟨m, W, ρ, o, eH, s, r, e, k⟩ => by
  cases e
  rw [← eH]
  exact k σ m (Ext.refl m) s r⟩
def fBrk : FS := fun ρ W => some (.bk ρ W)
theorem ev_brk {pos : Pos} : EvS X (.Break pos) fBrk := ⟨psI ps_break fun D σ H ⟨m, W, ρ, o, eH, s, r, e, k⟩ => by
  cases e
  rw [← eH]
  exact k σ m (Ext.refl m) s r⟩
def fCnt : FS := fun ρ W => some (.ct ρ W)
theorem ev_cnt {pos : Pos} : EvS X (.Continue pos) fCnt := ⟨psI ps_continue fun D σ H ⟨m, W, ρ, o, eH, s, r, e, k⟩ => by
  cases e
  rw [← eH]
  exact k σ m (Ext.refl m) s r⟩

/-! ### targets -/
inductive Tg where
  | one (i : Nat) | tup (is : List Nat)
def setN : List (Option α) → List Nat → List α → List (Option α)
  | σ, [], _ => σ
  | σ, _ :: _, [] => σ
  | σ, i :: is, v :: vs => setN (σ.set i (some v)) is vs
def fTg : Tg → D → En → Option En
  | .one i, d, ρ => some (ρ.set i (some d))
  | .tup is, .tup ds, ρ => if ds.length = is.length then some (setN ρ is ds) else none
  | .tup _, _, _ => none
def Tg.slots : Tg → List Nat
  | .one i => [i]
  | .tup is => is
theorem RpS.setN {K : PySem.W.Frag} {m : Mem} : ∀ {is : List Nat} {ds : List D} {vs : List V} {σ : St} {ρ : En}, RpS K m σ ρ → RpA K m.Z m.mu vs ds → RpS K m (Ev.setN σ is vs) (Ev.setN ρ is ds)
  | [], [], _, _, _, h, r => by cases r; exact h
  | [], _ :: _, _, _, _, h, r => by cases r with | cons _ _ => exact h
  | _ :: _, [], _, _, _, h, r => by cases r; exact h
  | i :: is, d :: ds, _, _, _, h, r => by
    cases r with
    | cons r1 r2 => exact RpS.setN (is := is) (ds := ds) (h.set r1 i) r2
/-- the target's reading: only its slots are set -/
structure EvG (X : Cx) (e : Expr) (t : Tg) : Prop where
  ok : PG X e fun v σ H Q => ∃ m W ρ d ρ', m.H = H ∧ SR X.K m W ∧ RpS X.K m σ ρ ∧ Rp X.K m.Z m.mu v d ∧ fTg t d ρ = some ρ' ∧
    ∀ us, RpS X.K m (setN σ t.slots us) ρ' → us.length = t.slots.length → Q (setN σ t.slots us) H
theorem ev_tone {x : Str} {pos : Pos} {i : Nat} (hN : X.N.Nodup) (hi : X.N[i]? = some x) (hx : Loc X.env.scope x) (hf : X.fn x = true ∨ X.env.scope.names.lookup x = some .local := by first | exact .inl rfl | exact .inr rfl | assumption) : EvG X (.Name x pos) (.one i) := by
  refine ⟨⟨fun pins s σ H v u Q I r h => (pg_name hN hi hx hf).run pins s σ H v u Q I r ?_⟩⟩
  obtain ⟨m, W, ρ, d, ρ', eH, sr, rs, rv, e, k⟩ := h
  cases e
  exact k [v] (rs.set rv i) rfl
def gNms : List Nat → TGs
  | [] => gNil
  | i :: is => gCons (gName i) (gNms is)
theorem gNms_rd : ∀ {is : List Nat} {vs : List V} {σ : St} {H : Hp} {Q : St → Hp → Prop}, vs.length = is.length → Q (setN σ is vs) H → gNms is vs σ H Q
  | [], [], _, _, _, _, q => ⟨rfl, q⟩
  | [], _ :: _, _, _, _, h, _ => by cases h
  | _ :: _, [], _, _, _, h, _ => by cases h
  | i :: is, v :: vs, σ, H, Q, h, q => ⟨v, vs, rfl, gNms_rd (by simpa using h) q⟩
structure EvGs (X : Cx) (es : List Expr) (is : List Nat) : Prop where
  ok : PGs X es (gNms is)
theorem ev_tnil : EvGs X [] [] := ⟨pgs_nil⟩
theorem ev_tcons {x : Str} {pos : Pos} {i : Nat} {es : List Expr} {is : List Nat} (hN : X.N.Nodup) (hi : X.N[i]? = some x) (hx : Loc X.env.scope x) (h : EvGs X es is) (hf : X.fn x = true ∨ X.env.scope.names.lookup x = some .local := by first | exact .inl rfl | exact .inr rfl | assumption)
    (hs : (assignEach (.Name x pos :: es) X.env).map (·.2) = assign (.Name x pos) X.env :: (assignEach es X.env).map (·.2) := by rfl) : EvGs X (.Name x pos :: es) (i :: is) := ⟨pgs_cons (pg_name hN hi hx hf) h.ok hs⟩
theorem ev_ttup {es : List Expr} {is : List Nat} {k : Nat} {pos : Pos} (hc : X.calm = true) (h : EvGs X es is) (hn : (assignEach es X.env).length = is.length := by rfl) (hst : (assignEach es X.env).findIdx? (·.1) = none := by rfl) : EvG X (.Tuple es k pos) (.tup is) := by
  refine ⟨⟨fun pins s σ H v u Q I r q => (pg_tup hc h.ok hn hst).run pins s σ H v u Q I r ?_⟩⟩
  obtain ⟨m, W, ρ, d, ρ', eH, sr, rs, rv, e, k⟩ := q
  cases rv with
  | tup h1 h2 =>
    have e : (if _ = is.length then some (setN _ is _) else none) = some ρ' := e
    split at e
    · rename_i hl
      cases e
      have l2 := h2.length
      refine ⟨_, _, rfl, ?_, l2.trans hl, gNms_rd (l2.trans hl) (k _ (RpS.setN rs h2) (l2.trans hl))⟩
      rw [← eH]; exact sr.sub.sqT h1
    · cases e
  | _ => cases e
def fAsg (al : Bool) (t : Tg) (f : FE) : FS := fun ρ W => (f ρ W).bind fun p => (fTg t (toD al p.1 p.2).1 ρ).map fun ρ' => .nx ρ' (toD al p.1 p.2).2
theorem rd_asg {K : PySem.W.Frag} {al : Bool} {t : Tg} {f : FE} {D : Ends} {σ : St} {H : Hp} (q : rdS K (fAsg al t f) D σ H) :
    tAsg (rdE K f) (fun v σ H Q => ∃ m W ρ d ρ', m.H = H ∧ SR K m W ∧ RpS K m σ ρ ∧ Rp K m.Z m.mu v d ∧ fTg t d ρ = some ρ' ∧
      ∀ us, RpS K m (setN σ t.slots us) ρ' → us.length = t.slots.length → Q (setN σ t.slots us) H) D σ H := by
  obtain ⟨m, W, ρ, o, eH, s, r, e, k⟩ := q
  unfold fAsg at e
  cases e1 : f ρ W with
  | none => rw [e1] at e; cases e
  | some p =>
    rw [e1, Option.bind_some] at e
    cases e2 : fTg t (toD al p.1 p.2).1 ρ with
    | none => rw [e2] at e; cases e
    | some ρ' =>
      rw [e2] at e
      cases e
      refine ⟨m, W, ρ, p.1, p.2, eH, s, r, e1, fun v n x s' r' => ?_⟩
      obtain ⟨l, el, xl, gl, sl, rl⟩ := toD_ok al x s' r'
      rw [← el]
      exact ⟨l, _, ρ, _, ρ', rfl, sl, (r.ext x).gr gl, rl, e2, fun us q _ => k _ l xl sl q⟩
theorem ev_asg {tg e : Expr} {pos : Pos} {t : Tg} {f : FE} (al : Bool) (he : EvE X e f) (hg : EvG X tg t) (hs : swapsWithSole [tg] e pos.line X.env = pure false := by rfl) (hw : swappedStores [tg] e X.env = pure none := by rfl)
    (h1 : (assignEach [tg] X.env).map (·.2) = [assign tg X.env] := by rfl) : EvS X (.Assign [tg] e pos) (fAsg al t f) := ⟨psI (ps_asg he.ok hg.ok hs hw h1) fun D σ H q => rd_asg q⟩
end

/-! ### names, constants, tests -/
section
variable {X : Cx} {pos : Pos}
def fName (i : Nat) : FE := fun ρ W => (ρ[i]?).bind fun o => o.map fun d => (.d d, W)
def fC (d : D) : FE := fun _ W => some (.d d, W)
theorem ev_name {i : Nat} {x : Str} (hN : X.N[i]? = some x) (hv : Vis X.env.scope x) (hd : (x == ("__debug__" : Str)) = false := by decide) (hcd : (x == ("__classdict__" : Str)) = false := by decide) : EvE X (.Name x pos) (fName i) :=
  ⟨peI (pe_var hN hv hd hcd) fun σ H Q ⟨m, W, ρ, r, W', eH, s, rs, e, k⟩ => by
    unfold fName at e
    cases e1 : ρ[i]? with
    | none => rw [e1] at e; cases e
    | some o =>
      cases o with
      | none => rw [e1] at e; cases e
      | some d =>
        rw [e1] at e
        cases e
        obtain ⟨v, q, rv⟩ := rs.2 i d e1
        refine ⟨v, q, ?_⟩
        rw [← eH]
        exact k v m (Ext.refl m) s rv⟩
theorem rd_c {K : PySem.W.Frag} {v : V} {d : D} (h : ∀ Z mu, Rp K Z mu v d) {σ : St} {H : Hp} {Q : VK} (q : rdE K (fC d) σ H Q) : tC v σ H Q := by
  obtain ⟨m, W, ρ, r, W', eH, s, rs, e, k⟩ := q
  cases e
  show Q v H
  rw [← eH]
  exact k v m (Ext.refl m) s (h _ _)
theorem ev_int {i : Int} {j : Nat} : EvE X (.Constant (.int i) j pos) (fC (.int i)) := ⟨peI pe_int fun _ _ _ q => rd_c (fun _ _ => .int i) q⟩
theorem ev_bl {b : Bool} {j : Nat} : EvE X (.Constant (.bool b) j pos) (fC (.bl b)) := ⟨peI pe_bl fun _ _ _ q => rd_c (fun _ _ => .bl b) q⟩
theorem ev_non {j : Nat} : EvE X (.Constant .none j pos) (fC .non) := ⟨peI pe_non fun _ _ _ q => rd_c (fun _ _ => .non) q⟩
theorem ev_str {x : Str} {j : Nat} : EvE X (.Constant (.str x) j pos) (fC (.str x)) := ⟨peI pe_str fun _ _ _ q => rd_c (fun _ _ => .str x) q⟩
/-- a constant of the module -/
theorem ev_glob {x : Str} {v : V} {u : Value} {d : D} (hg : Gl X x) (hm : X.mg x = some u) (r : RelV v u) (h : ∀ Z mu, Rp X.K Z mu v d) (hd : (x == ("__debug__" : Str)) = false := by decide) : EvE X (.Name x pos) (fC d) :=
  ⟨peI (pe_glob hg hm r hd) fun _ _ _ q => rd_c h q⟩

def fVal (f : FE) : FT := fun ρ W => (f ρ W).bind fun p => match p.1 with
  | .d (.bl b) => some (b, p.2)
  | _ => none
theorem fVal_some {f : FE} {ρ : En} {W W' : Wd} {b : Bool} (h : fVal f ρ W = some (b, W')) : f ρ W = some (.d (.bl b), W') := by
  unfold fVal at h
  cases e : f ρ W with
  | none => rw [e] at h; cases h
  | some p =>
    rw [e, Option.bind_some] at h
    obtain ⟨r, W1⟩ := p
    cases r with
    | fr _ => cases h
    | d x => cases x <;> first | (cases h; rfl) | cases h
theorem rd_val {K : PySem.W.Frag} {f : FE} {σ : St} {H : Hp} {Q : Bool → Hp → Prop} (q : rdT K (fVal f) σ H Q) : rdE K f σ H fun x H' => ∃ c, x = .bl c ∧ Q c H' := by
  obtain ⟨m, W, ρ, b, W', eH, s, rs, e, k⟩ := q
  refine ⟨m, W, ρ, _, W', eH, s, rs, fVal_some e, fun v n x s' r' => ?_⟩
  cases r'
  exact ⟨b, rfl, k n x s'⟩
theorem et_val {e : Expr} {f : FE} (h : EvE X e f) (he : ∀ whole, isTrue e X.env whole = (do let v ← whole; standAt e.pos; holding [v] (truthy v)) := by intro _; rfl) : EvT X e (fVal f) :=
  ⟨ptI (pt_val h.ok he) fun _ _ _ q => rd_val q⟩
def fNotT (f : FT) : FT := fun ρ W => (f ρ W).map fun p => (!p.1, p.2)
theorem et_not {a : Expr} {f : FT} (h : EvT X a f) : EvT X (.UnaryOp .Not a pos) (fNotT f) := ⟨ptI (pt_not h.ok) fun σ H Q ⟨m, W, ρ, b, W', eH, s, rs, e, k⟩ => by
  unfold fNotT at e
  cases e1 : f ρ W with
  | none => rw [e1] at e; cases e
  | some p =>
    rw [e1] at e
    cases e
    exact ⟨m, W, ρ, p.1, p.2, eH, s, rs, e1, k⟩⟩
def fAndT (f g : FT) : FT := fun ρ W => (f ρ W).bind fun p => if p.1 = true then g ρ p.2 else some (false, p.2)
def fOrT (f g : FT) : FT := fun ρ W => (f ρ W).bind fun p => if p.1 = true then some (true, p.2) else g ρ p.2
variable {a b : Expr} {rest : List Expr} {f g : FT}
theorem ew_and1 (ha : EvT X a f) : EvW X (.BoolOp .And [a] pos) f := ⟨pw_and1 ha.ok⟩
theorem ew_or1 (ha : EvT X a f) : EvW X (.BoolOp .Or [a] pos) f := ⟨pw_or1 ha.ok⟩
theorem ew_and (ha : EvT X a f) (hb : EvW X (.BoolOp .And (b :: rest) pos) g) : EvW X (.BoolOp .And (a :: b :: rest) pos) (fAndT f g) := ⟨pwI (pw_and ha.ok hb.ok) fun σ H Q ⟨m, W, ρ, c, W', eH, s, rs, e, k⟩ => by
  unfold fAndT at e
  cases e1 : f ρ W with
  | none => rw [e1] at e; cases e
  | some p =>
    rw [e1, Option.bind_some] at e
    refine ⟨m, W, ρ, p.1, p.2, eH, s, rs, e1, fun n x s' => ?_⟩
    by_cases hp : p.1 = true
    · rw [if_pos hp] at e ⊢
      exact ⟨n, p.2, ρ, c, W', rfl, s', rs.ext x, e, fun n' x' s2 => k n' (x.trans x') s2⟩
    · rw [if_neg hp] at e ⊢
      cases e
      exact k n x s'⟩
theorem ew_or (ha : EvT X a f) (hb : EvW X (.BoolOp .Or (b :: rest) pos) g) : EvW X (.BoolOp .Or (a :: b :: rest) pos) (fOrT f g) := ⟨pwI (pw_or ha.ok hb.ok) fun σ H Q ⟨m, W, ρ, c, W', eH, s, rs, e, k⟩ => by
  unfold fOrT at e
  cases e1 : f ρ W with
  | none => rw [e1] at e; cases e
  | some p =>
    rw [e1, Option.bind_some] at e
    refine ⟨m, W, ρ, p.1, p.2, eH, s, rs, e1, fun n x s' => ?_⟩
    by_cases hp : p.1 = true
    · rw [if_pos hp] at e ⊢
      cases e
      exact k n x s'
    · rw [if_neg hp] at e ⊢
      exact ⟨n, p.2, ρ, c, W', rfl, s', rs.ext x, e, fun n' x' s2 => k n' (x.trans x') s2⟩⟩
theorem EvW.t {e : Expr} (h : EvW X e f) : EvT X e f := ⟨h.ok.pt⟩
end
end Ev

set_option Elab.async false
set_option linter.all false
set_option maxRecDepth 100000
namespace Ev
open PySem L2

/-! ### what is read as a list, as a row of items -/
def asL (W : Wd) : R → Option (List D)
  | .fr xs => some xs
  | .d (.lst xs) => some xs
  | .d (.hdl n) => (W[n]?).map fun c => match c with | .lst xs => xs
  | _ => none
def asS (W : Wd) : R → Option (List D)
  | .d (.tup xs) => some xs
  | .d (.rol ns) => some (ns.map D.int)
  | r => asL W r
section
variable {K : PySem.W.Frag} {m : Mem} {W : Wd} {o : Hp} {v : V} {r : R} {xs : List D}
theorem asL_H (s : SR K m W) (h : RpR K o m v r) (e : asL W r = some xs) : ∃ a vs, v = .ref a ∧ m.H a = some (.lst vs) ∧ RpA K m.Z m.mu vs xs := by
  cases r with
  | fr ys =>
    cases e
    obtain ⟨p, vs, rfl, h1, h2, _⟩ := h
    exact ⟨p, vs, rfl, h1, h2⟩
  | d x =>
    cases h with
    | lst h1 h2 => cases e; exact ⟨_, _, rfl, s.sub _ _ h1, h2⟩
    | hdl h1 =>
      rename_i a n
      have e : (W[n]?).map _ = some xs := e
      cases q : W[n]? with
      | none => rw [q] at e; cases e
      | some c =>
        rw [q] at e
        have c1 := s.cell n a c h1 q
        cases c with
        | lst ys =>
          cases e
          obtain ⟨vs, g1, g2⟩ := c1
          exact ⟨a, vs, rfl, g1, g2⟩
    | _ => cases e
theorem rpa_ints : ∀ ns : List Int, RpA K m.Z m.mu (ns.map V.int) (ns.map D.int)
  | [] => .nil
  | n :: r => .cons (.int n) (rpa_ints r)
theorem asS_H (s : SR K m W) (h : RpR K o m v r) (e : asS W r = some xs) : ∃ a vs, v = .ref a ∧ (SqL K m.H a vs ∨ SqT K m.H a vs) ∧ RpA K m.Z m.mu vs xs := by
  have go : asL W r = some xs → ∃ a vs, v = .ref a ∧ (SqL K m.H a vs ∨ SqT K m.H a vs) ∧ RpA K m.Z m.mu vs xs := fun e => by
    obtain ⟨a, vs, e1, e2, e3⟩ := asL_H s h e
    exact ⟨a, vs, e1, .inl (.of e2), e3⟩
  cases r with
  | fr ys => exact go e
  | d x =>
    cases x with
    | tup ys =>
      cases e
      cases h with
      | tup h1 h2 => exact ⟨_, _, rfl, .inr (s.sub.sqT h1), h2⟩
    | rol ns =>
      cases e
      cases h with
      | rol h1 => exact ⟨_, _, rfl, .inl (s.sub.sqL h1), rpa_ints ns⟩
    | _ => exact go e
end

/-! ### operators by values -/
def rO (K : PySem.W.Frag) (f : Wd → R → R → Option R) : R2 := fun x y H Q => ∃ m W a b r o, m.H = H ∧ SR K m W ∧ RpR K o m x a ∧ RpR K o m y b ∧ (∀ p, m.H p = none → o p = none) ∧ f W a b = some r ∧ ∀ v n, Ext m n → SR K n W → RpR K o n v r → Q v n.H
def fBin (f : Wd → R → R → Option R) (fa fb : FE) : FE := fun ρ W => (fa ρ W).bind fun p => (fb ρ p.2).bind fun q => (f q.2 p.1 q.1).map fun r => (r, q.2)
theorem rd_bin {K : PySem.W.Frag} {f : Wd → R → R → Option R} {fa fb : FE} {σ : St} {H : Hp} {Q : VK} (q : rdE K (fBin f fa fb) σ H Q) : tOp (rO K f) (rdE K fa) (rdE K fb) σ H Q := by
  obtain ⟨m, W, ρ, r, W', eH, s, rs, e, k⟩ := q
  unfold fBin at e
  cases e1 : fa ρ W with
  | none => rw [e1] at e; cases e
  | some p =>
    rw [e1, Option.bind_some] at e
    cases e2 : fb ρ p.2 with
    | none => rw [e2] at e; cases e
    | some q =>
      rw [e2, Option.bind_some] at e
      cases e3 : f q.2 p.1 q.1 with
      | none => rw [e3] at e; cases e
      | some z =>
        rw [e3] at e
        cases e
        refine ⟨m, W, ρ, p.1, p.2, eH, s, rs, e1, fun v n x s1 r1 => ?_⟩
        refine ⟨n, p.2, ρ, q.1, q.2, rfl, s1, rs.ext x, e2, fun u n2 x2 s2 r2 => ?_⟩
        refine ⟨n2, q.2, p.1, q.1, r, m.H, rfl, s2, r1.ext x2, r2.old (fun _ z => x.fresh z), fun p' z => x.fresh (x2.fresh z), e3, fun v' n3 x3 s3 r3 => k v' n3 ((x.trans x2).trans x3) s3 r3⟩
section
variable {X : Cx} {a b : Expr} {pos : Pos} {fa fb : FE} {f : Wd → R → R → Option R}
theorem ev_bin {op : Operator} (h : OpR X (binaryOp op) (rO X.K f)) (ha : EvE X a fa) (hb : EvE X b fb) : EvE X (.BinOp a op b pos) (fBin f fa fb) := ⟨peI (pe_op h ha.ok hb.ok) fun _ _ _ q => rd_bin q⟩
theorem ev_cmp {op : CmpOp} (h : OpR X (compareOp op) (rO X.K f)) (ha : EvE X a fa) (hb : EvE X b fb) (hm : behindInMarks op b = false := by first | exact nomark _ | rfl) : EvE X (.Compare a [op] [b] pos) (fBin f fa fb) := ⟨peI (pe_cmpR h ha.ok hb.ok hm) fun _ _ _ q => rd_bin q⟩
theorem et_cmp {op : CmpOp} (h : OpR X (compareOp op) (rO X.K f)) (ha : EvE X a fa) (hb : EvE X b fb) (hm : behindInMarks op b = false := by first | exact nomark _ | rfl) : EvT X (.Compare a [op] [b] pos) (fVal (fBin f fa fb)) :=
  ⟨ptI (pt_cmpR h ha.ok hb.ok hm) fun _ _ _ q => rd_bin (rd_val q)⟩
end
/-- one scalar is handed on -/
theorem give {K : PySem.W.Frag} {m : Mem} {W : Wd} {o : Hp} {Q : VK} {r : R} {v : V} (s : SR K m W) (k : ∀ v n, Ext m n → SR K n W → RpR K o n v r → Q v n.H) (h : RpR K o m v r) : Q v m.H := k v m (Ext.refl m) s h
theorem give_lst {K : PySem.W.Frag} {m : Mem} {W : Wd} {o : Hp} {Q : VK} {xs : List D} {vs : List V} {p : Addr} (s : SR K m W) (k : ∀ v n, Ext m n → SR K n W → RpR K o n v (.fr xs) → Q v n.H) (h : RpA K m.Z m.mu vs xs) (hp : m.H p = none) (ho : ∀ p, m.H p = none → o p = none) : Q (.ref p) (upd m.H p (.lst vs)) :=
  k (.ref p) ⟨upd m.H p (.lst vs), m.Z, m.mu⟩ (laid_ext s hp _) (laid_sr s hp _) ⟨p, vs, rfl, upd_same, h, s.zn hp, s.mun hp, ho p hp⟩
theorem give_tup {K : PySem.W.Frag} {m : Mem} {W : Wd} {o : Hp} {Q : VK} {xs : List D} {vs : List V} {p : Addr} (s : SR K m W) (k : ∀ v n, Ext m n → SR K n W → RpR K o n v (.d (.tup xs)) → Q v n.H) (h : RpA K m.Z m.mu vs xs) (hp : m.H p = none) : Q (.ref p) (upd m.H p (.tup vs)) :=
  k (.ref p) ⟨upd m.H p (.tup vs), upd m.Z p (.tup vs), m.mu⟩ (settled_ext s hp _) (settled_sr s hp _) (.tup (.of upd_same) (RpA.gr (m := m) (n := ⟨upd m.H p (.tup vs), upd m.Z p (.tup vs), m.mu⟩) (settled_ext s hp _).gr h))

/-! ### +, -, *, //, %, ** -/
def opCat (W : Wd) (a b : R) : Option R := (asL W a).bind fun xs => (asL W b).bind fun ys => if xs.length + ys.length ≤ sizeLine then some (.fr (xs ++ ys)) else none
def opAdd (W : Wd) : R → R → Option R
  | .d (.int i), .d (.int j) => some (.d (.int (i + j)))
  | .d (.str x), .d (.str y) => if x.length + y.length ≤ sizeLine then some (.d (.str (x ++ y))) else none
  | .d (.tup xs), .d (.tup ys) => if xs.length + ys.length ≤ sizeLine then some (.d (.tup (xs ++ ys))) else none
  | a, b => opCat W a b
def opSub (_ : Wd) : R → R → Option R
  | .d (.int i), .d (.int j) => some (.d (.int (i - j)))
  | _, _ => none
def mulOk (i j : Int) : Bool := decide (-(2 ^ 64) < i ∧ i < 2 ^ 64) || decide (-(2 ^ 64) < j ∧ j < 2 ^ 64) || decide (i.natAbs.log2 + j.natAbs.log2 < 1000000)
def opMul (W : Wd) : R → R → Option R
  | .d (.int i), .d (.int j) => if mulOk i j = true then some (.d (.int (i * j))) else none
  | .d (.tup xs), .d (.int k) => if xs ≠ [] ∧ 2 ≤ k ∧ k ≤ 1000 ∧ xs.length ≤ 1000 then some (.d (.tup (List.replicate k.toNat xs).flatten)) else none
  | a, .d (.int k) => (asL W a).bind fun xs => if -(2 ^ 63) ≤ k ∧ k < 2 ^ 63 ∧ xs.length * k.toNat ≤ sizeLine then some (.fr (List.replicate k.toNat xs).flatten) else none
  | _, _ => none
def opFdiv (_ : Wd) : R → R → Option R
  | .d (.int i), .d (.int j) => if 0 < j ∧ j.natAbs.log2 < 9000 then some (.d (.int (i / j))) else none
  | _, _ => none
def opMod (_ : Wd) : R → R → Option R
  | .d (.int i), .d (.int j) => if 0 < j then some (.d (.int (i % j))) else none
  | _, _ => none
def opPow (_ : Wd) : R → R → Option R
  | .d (.int i), .d (.int j) => if 0 ≤ j ∧ j ≤ 1000000 ∧ i.natAbs < 2 ^ 64 then some (.d (.int (i ^ j.toNat))) else none
  | _, _ => none
section
variable {X : Cx}
theorem rpA_rep {K : PySem.W.Frag} {Z : Hp} {mu : List Addr} {vs : List V} {xs : List D} (h : RpA K Z mu vs xs) : ∀ n, RpA K Z mu (List.replicate n vs).flatten (List.replicate n xs).flatten
  | 0 => .nil
  | n + 1 => by
    rw [List.replicate_succ, List.replicate_succ, List.flatten_cons, List.flatten_cons]
    exact h.app (rpA_rep h n)
theorem o_cat : OpR X (binaryOp .Add) (rO X.K opCat) := by
  intro pins s σ H x y v u Q I rx ry h
  obtain ⟨m, W, a, b, r, o, eH, sr, ra, rb, ho, e, k⟩ := h
  unfold opCat at e
  cases e1 : asL W a with
  | none => rw [e1] at e; cases e
  | some xs =>
    rw [e1, Option.bind_some] at e
    cases e2 : asL W b with
    | none => rw [e2] at e; cases e
    | some ys =>
      rw [e2, Option.bind_some] at e
      split at e
      · rename_i hl
        cases e
        obtain ⟨p, vs, rfl, h1, h2⟩ := asL_H sr ra e1
        obtain ⟨q, us, rfl, h3, h4⟩ := asL_H sr rb e2
        subst eH
        exact op_cat pins s σ _ _ _ v u Q I rx ry ⟨p, q, vs, us, rfl, rfl, h1, h3, by rw [h2.length, h4.length]; exact hl, fun p' hp => give_lst sr k (h2.app h4) hp ho⟩
      · cases e
theorem o_add : OpR X (binaryOp .Add) (rO X.K opAdd) := by
  intro pins s σ H x y v u Q I rx ry h
  obtain ⟨m, W, a, b, r, o, eH, sr, ra, rb, ho, e, k⟩ := h
  unfold opAdd at e
  split at e
  · cases e; cases ra; cases rb
    subst eH
    exact op_add pins s σ _ _ _ v u Q I rx ry ⟨_, _, rfl, rfl, give sr k (.int _)⟩
  · split at e
    · rename_i hl
      cases e; cases ra; cases rb
      subst eH
      exact op_add_str pins s σ _ _ _ v u Q I rx ry ⟨_, _, rfl, rfl, hl, give sr k (.str _)⟩
    · cases e
  · split at e
    · rename_i xs ys hl
      cases e
      cases ra with
      | tup h1 h2 =>
        cases rb with
        | tup h3 h4 =>
          subst eH
          refine op_catA pins s σ _ _ _ v u Q I rx ry ⟨_, _, _, _, rfl, rfl, sr.sub.sqT h1, sr.sub.sqT h3, by rw [h2.length, h4.length]; exact hl, fun z => ?_, fun _ z => ?_, fun _ _ p hp => give_tup sr k (h2.app h4) hp⟩
          · subst z
            cases h2
            exact give sr k (.tup h3 h4)
          · subst z
            cases h4
            rw [List.append_nil] at k
            exact give sr k (.tup h1 h2)
    · cases e
  · exact o_cat pins s σ H x y v u Q I rx ry ⟨m, W, _, _, r, o, eH, sr, ra, rb, ho, e, k⟩
theorem o_sub : OpR X (binaryOp .Sub) (rO X.K opSub) := by
  intro pins s σ H x y v u Q I rx ry h
  obtain ⟨m, W, a, b, r, o, eH, sr, ra, rb, ho, e, k⟩ := h
  unfold opSub at e
  split at e
  · cases e; cases ra; cases rb
    subst eH
    exact op_sub pins s σ _ _ _ v u Q I rx ry ⟨_, _, rfl, rfl, give sr k (.int _)⟩
  · cases e
theorem o_mul : OpR X (binaryOp .Mult) (rO X.K opMul) := by
  intro pins s σ H x y v u Q I rx ry h
  obtain ⟨m, W, a, b, r, o, eH, sr, ra, rb, ho, e, k⟩ := h
  unfold opMul at e
  split at e
  · split at e
    · rename_i i j hl
      cases e; cases ra; cases rb
      subst eH
      unfold mulOk at hl
      simp only [Bool.or_eq_true, decide_eq_true_eq] at hl
      rcases hl with (hl | hl) | hl
      · exact op_mul pins s σ _ _ _ v u Q I rx ry ⟨_, _, rfl, rfl, .inl hl, give sr k (.int _)⟩
      · exact op_mul pins s σ _ _ _ v u Q I rx ry ⟨_, _, rfl, rfl, .inr hl, give sr k (.int _)⟩
      · exact op_mulW pins s σ _ _ _ v u Q I rx ry ⟨_, _, rfl, rfl, hl, give sr k (.int _)⟩
    · cases e
  · split at e
    · rename_i xs j hl
      cases e
      cases rb
      cases ra with
      | tup h1 h2 =>
        subst eH
        refine op_repT pins s σ _ _ _ v u Q I rx ry ⟨_, _, _, rfl, rfl, sr.sub.sqT h1, fun z => hl.1 ?_, hl.2.1, hl.2.2.1, by rw [h2.length]; exact hl.2.2.2, fun p hp => give_tup sr k (rpA_rep h2 _) hp⟩
        subst z
        cases h2; rfl
    · cases e
  · rename_i j _ _
    cases e1 : asL W a with
    | none => rw [e1] at e; cases e
    | some xs =>
      rw [e1, Option.bind_some] at e
      split at e
      · rename_i hl
        cases e
        cases rb
        obtain ⟨p, vs, rfl, h1, h2⟩ := asL_H sr ra e1
        subst eH
        exact op_rep pins s σ _ _ _ v u Q I rx ry ⟨p, _, vs, rfl, rfl, h1, hl.1, hl.2.1, by rw [h2.length]; exact hl.2.2, fun p' hp => give_lst sr k (rpA_rep h2 _) hp ho⟩
      · cases e
  · cases e
theorem o_fdiv : OpR X (binaryOp .FloorDiv) (rO X.K opFdiv) := by
  intro pins s σ H x y v u Q I rx ry h
  obtain ⟨m, W, a, b, r, o, eH, sr, ra, rb, ho, e, k⟩ := h
  unfold opFdiv at e
  split at e
  · split at e
    · rename_i hl
      cases e; cases ra; cases rb
      subst eH
      exact op_fdivW pins s σ _ _ _ v u Q I rx ry ⟨_, _, rfl, rfl, hl, give sr k (.int _)⟩
    · cases e
  · cases e
theorem o_mod : OpR X (binaryOp .Mod) (rO X.K opMod) := by
  intro pins s σ H x y v u Q I rx ry h
  obtain ⟨m, W, a, b, r, o, eH, sr, ra, rb, ho, e, k⟩ := h
  unfold opMod at e
  split at e
  · split at e
    · rename_i hl
      cases e; cases ra; cases rb
      subst eH
      exact op_mod pins s σ _ _ _ v u Q I rx ry ⟨_, _, rfl, rfl, hl, give sr k (.int _)⟩
    · cases e
  · cases e
theorem o_pow : OpR X (binaryOp .Pow) (rO X.K opPow) := by
  intro pins s σ H x y v u Q I rx ry h
  obtain ⟨m, W, a, b, r, o, eH, sr, ra, rb, ho, e, k⟩ := h
  unfold opPow at e
  split at e
  · split at e
    · rename_i hl
      cases e; cases ra; cases rb
      subst eH
      exact op_pow pins s σ _ _ _ v u Q I rx ry ⟨_, _, rfl, rfl, hl, give sr k (.int _)⟩
    · cases e
  · cases e
end

/-! ### comparisons of ints; is -/
def opCI (p : Int → Int → Bool) (_ : Wd) : R → R → Option R
  | .d (.int i), .d (.int j) => some (.d (.bl (p i j)))
  | _, _ => none
def opLt := opCI fun i j => decide (i < j)
def opLe := opCI fun i j => decide (i ≤ j)
def opGt := opCI fun i j => decide (j < i)
def opGeI := opCI fun i j => decide (j ≤ i)
def opIs (g : Bool → Bool) (_ : Wd) : R → R → Option R
  | .d .non, .d .non => some (.d (.bl (g true)))
  | _, .d .non => some (.d (.bl (g false)))
  | .d (.bl a), .d (.bl b) => some (.d (.bl (g (decide (a = b)))))
  | _, _ => none
section
variable {X : Cx}
theorem o_ci {op : CmpOp} {p : Int → Int → Bool} (h0 : OpR X (compareOp op) (rI0 fun i j => .bl (p i j))) : OpR X (compareOp op) (rO X.K (opCI p)) := by
  intro pins s σ H x y v u Q I rx ry h
  obtain ⟨m, W, a, b, r, o, eH, sr, ra, rb, ho, e, k⟩ := h
  unfold opCI at e
  split at e
  · cases e; cases ra; cases rb
    subst eH
    exact h0 pins s σ _ _ _ v u Q I rx ry ⟨_, _, rfl, rfl, give sr k (.bl _)⟩
  · cases e
theorem o_lt : OpR X (compareOp .Lt) (rO X.K opLt) := o_ci op_lt
theorem o_le : OpR X (compareOp .LtE) (rO X.K opLe) := o_ci op_le
theorem o_gt : OpR X (compareOp .Gt) (rO X.K opGt) := o_ci op_gt
theorem o_geI : OpR X (compareOp .GtE) (rO X.K opGeI) := o_ci op_ge
theorem RpR.notNon {K : PySem.W.Frag} {o : Hp} {m : Mem} {v : V} {r : R} (h : RpR K o m v r) (n : ∀ (_ : r = .d .non), False) : v ≠ .non := by
  intro e
  subst e
  cases r with
  | fr xs => obtain ⟨p, vs, e, _⟩ := h; cases e
  | d x => cases h; exact n rfl
theorem o_is {op : CmpOp} {g : Bool → Bool} (h1 : OpR X (compareOp op) (fun x y H Q => y = .non ∧ Q (.bl (g (decide (x = .non)))) H)) (h2 : OpR X (compareOp op) (fun x y H Q => ∃ a b : Bool, x = .bl a ∧ y = .bl b ∧ Q (.bl (g (decide (a = b)))) H)) : OpR X (compareOp op) (rO X.K (opIs g)) := by
  intro pins s σ H x y v u Q I rx ry h
  obtain ⟨m, W, a, b, r, o, eH, sr, ra, rb, ho, e, k⟩ := h
  unfold opIs at e
  split at e
  · cases e; cases ra; cases rb
    subst eH
    exact h1 pins s σ _ _ _ v u Q I rx ry ⟨rfl, give sr k (.bl _)⟩
  · rename_i n
    cases e; cases rb
    subst eH
    refine h1 pins s σ _ _ _ v u Q I rx ry ⟨rfl, ?_⟩
    rw [decide_eq_false (ra.notNon fun z => n z)]
    exact give sr k (.bl _)
  · cases e; cases ra; cases rb
    subst eH
    exact h2 pins s σ _ _ _ v u Q I rx ry ⟨_, _, rfl, rfl, give sr k (.bl _)⟩
  · cases e
theorem o_isY : OpR X (compareOp .Is) (rO X.K (opIs id)) := o_is (g := id) op_isN op_isBl
theorem o_isN : OpR X (compareOp .IsNot) (rO X.K (opIs Bool.not)) := o_is (g := Bool.not) op_notN op_notBl
end
end Ev

set_option Elab.async false
set_option linter.all false
set_option maxRecDepth 100000
namespace Ev
open PySem L2

/-! ### data as the library knows it -/
def mapO (f : D → Option PyData) : List D → Option (List PyData)
  | [] => some []
  | d :: r => (f d).bind fun p => (mapO f r).map fun q => p :: q
def D.py (W : Wd) : Nat → D → Option PyData
  | 0, _ => none
  | _ + 1, .non => some .none
  | _ + 1, .bl b => some (.bool b)
  | _ + 1, .int i => some (.int i)
  | _ + 1, .str x => if PyData.strOk x = true then some (.str x) else none
  | n + 1, .tup xs => (mapO (D.py W n) xs).map .tuple
  | n + 1, .lst xs => (mapO (D.py W n) xs).map .list
  | _ + 1, .rol ns => some (.list (ns.map PyData.int))
  | n + 1, .hdl k => (W[k]?).bind fun c => match c with | .lst xs => (mapO (D.py W n) xs).map .list
def R.py (W : Wd) (n : Nat) : R → Option PyData
  | .d x => x.py W n
  | .fr xs => (mapO (D.py W n) xs).map .list
section
variable {K : PySem.W.Frag} {m : Mem} {W : Wd}
theorem mapO_dp {f : D → Option PyData} (hf : ∀ d v p, Rp K m.Z m.mu v d → f d = some p → Dp K m.H v p) : ∀ {ds : List D} {vs : List V} {ps : List PyData}, RpA K m.Z m.mu vs ds → mapO f ds = some ps → DpAll K m.H vs ps
  | [], _, _, h, e => by cases h; cases e; exact .nil
  | d :: r, _, _, h, e => by
    cases h with
    | cons h1 h2 =>
      unfold mapO at e
      cases e1 : f d with
      | none => rw [e1] at e; cases e
      | some p =>
        rw [e1, Option.bind_some] at e
        cases e2 : mapO f r with
        | none => rw [e2] at e; cases e
        | some q =>
          rw [e2] at e
          cases e
          exact .cons (hf d _ p h1 e1) (mapO_dp hf h2 e2)
theorem dp_ints : ∀ ns : List Int, DpAll K m.H (ns.map V.int) (ns.map PyData.int)
  | [] => .nil
  | n :: r => .cons (.int n) (dp_ints r)
theorem py_dp (s : SR K m W) : ∀ (n : Nat) (d : D) (v : V) (p : PyData), Rp K m.Z m.mu v d → d.py W n = some p → Dp K m.H v p
  | 0, d, _, _, _, e => by cases d <;> cases e
  | n + 1, d, v, p, h, e => by
    have ih := py_dp s n
    have all : ∀ {ds : List D} {vs : List V} {ps : List PyData}, RpA K m.Z m.mu vs ds → mapO (D.py W n) ds = some ps → DpAll K m.H vs ps := fun h e => mapO_dp (fun d v p h e => ih d v p h e) h e
    cases h with
    | non => cases e; exact .non
    | bl b => cases e; exact .bl b
    | int i => cases e; exact .int i
    | str x =>
      unfold D.py at e
      split at e
      · cases e; exact .str x
      · cases e
    | tup h1 h2 =>
      rename_i ds
      unfold D.py at e
      cases e1 : mapO (D.py W n) ds with
      | none => rw [e1] at e; cases e
      | some ps => rw [e1] at e; cases e; exact .tup (s.sub.sqT h1) (all h2 e1)
    | lst h1 h2 =>
      rename_i ds
      unfold D.py at e
      cases e1 : mapO (D.py W n) ds with
      | none => rw [e1] at e; cases e
      | some ps => rw [e1] at e; cases e; exact .lst (.of (s.sub _ _ h1)) (all h2 e1)
    | rol h1 =>
      cases e
      exact .lst (s.sub.sqL h1) (dp_ints _)
    | hdl h1 =>
      rename_i a k
      unfold D.py at e
      cases q : W[k]? with
      | none => rw [q] at e; cases e
      | some c =>
        rw [q, Option.bind_some] at e
        have c1 := s.cell k a c h1 q
        cases c with
        | lst ys =>
          obtain ⟨vs, g1, g2⟩ := c1
          have e : (mapO (D.py W n) ys).map PyData.list = some p := e
          cases e1 : mapO (D.py W n) ys with
          | none => rw [e1] at e; cases e
          | some ps => rw [e1] at e; cases e; exact .lst (.of g1) (all g2 e1)
theorem rpy_dp (s : SR K m W) {n : Nat} {o : Hp} {r : R} {v : V} {p : PyData} (h : RpR K o m v r) (e : r.py W n = some p) : Dp K m.H v p := by
  cases r with
  | d x => exact py_dp s n x v p h e
  | fr xs =>
    obtain ⟨a, vs, rfl, h1, h2, _⟩ := h
    have e : (mapO (D.py W n) xs).map PyData.list = some p := e
    cases e1 : mapO (D.py W n) xs with
    | none => rw [e1] at e; cases e
    | some ps => rw [e1] at e; cases e; exact .lst (.of h1) (mapO_dp (fun d v p h e => py_dp s n d v p h e) h2 e1)
theorem mapO_shape {f : D → Option PyData} {n : Nat} (hf : ∀ d p, f d = some p → p.canLay0 = true ∧ p.depth ≤ n) : ∀ {ds : List D} {ps : List PyData}, mapO f ds = some ps → PyData.canLayAll0 ps = true ∧ PyData.depthAll ps ≤ n
  | [], _, e => by cases e; simp [PyData.canLayAll0, PyData.depthAll]
  | d :: r, _, e => by
    unfold mapO at e
    cases e1 : f d with
    | none => rw [e1] at e; cases e
    | some p =>
      rw [e1, Option.bind_some] at e
      cases e2 : mapO f r with
      | none => rw [e2] at e; cases e
      | some q =>
        rw [e2] at e
        cases e
        have h1 := hf d p e1
        have h2 := mapO_shape hf e2
        simp only [PyData.canLayAll0, PyData.depthAll, h1.1, h2.1, Bool.and_self, true_and]
        omega
theorem ints_shape : ∀ ns : List Int, PyData.canLayAll0 (ns.map PyData.int) = true ∧ PyData.depthAll (ns.map PyData.int) = 0
  | [] => by simp [PyData.canLayAll0, PyData.depthAll]
  | n :: r => by
    have h := ints_shape r
    simp [PyData.canLayAll0, PyData.depthAll, PyData.canLay0, PyData.depth, h.1, h.2]
theorem py_shape : ∀ (n : Nat) (d : D) (p : PyData), d.py W n = some p → p.canLay0 = true ∧ p.depth ≤ n
  | 0, d, _, e => by cases d <;> cases e
  | n + 1, d, p, e => by
    have all : ∀ {ds : List D} {ps : List PyData}, mapO (D.py W n) ds = some ps → PyData.canLayAll0 ps = true ∧ PyData.depthAll ps ≤ n := fun e => mapO_shape (fun d p e => py_shape n d p e) e
    cases d with
    | non => cases e; simp [PyData.canLay0, PyData.depth]
    | bl b => cases e; simp [PyData.canLay0, PyData.depth]
    | int i => cases e; simp [PyData.canLay0, PyData.depth]
    | str x =>
      unfold D.py at e
      split at e
      · rename_i h; cases e; simp [PyData.canLay0, PyData.depth, h]
      · cases e
    | tup ds =>
      unfold D.py at e
      cases e1 : mapO (D.py W n) ds with
      | none => rw [e1] at e; cases e
      | some ps =>
        rw [e1] at e; cases e
        have h := all e1
        simp only [PyData.canLay0, PyData.depth]
        exact ⟨h.1, by omega⟩
    | lst ds =>
      unfold D.py at e
      cases e1 : mapO (D.py W n) ds with
      | none => rw [e1] at e; cases e
      | some ps =>
        rw [e1] at e; cases e
        have h := all e1
        simp only [PyData.canLay0, PyData.depth]
        exact ⟨h.1, by omega⟩
    | rol ns =>
      cases e
      have h := ints_shape ns
      simp only [PyData.canLay0, PyData.depth]
      exact ⟨h.1, by omega⟩
    | hdl k =>
      unfold D.py at e
      cases q : W[k]? with
      | none => rw [q] at e; cases e
      | some c =>
        rw [q, Option.bind_some] at e
        cases c with
        | lst ys =>
          have e : (mapO (D.py W n) ys).map PyData.list = some p := e
          cases e1 : mapO (D.py W n) ys with
          | none => rw [e1] at e; cases e
          | some ps =>
            rw [e1] at e; cases e
            have h := all e1
            simp only [PyData.canLay0, PyData.depth]
            exact ⟨h.1, by omega⟩
theorem rpy_shape {n : Nat} {r : R} {p : PyData} (e : r.py W n = some p) : p.canLay0 = true ∧ p.depth ≤ n + 1 := by
  cases r with
  | d x =>
    have h := py_shape n x p e
    exact ⟨h.1, by omega⟩
  | fr xs =>
    have e : (mapO (D.py W n) xs).map PyData.list = some p := e
    cases e1 : mapO (D.py W n) xs with
    | none => rw [e1] at e; cases e
    | some ps =>
      rw [e1] at e; cases e
      have h := mapO_shape (fun d p e => py_shape n d p e) e1
      simp only [PyData.canLay0, PyData.depth]
      exact ⟨h.1, by omega⟩
theorem shaped_of {r : R} {p : PyData} (e : r.py W 60 = some p) : SeqAt.shaped p = true := by
  have h := rpy_shape e
  unfold SeqAt.shaped
  rw [h.1, Bool.true_and, decide_eq_true_eq]
  omega
end

/-! ### ==, !=, in, not in -/
def opEq (g : Bool → Bool) (W : Wd) (a b : R) : Option R := (a.py W 60).bind fun p => (b.py W 60).map fun q => .d (.bl (g (PyData.eqv p q)))
def D.fl : D → Option V
  | .non => some .non
  | .bl b => some (.bl b)
  | .int i => some (.int i)
  | .str x => some (.str x)
  | _ => none
def flA : List D → Option (List V)
  | [] => some []
  | d :: r => d.fl.bind fun v => (flA r).map fun q => v :: q
/-- x in a list: any data; x in a tuple: scalars -/
def opIn (g : Bool → Bool) (W : Wd) : R → R → Option R
  | .d x, .d (.tup ys) => x.fl.bind fun v => (flA ys).map fun vs => .d (.bl (g (inV v vs)))
  | a, b => (asL W b).bind fun ys => (a.py W 60).bind fun p => (mapO (D.py W 59) ys).map fun ps => .d (.bl (g (ps.any fun z => PyData.eqv z p)))
section
variable {X : Cx}
theorem o_eqG {op : CmpOp} {g : Bool → Bool} (h0 : OpR X (compareOp op) fun x y H Q => ∃ d e, Dp X.K H x d ∧ Dp X.K H y e ∧ SeqAt.shaped d = true ∧ SeqAt.shaped e = true ∧ Q (.bl (g (PyData.eqv d e))) H) : OpR X (compareOp op) (rO X.K (opEq g)) := by
  intro pins s σ H x y v u Q I rx ry h
  obtain ⟨m, W, a, b, r, o, eH, sr, ra, rb, ho, e, k⟩ := h
  unfold opEq at e
  cases e1 : a.py W 60 with
  | none => rw [e1] at e; cases e
  | some p =>
    rw [e1, Option.bind_some] at e
    cases e2 : b.py W 60 with
    | none => rw [e2] at e; cases e
    | some q =>
      rw [e2] at e
      cases e
      subst eH
      exact h0 pins s σ _ _ _ v u Q I rx ry ⟨p, q, rpy_dp sr ra e1, rpy_dp sr rb e2, shaped_of e1, shaped_of e2, give sr k (.bl _)⟩
theorem o_eq (hu : X.A.units + 64 < cLine) : OpR X (compareOp .Eq) (rO X.K (opEq id)) := o_eqG (op_eqD hu)
theorem o_ne (hu : X.A.units + 64 < cLine) : OpR X (compareOp .NotEq) (rO X.K (opEq Bool.not)) := o_eqG (g := Bool.not) (op_neD hu)
theorem fl_rp {K : PySem.W.Frag} {Z : Hp} {mu : List Addr} {v w : V} {d : D} (h : Rp K Z mu v d) (e : d.fl = some w) : v = w ∧ flatV v = true := by
  cases h <;> cases e <;> exact ⟨rfl, rfl⟩
theorem flA_rp {K : PySem.W.Frag} {Z : Hp} {mu : List Addr} : ∀ {ds : List D} {vs ws : List V}, RpA K Z mu vs ds → flA ds = some ws → vs = ws ∧ vs.all flatV = true
  | [], _, _, h, e => by cases h; cases e; exact ⟨rfl, rfl⟩
  | d :: r, _, _, h, e => by
    cases h with
    | cons h1 h2 =>
      unfold flA at e
      cases e1 : d.fl with
      | none => rw [e1] at e; cases e
      | some v =>
        rw [e1, Option.bind_some] at e
        cases e2 : flA r with
        | none => rw [e2] at e; cases e
        | some q =>
          rw [e2] at e
          cases e
          obtain ⟨rfl, q1⟩ := fl_rp h1 e1
          obtain ⟨rfl, q2⟩ := flA_rp h2 e2
          exact ⟨rfl, by rw [List.all_cons, q1, q2]; rfl⟩
theorem o_inG {op : CmpOp} {g : Bool → Bool} (h1 : OpR X (compareOp op) fun x y H Q => ∃ p xs, y = .ref p ∧ (SqL X.K H p xs ∨ SqT X.K H p xs) ∧ flatV x = true ∧ xs.all flatV = true ∧ Q (.bl (g (inV x xs))) H)
    (h2 : OpR X (compareOp op) fun x y H Q => ∃ d ds, Dp X.K H x d ∧ Dp X.K H y (.list ds) ∧ SeqAt.shaped d = true ∧ SeqAt.shaped (.list ds) = true ∧ Q (.bl (g (ds.any fun z => PyData.eqv z d))) H) : OpR X (compareOp op) (rO X.K (opIn g)) := by
  intro pins s σ H x y v u Q I rx ry h
  obtain ⟨m, W, a, b, r, o, eH, sr, ra, rb, ho, e, k⟩ := h
  unfold opIn at e
  split at e
  · rename_i d ys
    cases e1 : d.fl with
    | none => rw [e1] at e; cases e
    | some w =>
      rw [e1, Option.bind_some] at e
      cases e2 : flA ys with
      | none => rw [e2] at e; cases e
      | some ws =>
        rw [e2] at e
        cases e
        cases rb with
        | tup g1 g2 =>
          subst eH
          obtain ⟨rfl, q1⟩ := fl_rp ra e1
          obtain ⟨rfl, q2⟩ := flA_rp g2 e2
          exact h1 pins s σ _ _ _ v u Q I rx ry ⟨_, _, rfl, .inr (sr.sub.sqT g1), q1, q2, give sr k (.bl _)⟩
  · cases e1 : asL W b with
    | none => rw [e1] at e; cases e
    | some ys =>
      rw [e1, Option.bind_some] at e
      cases e2 : a.py W 60 with
      | none => rw [e2] at e; cases e
      | some p =>
        rw [e2, Option.bind_some] at e
        cases e3 : mapO (D.py W 59) ys with
        | none => rw [e3] at e; cases e
        | some ps =>
          rw [e3] at e
          cases e
          subst eH
          obtain ⟨q, vs, rfl, g1, g2⟩ := asL_H sr rb e1
          have sh := mapO_shape (fun d p e => py_shape 59 d p e) e3
          refine h2 pins s σ _ _ _ v u Q I rx ry ⟨p, ps, rpy_dp sr ra e2, .lst (.of g1) (mapO_dp (fun d v p h e => py_dp sr 59 d v p h e) g2 e3), shaped_of e2, ?_, give sr k (.bl _)⟩
          unfold SeqAt.shaped
          have hd : (PyData.list ps).depth ≤ 64 := by
            simp only [PyData.depth]; omega
          have hc : (PyData.list ps).canLay0 = true := by
            simp only [PyData.canLay0]; exact sh.1
          rw [hc, decide_eq_true hd]; rfl
theorem o_in (hu : X.A.units + 65 < cLine) : OpR X (compareOp .In) (rO X.K (opIn id)) := o_inG op_in_seq (op_inD hu)
theorem o_nin (hu : X.A.units + 65 < cLine) : OpR X (compareOp .NotIn) (rO X.K (opIn Bool.not)) := o_inG (g := Bool.not) op_notIn_seq (op_notInD hu)
end

/-! ### >= of two tuples of ints -/
def geL : List Int → List Int → Bool
  | _, [] => true
  | [], _ :: _ => false
  | x :: xs, y :: ys => if x = y then geL xs ys else decide (x ≥ y)
def opInts : List D → Option (List Int)
  | [] => some []
  | .int i :: r => (opInts r).map fun q => i :: q
  | _ :: _ => none
end Ev

set_option Elab.async false
set_option linter.all false
set_option maxRecDepth 100000
namespace Ev
open PySem L2

/-! ### argument lists, displays -/
def fNilA : FA := fun _ W => some ([], W)
def fCons (al : Bool) (f : FE) (g : FA) : FA := fun ρ W => (f ρ W).bind fun p => (g ρ (toD al p.1 p.2).2).map fun z => ((toD al p.1 p.2).1 :: z.1, z.2)
section
variable {X : Cx} {e : Expr} {es : List Expr} {f : FE} {g : FA} {pos : Pos}
theorem ea_nil : EvA X [] fNilA := ⟨paI pa_nil fun σ H Q ⟨m, W, ρ, ds, W', eH, s, rs, e, k⟩ => by
  cases e
  show Q [] H
  rw [← eH]
  exact k [] m (Ext.refl m) s .nil⟩
theorem ea_cons (al : Bool) (he : EvE X e f) (hr : EvA X es g) (hs : starEach (e :: es) X.env = (false, eval e X.env) :: starEach es X.env := by rfl) : EvA X (e :: es) (fCons al f g) :=
  ⟨paI (pa_cons he.ok hr.ok hs) fun σ H Q ⟨m, W, ρ, ds, W', eH, s, rs, q, k⟩ => by
    unfold fCons at q
    cases e1 : f ρ W with
    | none => rw [e1] at q; cases q
    | some p =>
      rw [e1, Option.bind_some] at q
      cases e2 : g ρ (toD al p.1 p.2).2 with
      | none => rw [e2] at q; cases q
      | some z =>
        rw [e2] at q
        cases q
        refine ⟨m, W, ρ, p.1, p.2, eH, s, rs, e1, fun v n x s1 r1 => ?_⟩
        obtain ⟨l, el, xl, gl, sl, rl⟩ := toD_ok al x s1 r1
        rw [← el]
        exact ⟨l, _, ρ, z.1, z.2, rfl, sl, (rs.ext x).gr gl, e2, fun vs n2 x2 s2 r2 => k _ n2 (xl.trans x2) s2 (.cons (rl.ext x2) r2)⟩⟩
def fTup (g : FA) : FE := fun ρ W => (g ρ W).bind fun p => if p.1.length ≤ 1000 then some (.d (.tup p.1), p.2) else none
def fLst (g : FA) : FE := fun ρ W => (g ρ W).bind fun p => if p.1.length ≤ 1000 then some (.fr p.1, p.2) else none
theorem le_size {n : Nat} (h : n ≤ 1000) : n ≤ sizeLine := Nat.le_trans h (by decide)
theorem ev_tup {x1 : Nat} (h : EvA X es g) : EvE X (.Tuple es x1 pos) (fTup g) := ⟨peI (pe_tup h.ok) fun σ H Q ⟨m, W, ρ, r, W', eH, s, rs, q, k⟩ => by
  unfold fTup at q
  cases e1 : g ρ W with
  | none => rw [e1] at q; cases q
  | some p =>
    rw [e1, Option.bind_some] at q
    split at q
    · rename_i hl
      cases q
      exact ⟨m, W, ρ, p.1, p.2, eH, s, rs, e1, fun vs n x s1 r1 => ⟨by rw [r1.length]; exact le_size hl, fun a ha => give_tup s1 (fun v n2 x2 s2 r2 => k v n2 (x.trans x2) s2 r2) r1 ha⟩⟩
    · cases q⟩
theorem ev_lst (h : EvA X es g) : EvE X (.List es pos) (fLst g) := ⟨peI (pe_lst h.ok) fun σ H Q ⟨m, W, ρ, r, W', eH, s, rs, q, k⟩ => by
  unfold fLst at q
  cases e1 : g ρ W with
  | none => rw [e1] at q; cases q
  | some p =>
    rw [e1, Option.bind_some] at q
    split at q
    · rename_i hl
      cases q
      exact ⟨m, W, ρ, p.1, p.2, eH, s, rs, e1, fun vs n x s1 r1 => ⟨by rw [r1.length]; exact le_size hl, fun a ha => give_lst s1 (fun v n2 x2 s2 r2 => k v n2 (x.trans x2) s2 r2) r1 ha (fun _ z => x.fresh z)⟩⟩
    · cases q⟩
end

/-! ### calls of built-ins by values -/
def rC (K : PySem.W.Frag) (f : Wd → List D → Option R) : List V → Hp → VK → Prop := fun vs H Q => ∃ m W ds r o, m.H = H ∧ SR K m W ∧ RpA K m.Z m.mu vs ds ∧ (∀ p, m.H p = none → o p = none) ∧ f W ds = some r ∧ ∀ v n, Ext m n → SR K n W → RpR K o n v r → Q v n.H
def fBlt (f : Wd → List D → Option R) (g : FA) : FE := fun ρ W => (g ρ W).bind fun p => (f p.2 p.1).map fun r => (r, p.2)
theorem rd_blt {K : PySem.W.Frag} {f : Wd → List D → Option R} {g : FA} {σ : St} {H : Hp} {Q : VK} (q : rdE K (fBlt f g) σ H Q) : tCB (rC K f) (rdA K g) σ H Q := by
  obtain ⟨m, W, ρ, r, W', eH, s, rs, e, k⟩ := q
  unfold fBlt at e
  cases e1 : g ρ W with
  | none => rw [e1] at e; cases e
  | some p =>
    rw [e1, Option.bind_some] at e
    cases e2 : f p.2 p.1 with
    | none => rw [e2] at e; cases e
    | some z =>
      rw [e2] at e
      cases e
      exact ⟨m, W, ρ, p.1, p.2, eH, s, rs, e1, fun vs n x s1 r1 => ⟨n, p.2, p.1, r, m.H, rfl, s1, r1, fun _ z => x.fresh z, e2, fun v n2 x2 s2 r2 => k v n2 (x.trans x2) s2 r2⟩⟩
section
variable {X : Cx} {e : Expr} {es : List Expr} {g : FA} {x : Str} {p pos : Pos} {f : Wd → List D → Option R}
theorem ev_blt {id : String} (hc : CallR X (.builtin id) (rC X.K f)) (hg : Gl X x) (hm : X.mg x = none) (hv : bootBuiltins x = some (.builtin id)) (ha : EvA X (e :: es) g) (hn : x ≠ "__name__" := by decide) (hdb : (x == ("__debug__" : Str)) = false := by decide)
    (he : starEach (e :: es) X.env = (false, eval e X.env) :: starEach es X.env := by rfl) (hpl : (backTo pos (starEach es X.env)).any (·.1) = false := by rfl) : EvE X (.Call (.Name x p) (e :: es) [] pos) (fBlt f g) :=
  ⟨peI (pe_callB hc hg hm hv ha.ok hn hdb he hpl) fun _ _ _ q => rd_blt q⟩
theorem ev_bty {T : String} (hc : CallR X (.type T) (rC X.K f)) (hg : Gl X x) (hm : X.mg x = none) (hv : bootBuiltins x = some (.type T)) (ha : EvA X (e :: es) g) (hn : x ≠ "__name__" := by decide) (hdb : (x == ("__debug__" : Str)) = false := by decide)
    (he : starEach (e :: es) X.env = (false, eval e X.env) :: starEach es X.env := by rfl) (hpl : (backTo pos (starEach es X.env)).any (·.1) = false := by rfl) : EvE X (.Call (.Name x p) (e :: es) [] pos) (fBlt f g) :=
  ⟨peI (pe_callTy hc hg hm hv ha.ok hn hdb he hpl) fun _ _ _ q => rd_blt q⟩
end
theorem rpa1 {K : PySem.W.Frag} {Z : Hp} {mu : List Addr} {vs : List V} {d : D} (h : RpA K Z mu vs [d]) : ∃ v, vs = [v] ∧ Rp K Z mu v d := by
  cases h with
  | cons h1 h2 => cases h2; exact ⟨_, rfl, h1⟩
theorem rpa2 {K : PySem.W.Frag} {Z : Hp} {mu : List Addr} {vs : List V} {d e : D} (h : RpA K Z mu vs [d, e]) : ∃ v u, vs = [v, u] ∧ Rp K Z mu v d ∧ Rp K Z mu u e := by
  cases h with
  | cons h1 h2 =>
    obtain ⟨u, rfl, h3⟩ := rpa1 h2
    exact ⟨_, u, rfl, h1, h3⟩

def bLen (W : Wd) : List D → Option R
  | [.str x] => if x.length ≤ sizeLine then some (.d (.int x.length)) else none
  | [d] => (asS W (.d d)).map fun xs => .d (.int xs.length)
  | _ => none
def bInt (_ : Wd) : List D → Option R
  | [.int i] => some (.d (.int i))
  | [.bl b] => some (.d (.int (if b = true then 1 else 0)))
  | _ => none
def bMax (_ : Wd) : List D → Option R
  | [.int i, .int j] => some (.d (.int (if j > i then j else i)))
  | _ => none
def bMin (_ : Wd) : List D → Option R
  | [.int i, .int j] => some (.d (.int (if j < i then j else i)))
  | _ => none
def asBs : List D → Option (List Bool)
  | [] => some []
  | .bl b :: r => (asBs r).map fun q => b :: q
  | _ :: _ => none
def bAll (W : Wd) : List D → Option R
  | [d] => (asL W (.d d)).bind fun xs => (asBs xs).map fun bs => .d (.bl (bs.all id))
  | _ => none
def bAny (W : Wd) : List D → Option R
  | [d] => (asL W (.d d)).bind fun xs => (asBs xs).map fun bs => .d (.bl (bs.any id))
  | _ => none
def bList (W : Wd) : List D → Option R
  | [d] => (asS W (.d d)).map fun xs => .fr xs
  | _ => none
def bTuple (W : Wd) : List D → Option R
  | [.tup xs] => some (.d (.tup xs))
  | [d] => (asS W (.d d)).map fun xs => .d (.tup xs)
  | _ => none
def asIs : List D → Option (List Int)
  | [] => some []
  | .int i :: r => (asIs r).map fun q => i :: q
  | _ :: _ => none
def bSum (W : Wd) : List D → Option R
  | [d] => (asL W (.d d)).bind fun xs => (asIs xs).map fun ns => .d (.int ns.sum)
  | _ => none
section
variable {X : Cx}
theorem asBs_v {K : PySem.W.Frag} {Z : Hp} {mu : List Addr} : ∀ {ds : List D} {vs : List V} {bs : List Bool}, RpA K Z mu vs ds → asBs ds = some bs → vs = bs.map V.bl
  | [], _, _, h, e => by cases h; cases e; rfl
  | d :: r, _, _, h, e => by
    cases h with
    | cons h1 h2 =>
      cases d <;> first | (cases e; done) | skip
      have e : (asBs r).map _ = some _ := e
      cases e2 : asBs r with
      | none => rw [e2] at e; cases e
      | some q =>
        rw [e2] at e
        cases e
        cases h1
        rw [List.map_cons, asBs_v h2 e2]
theorem asIs_v {K : PySem.W.Frag} {Z : Hp} {mu : List Addr} : ∀ {ds : List D} {vs : List V} {bs : List Int}, RpA K Z mu vs ds → asIs ds = some bs → vs = bs.map V.int
  | [], _, _, h, e => by cases h; cases e; rfl
  | d :: r, _, _, h, e => by
    cases h with
    | cons h1 h2 =>
      cases d <;> first | (cases e; done) | skip
      have e : (asIs r).map _ = some _ := e
      cases e2 : asIs r with
      | none => rw [e2] at e; cases e
      | some q =>
        rw [e2] at e
        cases e
        cases h1
        rw [List.map_cons, asIs_v h2 e2]
theorem c_len : CallR X (.builtin "len") (rC X.K bLen) := by
  intro pins s σ H xs us Q I rr h
  obtain ⟨m, W, ds, r, o, eH, sr, ra, ho, e, k⟩ := h
  unfold bLen at e
  split at e
  · split at e
    · rename_i hl
      cases e
      obtain ⟨v, rfl, h1⟩ := rpa1 ra
      cases h1
      subst eH
      exact call_len pins s σ _ _ us Q I rr ⟨_, _, rfl, ⟨hl, rfl⟩, give sr k (.int _)⟩
    · cases e
  · rename_i d _
    cases e1 : asS W (.d d) with
    | none => rw [e1] at e; cases e
    | some ys =>
      rw [e1] at e
      cases e
      obtain ⟨v, rfl, h1⟩ := rpa1 ra
      obtain ⟨a, vs, rfl, g1, g2⟩ := asS_H (o := o) (r := .d d) sr h1 e1
      subst eH
      refine call_len_seq pins s σ _ _ us Q I rr ⟨a, vs, rfl, g1, ?_⟩
      rw [g2.length]
      exact give sr k (.int _)
  · cases e
theorem c_int : CallR X (.type "int") (rC X.K bInt) := by
  intro pins s σ H xs us Q I rr h
  obtain ⟨m, W, ds, r, o, eH, sr, ra, ho, e, k⟩ := h
  unfold bInt at e
  split at e
  · cases e
    obtain ⟨v, rfl, h1⟩ := rpa1 ra
    cases h1
    subst eH
    exact call_int1 pins s σ _ _ us Q I rr (.inl ⟨_, rfl, give sr k (.int _)⟩)
  · cases e
    obtain ⟨v, rfl, h1⟩ := rpa1 ra
    cases h1
    subst eH
    exact call_int1 pins s σ _ _ us Q I rr (.inr ⟨_, rfl, give sr k (.int _)⟩)
  · cases e
theorem c_max (hc : X.calm = true) : CallR X (.builtin "max") (rC X.K bMax) := by
  intro pins s σ H xs us Q I rr h
  obtain ⟨m, W, ds, r, o, eH, sr, ra, ho, e, k⟩ := h
  unfold bMax at e
  split at e
  · cases e
    obtain ⟨v, u, rfl, h1, h2⟩ := rpa2 ra
    cases h1; cases h2
    subst eH
    exact call_max2 hc pins s σ _ _ us Q I rr ⟨_, _, rfl, give sr k (.int _)⟩
  · cases e
theorem c_min (hc : X.calm = true) : CallR X (.builtin "min") (rC X.K bMin) := by
  intro pins s σ H xs us Q I rr h
  obtain ⟨m, W, ds, r, o, eH, sr, ra, ho, e, k⟩ := h
  unfold bMin at e
  split at e
  · cases e
    obtain ⟨v, u, rfl, h1, h2⟩ := rpa2 ra
    cases h1; cases h2
    subst eH
    exact call_min2 hc pins s σ _ _ us Q I rr ⟨_, _, rfl, give sr k (.int _)⟩
  · cases e
theorem c_all (hc : X.calm = true) : CallR X (.builtin "all") (rC X.K bAll) := by
  intro pins s σ H xs us Q I rr h
  obtain ⟨m, W, ds, r, o, eH, sr, ra, ho, e, k⟩ := h
  unfold bAll at e
  split at e
  · rename_i d
    cases e1 : asL W (.d d) with
    | none => rw [e1] at e; cases e
    | some ys =>
      rw [e1, Option.bind_some] at e
      cases e2 : asBs ys with
      | none => rw [e2] at e; cases e
      | some bs =>
        rw [e2] at e
        cases e
        obtain ⟨v, rfl, h1⟩ := rpa1 ra
        obtain ⟨a, vs, rfl, g1, g2⟩ := asL_H (o := o) (r := .d d) sr h1 e1
        have ev := asBs_v g2 e2
        subst eH ev
        exact cr_all hc pins s σ _ _ us Q I rr ⟨a, bs, rfl, .of g1, give sr k (.bl _)⟩
  · cases e
theorem c_any (hc : X.calm = true) : CallR X (.builtin "any") (rC X.K bAny) := by
  intro pins s σ H xs us Q I rr h
  obtain ⟨m, W, ds, r, o, eH, sr, ra, ho, e, k⟩ := h
  unfold bAny at e
  split at e
  · rename_i d
    cases e1 : asL W (.d d) with
    | none => rw [e1] at e; cases e
    | some ys =>
      rw [e1, Option.bind_some] at e
      cases e2 : asBs ys with
      | none => rw [e2] at e; cases e
      | some bs =>
        rw [e2] at e
        cases e
        obtain ⟨v, rfl, h1⟩ := rpa1 ra
        obtain ⟨a, vs, rfl, g1, g2⟩ := asL_H (o := o) (r := .d d) sr h1 e1
        have ev := asBs_v g2 e2
        subst eH ev
        exact cr_any hc pins s σ _ _ us Q I rr ⟨a, bs, rfl, .of g1, give sr k (.bl _)⟩
  · cases e
theorem c_sum (hc : X.calm = true) : CallR X (.builtin "sum") (rC X.K bSum) := by
  intro pins s σ H xs us Q I rr h
  obtain ⟨m, W, ds, r, o, eH, sr, ra, ho, e, k⟩ := h
  unfold bSum at e
  split at e
  · rename_i d
    cases e1 : asL W (.d d) with
    | none => rw [e1] at e; cases e
    | some ys =>
      rw [e1, Option.bind_some] at e
      cases e2 : asIs ys with
      | none => rw [e2] at e; cases e
      | some bs =>
        rw [e2] at e
        cases e
        obtain ⟨v, rfl, h1⟩ := rpa1 ra
        obtain ⟨a, vs, rfl, g1, g2⟩ := asL_H (o := o) (r := .d d) sr h1 e1
        have ev := asIs_v g2 e2
        subst eH ev
        exact cr_sum hc pins s σ _ _ us Q I rr ⟨a, bs, rfl, .of g1, give sr k (.int _)⟩
  · cases e
theorem c_list : CallR X (.type "list") (rC X.K bList) := by
  intro pins s σ H xs us Q I rr h
  obtain ⟨m, W, ds, r, o, eH, sr, ra, ho, e, k⟩ := h
  unfold bList at e
  split at e
  · rename_i d
    cases e1 : asS W (.d d) with
    | none => rw [e1] at e; cases e
    | some ys =>
      rw [e1] at e
      cases e
      obtain ⟨v, rfl, h1⟩ := rpa1 ra
      obtain ⟨a, vs, rfl, g1, g2⟩ := asS_H (o := o) (r := .d d) sr h1 e1
      subst eH
      exact call_list_of pins s σ _ _ us Q I rr ⟨a, vs, rfl, g1, fun l hl => give_lst sr k g2 hl ho⟩
  · cases e
theorem c_tuple : CallR X (.type "tuple") (rC X.K bTuple) := by
  intro pins s σ H xs us Q I rr h
  obtain ⟨m, W, ds, r, o, eH, sr, ra, ho, e, k⟩ := h
  unfold bTuple at e
  split at e
  · cases e
    obtain ⟨v, rfl, h1⟩ := rpa1 ra
    cases h1 with
    | tup g1 g2 =>
      subst eH
      exact call_tuple_of pins s σ _ _ us Q I rr ⟨_, _, rfl, .inr ⟨sr.sub.sqT g1, give sr k (.tup g1 g2)⟩⟩
  · rename_i d hd
    cases e1 : asS W (.d d) with
    | none => rw [e1] at e; cases e
    | some ys =>
      rw [e1] at e
      cases e
      obtain ⟨v, rfl, h1⟩ := rpa1 ra
      have e3 : (∃ a vs, v = .ref a ∧ SqL X.K m.H a vs ∧ RpA X.K m.Z m.mu vs ys) := by
        cases d with
        | tup zs => exact (hd zs rfl).elim
        | rol ns =>
          cases e1
          cases h1 with
          | rol g1 => exact ⟨_, _, rfl, sr.sub.sqL g1, rpa_ints ns⟩
        | _ =>
          obtain ⟨a, vs, q1, q2, q3⟩ := asL_H (o := o) (r := .d _) sr h1 e1
          exact ⟨a, vs, q1, .of q2, q3⟩
      obtain ⟨a, vs, rfl, g1, g2⟩ := e3
      subst eH
      exact call_tuple_of pins s σ _ _ us Q I rr ⟨a, vs, rfl, .inl ⟨g1, fun l hl => give_tup sr k g2 hl⟩⟩
  · cases e
end

/-! ### isinstance(x, T), T one of five -/
def R.tag (W : Wd) : R → Option String
  | .fr _ => some "list"
  | .d .non => some "NoneType"
  | .d (.bl _) => some "bool"
  | .d (.int _) => some "int"
  | .d (.str _) => some "str"
  | .d (.tup _) => some "tuple"
  | .d (.lst _) => some "list"
  | .d (.rol _) => some "list"
  | .d (.hdl n) => (W[n]?).map fun c => match c with | .lst _ => "list"
def isaB (t T : String) : Bool := t == T || (t == "bool" && T == "int")
def fIsi (T : String) (f : FE) : FE := fun ρ W => (f ρ W).bind fun p => (p.1.tag p.2).map fun t => (.d (.bl (isaB t T)), p.2)
def tags : List String := ["NoneType", "bool", "int", "str", "tuple", "list"]
theorem tag_mem {W : Wd} {r : R} {t : String} (h : r.tag W = some t) : t ∈ tags := by
  cases r with
  | fr _ => cases h; decide
  | d x =>
    cases x with
    | hdl n =>
      have h : (W[n]?).map _ = some t := h
      cases e : W[n]? with
      | none => rw [e] at h; cases h
      | some c => rw [e] at h; cases c; cases h; exact (by decide : "list" ∈ tags)
    | _ => cases h; decide
theorem kit_isa : ∀ T ∈ (["int", "bool", "str", "tuple", "list"] : List String), ∀ t ∈ tags, kitB t T = some (isaB t T) := by decide +kernel
theorem sqL_ty {K : PySem.W.Frag} {H : Hp} {a : Addr} {xs : List V} (h : SqL K H a xs) : TyX K H (.ref a) (.type "list") := by
  rcases h with (h | ⟨o, h⟩) | ⟨o, its, n, h1, h2, _⟩
  · exact .base (.lst h)
  · exact .base (.frz h)
  · exact .kList h1 h2
theorem sqT_ty {K : PySem.W.Frag} {H : Hp} {a : Addr} {xs : List V} (h : SqT K H a xs) : TyX K H (.ref a) (.type "tuple") := by
  rcases h with (h | ⟨o, h⟩) | ⟨o, its, n, h1, h2, _⟩
  · exact .base (.tup h)
  · exact .fTuple h
  · exact .kTuple h1 h2
theorem tag_ty {K : PySem.W.Frag} {m : Mem} {W : Wd} {o : Hp} {v : V} {r : R} {t : String} (s : SR K m W) (h : RpR K o m v r) (e : r.tag W = some t) : TyX K m.H v (.type t) := by
  cases r with
  | fr _ =>
    cases e
    obtain ⟨p, vs, rfl, h1, _⟩ := h
    exact .base (.lst h1)
  | d x =>
    cases h with
    | non => cases e; exact .base .non
    | bl b => cases e; exact .base (.bl b)
    | int i => cases e; exact .base (.int i)
    | str x => cases e; exact .base (.str x)
    | tup h1 _ => cases e; exact sqT_ty (s.sub.sqT h1)
    | lst h1 _ => cases e; exact sqL_ty (.of (s.sub _ _ h1))
    | rol h1 => cases e; exact sqL_ty (s.sub.sqL h1)
    | hdl h1 =>
      rename_i a n
      have e : (W[n]?).map _ = some t := e
      cases q : W[n]? with
      | none => rw [q] at e; cases e
      | some c =>
        rw [q] at e
        have c1 := s.cell n a c h1 q
        cases c with
        | lst ys =>
          cases e
          obtain ⟨vs, g1, g2⟩ := c1
          exact .base (.lst g1)
section
variable {X : Cx} {e : Expr} {f : FE} {p p2 pos : Pos}
theorem ev_isi {T : String} (hT : T ∈ (["int", "bool", "str", "tuple", "list"] : List String)) (he : EvE X e f) (hg : Gl X "isinstance") (hm : X.mg "isinstance" = none) (hg2 : Gl X T) (hm2 : X.mg T = none) (hv2 : bootBuiltins T = some (.type T)) (hn2 : (Str.ofString T) ≠ "__name__")
    (hd2 : ((Str.ofString T) == ("__debug__" : Str)) = false) (hst : starEach [e, .Name T p2] X.env = (false, eval e X.env) :: starEach [.Name T p2] X.env := by rfl) : EvE X (.Call (.Name "isinstance" p) [e, .Name T p2] [] pos) (fIsi T f) := by
  refine ⟨peI (pe_callB call_isi hg hm (by decide +kernel) (pa_cons he.ok (pa_cons (pe_bltn (v := .ty T) hg2 hm2 hv2 rfl hn2 hd2) pa_nil) hst) (by decide) (by decide) hst) fun σ H Q ⟨m, W, ρ, r, W', eH, s, rs, q, k⟩ => ?_⟩
  unfold fIsi at q
  cases e1 : f ρ W with
  | none => rw [e1] at q; cases q
  | some p =>
    rw [e1, Option.bind_some] at q
    cases e2 : p.1.tag p.2 with
    | none => rw [e2] at q; cases q
    | some t =>
      rw [e2] at q
      cases q
      refine ⟨m, W, ρ, p.1, p.2, eH, s, rs, e1, fun v n x s1 r1 => ?_⟩
      exact ⟨v, .ty T, .type t, .type T, isaB t T, rfl, .ty T, tag_ty s1 r1 e2, kit_ty (kit_isa T hT t (tag_mem e2)), k _ n x s1 (.bl _)⟩
end
end Ev

set_option Elab.async false
set_option linter.all false
set_option maxRecDepth 100000
namespace Ev
open PySem L2

/-! ### items, slices -/
theorem atI_rp {K : PySem.W.Frag} {Z : Hp} {mu : List Addr} {vs : List V} {ds : List D} {i : Int} {d : D} (h : RpA K Z mu vs ds) (e : atI ds i = some d) : ∃ v, atI vs i = some v ∧ Rp K Z mu v d := by
  unfold atI at e ⊢
  rw [h.length]
  cases e1 : ixN ds.length i with
  | none => rw [e1] at e; cases e
  | some j =>
    rw [e1, Option.bind_some] at e
    exact h.get e
def opIx (W : Wd) : R → R → Option R
  | a, .d (.int i) => (asS W a).bind fun xs => (atI xs i).map fun d => .d d
  | _, _ => none
def cutD (xs : List D) (lo hi : Option Int) : List D := (xs.drop (HT.sIx xs.length 0 lo)).take (HT.sIx xs.length xs.length hi - HT.sIx xs.length 0 lo)
theorem cut_rp {K : PySem.W.Frag} {Z : Hp} {mu : List Addr} {vs : List V} {ds : List D} (h : RpA K Z mu vs ds) (lo hi : Option Int) : RpA K Z mu (cutV vs lo hi) (cutD ds lo hi) := by
  unfold cutV cutD
  rw [h.length]
  exact (h.drop _).take _
def opSl (W : Wd) : R → Option Int → Option Int → Option R
  | .d (.tup xs), lo, hi => some (.d (.tup (cutD xs lo hi)))
  | a, lo, hi => (asL W a).map fun xs => .fr (cutD xs lo hi)
abbrev FO := En → Wd → Option (Option Int × Wd)
def rdO (K : PySem.W.Frag) (f : FO) : TO := fun σ H Q => ∃ m W ρ b W', m.H = H ∧ SR K m W ∧ RpS K m σ ρ ∧ f ρ W = some (b, W') ∧ ∀ n, Ext m n → SR K n W' → Q b n.H
structure EvO (X : Cx) (e : Option Expr) (f : FO) : Prop where
  ok : PO X e (rdO X.K f)
def fON : FO := fun _ W => some (none, W)
def fOS (f : FE) : FO := fun ρ W => (f ρ W).bind fun p => match p.1 with
  | .d (.int i) => some (some i, p.2)
  | _ => none
def fSl (f : FE) (l h : FO) : FE := fun ρ W => (f ρ W).bind fun p => (l ρ p.2).bind fun q => (h ρ q.2).bind fun z => (opSl z.2 p.1 q.1 z.1).map fun r => (r, z.2)
theorem poI {X : Cx} {e : Option Expr} {t u : TO} (h : PO X e t) (i : ∀ σ H Q, u σ H Q → t σ H Q) : PO X e u := ⟨fun pins s σ H Q I q => h.run pins s σ H Q I (i σ H Q q)⟩
section
variable {X : Cx} {a b : Expr} {fa fb : FE} {pos : Pos}
theorem x_ix : IxR X (rO X.K opIx) := by
  intro value slice pins s σ H x y v u Q I rx ry h hs
  obtain ⟨m, W, a, b, r, o, eH, sr, ra, rb, ho, e, k⟩ := h
  unfold opIx at e
  split at e
  · rename_i i
    cases e1 : asS W a with
    | none => rw [e1] at e; cases e
    | some xs =>
      rw [e1, Option.bind_some] at e
      cases e2 : atI xs i with
      | none => rw [e2] at e; cases e
      | some d =>
        rw [e2] at e
        cases e
        cases rb
        obtain ⟨p, vs, rfl, g1, g2⟩ := asS_H sr ra e1
        obtain ⟨w, q1, q2⟩ := atI_rp g2 e2
        subst eH
        rcases g1 with g1 | g1
        · exact ix_list value slice pins s σ _ _ _ v u Q I rx ry ⟨_, _, _, _, rfl, rfl, g1, q1, give sr k q2⟩ hs
        · exact ix_tup value slice pins s σ _ _ _ v u Q I rx ry ⟨_, _, _, _, rfl, rfl, g1, q1, give sr k q2⟩ hs
  · cases e
theorem ev_ix (ha : EvE X a fa) (hb : EvE X b fb) (hp : PlainIx b := by intro _ _; rfl) : EvE X (.Subscript a b pos) (fBin opIx fa fb) := ⟨peI (pe_ix x_ix ha.ok hb.ok hp) fun _ _ _ q => rd_bin q⟩
theorem eo_non : EvO X none fON := ⟨poI po_none fun σ H Q ⟨m, W, ρ, b, W', eH, s, rs, e, k⟩ => by
  cases e
  show Q none H
  rw [← eH]
  exact k m (Ext.refl m) s⟩
theorem eo_some {e : Expr} {f : FE} (h : EvE X e f) : EvO X (some e) (fOS f) := ⟨poI (po_some h.ok) fun σ H Q ⟨m, W, ρ, b, W', eH, s, rs, q, k⟩ => by
  unfold fOS at q
  cases e1 : f ρ W with
  | none => rw [e1] at q; cases q
  | some p =>
    rw [e1, Option.bind_some] at q
    obtain ⟨r, W1⟩ := p
    cases r with
    | fr _ => cases q
    | d x =>
      cases x <;> first | (cases q; done) | skip
      cases q
      exact ⟨m, W, ρ, _, _, eH, s, rs, e1, fun v n x s1 r1 => by cases r1; exact ⟨_, rfl, k n x s1⟩⟩⟩
def rSlO (K : PySem.W.Frag) : V → Option Int → Option Int → Hp → VK → Prop := fun x lo hi H Q => ∃ m W a r o, m.H = H ∧ SR K m W ∧ RpR K o m x a ∧ (∀ p, m.H p = none → o p = none) ∧ opSl W a lo hi = some r ∧ ∀ v n, Ext m n → SR K n W → RpR K o n v r → Q v n.H
theorem cutV_whole {vs : List V} {lo hi : Option Int} (h : HT.sIx vs.length 0 lo = 0 ∧ HT.sIx vs.length vs.length hi = vs.length) : cutV vs lo hi = vs := by
  unfold cutV
  rw [h.1, h.2, List.drop_zero, Nat.sub_zero, List.take_length]
theorem cutD_whole {vs : List D} {lo hi : Option Int} (h : HT.sIx vs.length 0 lo = 0 ∧ HT.sIx vs.length vs.length hi = vs.length) : cutD vs lo hi = vs := by
  unfold cutD
  rw [h.1, h.2, List.drop_zero, Nat.sub_zero, List.take_length]
theorem s_any : SlR X (rSlO X.K) := by
  intro pins s σ H x v vl vu lo hi sl Q I rx hs pl pu h
  obtain ⟨m, W, a, r, o, eH, sr, ra, ho, e, k⟩ := h
  unfold opSl at e
  split at e
  · cases e
    cases ra with
    | tup g1 g2 =>
      subst eH
      refine sl_tupA pins s σ _ _ v vl vu _ _ sl Q I rx hs pl pu ⟨_, _, rfl, sr.sub.sqT g1, fun z => ?_, fun _ p hp => give_tup sr k (cut_rp g2 _ _) hp⟩
      have z2 := z
      rw [g2.length] at z2
      rw [cutD_whole z2] at k
      exact give sr k (.tup g1 g2)
  · cases e1 : asL W a with
    | none => rw [e1] at e; cases e
    | some xs =>
      rw [e1] at e
      cases e
      obtain ⟨p, vs, rfl, g1, g2⟩ := asL_H sr ra e1
      subst eH
      exact sl_list pins s σ _ _ v vl vu _ _ sl Q I rx hs pl pu ⟨_, _, rfl, .of g1, fun p hp => give_lst sr k (cut_rp g2 _ _) hp ho⟩
theorem ev_sl {lo hi : Option Expr} {fl fh : FO} {p2 : Pos} (ha : EvE X a fa) (hl : EvO X lo fl) (hh : EvO X hi fh) : EvE X (.Subscript a (.Slice lo hi none p2) pos) (fSl fa fl fh) := ⟨peI (pe_slice s_any ha.ok hl.ok hh.ok) fun σ H Q ⟨m, W, ρ, r, W', eH, s, rs, e, k⟩ => by
  unfold fSl at e
  cases e1 : fa ρ W with
  | none => rw [e1] at e; cases e
  | some p =>
    rw [e1, Option.bind_some] at e
    cases e2 : fl ρ p.2 with
    | none => rw [e2] at e; cases e
    | some q =>
      rw [e2, Option.bind_some] at e
      cases e3 : fh ρ q.2 with
      | none => rw [e3] at e; cases e
      | some z =>
        rw [e3, Option.bind_some] at e
        cases e4 : opSl z.2 p.1 q.1 z.1 with
        | none => rw [e4] at e; cases e
        | some r0 =>
          rw [e4] at e
          cases e
          refine ⟨m, W, ρ, p.1, p.2, eH, s, rs, e1, fun v n x s1 r1 => ?_⟩
          refine ⟨n, p.2, ρ, q.1, q.2, rfl, s1, rs.ext x, e2, fun n2 x2 s2 => ?_⟩
          refine ⟨n2, q.2, ρ, z.1, z.2, rfl, s2, rs.ext (x.trans x2), e3, fun n3 x3 s3 => ?_⟩
          exact ⟨n3, z.2, p.1, r, m.H, rfl, s3, r1.ext (x2.trans x3), fun p' z => x.fresh (x2.fresh (x3.fresh z)), e4, fun v' n4 x4 s4 r4 => k v' n4 (((x.trans x2).trans x3).trans x4) s4 r4⟩⟩
def fRev (f : FE) : FE := fun ρ W => (f ρ W).bind fun p => (asL p.2 p.1).map fun xs => (.fr xs.reverse, p.2)
theorem ev_rev {k0 : Nat} {p1 p2 p3 : Pos} (ha : EvE X a fa) : EvE X (.Subscript a (.Slice none none (some (.UnaryOp .USub (.Constant (.int 1) k0 p1) p2)) p3) pos) (fRev fa) := ⟨peI (pe_revL ha.ok) fun σ H Q ⟨m, W, ρ, r, W', eH, s, rs, e, k⟩ => by
  unfold fRev at e
  cases e1 : fa ρ W with
  | none => rw [e1] at e; cases e
  | some p =>
    rw [e1, Option.bind_some] at e
    cases e2 : asL p.2 p.1 with
    | none => rw [e2] at e; cases e
    | some xs =>
      rw [e2] at e
      cases e
      refine ⟨m, W, ρ, p.1, p.2, eH, s, rs, e1, fun v n x s1 r1 => ?_⟩
      obtain ⟨q, vs, rfl, g1, g2⟩ := asL_H s1 r1 e2
      exact ⟨q, vs, rfl, .of g1, fun p' hp => give_lst s1 (fun v n2 x2 s2 r2 => k v n2 (x.trans x2) s2 r2) g2.rev hp (fun _ z => x.fresh z)⟩⟩
end

/-! ### methods that change a list, stores -/
def asH (W : Wd) : R → Option (Nat × List D)
  | .d (.hdl n) => (W[n]?).map fun c => match c with | .lst xs => (n, xs)
  | _ => none
theorem asH_H {K : PySem.W.Frag} {m : Mem} {W : Wd} {o : Hp} {v : V} {r : R} {n : Nat} {xs : List D} (s : SR K m W) (h : RpR K o m v r) (e : asH W r = some (n, xs)) : ∃ a vs, v = .ref a ∧ m.mu[n]? = some a ∧ m.H a = some (.lst vs) ∧ RpA K m.Z m.mu vs xs := by
  cases r with
  | fr ys => cases e
  | d x =>
    cases h with
    | hdl h1 =>
      rename_i a k
      have e : (W[k]?).map _ = some (n, xs) := e
      cases q : W[k]? with
      | none => rw [q] at e; cases e
      | some c =>
        rw [q] at e
        have c1 := s.cell k a c h1 q
        cases c with
        | lst ys =>
          cases e
          obtain ⟨vs, g1, g2⟩ := c1
          exact ⟨a, vs, rfl, h1, g1, g2⟩
    | _ => cases e
theorem give_w {K : PySem.W.Frag} {m : Mem} {W : Wd} {o : Hp} {Q : VK} {r : R} {v : V} {n : Nat} {a : Addr} {vs : List V} {xs : List D} (s : SR K m W) (k : ∀ v l, Ext m l → SR K l (W.set n (.lst xs)) → RpR K o l v r → Q v l.H)
    (hn : m.mu[n]? = some a) (h : RpA K m.Z m.mu vs xs) (hr : RpR K o ⟨upd m.H a (.lst vs), m.Z, m.mu⟩ v r) : Q v (upd m.H a (.lst vs)) :=
  k v ⟨upd m.H a (.lst vs), m.Z, m.mu⟩ (write_ext s hn) (write_sr s hn h) hr
def rM (K : PySem.W.Frag) (f : Wd → R → List D → Option (R × Wd)) : V → List V → Hp → VK → Prop := fun x vs H Q => ∃ m W a ds r W' o, m.H = H ∧ SR K m W ∧ RpR K o m x a ∧ RpA K m.Z m.mu vs ds ∧ f W a ds = some (r, W') ∧ ∀ v n, Ext m n → SR K n W' → RpR K o n v r → Q v n.H
def fMth (f : Wd → R → List D → Option (R × Wd)) (fo : FE) (fa : FA) : FE := fun ρ W => (fo ρ W).bind fun p => (asL p.2 p.1).bind fun _ => (fa ρ p.2).bind fun q => f q.2 p.1 q.1
theorem rd_mth {K : PySem.W.Frag} {f : Wd → R → List D → Option (R × Wd)} {fo : FE} {fa : FA} {σ : St} {H : Hp} {Q : VK} (q : rdE K (fMth f fo fa) σ H Q) : tBM K "list" (rM K f) (rdE K fo) (rdA K fa) σ H Q := by
  obtain ⟨m, W, ρ, r, W', eH, s, rs, e, k⟩ := q
  unfold fMth at e
  cases e1 : fo ρ W with
  | none => rw [e1] at e; cases e
  | some p =>
    rw [e1, Option.bind_some] at e
    cases e2 : asL p.2 p.1 with
    | none => rw [e2] at e; cases e
    | some xs =>
      rw [e2, Option.bind_some] at e
      cases e3 : fa ρ p.2 with
      | none => rw [e3] at e; cases e
      | some z =>
        rw [e3, Option.bind_some] at e
        refine ⟨m, W, ρ, p.1, p.2, eH, s, rs, e1, fun v n x s1 r1 => ?_⟩
        obtain ⟨a, vs, rfl, g1, g2⟩ := asL_H s1 r1 e2
        refine ⟨.inl ⟨rfl, vs, .of g1⟩, n, p.2, ρ, z.1, z.2, rfl, s1, rs.ext x, e3, fun us n2 x2 s2 r2 => ?_⟩
        exact ⟨n2, z.2, p.1, z.1, r, W', m.H, rfl, s2, r1.ext x2, r2, e, fun v' n3 x3 s3 r3 => k v' n3 ((x.trans x2).trans x3) s3 r3⟩
theorem rd_mth0 {K : PySem.W.Frag} {f : Wd → R → List D → Option (R × Wd)} {fo : FE} {σ : St} {H : Hp} {Q : VK} (q : rdE K (fMth f fo fNilA) σ H Q) : tBM0 K "list" (rM K f) (rdE K fo) σ H Q := by
  obtain ⟨m, W, ρ, r, W', eH, s, rs, e, k⟩ := q
  unfold fMth at e
  cases e1 : fo ρ W with
  | none => rw [e1] at e; cases e
  | some p =>
    rw [e1, Option.bind_some] at e
    cases e2 : asL p.2 p.1 with
    | none => rw [e2] at e; cases e
    | some xs =>
      rw [e2, Option.bind_some] at e
      refine ⟨m, W, ρ, p.1, p.2, eH, s, rs, e1, fun v n x s1 r1 => ?_⟩
      obtain ⟨a, vs, rfl, g1, g2⟩ := asL_H s1 r1 e2
      exact ⟨.inl ⟨rfl, vs, .of g1⟩, n, p.2, p.1, [], r, W', m.H, rfl, s1, r1, .nil, e, fun v' n3 x3 s3 r3 => k v' n3 (x.trans x3) s3 r3⟩
def mAppend (W : Wd) : R → List D → Option (R × Wd)
  | a, [d] => (asH W a).bind fun p => if p.2.length < sizeLine then some (.d .non, W.set p.1 (.lst (p.2 ++ [d]))) else none
  | _, _ => none
def mInsert (W : Wd) : R → List D → Option (R × Wd)
  | a, [.int i, d] => (asH W a).bind fun p => if p.2.length < sizeLine ∧ 0 ≤ i ∧ i < 2 ^ 63 then some (.d .non, W.set p.1 (.lst (p.2.take i.toNat ++ [d] ++ p.2.drop i.toNat))) else none
  | _, _ => none
def mPop (W : Wd) : R → List D → Option (R × Wd)
  | a, [] => (asH W a).bind fun p => (p.2[p.2.length - 1]?).map fun d => (.d d, W.set p.1 (.lst p.2.dropLast))
  | _, _ => none
def mClear (W : Wd) : R → List D → Option (R × Wd)
  | a, [] => (asH W a).map fun p => (.d .non, W.set p.1 (.lst []))
  | _, _ => none
def mReverse (W : Wd) : R → List D → Option (R × Wd)
  | a, [] => (asH W a).map fun p => (.d .non, W.set p.1 (.lst p.2.reverse))
  | _, _ => none
section
variable {X : Cx}
theorem m_append : MtR X "list.append" (rM X.K mAppend) := by
  intro pins s σ H x vs v us Q I rx rr h
  obtain ⟨m, W, a, ds, r, W', o, eH, sr, ra, rs, e, k⟩ := h
  unfold mAppend at e
  split at e
  · rename_i d
    cases e1 : asH W a with
    | none => rw [e1] at e; cases e
    | some p =>
      obtain ⟨n, xs⟩ := p
      rw [e1, Option.bind_some] at e
      split at e
      · rename_i hl
        cases e
        obtain ⟨w, rfl, h1⟩ := rpa1 rs
        obtain ⟨q, ws, rfl, g0, g1, g2⟩ := asH_H sr ra e1
        subst eH
        exact mt_append pins s σ _ _ _ v us Q I rx rr ⟨_, _, _, rfl, rfl, g1, by rw [g2.length]; exact hl, give_w sr k g0 (g2.app (.cons h1 .nil)) .non⟩
      · cases e
  · cases e
theorem RpA.take_drop {K : PySem.W.Frag} {Z : Hp} {mu : List Addr} {vs : List V} {ds : List D} {v : V} {d : D} (h : RpA K Z mu vs ds) (r : Rp K Z mu v d) (i : Nat) : RpA K Z mu (vs.take i ++ [v] ++ vs.drop i) (ds.take i ++ [d] ++ ds.drop i) := ((h.take i).app (.cons r .nil)).app (h.drop i)
theorem m_insert : MtR X "list.insert" (rM X.K mInsert) := by
  intro pins s σ H x vs v us Q I rx rr h
  obtain ⟨m, W, a, ds, r, W', o, eH, sr, ra, rs, e, k⟩ := h
  unfold mInsert at e
  split at e
  · rename_i i d
    cases e1 : asH W a with
    | none => rw [e1] at e; cases e
    | some p =>
      obtain ⟨n, xs⟩ := p
      rw [e1, Option.bind_some] at e
      split at e
      · rename_i hl
        cases e
        obtain ⟨w, w2, rfl, h1, h2⟩ := rpa2 rs
        cases h1
        obtain ⟨q, ws, rfl, g0, g1, g2⟩ := asH_H sr ra e1
        subst eH
        exact mt_insert pins s σ _ _ _ v us Q I rx rr ⟨_, _, _, _, rfl, rfl, g1, by rw [g2.length]; exact hl.1, hl.2.1, hl.2.2, give_w sr k g0 (g2.take_drop h2 _) .non⟩
      · cases e
  · cases e
theorem RpA.dropLast {K : PySem.W.Frag} {Z : Hp} {mu : List Addr} {vs : List V} {ds : List D} (h : RpA K Z mu vs ds) : RpA K Z mu vs.dropLast ds.dropLast := by
  rw [List.dropLast_eq_take, List.dropLast_eq_take, h.length]
  exact h.take _
theorem Rp.up {K : PySem.W.Frag} {m : Mem} {a : Addr} {o : HO} {v : V} {d : D} (h : Rp K m.Z m.mu v d) : Rp K (⟨upd m.H a o, m.Z, m.mu⟩ : Mem).Z (⟨upd m.H a o, m.Z, m.mu⟩ : Mem).mu v d := h
theorem m_pop : MtR X "list.pop" (rM X.K mPop) := by
  intro pins s σ H x vs v us Q I rx rr h
  obtain ⟨m, W, a, ds, r, W', o, eH, sr, ra, rs, e, k⟩ := h
  unfold mPop at e
  split at e
  · cases e1 : asH W a with
    | none => rw [e1] at e; cases e
    | some p =>
      obtain ⟨n, xs⟩ := p
      rw [e1, Option.bind_some] at e
      cases e2 : xs[xs.length - 1]? with
      | none => rw [e2] at e; cases e
      | some d =>
        rw [e2] at e
        cases e
        cases rs
        obtain ⟨q, ws, rfl, g0, g1, g2⟩ := asH_H sr ra e1
        obtain ⟨w, q1, q2⟩ := g2.get e2
        subst eH
        exact mt_pop pins s σ _ _ _ v us Q I rx rr ⟨_, _, w, rfl, rfl, g1, by rw [g2.length]; exact q1, give_w sr k g0 g2.dropLast q2⟩
  · cases e
theorem m_clear : MtR X "list.clear" (rM X.K mClear) := by
  intro pins s σ H x vs v us Q I rx rr h
  obtain ⟨m, W, a, ds, r, W', o, eH, sr, ra, rs, e, k⟩ := h
  unfold mClear at e
  split at e
  · cases e1 : asH W a with
    | none => rw [e1] at e; cases e
    | some p =>
      obtain ⟨n, xs⟩ := p
      rw [e1] at e
      cases e
      cases rs
      obtain ⟨q, ws, rfl, g0, g1, g2⟩ := asH_H sr ra e1
      subst eH
      exact mt_clear pins s σ _ _ _ v us Q I rx rr ⟨_, _, rfl, rfl, g1, give_w sr k g0 .nil .non⟩
  · cases e
theorem m_reverse : MtR X "list.reverse" (rM X.K mReverse) := by
  intro pins s σ H x vs v us Q I rx rr h
  obtain ⟨m, W, a, ds, r, W', o, eH, sr, ra, rs, e, k⟩ := h
  unfold mReverse at e
  split at e
  · cases e1 : asH W a with
    | none => rw [e1] at e; cases e
    | some p =>
      obtain ⟨n, xs⟩ := p
      rw [e1] at e
      cases e
      cases rs
      obtain ⟨q, ws, rfl, g0, g1, g2⟩ := asH_H sr ra e1
      subst eH
      exact mt_reverse pins s σ _ _ _ v us Q I rx rr ⟨_, _, rfl, rfl, g1, give_w sr k g0 g2.rev .non⟩
  · cases e
variable {o e : Expr} {es : List Expr} {name : Str} {apos cpos : Pos} {id : String} {f : Wd → R → List D → Option (R × Wd)} {fo : FE} {fa : FA}
theorem ev_mth (hs : Slot "list" name id) (ht : typeOf (Value.builtin id) = pure (Value.type "method_descriptor")) (hm : MtR X id (rM X.K f)) (ho : EvE X o fo) (ha : EvA X (e :: es) fa) (h1 : attributeBase o name X.env (eval o X.env) = eval o X.env := by rfl)
    (h2 : ((((backTo cpos (starEach (e :: es) X.env)).all fun x => !x.fst) && (backToKw cpos (keywordEach [] X.env)).all fun x => x.fst.isSome) && decide (((e :: es).length + ([] : List Keyword).length + if ([] : List Keyword).isEmpty = true then 0 else 1) < 30)) = true := by rfl)
    (h3 : (apos.endLine == cpos.line) = true := by rfl) (h4 : starEach (e :: es) X.env = (false, eval e X.env) :: starEach es X.env := by rfl) (h5 : ((backTo cpos (starEach es X.env)).any fun x => x.fst) = false := by rfl) : EvE X ((o.Attribute name apos).Call (e :: es) [] cpos) (fMth f fo fa) :=
  ⟨peI (pe_bm PySem.F.plainAttrs_list hs ht hm ho.ok ha.ok h1 h2 h3 h4 h5) fun _ _ _ q => rd_mth q⟩
theorem ev_mth0 (hs : Slot "list" name id) (ht : typeOf (Value.builtin id) = pure (Value.type "method_descriptor")) (hm : MtR X id (rM X.K f)) (ho : EvE X o fo) (h1 : attributeBase o name X.env (eval o X.env) = eval o X.env := by rfl) (h3 : (apos.endLine == cpos.line) = true := by rfl) : EvE X ((o.Attribute name apos).Call [] [] cpos) (fMth f fo fNilA) :=
  ⟨peI (pe_bm0 PySem.F.plainAttrs_list hs ht hm ho.ok h1 h3) fun _ _ _ q => rd_mth0 q⟩
/-- xs[i] = v -/
def fStore (al : Bool) (f fo fi : FE) : FS := fun ρ W => (f ρ W).bind fun p => (fo ρ (toD al p.1 p.2).2).bind fun q => (fi ρ q.2).bind fun z => match z.1 with
  | .d (.int i) => (asH z.2 q.1).bind fun h => (ixN h.2.length i).map fun j => .nx ρ (z.2.set h.1 (.lst (h.2.set j (toD al p.1 p.2).1)))
  | _ => none
theorem ev_store {b : Expr} {fi f : FE} {pos pos' : Pos} (al : Bool) (he : EvE X e f) (ho : EvE X o fo) (hi : EvE X b fi)
    (ha : ∀ v, assign (.Subscript o b pos') X.env v = (do
      let ov ← holding [v] (eval o X.env)
      let iv ← holding [v, ov] (eval b X.env)
      standAt pos'
      holding [v, ov, iv] (setItem ov iv v)
      release [v, ov, iv] []) := by intro _; rfl)
    (hs : swapsWithSole [.Subscript o b pos'] e pos.line X.env = pure false := by rfl) (hw : swappedStores [.Subscript o b pos'] e X.env = pure none := by rfl)
    (h1 : (assignEach [.Subscript o b pos'] X.env).map (·.2) = [assign (.Subscript o b pos') X.env] := by rfl) : EvS X (.Assign [.Subscript o b pos'] e pos) (fStore al f fo fi) :=
  ⟨psI (ps_asg he.ok (pg_sub ho.ok hi.ok set_list ha) hs hw h1) fun D σ H ⟨m, W, ρ, ou, eH, s, rs, q, k⟩ => by
    unfold fStore at q
    cases e1 : f ρ W with
    | none => rw [e1] at q; cases q
    | some p =>
      rw [e1, Option.bind_some] at q
      cases e2 : fo ρ (toD al p.1 p.2).2 with
      | none => rw [e2] at q; cases q
      | some p2 =>
        rw [e2, Option.bind_some] at q
        cases e3 : fi ρ p2.2 with
        | none => rw [e3] at q; cases q
        | some z =>
          rw [e3, Option.bind_some] at q
          obtain ⟨zr, zW⟩ := z
          cases zr with
          | fr _ => cases q
          | d zd =>
            cases zd <;> first | (cases q; done) | skip
            rename_i i
            have q : ((asH zW p2.1).bind fun h => (ixN h.2.length i).map fun j => Out.nx ρ (zW.set h.1 (.lst (h.2.set j (toD al p.1 p.2).1)))) = some ou := q
            cases e4 : asH zW p2.1 with
            | none => rw [e4] at q; cases q
            | some h =>
              obtain ⟨hn, hx⟩ := h
              rw [e4, Option.bind_some] at q
              cases e5 : ixN hx.length i with
              | none =>
                have q : (ixN hx.length i).map _ = some ou := q
                rw [e5] at q; cases q
              | some j =>
                have q : (ixN hx.length i).map _ = some ou := q
                rw [e5] at q
                cases q
                refine ⟨m, W, ρ, p.1, p.2, eH, s, rs, e1, fun v n x s1 r1 => ?_⟩
                obtain ⟨l, el, xl, gl, sl, rl⟩ := toD_ok al x s1 r1
                rw [← el]
                refine ⟨l, _, ρ, p2.1, p2.2, rfl, sl, (rs.ext x).gr gl, e2, fun v2 n2 x2 s2 r2 => ?_⟩
                refine ⟨n2, _, ρ, _, zW, rfl, s2, ((rs.ext x).gr gl).ext x2, e3, fun v3 n3 x3 s3 r3 => ?_⟩
                cases r3
                obtain ⟨a, vs, rfl, g0, g1, g2⟩ := asH_H s3 (r2.ext x3) e4
                refine ⟨a, vs, i, j, rfl, rfl, g1, by rw [g2.length]; exact e5, ?_⟩
                exact k σ ⟨upd n3.H a (.lst (vs.set j v)), n3.Z, n3.mu⟩ (((xl.trans x2).trans x3).trans (write_ext s3 g0)) (write_sr s3 g0 (g2.set j ((rl.ext x2).ext x3))) (((((rs.ext x).gr gl).ext x2).ext x3).ext (write_ext s3 g0))⟩
/-- i += e, i -= e of ints -/
def fAug (i : Nat) (g : Int → Int → Int) (f : FE) : FS := fun ρ W => (fName i ρ W).bind fun a => (f ρ W).bind fun p => match a.1, p.1 with
  | .d (.int x), .d (.int y) => some (.nx (ρ.set i (some (.int (g x y)))) p.2)
  | _, _ => none
theorem ev_aug {i : Nat} {x : Str} {op : Operator} {g : Int → Int → Int} {f : FE} {pos pos' : Pos} (hN : X.N.Nodup) (hi : X.N[i]? = some x) (hx : Loc X.env.scope x) (he : EvE X e f) (hp : PIp X op (ipI g)) (hf : X.fn x = true ∨ X.env.scope.names.lookup x = some .local := by first | exact .inl rfl | exact .inr rfl | assumption) :
    EvS X (.AugAssign (.Name x pos') op e pos) (fAug i g f) := ⟨psI (ps_aug hN hi hx he.ok hp hf) fun D σ H ⟨m, W, ρ, ou, eH, s, rs, q, k⟩ => by
  unfold fAug fName at q
  cases e1 : ρ[i]? with
  | none => rw [e1] at q; cases q
  | some od =>
    cases od with
    | none => rw [e1] at q; cases q
    | some d =>
      rw [e1] at q
      simp only [Option.map_some, Option.bind_some] at q
      cases e2 : f ρ W with
      | none => rw [e2] at q; cases q
      | some p =>
        rw [e2, Option.bind_some] at q
        obtain ⟨r, W1⟩ := p
        cases d <;> first | (cases q; done) | skip
        cases r with
        | fr _ => cases q
        | d y =>
          cases y <;> first | (cases q; done) | skip
          cases q
          obtain ⟨v, h1, h2⟩ := rs.2 i _ e1
          cases h2
          refine ⟨_, h1, m, W, ρ, _, W1, eH, s, rs, e2, fun u n x s1 r1 => ?_⟩
          cases r1
          exact ⟨_, _, rfl, rfl, k _ n x s1 ((rs.ext x).set (.int _) i)⟩⟩
end
end Ev

set_option Elab.async false
set_option linter.all false
set_option maxRecDepth 100000
namespace Ev
open PySem L2

/-! ### what is walked -/
structure Src where
  items : List D
  chk : Wd → Bool
def ItOk (K : PySem.W.Frag) (m : Mem) (J : It) (s : Src) : Prop := ∀ n W, Ext m n → SR K n W → s.chk W = true → J.stop s.items.length n.H ∧
  ∀ (i : Nat) (d : D), s.items[i]? = some d → J.go i n.H ∧ ∀ x H', J.yld i n.H x H' → ∃ l, l.H = H' ∧ Ext n l ∧ SR K l W ∧ Rp K l.Z l.mu x d
abbrev FI := En → Wd → Option (Src × Wd)
def rdI (K : PySem.W.Frag) (f : FI) : TI := fun σ H R => ∃ m W ρ s W', m.H = H ∧ SR K m W ∧ RpS K m σ ρ ∧ f ρ W = some (s, W') ∧ ∀ J n, Ext m n → SR K n W' → ItOk K n J s → R J n.H
structure EvI (X : Cx) (tg iter : Expr) (f : FI) : Prop where
  ok : PI X tg iter (rdI X.K f)
theorem piI {X : Cx} {tg e : Expr} {t u : TI} (h : PI X tg e t) (i : ∀ σ H R, u σ H R → t σ H R) : PI X tg e u := ⟨fun pins s σ H R I q => h.run pins s σ H R I (i σ H R q)⟩
theorem piOr {X : Cx} {tg e : Expr} {t u : TI} (h : PI X tg e t) (g : PI X tg e u) : PI X tg e fun σ H R => t σ H R ∨ u σ H R := ⟨fun pins s σ H R I q => q.elim (h.run pins s σ H R I) (g.run pins s σ H R I)⟩
def yes : Wd → Bool := fun _ => true
def srcOf (W : Wd) : R → Option Src
  | .fr xs => some ⟨xs, yes⟩
  | .d (.lst xs) => some ⟨xs, yes⟩
  | .d (.tup xs) => some ⟨xs, yes⟩
  | .d (.rol ns) => some ⟨ns.map D.int, yes⟩
  | .d (.hdl n) => (W[n]?).map fun c => match c with
    | .lst xs => ⟨xs, fun W' => match W'[n]? with
      | some (.lst ys) => sameA ys xs
      | none => false⟩
  | _ => none
def fSrc (f : FE) : FI := fun ρ W => (f ρ W).bind fun p => (srcOf p.2 p.1).map fun s => (s, p.2)
section
variable {K : PySem.W.Frag} {m : Mem} {W : Wd}
/-- a list whose place in the heap stays -/
theorem it_list {a : Addr} {vs : List V} {xs : List D} {chk : Wd → Bool} (hs : ∀ n W, Ext m n → SR K n W → chk W = true → ∃ vs, SqL K n.H a vs ∧ RpA K n.Z n.mu vs xs) : ItOk K m (Itl K a) ⟨xs, chk⟩ := by
  intro n W' x s c
  obtain ⟨vs, h1, h2⟩ := hs n W' x s c
  refine ⟨⟨vs, h1, by rw [h2.length]; exact Nat.le_refl _⟩, fun i d e => ?_⟩
  obtain ⟨v, q1, q2⟩ := h2.get e
  refine ⟨⟨vs, v, h1, q1⟩, fun y H' hy => ?_⟩
  obtain ⟨e1, e2⟩ := hy
  have q3 := e2 vs h1
  rw [q1] at q3
  cases q3
  exact ⟨n, e1.symm, Ext.refl n, s, q2⟩
theorem it_tup {a : Addr} {vs : List V} {xs : List D} (h1 : SqT K m.Z a vs) (h2 : RpA K m.Z m.mu vs xs) : ItOk K m (Itt K a) ⟨xs, yes⟩ := by
  intro n W' x s c
  have g1 : SqT K n.H a vs := s.sub.sqT (x.zle.sqT h1)
  have g2 := RpA.ext x h2
  refine ⟨⟨vs, g1, by rw [g2.length]; exact Nat.le_refl _⟩, fun i d e => ?_⟩
  obtain ⟨v, q1, q2⟩ := g2.get e
  refine ⟨⟨vs, v, g1, q1⟩, fun y H' hy => ?_⟩
  obtain ⟨e1, e2⟩ := hy
  have q3 := e2 vs g1
  rw [q1] at q3
  cases q3
  exact ⟨n, e1.symm, Ext.refl n, s, q2⟩
end
theorem fSrc_some {f : FE} {ρ : En} {W W' : Wd} {s : Src} (h : fSrc f ρ W = some (s, W')) : ∃ r, f ρ W = some (r, W') ∧ srcOf W' r = some s := by
  unfold fSrc at h
  cases e1 : f ρ W with
  | none => rw [e1] at h; cases h
  | some p =>
    rw [e1, Option.bind_some] at h
    cases e2 : srcOf p.2 p.1 with
    | none => rw [e2] at h; cases h
    | some z =>
      rw [e2] at h
      cases h
      exact ⟨p.1, rfl, e2⟩
theorem ev_src {X : Cx} {tg e : Expr} {f : FE} (h : EvE X e f) : EvI X tg e (fSrc f) := ⟨piI (piOr (pi_list h.ok) (pi_tup h.ok)) fun σ H R ⟨m, W, ρ, s, W', eH, sr, rs, q, k⟩ => by
      obtain ⟨r, e1, e2⟩ := fSrc_some q
      have lst : (∀ v n, Ext m n → SR X.K n W' → RpR X.K m.H n v r → ∃ a, v = .ref a ∧ (∃ xs, SqL X.K n.H a xs) ∧ ItOk X.K n (Itl X.K a) s) → iList X.K (rdE X.K f) σ H R ∨ iTup X.K (rdE X.K f) σ H R := fun g =>
        .inl ⟨m, W, ρ, r, W', eH, sr, rs, e1, fun v n x s1 r1 => let ⟨a, q1, q2, q3⟩ := g v n x s1 r1; ⟨a, q1, q2, k _ n x s1 q3⟩⟩
      cases r with
      | fr xs =>
        cases e2
        refine lst fun v n x s1 ⟨a, vs, q0, g1, g2, g3, g4, g5⟩ => ⟨a, q0, ⟨vs, .of g1⟩, it_list (vs := vs) fun n2 W2 x2 s2 _ => ⟨vs, .of (x2.keep _ _ g1 g4), RpA.ext x2 g2⟩⟩
      | d y =>
        cases y with
        | lst xs =>
          cases e2
          refine lst fun v n x s1 r1 => ?_
          cases r1 with
          | lst g1 g2 => exact ⟨_, rfl, ⟨_, .of (s1.sub _ _ g1)⟩, it_list (vs := []) fun n2 W2 x2 s2 _ => ⟨_, .of (s2.sub _ _ (x2.zle _ _ g1)), RpA.ext x2 g2⟩⟩
        | rol ns =>
          cases e2
          refine lst fun v n x s1 r1 => ?_
          cases r1 with
          | rol g1 => exact ⟨_, rfl, ⟨_, s1.sub.sqL g1⟩, it_list (vs := []) fun n2 W2 x2 s2 _ => ⟨_, s2.sub.sqL (x2.zle.sqL g1), rpa_ints ns⟩⟩
        | hdl j =>
          have e2 : (W'[j]?).map _ = some s := e2
          cases q0 : W'[j]? with
          | none => rw [q0] at e2; cases e2
          | some c =>
            rw [q0] at e2
            cases c with
            | lst xs =>
              cases e2
              refine lst fun v n x s1 r1 => ?_
              cases r1 with
              | hdl g1 =>
                rename_i a
                obtain ⟨vs, h1, h2⟩ := s1.cell j a _ g1 q0
                refine ⟨a, rfl, ⟨vs, .of h1⟩, it_list (vs := []) fun n2 W2 x2 s2 hc => ?_⟩
                have hc : (match W2[j]? with
                  | some (.lst ys) => sameA ys xs
                  | none => false) = true := hc
                cases q1 : W2[j]? with
                | none => rw [q1] at hc; cases hc
                | some c =>
                  cases c with
                  | lst ys =>
                    rw [q1] at hc
                    have ey := sameA_eq ys xs hc
                    subst ey
                    obtain ⟨vs2, h3, h4⟩ := s2.cell j a _ (x2.ix _ _ g1) q1
                    exact ⟨vs2, .of h3, h4⟩
        | tup xs =>
          cases e2
          exact .inr ⟨m, W, ρ, _, W', eH, sr, rs, e1, fun v n x s1 r1 => by
            cases r1 with
            | tup g1 g2 => exact ⟨_, rfl, ⟨_, s1.sub.sqT g1⟩, k _ n x s1 (it_tup g1 g2)⟩⟩
        | _ => cases e2⟩

/-! ### ranges -/
def rngL (lo c : Int) (n : Nat) : List D := (List.range n).map fun i => D.int (lo + (i : Nat) * c)
theorem it_rng {K : PySem.W.Frag} {m : Mem} {lo : Int} {n : Nat} : ItOk K m (Itr lo n) ⟨rngL lo 1 n, yes⟩ := by
  intro k W x s _
  refine ⟨?_, fun i d e => ?_⟩
  · show n ≤ (rngL lo 1 n).length
    unfold rngL; rw [List.length_map, List.length_range]; exact Nat.le_refl _
  · unfold rngL at e
    rw [List.getElem?_map] at e
    have hi : i < n := by
      rcases Nat.lt_or_ge i n with z | z
      · exact z
      · rw [List.getElem?_eq_none (by rw [List.length_range]; exact z)] at e; cases e
    rw [List.getElem?_range hi] at e
    cases e
    refine ⟨hi, fun y H' hy => ?_⟩
    obtain ⟨e1, e2⟩ := hy
    subst e2
    exact ⟨k, e1.symm, Ext.refl k, s, by show Rp K k.Z k.mu _ (.int (lo + (i : Nat) * 1)); rw [Int.mul_one]; exact .int _⟩
theorem it_rngC {K : PySem.W.Frag} {m : Mem} {lo c : Int} {n : Nat} : ItOk K m (Itc lo c n) ⟨rngL lo c n, yes⟩ := by
  intro k W x s _
  refine ⟨?_, fun i d e => ?_⟩
  · show n ≤ (rngL lo c n).length
    unfold rngL; rw [List.length_map, List.length_range]; exact Nat.le_refl _
  · unfold rngL at e
    rw [List.getElem?_map] at e
    have hi : i < n := by
      rcases Nat.lt_or_ge i n with z | z
      · exact z
      · rw [List.getElem?_eq_none (by rw [List.length_range]; exact z)] at e; cases e
    rw [List.getElem?_range hi] at e
    cases e
    refine ⟨hi, fun y H' hy => ?_⟩
    obtain ⟨e1, e2⟩ := hy
    subst e2
    exact ⟨k, e1.symm, Ext.refl k, s, .int _⟩
def inR (j : Int) : Prop := j.natAbs ≤ 1000000
instance (j : Int) : Decidable (inR j) := inferInstanceAs (Decidable (_ ≤ _))
theorem inR.b {j : Int} (h : inR j) : -(2 ^ 62) ≤ j ∧ j < 2 ^ 62 := by unfold inR at h; omega
def rng1 : List D → Option Src
  | [.int j] => if inR j then some ⟨rngL 0 1 j.toNat, yes⟩ else none
  | _ => none
def rng2 : List D → Option Src
  | [.int i, .int j] => if inR i ∧ inR j then some ⟨rngL i 1 (j - i).toNat, yes⟩ else none
  | _ => none
/-- a step of -1 -/
def rng3 : List D → Option Src
  | [.int i, .int j, .int c] => if inR i ∧ inR j ∧ c = -1 then some ⟨rngL i (-1) (i - j).toNat, yes⟩ else none
  | _ => none
def fRng (g : List D → Option Src) (f : FA) : FI := fun ρ W => (f ρ W).bind fun p => (g p.1).map fun s => (s, p.2)
theorem fRng_some {g : List D → Option Src} {f : FA} {ρ : En} {W W' : Wd} {s : Src} (h : fRng g f ρ W = some (s, W')) : ∃ ds, f ρ W = some (ds, W') ∧ g ds = some s := by
  unfold fRng at h
  cases e : f ρ W with
  | none => rw [e] at h; cases h
  | some p =>
    rw [e, Option.bind_some] at h
    cases e2 : g p.1 with
    | none => rw [e2] at h; cases h
    | some z =>
      rw [e2] at h
      cases h
      exact ⟨p.1, rfl, e2⟩
section
variable {X : Cx} {tg a b c : Expr} {fa : FA} {p pos : Pos}
theorem ev_rng1 (hg : Gl X "range") (hm : X.mg "range" = none) (ha : EvA X [a] fa) (hs : starEach [a] X.env = [(false, eval a X.env)] := by rfl) : EvI X tg (.Call (.Name "range" p) [a] [] pos) (fRng rng1 fa) :=
  ⟨piI (pi_range1 hg hm ha.ok hs) fun σ H R ⟨m, W, ρ, s, W', eH, sr, rs, q, k⟩ => by
    obtain ⟨ds, e1, e2⟩ := fRng_some q
    unfold rng1 at e2
    split at e2
    · split at e2
      · rename_i j hj
        cases e2
        refine ⟨m, W, ρ, _, W', eH, sr, rs, e1, fun vs n x s1 r1 => ?_⟩
        obtain ⟨v, rfl, r2⟩ := rpa1 r1
        cases r2
        exact ⟨_, rfl, hj.b.1, hj.b.2, k _ n x s1 it_rng⟩
      · cases e2
    · cases e2⟩
theorem ev_rng2 (hg : Gl X "range") (hm : X.mg "range" = none) (ha : EvA X [a, b] fa) (hs : starEach [a, b] X.env = [(false, eval a X.env), (false, eval b X.env)] := by rfl) (hs2 : starEach [b] X.env = [(false, eval b X.env)] := by rfl) : EvI X tg (.Call (.Name "range" p) [a, b] [] pos) (fRng rng2 fa) :=
  ⟨piI (pi_range2 hg hm ha.ok hs hs2) fun σ H R ⟨m, W, ρ, s, W', eH, sr, rs, q, k⟩ => by
    obtain ⟨ds, e1, e2⟩ := fRng_some q
    unfold rng2 at e2
    split at e2
    · split at e2
      · rename_i i j hj
        cases e2
        refine ⟨m, W, ρ, _, W', eH, sr, rs, e1, fun vs n x s1 r1 => ?_⟩
        obtain ⟨v, u, rfl, r2, r3⟩ := rpa2 r1
        cases r2; cases r3
        exact ⟨_, _, rfl, ⟨hj.1.b.1, hj.1.b.2, hj.2.b.1, hj.2.b.2⟩, k _ n x s1 it_rng⟩
      · cases e2
    · cases e2⟩
theorem ev_rng3 (hg : Gl X "range") (hm : X.mg "range" = none) (ha : EvA X [a, b, c] fa) (hs : starEach [a, b, c] X.env = (false, eval a X.env) :: starEach [b, c] X.env := by rfl) (hpl : (backTo pos (starEach [b, c] X.env)).any (·.1) = false := by rfl) : EvI X tg (.Call (.Name "range" p) [a, b, c] [] pos) (fRng rng3 fa) :=
  ⟨piI (pi_range3 hg hm ha.ok hs hpl) fun σ H R ⟨m, W, ρ, s, W', eH, sr, rs, q, k⟩ => by
    obtain ⟨ds, e1, e2⟩ := fRng_some q
    unfold rng3 at e2
    split at e2
    · split at e2
      · rename_i i j c0 hj
        obtain ⟨h1, h2, rfl⟩ := hj
        have h1 := h1.b
        have h2 := h2.b
        cases e2
        refine ⟨m, W, ρ, _, W', eH, sr, rs, e1, fun vs n x s1 r1 => ?_⟩
        cases r1 with
        | cons r2 r1 =>
          obtain ⟨v, u, rfl, r3, r4⟩ := rpa2 r1
          cases r2; cases r3; cases r4
          exact ⟨_, _, _, _, rfl, RgC.neg (by have := h1.1; omega) (by have := h1.2; omega) (by have := h2.1; omega) (by have := h2.2; omega), k _ n x s1 it_rngC⟩
      · cases e2
    · cases e2⟩
end
end Ev

set_option Elab.async false
set_option linter.all false
set_option maxRecDepth 100000
namespace Ev
open PySem L2

/-! ### for -/
def forL (chk : Wd → Bool) (t : Tg) (b : FS) : List D → En → Wd → Option Out
  | [], ρ, W => if chk W = true then some (.nx ρ W) else none
  | d :: r, ρ, W => if chk W = true then (fTg t d ρ).bind fun ρ1 => (b ρ1 W).bind fun o => match o with
      | .nx ρ' W' => forL chk t b r ρ' W'
      | .ct ρ' W' => forL chk t b r ρ' W'
      | .bk ρ' W' => some (.nx ρ' W')
      | .rt v W' => some (.rt v W')
    else none
def fFor (s : FI) (t : Tg) (b : FS) : FS := fun ρ W => (s ρ W).bind fun p => forL p.1.chk t b p.1.items ρ p.2
def rdG (K : PySem.W.Frag) (t : Tg) : TG := fun v σ H Q => ∃ m W ρ d ρ', m.H = H ∧ SR K m W ∧ RpS K m σ ρ ∧ Rp K m.Z m.mu v d ∧ fTg t d ρ = some ρ' ∧
    ∀ us, RpS K m (setN σ t.slots us) ρ' → us.length = t.slots.length → Q (setN σ t.slots us) H
theorem EvG.rd {X : Cx} {e : Expr} {t : Tg} (h : EvG X e t) : PG X e (rdG X.K t) := h.ok
theorem ev_for {X : Cx} {tg iter : Expr} {body : List Stmt} {pos : Pos} {s : FI} {t : Tg} {b : FS} (hp : PassesOwn (model X.prog X.w) X.A X.env X.xe) (hc : X.calm = true) (hi : EvI X tg iter s) (hg : EvG X tg t) (hb : EvB X body b)
    (hs : ∀ x, foldedSetIterable iter X.env x = pure x := by intro _; rfl) : EvS X (.For tg iter body [] pos) (fFor s t b) :=
  ⟨psI (ps_for hp hc hi.ok hg.rd hb.ok hs) fun D σ H ⟨m, W, ρ, o, eH, sr, rs, q, k⟩ => by
    unfold fFor at q
    cases e1 : s ρ W with
    | none => rw [e1] at q; cases q
    | some p =>
      rw [e1, Option.bind_some] at q
      obtain ⟨src, W1⟩ := p
      refine ⟨m, W, ρ, src, W1, eH, sr, rs, e1, fun J n x s1 io => ?_⟩
      refine ⟨fun i μ σ' H' => μ = src.items.length - i ∧ i ≤ src.items.length ∧ ∃ n' W' ρ', n'.H = H' ∧ Ext n n' ∧ SR X.K n' W' ∧ RpS X.K n' σ' ρ' ∧ forL src.chk t b (src.items.drop i) ρ' W' = some o, ⟨_, rfl, Nat.zero_le _, n, W1, ρ, rfl, Ext.refl n, s1, rs.ext x, q⟩, ?_⟩
      rintro i μ σ' H' ⟨rfl, hi, n', W', ρ', rfl, x1, s2, r2, q2⟩
      have hchk : src.chk W' = true := by
        cases hd : src.items.drop i with
        | nil =>
          rw [hd] at q2
          unfold forL at q2
          split at q2
          · assumption
          · cases q2
        | cons d r =>
          rw [hd] at q2
          unfold forL at q2
          split at q2
          · assumption
          · cases q2
      obtain ⟨st, go⟩ := io n' W' x1 s2 hchk
      by_cases hlt : i < src.items.length
      · refine .inr ?_
        obtain ⟨g1, g2⟩ := go i src.items[i] (List.getElem?_eq_getElem hlt)
        refine ⟨g1, fun σ2 H2 => ∃ n' W' ρ', n'.H = H2 ∧ Ext n n' ∧ SR X.K n' W' ∧ RpS X.K n' σ2 ρ' ∧ forL src.chk t b (src.items.drop (i + 1)) ρ' W' = some o, fun σ2 H2 h => ⟨_, by omega, rfl, hlt, h⟩, fun y H2 hy => ?_⟩
        obtain ⟨l, rfl, x3, s3, r3⟩ := g2 y H2 hy
        rw [List.drop_eq_getElem_cons hlt] at q2
        unfold forL at q2
        rw [if_pos hchk] at q2
        cases e2 : fTg t src.items[i] ρ' with
        | none => rw [e2] at q2; cases q2
        | some ρ1 =>
          rw [e2, Option.bind_some] at q2
          cases e3 : b ρ1 W' with
          | none => rw [e3] at q2; cases q2
          | some o1 =>
            rw [e3, Option.bind_some] at q2
            refine ⟨l, W', ρ', _, ρ1, rfl, s3, r2.ext x3, r3, e2, fun us hu _ => ?_⟩
            refine ⟨l, W', ρ1, o1, rfl, s3, hu, e3, ?_⟩
            cases o1 with
            | nx ρ2 W2 => exact fun σ3 n3 x4 s4 r4 => ⟨n3, W2, ρ2, rfl, (x1.trans x3).trans x4, s4, r4, q2⟩
            | ct ρ2 W2 => exact fun σ3 n3 x4 s4 r4 => ⟨n3, W2, ρ2, rfl, (x1.trans x3).trans x4, s4, r4, q2⟩
            | bk ρ2 W2 => cases q2; exact fun σ3 n3 x4 s4 r4 => k σ3 n3 (((x.trans x1).trans x3).trans x4) s4 r4
            | rt v W2 => cases q2; exact fun w n3 x4 s4 r4 => k w n3 (((x.trans x1).trans x3).trans x4) s4 (r4.old fun _ z => ((x.trans x1).trans x3).fresh z)
      · have e : i = src.items.length := by omega
        subst e
        refine .inl ⟨st, ?_⟩
        rw [List.drop_length] at q2
        unfold forL at q2
        rw [if_pos hchk] at q2
        cases q2
        exact k σ' n' (x.trans x1) s2 r2⟩

/-! ### while -/
def whileN (t : FT) (b : FS) : Nat → En → Wd → Option Out
  | 0, _, _ => none
  | n + 1, ρ, W => (t ρ W).bind fun p => if p.1 = true then (b ρ p.2).bind fun o => match o with
      | .nx ρ' W' => whileN t b n ρ' W'
      | .ct ρ' W' => whileN t b n ρ' W'
      | .bk ρ' W' => some (.nx ρ' W')
      | .rt v W' => some (.rt v W')
    else some (.nx ρ p.2)
def wBound : Nat := 1000000
def fWhile (t : FT) (b : FS) : FS := whileN t b wBound
theorem ev_while {X : Cx} {c : Expr} {body : List Stmt} {pos : Pos} {t : FT} {b : FS} (hp : PassesOwn (model X.prog X.w) X.A X.env X.xe) (hc : EvT X c t) (hb : EvB X body b) : EvS X (.While c body [] pos) (fWhile t b) :=
  ⟨psI (ps_while hp hc.ok hb.ok) fun D σ H ⟨m, W, ρ, o, eH, sr, rs, q, k⟩ => by
    refine ⟨fun μ σ' H' => ∃ n' W' ρ', n'.H = H' ∧ Ext m n' ∧ SR X.K n' W' ∧ RpS X.K n' σ' ρ' ∧ whileN t b μ ρ' W' = some o, ⟨wBound, m, W, ρ, eH, Ext.refl m, sr, rs, q⟩, ?_⟩
    rintro μ σ' H' ⟨n', W', ρ', rfl, x1, s2, r2, q2⟩
    cases μ with
    | zero => cases q2
    | succ μ =>
      unfold whileN at q2
      cases e1 : t ρ' W' with
      | none => rw [e1] at q2; cases q2
      | some p =>
        rw [e1, Option.bind_some] at q2
        refine ⟨n', W', ρ', p.1, p.2, rfl, s2, r2, e1, fun n3 x3 s3 => ?_⟩
        by_cases hp : p.1 = true
        · rw [if_pos hp] at q2 ⊢
          cases e2 : b ρ' p.2 with
          | none => rw [e2] at q2; cases q2
          | some o1 =>
            rw [e2, Option.bind_some] at q2
            refine ⟨fun σ2 H2 => ∃ n' W' ρ', n'.H = H2 ∧ Ext m n' ∧ SR X.K n' W' ∧ RpS X.K n' σ2 ρ' ∧ whileN t b μ ρ' W' = some o, fun σ2 H2 h => ⟨μ, Nat.lt_succ_self _, h⟩, ?_⟩
            refine ⟨n3, p.2, ρ', o1, rfl, s3, r2.ext x3, e2, ?_⟩
            cases o1 with
            | nx ρ2 W2 => exact fun σ3 n4 x4 s4 r4 => ⟨n4, W2, ρ2, rfl, (x1.trans x3).trans x4, s4, r4, q2⟩
            | ct ρ2 W2 => exact fun σ3 n4 x4 s4 r4 => ⟨n4, W2, ρ2, rfl, (x1.trans x3).trans x4, s4, r4, q2⟩
            | bk ρ2 W2 => cases q2; exact fun σ3 n4 x4 s4 r4 => k σ3 n4 ((x1.trans x3).trans x4) s4 r4
            | rt v W2 => cases q2; exact fun w n4 x4 s4 r4 => k w n4 ((x1.trans x3).trans x4) s4 (r4.old fun _ z => (x1.trans x3).fresh z)
        · rw [if_neg hp] at q2 ⊢
          cases q2
          exact k σ' n3 (x1.trans x3) s3 (r2.ext x3)⟩

/-! ### list comprehensions -/
def wipeE (ρ : En) : List Nat → En
  | [] => ρ
  | v :: vs => (wipeE ρ vs).set v none
theorem wipe_at {α : Type} (f : List (Option α) → List Nat → List (Option α)) (h0 : ∀ σ, f σ [] = σ) (h1 : ∀ σ v vs, f σ (v :: vs) = (f σ vs).set v none) (σ : List (Option α)) (j : Nat) :
    ∀ vs : List Nat, (f σ vs)[j]? = if j ∈ vs then (σ[j]?).map fun _ => none else σ[j]?
  | [] => by rw [h0]; simp
  | v :: vs => by
    rw [h1]
    have ih := wipe_at f h0 h1 σ j vs
    by_cases hv : v = j
    · subst hv
      rw [if_pos List.mem_cons_self, List.getElem?_set_self']
      rw [ih]
      split <;> (cases σ[v]? <;> rfl)
    · rw [List.getElem?_set_ne hv, ih]
      have e : (j ∈ v :: vs) = (j ∈ vs) := by
        simp only [List.mem_cons, eq_iff_iff]
        exact ⟨fun h => h.elim (fun q => (hv q.symm).elim) id, .inr⟩
      simp only [e]
theorem wipe_get (σ : St) (vs : List Nat) (j : Nat) : (wipe σ vs)[j]? = if j ∈ vs then (σ[j]?).map fun _ => none else σ[j]? := wipe_at wipe (fun _ => rfl) (fun _ _ _ => rfl) σ j vs
theorem wipeE_get (σ : En) (vs : List Nat) (j : Nat) : (wipeE σ vs)[j]? = if j ∈ vs then (σ[j]?).map fun _ => none else σ[j]? := wipe_at wipeE (fun _ => rfl) (fun _ _ _ => rfl) σ j vs
theorem wipeE_length (ρ : En) : ∀ vs : List Nat, (wipeE ρ vs).length = ρ.length
  | [] => rfl
  | v :: vs => by unfold wipeE; rw [List.length_set, wipeE_length ρ vs]
theorem RpS.wipe {K : PySem.W.Frag} {m : Mem} {σ : St} {ρ : En} (h : RpS K m σ ρ) (vs : List Nat) : RpS K m (L2.wipe σ vs) (wipeE ρ vs) := by
  refine ⟨by rw [wipe_length, wipeE_length]; exact h.1, fun i d e => ?_⟩
  rw [wipeE_get] at e
  rw [wipe_get]
  split at e
  · cases q : ρ[i]? with
    | none => rw [q] at e; cases e
    | some o => rw [q] at e; cases e
  · rename_i hi
    rw [if_neg hi]
    exact h.2 i d e
theorem wipe_wipe {σ : St} {vs : List Nat} : wipe (wipe σ vs) vs = wipe σ vs := by
  refine List.ext_getElem? fun j => ?_
  rw [wipe_get, wipe_get]
  by_cases hj : j ∈ vs
  · rw [if_pos hj, if_pos hj]
    cases σ[j]? <;> rfl
  · rw [if_neg hj, if_neg hj]
theorem wipe_set {σ : St} {i : Nat} {v : V} {vs : List Nat} (hi : i ∈ vs) : wipe (σ.set i (some v)) vs = wipe σ vs := by
  refine List.ext_getElem? fun j => ?_
  rw [wipe_get, wipe_get]
  by_cases hj : i = j
  · subst hj
    rw [if_pos hi, if_pos hi, List.getElem?_set_self']
    cases σ[i]? <;> rfl
  · rw [List.getElem?_set_ne hj]
theorem wipe_setN : ∀ {is : List Nat} {us : List V} {σ : St} {vs : List Nat}, (∀ i ∈ is, i ∈ vs) → wipe (setN σ is us) vs = wipe σ vs
  | [], _, _, _, _ => rfl
  | _ :: _, [], _, _, _ => rfl
  | i :: is, u :: us, σ, vs, h => by
    show wipe (setN (σ.set i (some u)) is us) vs = _
    rw [wipe_setN (is := is) (us := us) fun j hj => h j (List.mem_cons_of_mem _ hj)]
    exact wipe_set (h i List.mem_cons_self)
theorem setN_len {α : Type} : ∀ {is : List Nat} {us : List α} {σ : List (Option α)}, (setN σ is us).length = σ.length
  | [], _, _ => rfl
  | _ :: _, [], _ => rfl
  | i :: is, u :: us, σ => by
    show (setN (σ.set i (some u)) is us).length = _
    rw [setN_len, List.length_set]
def lcL (al : Bool) (chk : Wd → Bool) (t : Tg) (c : FT) (f : FE) (ρ : En) : List D → Wd → List D → Option (List D × Wd)
  | [], W, acc => if chk W = true then some (acc, W) else none
  | d :: r, W, acc => if chk W = true then (fTg t d ρ).bind fun ρ1 => (c ρ1 W).bind fun p => if p.1 = true then
      (f ρ1 p.2).bind fun q => if acc.length < sizeLine then lcL al chk t c f ρ r (toD al q.1 q.2).2 (acc ++ [(toD al q.1 q.2).1]) else none
      else lcL al chk t c f ρ r p.2 acc
    else none
def fLc (al : Bool) (vs : List Nat) (s : FI) (t : Tg) (c : FT) (f : FE) : FE := fun ρ W => (s ρ W).bind fun p => (lcL al p.1.chk t c f (wipeE ρ vs) p.1.items p.2 []).map fun q => (.fr q.1, q.2)
def fYes : FT := fun _ W => some (true, W)
structure EvTs (X : Cx) (ifs : List Expr) (f : FT) : Prop where
  ok : PTs X ifs (rdT X.K f)
theorem ptsI {X : Cx} {e : List Expr} {t u : TT} (h : PTs X e t) (i : ∀ σ H Q, u σ H Q → t σ H Q) : PTs X e u := ⟨fun pins s σ H Q I q => h.run pins s σ H Q I (i σ H Q q)⟩
theorem ets_nil {X : Cx} : EvTs X [] fYes := ⟨ptsI pts_nil fun σ H Q ⟨m, W, ρ, b, W', eH, sr, rs, e, k⟩ => by
  cases e
  show Q true H
  rw [← eH]
  exact k m (Ext.refl m) sr⟩
theorem ets_one {X : Cx} {c : Expr} {f : FT} (h : EvT X c f) : EvTs X [c] f := ⟨pts_one h.ok⟩
/-- a list nobody knows is written -/
theorem priv_ext {m n : Mem} {p : Addr} {o : HO} (e : Ext m n) (hp : m.H p = none) : Ext m ⟨upd n.H p o, n.Z, n.mu⟩ :=
  ⟨e.zle, e.mu, fun a u q h => by
    show upd n.H p o a = some u
    rw [upd_ne (ne_of_none q hp)]; exact e.keep a u q h, fun a q => by
    show upd n.H p o a ≠ none
    by_cases z : a = p
    · subst z; rw [upd_same]; simp
    · rw [upd_ne z]; exact e.live a q, e.zold, e.munew⟩
theorem priv_sr {K : PySem.W.Frag} {n : Mem} {W : Wd} {p : Addr} {o : HO} (s : SR K n W) (hz : n.Z p = none) (hm : p ∉ n.mu) : SR K ⟨upd n.H p o, n.Z, n.mu⟩ W :=
  ⟨fun a u q => by
    show upd n.H p o a = some u
    rw [upd_ne (ne_of_none q hz)]; exact s.sub a u q, s.nd, s.len, fun i a c e1 e2 => CellOk.ext (m := n) (hc := s.cell i a c e1 e2) ⟨upd n.H p o, n.Z, n.mu⟩ (Sub.refl _) (fun _ _ q => q) fun u q => by
      show upd n.H p o a = some u
      rw [upd_ne fun z => hm (by rw [← z]; exact List.mem_of_getElem? e1)]; exact q, s.zf⟩
section
variable {X : Cx}
theorem rd_lc {K : PySem.W.Frag} {al : Bool} {vs : List Nat} {s : FI} {t : Tg} {c : FT} {f : FE} (ht : ∀ i ∈ t.slots, i ∈ vs) {σ : St} {H : Hp} {Q : VK} (q : rdE K (fLc al vs s t c f) σ H Q) : tLc (rdI K s) (rdG K t) (rdT K c) (rdE K f) vs σ H Q := by
  obtain ⟨m, W, ρ, r, W', eH, sr, rs, q, k⟩ := q
  unfold fLc at q
  cases e1 : s ρ W with
  | none => rw [e1] at q; cases q
  | some p =>
    rw [e1, Option.bind_some] at q
    obtain ⟨src, W1⟩ := p
    cases e2 : lcL al src.chk t c f (wipeE ρ vs) src.items W1 [] with
    | none =>
      have q : (lcL al src.chk t c f (wipeE ρ vs) src.items W1 []).map _ = some (r, W') := q
      rw [e2] at q; cases q
    | some z =>
      have q : (lcL al src.chk t c f (wipeE ρ vs) src.items W1 []).map _ = some (r, W') := q
      rw [e2] at q
      cases q
      obtain ⟨ys, W'⟩ := z
      refine ⟨m, W, ρ, src, W1, eH, sr, rs, e1, fun J n x s1 io => ?_⟩
      intro D hD
      refine ⟨fun i μ H' => μ = src.items.length - i ∧ i ≤ src.items.length ∧ ∃ n' W2 acc us, n'.H = H' ∧ Ext n n' ∧ SR K n' W2 ∧ n'.H D = some (.lst us) ∧ RpA K n'.Z n'.mu us acc ∧ n'.Z D = none ∧ D ∉ n'.mu ∧ lcL al src.chk t c f (wipeE ρ vs) (src.items.drop i) W2 acc = some (ys, W'),
        ⟨_, rfl, Nat.zero_le _, ⟨upd n.H D (.lst []), n.Z, n.mu⟩, W1, [], [], rfl, laid_ext s1 hD _, laid_sr s1 hD _, upd_same, .nil, s1.zn hD, s1.mun hD, e2⟩, ?_⟩
      rintro i μ H' ⟨rfl, hi, n', W2, acc, us, rfl, x1, s2, d1, d2, d3, d4, q2⟩
      have hchk : src.chk W2 = true := by
        cases hd : src.items.drop i with
        | nil =>
          rw [hd] at q2
          unfold lcL at q2
          split at q2
          · assumption
          · cases q2
        | cons d r =>
          rw [hd] at q2
          unfold lcL at q2
          split at q2
          · assumption
          · cases q2
      obtain ⟨st, go⟩ := io n' W2 x1 s2 hchk
      by_cases hlt : i < src.items.length
      · refine .inr ?_
        obtain ⟨g1, g2⟩ := go i src.items[i] (List.getElem?_eq_getElem hlt)
        refine ⟨g1, fun H2 => ∃ n' W2 acc us, n'.H = H2 ∧ Ext n n' ∧ SR K n' W2 ∧ n'.H D = some (.lst us) ∧ RpA K n'.Z n'.mu us acc ∧ n'.Z D = none ∧ D ∉ n'.mu ∧ lcL al src.chk t c f (wipeE ρ vs) (src.items.drop (i + 1)) W2 acc = some (ys, W'),
          fun H2 h => ⟨_, by omega, rfl, hlt, h⟩, fun y H2 hy => ?_⟩
        obtain ⟨l, rfl, x3, s3, r3⟩ := g2 y H2 hy
        rw [List.drop_eq_getElem_cons hlt] at q2
        unfold lcL at q2
        rw [if_pos hchk] at q2
        cases e3 : fTg t src.items[i] (wipeE ρ vs) with
        | none => rw [e3] at q2; cases q2
        | some ρ1 =>
          rw [e3, Option.bind_some] at q2
          cases e4 : c ρ1 W2 with
          | none => rw [e4] at q2; cases q2
          | some pc =>
            rw [e4, Option.bind_some] at q2
            have rw0 : RpS K l (wipe σ vs) (wipeE ρ vs) := ((rs.ext x).ext (x1.trans x3)).wipe vs
            have live : n'.H D ≠ none := by rw [d1]; simp
            refine ⟨l, W2, wipeE ρ vs, _, ρ1, rfl, s3, rw0, r3, e3, fun ws hw _ => ⟨?_, ?_⟩⟩
            · rw [wipe_setN ht, wipe_wipe]
            refine ⟨l, W2, ρ1, pc.1, pc.2, rfl, s3, hw, e4, fun n4 x4 s4 => ?_⟩
            have x34 := x3.trans x4
            by_cases hp : pc.1 = true
            · rw [if_pos hp] at q2
              refine ite2 (fun _ => ?_) fun z => absurd hp z
              cases e5 : f ρ1 pc.2 with
              | none => rw [e5] at q2; cases q2
              | some pf =>
                rw [e5, Option.bind_some] at q2
                split at q2
                · rename_i hl
                  refine ⟨n4, pc.2, ρ1, pf.1, pf.2, rfl, s4, hw.ext x4, e5, fun v n5 x5 s5 r5 => ?_⟩
                  obtain ⟨k5, ek, xk, gk, sk, rk⟩ := toD_ok al x5 s5 r5
                  have xa := x34.trans xk
                  have dk : k5.H D = some (.lst us) := xa.keep _ _ d1 d4
                  have zk : k5.Z D = none := (xa.zold D live).trans d3
                  have mk : D ∉ k5.mu := fun h => by
                    rcases xa.munew D h with z | z
                    · exact d4 z
                    · exact live z
                  have ak := RpA.ext xa d2
                  rw [← ek]
                  refine ⟨us, dk, by rw [d2.length]; exact hl, ⟨upd k5.H D (.lst (us ++ [v])), k5.Z, k5.mu⟩, _, _, us ++ [v], rfl, priv_ext (x1.trans xa) hD, priv_sr sk zk mk, upd_same, ak.app (.cons rk .nil), zk, mk, q2⟩
                · cases q2
            · rw [if_neg hp] at q2
              refine ite2 (fun z => absurd z hp) fun _ => ?_
              exact ⟨n4, pc.2, acc, us, rfl, x1.trans x34, s4, x34.keep _ _ d1 d4, RpA.ext x34 d2, (x34.zold D live).trans d3, fun h => by
                rcases x34.munew D h with z | z
                · exact d4 z
                · exact live z, q2⟩
      · have e : i = src.items.length := by omega
        subst e
        refine .inl ⟨st, ?_⟩
        rw [List.drop_length] at q2
        unfold lcL at q2
        rw [if_pos hchk] at q2
        cases q2
        exact k (.ref D) n' (x.trans x1) s2 ⟨D, us, rfl, d1, d2, d3, d4, x.fresh hD⟩
variable {elt tg iter : Expr} {ifs : List Expr} {scope : Scope} {own : List (Str × Nat)} {pos : Pos} {s : FI} {t : Tg} {c : FT} {f : FE}
theorem ev_lc (al : Bool) (own : List (Str × Nat)) (hc : X.calm = true) (hN : X.N.Nodup) (hi : EvI X tg iter s) (ok : BlkOk X.N X.env.scope scope own)
    (hg : ∀ (s : Shared) (H : Hp) (C : Addr) (cl : List (Str × Addr)) (fp : List Addr), EvG (X.blk s H scope (compEnvC scope cl C X.env) fp) tg t) (ht : ∀ (s : Shared) (H : Hp) (C : Addr) (cl : List (Str × Addr)) (fp : List Addr), EvTs (X.blk s H scope (compEnvC scope cl C X.env) fp) ifs c)
    (he : ∀ (s : Shared) (H : Hp) (C : Addr) (cl : List (Str × Addr)) (fp : List Addr), EvE (X.blk s H scope (compEnvC scope cl C X.env) fp) elt f) (hsl : ∀ i ∈ t.slots, i ∈ own.map (·.2)) (hs : ∀ x, foldedSetIterable iter X.env x = pure x := by intro _; rfl) :
    EvE X (.ListComp elt [⟨tg, iter, ifs, 0⟩] scope pos) (fLc al (own.map (·.2)) s t c f) :=
  ⟨peI (pe_lc (own := own) hc hN hi.ok ok (fun s H C cl fp => (hg s H C cl fp).rd) (fun s H C cl fp => (ht s H C cl fp).ok) (fun s H C cl fp => (he s H C cl fp).ok) hs) fun _ _ _ q => rd_lc hsl q⟩
theorem rdG_one {K : PySem.W.Frag} {i : Nat} {v : V} {σ : St} {H : Hp} {Q : St → Hp → Prop} (q : rdG K (.one i) v σ H Q) : gName i v σ H Q := by
  obtain ⟨m, W, ρ, d, ρ', eH, sr, rs, rv, e, k⟩ := q
  cases e
  exact k [v] (rs.set rv i) rfl
/-- y = [..] as a statement of its own -/
theorem ev_setLc {i : Nat} {y : Str} {py spos : Pos} (al al2 : Bool) (own : List (Str × Nat)) (hc : X.calm = true) (hN : X.N.Nodup) (hy : X.N[i]? = some y) (hyl : X.env.scope.names.lookup y = some .local)
    (hsw : swapsWith (.ListComp elt [⟨tg, iter, ifs, 0⟩] scope pos) (some (.Name y py)) spos.line X.env = pure true) (hi : EvI X tg iter s) (ok : BlkOk X.N X.env.scope scope own)
    (hg : ∀ (s : Shared) (H : Hp) (C : Addr) (cl : List (Str × Addr)) (fp : List Addr), EvG (X.blk s H scope (compEnvC scope cl C X.env) fp) tg t) (ht : ∀ (s : Shared) (H : Hp) (C : Addr) (cl : List (Str × Addr)) (fp : List Addr), EvTs (X.blk s H scope (compEnvC scope cl C X.env) fp) ifs c)
    (he : ∀ (s : Shared) (H : Hp) (C : Addr) (cl : List (Str × Addr)) (fp : List Addr), EvE (X.blk s H scope (compEnvC scope cl C X.env) fp) elt f) (hsl : ∀ i ∈ t.slots, i ∈ own.map (·.2)) (hs : ∀ x, foldedSetIterable iter X.env x = pure x := by intro _; rfl) :
    EvS X (.Assign [.Name y py] (.ListComp elt [⟨tg, iter, ifs, 0⟩] scope pos) spos) (fAsg al2 (.one i) (fLc al (own.map (·.2)) s t c f)) :=
  ⟨psI (ps_setLc (own := own) hc hN hy hyl hsw hi.ok ok (fun s H C cl fp => (hg s H C cl fp).rd) (fun s H C cl fp => (ht s H C cl fp).ok) (fun s H C cl fp => (he s H C cl fp).ok) hs) fun D σ H q => by
    obtain ⟨m, W, ρ, o, eH, s0, r, e, k⟩ := q
    unfold fAsg at e
    cases e1 : fLc al (own.map (·.2)) s t c f ρ W with
    | none => rw [e1] at e; cases e
    | some p =>
      rw [e1, Option.bind_some] at e
      have e : (some (ρ.set i (some (toD al2 p.1 p.2).1))).map _ = some o := e
      cases e
      refine rd_lc hsl ⟨m, W, ρ, p.1, p.2, eH, s0, r, e1, fun v n x s' r' => ?_⟩
      obtain ⟨l, el, xl, gl, sl, rl⟩ := toD_ok al2 x s' r'
      show D.nx (σ.set i (some v)) n.H
      rw [← el]
      exact k _ l xl sl (((r.ext x).gr gl).set rl i)⟩
end
end Ev

set_option Elab.async false
set_option linter.all false
set_option maxRecDepth 100000
namespace Ev
open PySem PySem.Spec L2
open PyProof.Rows (envOfC)

/-! ### a def's promise where no repr runs (guards) -/
abbrev Quiet (A : Around) : Prop := A.guards = some []
structure FnG (P : Program) (w : World) (K : PySem.W.Frag) (mg : Str → Option Value) (base : Heap) (k : Nat) (f : Addr) (fd : FuncData) (ps : List Str) (sp : Sp) : Prop where
  len : ∀ vs H Q E, sp vs H Q E → vs.length = ps.length
  run : ∀ (A : Around) (outer : List Env) (s : Shared) (H : Hp) (args : Args) (us : List Value) (vs : List V) (Q : VK) (E : XK), Quiet A → Room k A → Env0 P w K mg base A outer s H → BindsTo s fd args (ps.zip us) → Vals vs us → sp vs H Q E →
    codeAny (model P w) A (.call (.ref f) args) (CR CX0 outer P w H s Q E) s
section
variable {P : Program} {w : World} {K : PySem.W.Frag} {mg : Str → Option Value} {base : Heap}
theorem fn_ofG {k : Nat} {f : Addr} {fd : FuncData} {x qual : Str} {st : Stmt} {N ps : List Str} {sp : Sp} (F : Fun K x qual st f fd) (S : FnScope N ps (defScope st)) (len : ∀ vs H Q E, sp vs H Q E → vs.length = ps.length)
    (body : ∀ (cdv : Value) (A : Around) (outer : List Env) (s : Shared) (H : Hp) (vs : List V) (Q : VK) (E : XK), Quiet A → Room k (A.deeper (envOfC qual (defScope st) s.heap.objs.size f cdv)) → sp vs H Q E →
      ∃ t, PSs (cxOf CX0 P w K mg base N qual (defScope st) f cdv A outer s H E).nox (defBody st) t ∧ t { nx := fun _ H' => Q .non H', rt := Q } (start N vs) H) : FnG P w K mg base (k + 1) f fd ps sp := by
  obtain ⟨oc, od, kV, doc, pm, an, cdv, ct, osl, hfd, lk, hcd⟩ := F.ex
  subst hfd
  refine ⟨len, fun A outer s H args us vs Q E quiet room e0 bound rel hsp => ?_⟩
  have inK : K.In s.heap := e0.mod.kin.keeps fun b o e => (e0.bs b o e).1
  have free : s.heap.NoLimit := e0.mod.nolimit.keeps fun b o e => (e0.bs b o e).1
  have kinds : ∀ y ∈ ps.zip us, (defScope st).names.lookup y.1 = some .local ∨ ((defScope st).names.lookup y.1 = some .cell ∧ ((cellsFrom (s.heap.objs.size + 1) (defScope st).names []).lookup y.1).isSome = true) := fun ⟨n, v⟩ hy =>
    (S.par n (List.of_mem_zip hy).1).imp id fun q => ⟨q, PySem.W.cellsFrom_some _ _ _ (.inl q)⟩
  refine codeAny_call_function room.depth (inK _ _ lk) rfl S.co S.gen rfl (PySem.W.codeRec_of inK hcd) (bound _ _ _ _ ?_)
  refine wpAny_newFunctionEnv_cells S.kind kinds fun env he s1 inside => ?_
  subst he
  refine ⟨free.keeps inside.toInCall.keep, codeAny_func ?_⟩
  obtain ⟨t, ht, hq⟩ := body cdv A outer s H vs Q E quiet (room.deeper _) hsp
  have inv := inv_start (CX := CX0) (E := E) S room.hd e0 (len _ _ _ _ hsp) rel inside
  refine wpAny_mono (ht.nox.run [] s1 (start N vs) H _ inv hq) (fun fl s' done => ?_) fun _ _ z => z
  have close : ∀ {σ' : St} {H' : Hp} {v : V} {u : Value}, Inv (cxOf CX0 P w K mg base N qual (defScope st) f cdv A outer s H E) [] σ' H' s' → RelV v u → Q v H' → CE outer P w H s Q u s' :=
    fun {_ H' v _} J r q => ⟨v, H', J.os, J.bare, J.base, J.hok, r, q⟩
  cases fl with
  | next => exact (let ⟨_, _, J, q⟩ := done; close (v := V.non) (u := Value.none) J rfl q)
  | ret u => exact (let ⟨_, _, _, J, r, q⟩ := done; close J r q)
  | brk => exact (let ⟨_, _, _, q⟩ := done; False.elim q)
  | cont => exact (let ⟨_, _, _, q⟩ := done; False.elim q)
theorem FnG.mono {j k : Nat} {f : Addr} {fd : FuncData} {ps : List Str} {sp : Sp} (F : FnG P w K mg base j f fd ps sp) (h : j ≤ k) : FnG P w K mg base k f fd ps sp :=
  ⟨F.len, fun A outer s H args us vs Q E q r => F.run A outer s H args us vs Q E q (r.mono h)⟩
end
section
variable {X : Cx} {k : Nat} {f : Addr} {fd : FuncData} {ps : List Str} {sp : Sp}
theorem run_fnG {pins : List (Addr × Obj)} {σ : St} {H : Hp} {s : Shared} {Q : VK} {us : List Value} {vs : List V} (F : FnG X.prog X.w X.K X.mg X.base k f fd ps sp) (hq : Quiet X.A) (hr : Room k X.A) (hb : Binds X.K fd ps []) (I : Inv X pins σ H s) (r : Vals vs us) (h : sp vs H Q E0) :
    wpAny (model X.prog X.w) X.A (call (.ref f) us) (EP X pins σ Q) X.xe s := by
  have hl : us.length = ps.length := r.length.symm.trans (F.len _ _ _ _ h)
  have bound := hb s us I.kIn (by rw [List.append_nil]; exact hl)
  rw [List.append_nil] at bound
  refine wpAny_call (codeAny_mono (F.run X.A X.stack s H ⟨us, []⟩ us vs Q E0 hq hr I.env0 bound r h) fun res s' done => ?_)
  cases res with
  | error e => exact False.elim done
  | ok fl =>
    cases fl with
    | ret u => exact I.after done
    | next => exact False.elim done
    | brk => exact False.elim done
    | cont => exact False.elim done

/-! ### the promise by a run over data -/
abbrev Run := List D → Wd → Option (R × Wd)
def spR (K : PySem.W.Frag) (ar : Nat) (φ : Run) : Sp := fun vs H Q _ => vs.length = ar ∧ ∃ m W ds r W', m.H = H ∧ SR K m W ∧ RpA K m.Z m.mu vs ds ∧ φ ds W = some (r, W') ∧ ∀ v n, Ext m n → SR K n W' → RpR K m.H n v r → Q v n.H
def fCall (φ : Run) (g : FA) : FE := fun ρ W => (g ρ W).bind fun p => φ p.1 p.2
theorem rd_call {K : PySem.W.Frag} {φ : Run} {g : FA} {σ : St} {H : Hp} {Q : VK} (q : rdE K (fCall φ g) σ H Q) {ar : Nat} (hl : ∀ ρ W ds W', g ρ W = some (ds, W') → ds.length = ar) : rdA K g σ H fun vs H1 => spR K ar φ vs H1 Q E0 := by
  obtain ⟨m, W, ρ, r, W', eH, sr, rs, e, k⟩ := q
  unfold fCall at e
  cases e1 : g ρ W with
  | none => rw [e1] at e; cases e
  | some p =>
    rw [e1, Option.bind_some] at e
    exact ⟨m, W, ρ, p.1, p.2, eH, sr, rs, e1, fun vs n x s1 r1 => ⟨by rw [r1.length]; exact hl _ _ _ _ e1, n, p.2, p.1, r, W', rfl, s1, r1, e, fun v n2 x2 s2 r2 => k v n2 (x.trans x2) s2 (r2.old fun _ z => x.fresh z)⟩⟩
/-- how many arguments a list hands on -/
def FAn (g : FA) (n : Nat) : Prop := ∀ ρ W ds W', g ρ W = some (ds, W') → ds.length = n
theorem fan_nil : FAn fNilA 0 := fun _ _ _ _ e => by cases e; rfl
theorem fan_cons {al : Bool} {f : FE} {g : FA} {n : Nat} (h : FAn g n) : FAn (fCons al f g) (n + 1) := fun ρ W ds W' e => by
  unfold fCons at e
  cases e1 : f ρ W with
  | none => rw [e1] at e; cases e
  | some p =>
    rw [e1, Option.bind_some] at e
    cases e2 : g ρ (toD al p.1 p.2).2 with
    | none => rw [e2] at e; cases e
    | some z =>
      rw [e2] at e
      cases e
      rw [List.length_cons, h _ _ _ _ e2]
variable {x : Str} {p pos : Pos} {e : Expr} {es : List Expr} {g : FA} {φ : Run} {ar : Nat}
theorem ev_call (F : FnG X.prog X.w X.K X.mg X.base k f fd ps (spR X.K ar φ)) (hq : Quiet X.A) (hr : Room k X.A) (hg : Gl X x) (hm : X.mg x = some (.ref f)) (hk : PySem.W.keepIn X.K (.ref f) = true) (hb : Binds X.K fd ps []) (ha : EvA X (e :: es) g) (hn : FAn g ar)
    (hdb : (x == ("__debug__" : Str)) = false := by decide) (he : starEach (e :: es) X.env = (false, eval e X.env) :: starEach es X.env := by rfl) (hpl : (backTo pos (starEach es X.env)).any (·.1) = false := by rfl) : EvE X (.Call (.Name x p) (e :: es) [] pos) (fCall φ g) := by
  refine ⟨⟨fun pins s σ H Q I h => ?_⟩⟩
  refine wpAny_Call_Name_kw (ld_glob I hg hm ?_ hdb)
  refine PySem.W.callWith_K (h₀ := X.base) I.ok.mod.kin hk (thn (ha.ok.run pos pins s σ H _ I (rd_call h hn)) fun us s1 ⟨vs, H1, I1, r, q⟩ => ⟨I1.kIn, ?_⟩) he hpl
  exact run_fnG F hq hr hb I1 r q
theorem ev_call0 (F : FnG X.prog X.w X.K X.mg X.base k f fd ps (spR X.K 0 φ)) (hq : Quiet X.A) (hr : Room k X.A) (hg : Gl X x) (hm : X.mg x = some (.ref f)) (hk : PySem.W.keepIn X.K (.ref f) = true) (hb : Binds X.K fd ps []) (hdb : (x == ("__debug__" : Str)) = false := by decide) : EvE X (.Call (.Name x p) [] [] pos) (fCall φ fNilA) := by
  refine ⟨⟨fun pins s σ H Q I h => ?_⟩⟩
  refine wpAny_Call_Name_kw (ld_glob I hg hm ?_ hdb)
  refine PySem.W.callWith_K0 I.kIn hk (run_fnG (us := []) (vs := []) F hq hr hb I .nil ?_)
  obtain ⟨m, W, ρ, r, W', eH, sr, rs, q, k⟩ := h
  exact ⟨rfl, m, W, [], r, W', eH, sr, .nil, q, k⟩
end

/-! ### a def's end: its own cells are settled -/
mutual
def frzS (h : Nat → Option D) : D → Option D
  | .non => some .non
  | .bl b => some (.bl b)
  | .int i => some (.int i)
  | .str x => some (.str x)
  | .rol ns => some (.rol ns)
  | .tup xs => (frzA h xs).map .tup
  | .lst xs => (frzA h xs).map .lst
  | .hdl n => h n
def frzA (h : Nat → Option D) : List D → Option (List D)
  | [] => some []
  | d :: r => (frzS h d).bind fun x => (frzA h r).map fun q => x :: q
end
def frzH (W : Wd) (base : Nat) (ex : Option Nat) : Nat → Nat → Option D
  | 0, k => if k < base then some (.hdl k) else none
  | n + 1, k => if k < base then some (.hdl k) else if ex = some k then none else (W[k]?).bind fun c => match c with
    | .lst xs => (frzA (frzH W base ex n) xs).map .lst
mutual
def pureD : D → Bool
  | .tup xs => pureA xs
  | .lst xs => pureA xs
  | .hdl _ => false
  | _ => true
def pureA : List D → Bool
  | [] => true
  | d :: r => pureD d && pureA r
end
mutual
theorem frz_pure (h : Nat → Option D) : ∀ d : D, pureD d = true → frzS h d = some d
  | .non, _ => by simp [frzS]
  | .bl _, _ => by simp [frzS]
  | .int _, _ => by simp [frzS]
  | .str _, _ => by simp [frzS]
  | .rol _, _ => by simp [frzS]
  | .tup xs, e => by
    have e : pureA xs = true := by simpa [pureD] using e
    simp [frzS, frzA_pure h xs e]
  | .lst xs, e => by
    have e : pureA xs = true := by simpa [pureD] using e
    simp [frzS, frzA_pure h xs e]
  | .hdl _, e => by simp [pureD] at e
theorem frzA_pure (h : Nat → Option D) : ∀ ds : List D, pureA ds = true → frzA h ds = some ds
  | [], _ => by simp [frzA]
  | d :: r, e => by
    have e : pureD d = true ∧ pureA r = true := by simpa [pureA] using e
    simp [frzA, frz_pure h d e.1, frzA_pure h r e.2]
end
def okCell (c c' : Cell) : Bool := match c, c' with
  | .lst xs, .lst ys => sameA xs ys || pureA ys
def okCells : Wd → Wd → Bool
  | [], [] => true
  | c :: r, c' :: r' => okCell c c' && okCells r r'
  | _, _ => false
def fin (h : Bool) (W : Wd) (r : R) (W' : Wd) : Option (R × Wd) :=
  if h = true then some (r, W')
  else if W'.length = W.length then some (r, W')
  else if okCells W (W'.take W.length) = true then match r with
    | .fr xs => (frzA (frzH W' W.length none 8) xs).map fun ys => (.fr ys, W'.take W.length)
    | .d (.hdl k) => if k < W.length then some (.d (.hdl k), W'.take W.length) else (W'[k]?).bind fun c => match c with
      | .lst xs => (frzA (frzH W' W.length (some k) 8) xs).map fun ys => (.fr ys, W'.take W.length)
    | .d x => (frzS (frzH W' W.length none 8) x).map fun y => (.d y, W'.take W.length)
  else none
end Ev

set_option Elab.async false
set_option linter.all false
set_option maxRecDepth 100000
namespace Ev
open PySem PySem.Spec L2
open PyProof.Rows (envOfC)

section
variable {K : PySem.W.Frag} {m n : Mem} {W W' : Wd}
theorem getElem_lt {α : Type} {l : List α} {i : Nat} {x : α} (h : l[i]? = some x) : i < l.length := by
  rcases Nat.lt_or_ge i l.length with q | q
  · exact q
  · rw [List.getElem?_eq_none q] at h; cases h
/-- the heap of what is settled behind a def: its own cells' lists too, but the one at ex -/
def zFin (m n : Mem) (ex : Option Addr) : Hp := fun a => if a ∈ n.mu ∧ a ∉ m.mu ∧ ex ≠ some a then n.H a else n.Z a
theorem zFin_sub (s : SR K n W') (ex : Option Addr) : Sub n.Z (zFin m n ex) := fun a o h => by
  unfold zFin
  rw [if_neg fun z => by rw [s.zf a z.1] at h; cases h]
  exact h
theorem zFin_le (s : SR K n W') (ex : Option Addr) : Sub (zFin m n ex) n.H := fun a o h => by
  unfold zFin at h
  split at h
  · exact h
  · exact s.sub a o h
theorem mu_pre (e : Ext m n) {k : Nat} (hk : k < m.mu.length) : n.mu[k]? = m.mu[k]? := by
  obtain ⟨l, el⟩ := e.mu
  rw [el, List.getElem?_append_left hk]
theorem mu_new (e : Ext m n) (s : SR K n W') {k : Nat} {a : Addr} (hk : m.mu.length ≤ k) (h : n.mu[k]? = some a) : a ∉ m.mu := fun hm => by
  obtain ⟨i, hi⟩ := List.mem_iff_getElem?.mp hm
  have hil := getElem_lt hi
  rw [← mu_pre e hil] at hi
  obtain ⟨h1, q1⟩ := List.getElem?_eq_some_iff.mp h
  obtain ⟨h2, q2⟩ := List.getElem?_eq_some_iff.mp hi
  have := (List.getElem_inj s.nd).mp (q1.trans q2.symm)
  omega
section
variable {ex : Option Nat} {exA : Option Addr}
/-- what frz hands on is settled -/
theorem frzS_rp {h : Nat → Option D} {Z : Hp} (hz : Sub n.Z Z) (hh : ∀ (k : Nat) (v : V) (d' : D), Rp K n.Z n.mu v (.hdl k) → h k = some d' → Rp K Z m.mu v d') : ∀ (d : D) (v : V) (d' : D), Rp K n.Z n.mu v d → frzS h d = some d' → Rp K Z m.mu v d' := by
  intro d
  refine D.rec (motive_1 := fun d => ∀ (v : V) (d' : D), Rp K n.Z n.mu v d → frzS h d = some d' → Rp K Z m.mu v d')
    (motive_2 := fun ds => ∀ (vs : List V) (ds' : List D), RpA K n.Z n.mu vs ds → frzA h ds = some ds' → RpA K Z m.mu vs ds') ?_ ?_ ?_ ?_ ?_ ?_ ?_ ?_ ?_ ?_ d
  · intro v d' r e
    simp only [frzS] at e
    cases e; cases r; exact .non
  · intro b v d' r e
    simp only [frzS] at e
    cases e; cases r; exact .bl _
  · intro b v d' r e
    simp only [frzS] at e
    cases e; cases r; exact .int _
  · intro b v d' r e
    simp only [frzS] at e
    cases e; cases r; exact .str _
  · intro xs ih v d' r e
    simp only [frzS] at e
    cases q : frzA h xs with
    | none => rw [q] at e; cases e
    | some ys =>
      rw [q] at e
      cases e
      cases r with
      | tup h1 h2 => exact .tup (hz.sqT h1) (ih _ _ h2 q)
  · intro xs ih v d' r e
    simp only [frzS] at e
    cases q : frzA h xs with
    | none => rw [q] at e; cases e
    | some ys =>
      rw [q] at e
      cases e
      cases r with
      | lst h1 h2 => exact .lst (hz _ _ h1) (ih _ _ h2 q)
  · intro ns v d' r e
    simp only [frzS] at e
    cases e
    cases r with
    | rol h1 => exact .rol (hz.sqL h1)
  · intro k v d' r e
    simp only [frzS] at e
    exact hh k v d' r e
  · intro vs ds' r e
    simp only [frzA] at e
    cases e; cases r; exact .nil
  · intro d r ih1 ih2 vs ds' rr e
    simp only [frzA] at e
    cases q : frzS h d with
    | none => rw [q] at e; cases e
    | some x =>
      rw [q, Option.bind_some] at e
      cases q2 : frzA h r with
      | none => rw [q2] at e; cases e
      | some y =>
        rw [q2] at e
        cases e
        cases rr with
        | cons h1 h2 => exact .cons (ih1 _ _ h1 q) (ih2 _ _ h2 q2)
theorem frzA_rp {h : Nat → Option D} {Z : Hp} (hz : Sub n.Z Z) (hh : ∀ (k : Nat) (v : V) (d' : D), Rp K n.Z n.mu v (.hdl k) → h k = some d' → Rp K Z m.mu v d') : ∀ (ds : List D) (vs : List V) (ds' : List D), RpA K n.Z n.mu vs ds → frzA h ds = some ds' → RpA K Z m.mu vs ds'
  | [], _, _, r, e => by
    simp only [frzA] at e
    cases e; cases r; exact .nil
  | d :: t, _, _, r, e => by
    simp only [frzA] at e
    cases q : frzS h d with
    | none => rw [q] at e; cases e
    | some x =>
      rw [q, Option.bind_some] at e
      cases q2 : frzA h t with
      | none => rw [q2] at e; cases e
      | some y =>
        rw [q2] at e
        cases e
        cases r with
        | cons h1 h2 => exact .cons (frzS_rp hz hh d _ _ h1 q) (frzA_rp hz hh t _ _ h2 q2)
theorem frzH_rp (e : Ext m n) (s : SR K n W') (hx : ∀ (k : Nat) (a : Addr), n.mu[k]? = some a → exA = some a → ex = some k) : ∀ (f k : Nat) (v : V) (d' : D), Rp K n.Z n.mu v (.hdl k) → frzH W' m.mu.length ex f k = some d' → Rp K (zFin m n exA) m.mu v d'
  | 0, k, v, d', r, q => by
    unfold frzH at q
    split at q
    · rename_i hk
      cases q
      cases r with
      | hdl h1 => exact .hdl (by rw [← mu_pre e hk]; exact h1)
    · cases q
  | f + 1, k, v, d', r, q => by
    unfold frzH at q
    split at q
    · rename_i hk
      cases q
      cases r with
      | hdl h1 => exact .hdl (by rw [← mu_pre e hk]; exact h1)
    · rename_i hk
      split at q
      · cases q
      · rename_i hne
        cases r with
        | hdl h1 =>
          rename_i a
          cases q1 : W'[k]? with
          | none => rw [q1] at q; cases q
          | some c =>
            rw [q1, Option.bind_some] at q
            have c1 := s.cell k a c h1 q1
            cases c with
            | lst xs =>
              have q : (frzA (frzH W' m.mu.length ex f) xs).map D.lst = some d' := q
              cases q2 : frzA (frzH W' m.mu.length ex f) xs with
              | none => rw [q2] at q; cases q
              | some ys =>
                rw [q2] at q
                cases q
                obtain ⟨vs, g1, g2⟩ := c1
                refine .lst (vs := vs) ?_ (frzA_rp (zFin_sub s exA) (fun k v d' r q => frzH_rp e s hx f k v d' r q) xs vs ys g2 q2)
                unfold zFin
                rw [if_pos ⟨List.mem_of_getElem? h1, mu_new e s (Nat.le_of_not_lt hk) h1, fun z => hne (hx k a h1 z)⟩]
                exact g1
end
theorem pure_rp {Z Z' : Hp} {mu mu' : List Addr} (hz : Sub Z Z') (d : D) : ∀ v : V, pureD d = true → Rp K Z mu v d → Rp K Z' mu' v d := by
  refine D.rec (motive_1 := fun d => ∀ v : V, pureD d = true → Rp K Z mu v d → Rp K Z' mu' v d) (motive_2 := fun ds => ∀ vs : List V, pureA ds = true → RpA K Z mu vs ds → RpA K Z' mu' vs ds) ?_ ?_ ?_ ?_ ?_ ?_ ?_ ?_ ?_ ?_ d
  · intro v _ r; cases r; exact .non
  · intro b v _ r; cases r; exact .bl _
  · intro b v _ r; cases r; exact .int _
  · intro b v _ r; cases r; exact .str _
  · intro xs ih v p r
    simp only [pureD] at p
    cases r with
    | tup h1 h2 => exact .tup (hz.sqT h1) (ih _ p h2)
  · intro xs ih v p r
    simp only [pureD] at p
    cases r with
    | lst h1 h2 => exact .lst (hz _ _ h1) (ih _ p h2)
  · intro ns v _ r
    cases r with
    | rol h1 => exact .rol (hz.sqL h1)
  · intro k v p r; simp [pureD] at p
  · intro vs _ r; cases r; exact .nil
  · intro d t ih1 ih2 vs p r
    simp only [pureA, Bool.and_eq_true] at p
    cases r with
    | cons h1 h2 => exact .cons (ih1 _ p.1 h1) (ih2 _ p.2 h2)
theorem pureA_rp {Z Z' : Hp} {mu mu' : List Addr} (hz : Sub Z Z') : ∀ (ds : List D) (vs : List V), pureA ds = true → RpA K Z mu vs ds → RpA K Z' mu' vs ds
  | [], _, _, r => by cases r; exact .nil
  | d :: t, _, p, r => by
    simp only [pureA, Bool.and_eq_true] at p
    cases r with
    | cons h1 h2 => exact .cons (pure_rp hz d _ p.1 h1) (pureA_rp hz t _ p.2 h2)
/-- data that was known ahead, known again -/
theorem old_rp {Z0 Z Z' : Hp} {mu0 mu : List Addr} (hz : Sub Z Z') (hm : ∀ (k : Nat) (a : Addr), mu0[k]? = some a → mu[k]? = some a) (d : D) : ∀ v u : V, Rp K Z0 mu0 u d → Rp K Z mu v d → Rp K Z' mu0 v d := by
  refine D.rec (motive_1 := fun d => ∀ v u : V, Rp K Z0 mu0 u d → Rp K Z mu v d → Rp K Z' mu0 v d) (motive_2 := fun ds => ∀ vs us : List V, RpA K Z0 mu0 us ds → RpA K Z mu vs ds → RpA K Z' mu0 vs ds) ?_ ?_ ?_ ?_ ?_ ?_ ?_ ?_ ?_ ?_ d
  · intro v _ _ r; cases r; exact .non
  · intro b v _ _ r; cases r; exact .bl _
  · intro b v _ _ r; cases r; exact .int _
  · intro b v _ _ r; cases r; exact .str _
  · intro xs ih v u p r
    cases p with
    | tup _ p2 =>
      cases r with
      | tup h1 h2 => exact .tup (hz.sqT h1) (ih _ _ p2 h2)
  · intro xs ih v u p r
    cases p with
    | lst _ p2 =>
      cases r with
      | lst h1 h2 => exact .lst (hz _ _ h1) (ih _ _ p2 h2)
  · intro ns v _ _ r
    cases r with
    | rol h1 => exact .rol (hz.sqL h1)
  · intro k v u p r
    cases p with
    | hdl p1 =>
      cases r with
      | hdl h1 =>
        have q := hm _ _ p1
        rw [h1] at q
        cases q
        exact .hdl p1
  · intro vs _ _ r; cases r; exact .nil
  · intro d t ih1 ih2 vs us p r
    cases p with
    | cons p1 p2 =>
      cases r with
      | cons h1 h2 => exact .cons (ih1 _ _ p1 h1) (ih2 _ _ p2 h2)
theorem oldA_rp {Z0 Z Z' : Hp} {mu0 mu : List Addr} (hz : Sub Z Z') (hm : ∀ (k : Nat) (a : Addr), mu0[k]? = some a → mu[k]? = some a) : ∀ (ds : List D) (vs us : List V), RpA K Z0 mu0 us ds → RpA K Z mu vs ds → RpA K Z' mu0 vs ds
  | [], _, _, _, r => by cases r; exact .nil
  | d :: t, _, _, p, r => by
    cases p with
    | cons p1 p2 =>
      cases r with
      | cons h1 h2 => exact .cons (old_rp hz hm d _ _ p1 h1) (oldA_rp hz hm t _ _ p2 h2)
theorem okCells_get : ∀ {W V : Wd}, okCells W V = true → W.length = V.length ∧ ∀ (i : Nat) (c c' : Cell), W[i]? = some c → V[i]? = some c' → okCell c c' = true
  | [], [], _ => ⟨rfl, fun i c c' h _ => by cases i <;> cases h⟩
  | [], _ :: _, h => by simp [okCells] at h
  | _ :: _, [], h => by simp [okCells] at h
  | c :: r, c' :: r', h => by
    simp only [okCells, Bool.and_eq_true] at h
    obtain ⟨h1, h2⟩ := okCells_get h.2
    refine ⟨by rw [List.length_cons, List.length_cons, h1], fun i d d' e e' => ?_⟩
    cases i with
    | zero => cases e; cases e'; exact h.1
    | succ i => exact h2 i d d' (by simpa using e) (by simpa using e')
/-- behind a def, its own cells settled: the state as its caller knows it -/
theorem fin_state (s : SR K m W) (e : Ext m n) (s' : SR K n W') (hc : okCells W (W'.take W.length) = true) (ex : Option Addr) : Ext m ⟨n.H, zFin m n ex, m.mu⟩ ∧ SR K ⟨n.H, zFin m n ex, m.mu⟩ (W'.take W.length) := by
  obtain ⟨hl, hcell⟩ := okCells_get hc
  have inn : ∀ a, a ∈ m.mu → a ∈ n.mu := fun a ha => by
    obtain ⟨l, el⟩ := e.mu
    rw [el]; exact List.mem_append_left _ ha
  constructor
  · refine ⟨e.zle.trans (zFin_sub s' ex), ⟨[], by simp⟩, e.keep, e.live, fun a h => ?_, fun _ h => .inl h⟩
    show zFin m n ex a = m.Z a
    unfold zFin
    rw [if_neg fun z => (e.munew a z.1).elim z.2.1 h]
    exact e.zold a h
  · refine ⟨zFin_le s' ex, s.nd, by rw [← hl]; exact s.len, fun i a c e1 e2 => ?_, fun a ha => ?_⟩
    · have hi : i < W.length := by rw [hl]; exact getElem_lt e2
      have e3 : W'[i]? = some c := by
        rw [List.getElem?_take_of_lt hi] at e2; exact e2
      obtain ⟨c0, h0⟩ : ∃ c0, W[i]? = some c0 := ⟨W[i], List.getElem?_eq_getElem hi⟩
      have ok := hcell i c0 c h0 e2
      have e1 : m.mu[i]? = some a := e1
      have cn := s'.cell i a c (e.ix _ _ e1) e3
      have cm := s.cell i a c0 e1 h0
      cases c0 with
      | lst xs =>
        cases c with
        | lst ys =>
          simp only [okCell, Bool.or_eq_true] at ok
          obtain ⟨vs, g1, g2⟩ := cn
          obtain ⟨us, f1, f2⟩ := cm
          refine ⟨vs, g1, ?_⟩
          rcases ok with ok | ok
          · have exy := sameA_eq xs ys ok
            subst exy
            exact oldA_rp (zFin_sub s' ex) (fun k b h => e.ix k b h) xs vs us f2 g2
          · exact pureA_rp (zFin_sub s' ex) ys vs ok g2
    · show zFin m n ex a = none
      unfold zFin
      rw [if_neg fun z => z.2.1 ha]
      exact s'.zf a (inn a ha)
theorem fin_ok {h : Bool} {r r' : R} {W2 : Wd} {v : V} (s : SR K m W) (e : Ext m n) (s' : SR K n W') (hr : RpR K m.H n v r) (q : fin h W r W' = some (r', W2)) : ∃ k, k.H = n.H ∧ Ext m k ∧ SR K k W2 ∧ RpR K m.H k v r' := by
  unfold fin at q
  split at q
  · cases q; exact ⟨n, rfl, e, s', hr⟩
  · split at q
    · cases q; exact ⟨n, rfl, e, s', hr⟩
    · split at q
      · rename_i hc
        have hlen : m.mu.length = W.length := s.len
        split at q
        · rename_i xs
          obtain ⟨p, vs, rfl, h1, h2, h3, h4, h5⟩ := hr
          cases q2 : frzA (frzH W' W.length none 8) xs with
          | none => rw [q2] at q; cases q
          | some ys =>
            rw [q2] at q
            cases q
            obtain ⟨x1, x2⟩ := fin_state s e s' hc none
            rw [← hlen] at q2
            refine ⟨⟨n.H, zFin m n none, m.mu⟩, rfl, x1, x2, p, vs, rfl, h1, frzA_rp (zFin_sub s' none) (fun k v d' r q => frzH_rp (ex := none) e s' (fun _ _ _ z => by cases z) 8 k v d' r q) xs vs ys h2 q2, ?_, fun z => ?_, h5⟩
            · show zFin m n none p = none
              unfold zFin
              rw [if_neg fun z => h4 z.1]; exact h3
            · obtain ⟨l, el⟩ := e.mu
              exact h4 (by rw [el]; exact List.mem_append_left _ z)
        · rename_i k
          split at q
          · rename_i hk
            cases q
            cases hr with
            | hdl h1 =>
              obtain ⟨x1, x2⟩ := fin_state s e s' hc none
              exact ⟨⟨n.H, zFin m n none, m.mu⟩, rfl, x1, x2, .hdl (by rw [← mu_pre e (by rw [hlen]; exact hk)]; exact h1)⟩
          · rename_i hk
            cases hr with
            | hdl h1 =>
              rename_i a
              cases q1 : W'[k]? with
              | none => rw [q1] at q; cases q
              | some c =>
                rw [q1, Option.bind_some] at q
                have c1 := s'.cell k a c h1 q1
                cases c with
                | lst xs =>
                  have q : (frzA (frzH W' W.length (some k) 8) xs).map (fun ys => (R.fr ys, W'.take W.length)) = some (r', W2) := q
                  cases q2 : frzA (frzH W' W.length (some k) 8) xs with
                  | none => rw [q2] at q; cases q
                  | some ys =>
                    rw [q2] at q
                    cases q
                    obtain ⟨vs, g1, g2⟩ := c1
                    obtain ⟨x1, x2⟩ := fin_state s e s' hc (some a)
                    have nm := mu_new e s' (by rw [hlen]; exact Nat.le_of_not_lt hk) h1
                    rw [← hlen] at q2
                    refine ⟨⟨n.H, zFin m n (some a), m.mu⟩, rfl, x1, x2, a, vs, rfl, g1, frzA_rp (zFin_sub s' (some a)) (fun k' v d' r q => frzH_rp (ex := some k) e s' (fun i b hb z => ?_) 8 k' v d' r q) xs vs ys g2 q2, ?_, nm, ?_⟩
                    · cases z
                      obtain ⟨l1, p1⟩ := List.getElem?_eq_some_iff.mp hb
                      obtain ⟨l2, p2⟩ := List.getElem?_eq_some_iff.mp h1
                      rw [(List.getElem_inj s'.nd).mp (p2.trans p1.symm)]
                    · show zFin m n (some a) a = none
                      unfold zFin
                      rw [if_neg fun z => z.2.2 rfl]
                      exact s'.zf a (List.mem_of_getElem? h1)
                    · rcases e.munew a (List.mem_of_getElem? h1) with z | z
                      · exact absurd z nm
                      · exact z
        · rename_i x hx
          cases q2 : frzS (frzH W' W.length none 8) x with
          | none => rw [q2] at q; cases q
          | some y =>
            rw [q2] at q
            cases q
            obtain ⟨x1, x2⟩ := fin_state s e s' hc none
            rw [← hlen] at q2
            exact ⟨⟨n.H, zFin m n none, m.mu⟩, rfl, x1, x2, frzS_rp (zFin_sub s' none) (fun k v d' r q => frzH_rp (ex := none) e s' (fun _ _ _ z => by cases z) 8 k v d' r q) x v y hr q2⟩
      · cases q
end

/-! ### a def -/
def startE (n : Nat) (ds : List D) : En := ds.map some ++ List.replicate (n - ds.length) none
def runB (h : Bool) (n : Nat) (g : FS) : Run := fun ds W => (g (startE n ds) W).bind fun o => match o with
  | .rt r W' => fin h W r W'
  | .nx _ W' => fin h W (.d .non) W'
  | _ => none
theorem RpS.start {K : PySem.W.Frag} {m : Mem} {N : List Str} {vs : List V} {ds : List D} (h : RpA K m.Z m.mu vs ds) : RpS K m (L2.start N vs) (startE N.length ds) := by
  have hl := h.length
  refine ⟨?_, fun i d e => ?_⟩
  · unfold L2.start startE
    simp [hl]
  · unfold startE at e
    unfold L2.start
    by_cases hi : i < ds.length
    · rw [List.getElem?_append_left (by simpa using hi), List.getElem?_map] at e
      rw [List.getElem?_append_left (by simpa [hl] using hi), List.getElem?_map]
      cases q : ds[i]? with
      | none => rw [q] at e; cases e
      | some x =>
        rw [q] at e
        cases e
        obtain ⟨v, q1, q2⟩ := h.get q
        exact ⟨v, by rw [q1]; rfl, q2⟩
    · rw [List.getElem?_append_right (by simpa using hi), List.getElem?_replicate] at e
      split at e <;> cases e
/-- THE RULE of a def: its body as a run over data -/
theorem def_ok {P : Program} {w : World} {K : PySem.W.Frag} {mg : Str → Option Value} {base : Heap} {k : Nat} {f : Addr} {fd : FuncData} {x qual : Str} {st : Stmt} {N ps : List Str} (hm : Bool) {g : FS} {ar nn : Nat} (F : Fun K x qual st f fd) (S : FnScope N ps (defScope st)) (hps : ps.length = ar) (hnn : N.length = nn)
    (body : ∀ (cdv : Value) (A : Around) (outer : List Env) (s : Shared) (H : Hp) (E : XK), Quiet A → Room k (A.deeper (envOfC qual (defScope st) s.heap.objs.size f cdv)) →
      EvB (cxOf CX0 P w K mg base N qual (defScope st) f cdv A outer s H E).nox (defBody st) g) : FnG P w K mg base (k + 1) f fd ps (spR K ar (runB hm nn g)) := by
  refine fn_ofG F S (fun vs H Q E h => h.1.trans hps.symm) fun cdv A outer s H vs Q E hq hr h => ?_
  refine ⟨_, (body cdv A outer s H E hq hr).ok, ?_⟩
  obtain ⟨_, m, W, ds, r, W', eH, sr, ra, q, kk⟩ := h
  subst hnn
  unfold runB at q
  cases e1 : g (startE N.length ds) W with
  | none => rw [e1] at q; cases q
  | some o =>
    rw [e1, Option.bind_some] at q
    refine ⟨m, W, startE N.length ds, o, eH, sr, RpS.start ra, e1, ?_⟩
    cases o with
    | rt r1 W1 =>
        intro v n x s1 r2
        obtain ⟨l, el, xl, sl, rl⟩ := fin_ok sr x s1 r2 q
        show Q v n.H
        rw [← el]
        exact kk v l xl sl rl
    | nx ρ1 W1 =>
        intro σ n x s1 r2
        obtain ⟨l, el, xl, sl, rl⟩ := fin_ok (v := V.non) (r := .d .non) sr x s1 .non q
        show Q V.non n.H
        rw [← el]
        exact kk V.non l xl sl rl
    | bk _ _ => cases q
    | ct _ _ => cases q
theorem def_zero {P : Program} {w : World} {K : PySem.W.Frag} {mg : Str → Option Value} {base : Heap} {f : Addr} {fd : FuncData} {ps : List Str} {ar : Nat} (hps : ps.length = ar) : FnG P w K mg base 0 f fd ps (spR K ar fun _ _ => none) := by
  have no : ∀ vs H Q E, ¬ spR K ar (fun _ _ => none) vs H Q E := fun vs H Q E h => by
    obtain ⟨_, _, _, _, _, _, _, _, _, q, _⟩ := h
    cases q
  exact ⟨fun vs H Q E h => h.1.trans hps.symm, fun A outer s H args us vs Q E _ _ _ _ _ h => absurd h (no vs H Q E)⟩
end Ev

set_option Elab.async false
set_option linter.all false
set_option maxRecDepth 100000
namespace Ev
open PySem PySem.Spec L2 PyProof.Rows

/-! ### the law's own call -/
def scriptAt (o : Obj) (a : Addr) (ns : List Int) : Hp := fun b => if b = a then some (.frz o (.lst (ns.map V.int))) else none
theorem scriptAt_ne {o : Obj} {a b : Addr} {ns : List Int} (h : b ≠ a) : scriptAt o a ns b = none := if_neg h
theorem scriptAt_self {o : Obj} {a : Addr} {ns : List Int} : scriptAt o a ns a = some (.frz o (.lst (ns.map V.int))) := if_pos rfl
theorem law_goes {P : Program} {w : World} {K : PySem.W.Frag} {mg mb : Str → Option Value} {k : Nat} {fa a : Addr} {fd : FuncData} {x : Str} {φ : Run} {s₁ : Shared} {vs : List Value} {ns : List Int}
    (inK : K.In s₁.heap) (hmg : s₁.heap.Ns mainGlobals mg) (hmb : s₁.heap.Ns builtinsNs mb) (boot : ∀ x : Str, x ≠ "__name__" → mb x = bootBuiltins x) (free : s₁.heap.NoLimit) (nogen : s₁.gens = #[])
    (here : s₁.heap.get? a = some { cls := .type "list", data := .seq vs.toArray }) (intl : IntsAre vs ns) (short : ns.length ≤ sizeLine) (room : Room k callerA)
    (F : ∀ base : Heap, K.In base → base.Ns mainGlobals mg → FnG P w K mg base k fa fd [x] (spR K 1 φ)) (binds : ∀ (s : Shared) (u : Value), BindsTo s fd ⟨[u], []⟩ [(x, u)]) (yes : ∃ W', φ [.rol ns] [] = some (.d (.bl true), W')) :
    codeAny (model P w) callerA (.call (.ref fa) ⟨[.ref a], []⟩) (fun r s' => r = .ok (.ret (.bool true)) ∧ OldK s₁.heap s'.heap ∧ s'.os = s₁.os ∧ AllBare s'.gens) s₁ := by
  obtain ⟨W', yes⟩ := yes
  have rel := vals_ints intl
  have same := intl.length
  -- H tracks the script or nothing
  have main : ∀ H : Hp, SqL K H a (ns.map V.int) → HOk P w H s₁.heap → (∀ b, H b ≠ none → b = a ∧ K.lookup a = none ∧ ∃ o xs, H b = some (.frz o (.lst xs))) →
      codeAny (model P w) callerA (.call (.ref fa) ⟨[.ref a], []⟩) (fun r s' => r = .ok (.ret (.bool true)) ∧ OldK s₁.heap s'.heap ∧ s'.os = s₁.os ∧ AllBare s'.gens) s₁ := by
    intro H seq hok only
    have none_of : ∀ {b : Addr} {o : Obj}, s₁.heap.get? b = some o → (∀ vs n, o.data ≠ .seq vs n) → H b = none := fun {b o} e d => by
      cases q : H b with
      | none => rfl
      | some u =>
        obtain ⟨e1, _⟩ := only b (by rw [q]; simp)
        subst e1
        rw [here] at e
        cases e
        exact absurd rfl (d _ _)
    have ns_of : ∀ {b : Addr} {f : Str → Option Value}, s₁.heap.Ns b f → (hidT s₁.heap H).Ns b f := fun ⟨o, es, ep, e, d, r⟩ => ⟨o, es, ep, hidT_get e (none_of e fun _ _ z => by rw [d] at z; cases z), d, r⟩
    have inB : K.In (hidT s₁.heap H) := fun b o e => hidT_get (inK b o e) (by
      cases q : H b with
      | none => rfl
      | some u =>
        obtain ⟨e1, e2, _⟩ := only b (by rw [q]; simp)
        subst e1
        rw [e2] at e; cases e)
    have md : Mod K mg (hidT s₁.heap H) := ⟨inB, ns_of hmg, ⟨mb, ns_of hmb, boot⟩, let ⟨mc, h1, h2⟩ := free; ⟨mc, ns_of h1, h2⟩⟩
    have nofr : ∀ b : Addr, b ∉ frs ([] : List Env) := fun b z => by cases z
    have e0 : Env0 P w K mg (hidT s₁.heap H) callerA [] s₁ H := ⟨rfl, md, fun b o e => of_hidT e, Nat.le_of_eq (hidT_size _ _), trivial, fun b z => absurd z (nofr b), hok, .of_eq nogen⟩
    have st : SR K ⟨H, H, []⟩ [] := ⟨Sub.refl _, List.nodup_nil, rfl, fun n a c e _ => by simp at e, fun a z => by simp at z⟩
    have want : spR K 1 φ [.ref a] H (fun v _ => v = .bl true) E0 := ⟨rfl, ⟨H, H, []⟩, [], [.rol ns], _, W', rfl, st, .cons (.rol seq) .nil, yes, fun v n _ _ r => by cases r; rfl⟩
    refine codeAny_mono ((F _ inB (ns_of hmg)).run callerA [] s₁ H ⟨[.ref a], []⟩ [.ref a] [.ref a] _ _ rfl room e0 (binds s₁ (.ref a)) (.cons rfl .nil) want) fun r s' done => ?_
    cases r with
    | error e => exact False.elim done
    | ok fl =>
      cases fl with
      | next => exact False.elim done
      | brk => exact False.elim done
      | cont => exact False.elim done
      | ret u =>
        obtain ⟨v, H', os, bare, un, hok', rv, q⟩ := done
        have q : v = .bl true := q
        subst q
        obtain rfl : u = Value.bool true := rv
        refine ⟨rfl, OldK.of_keep fun b o e => ?_, os, bare⟩
        cases z : H b with
        | none => exact un.keep b o e z (nofr b) (by simp)
        | some y =>
          obtain ⟨_, _, ob, xs, z2⟩ := only b (by rw [z]; simp)
          obtain ⟨e1, _⟩ := hok b _ z2
          obtain ⟨e2, _⟩ := hok' b _ (un.frzs b ob _ z2)
          rw [e] at e1
          cases e1
          exact e2
  cases hk : K.lookup a with
  | some o =>
    have e := inK a o hk
    rw [here] at e
    cases e
    exact main (fun _ => none) (.inr ⟨_, vs.toArray, _, hk, rfl, rfl, rfl, by rw [List.size_toArray, same]; exact short, by simpa using rel⟩) (fun b u z => by cases z) fun b z => absurd rfl z
  | none =>
    refine main (scriptAt { cls := .type "list", data := .seq vs.toArray } a ns) (.inl (.inr ⟨_, scriptAt_self⟩)) (fun b u z => ?_) fun b z => ?_
    · by_cases hb : b = a
      · subst hb
        rw [scriptAt_self] at z
        cases z
        exact ⟨here, by rw [List.length_map]; exact short, vs, _, rel, here⟩
      · rw [scriptAt_ne hb] at z; cases z
    · by_cases hb : b = a
      · subst hb
        exact ⟨rfl, hk, _, _, scriptAt_self⟩
      · exact absurd (scriptAt_ne hb) z
theorem law_end {l : PySem.W.OpenLaw} {n k : Nat} {q : Program} {loose : List Str} {XP : (Str → Option Value) → Heap → Prop} {YP : World → Heap → Prop} {d : DefRec} {K : Params → PySem.W.Frag} {φ : Run} {x : Str} (hn : l.most = some n) (hn2 : n ≤ sizeLine) (hdf : d.params.defaults = []) (room : Room k callerA)
    (hY : ∀ (w : World) (h : Heap), YP w h → (K w.params).In h)
    (F : ∀ (w : World) (mg : Str → Option Value) (fa : Addr) (h : Heap), (K w.params).In h → h.Ns mainGlobals mg → mg d.name = some (.ref fa) → ∃ fd : FuncData, (∀ (s : Shared) (u : Value), BindsTo s fd ⟨[u], []⟩ [(x, u)]) ∧
        ∀ base : Heap, (K w.params).In base → base.Ns mainGlobals mg → FnG l.prog w (K w.params) mg base k fa fd [x] (spR (K w.params) 1 φ))
    (yes : ∀ ns : List Int, ns.length ≤ n → ∃ W', φ [.rol ns] [] = some (.d (.bl true), W')) : PySem.W.WalkO q loose XP YP l.row.toRowW d [] (fun f vs => PySem.call f vs) := by
  refine Att.attach_call hn hdf fun w s₀ s₁ mg mb fa o pm cd doc a vs ns G Y ho hd hcd hmg hobj hints hlen hg => ?_
  obtain ⟨fd, binds, ok⟩ := F w mg fa _ (hY w _ Y) G.T.g hmg
  exact law_goes (hY w _ Y) G.T.g G.T.b G.T.builtins G.T.nolimit hg hobj hints (Nat.le_trans hlen hn2) room ok binds (yes ns hlen)
end Ev

set_option Elab.async false
set_option linter.all false
set_option maxRecDepth 100000
namespace Ev
open PySem PySem.Spec L2

/-! ### truth; and, or, not as values -/
def R.tru (W : Wd) : R → Option Bool
  | .d .non => some false
  | .d (.bl b) => some b
  | .d (.int i) => some (i != 0)
  | .d (.str _) => none
  | r => (asS W r).map fun xs => !xs.isEmpty
theorem tru_v {K : PySem.W.Frag} {m : Mem} {W : Wd} {o : Hp} {v : V} {r : R} {b : Bool} (s : SR K m W) (h : RpR K o m v r) (e : r.tru W = some b) : TruV K v m.H b := by
  have seq : (asS W r).map (fun xs => !xs.isEmpty) = some b → TruV K v m.H b := fun e => by
    cases q : asS W r with
    | none => rw [q] at e; cases e
    | some xs =>
      rw [q] at e
      cases e
      obtain ⟨a, vs, rfl, g1, g2⟩ := asS_H s h q
      have em : vs.isEmpty = xs.isEmpty := by
        have hl := g2.length
        cases vs <;> cases xs <;> first | rfl | (simp at hl)
      rcases g1 with g1 | g1
      · exact .inl ⟨vs, g1, by rw [em]⟩
      · exact .inr (.inl ⟨vs, g1, by rw [em]⟩)
  cases r with
  | fr xs => exact seq e
  | d x =>
    cases x with
    | non => cases e; cases h; exact rfl
    | bl b => cases e; cases h; exact rfl
    | int i => cases e; cases h; exact rfl
    | str x => cases e
    | _ => exact seq e
def fOrV (f g : FE) : FE := fun ρ W => (f ρ W).bind fun p => (p.1.tru p.2).bind fun b => if b = true then some p else g ρ p.2
def fAndV (f g : FE) : FE := fun ρ W => (f ρ W).bind fun p => (p.1.tru p.2).bind fun b => if b = true then g ρ p.2 else some p
def fNotV (f : FE) : FE := fun ρ W => (f ρ W).bind fun p => (p.1.tru p.2).map fun b => (.d (.bl (!b)), p.2)
def fNeg (f : FE) : FE := fun ρ W => (f ρ W).bind fun p => match p.1 with
  | .d (.int i) => some (.d (.int (-i)), p.2)
  | _ => none
def fIte (t : FT) (f g : FE) : FE := fun ρ W => (t ρ W).bind fun p => if p.1 = true then f ρ p.2 else g ρ p.2
section
variable {X : Cx} {a b : Expr} {rest : List Expr} {f g : FE} {pos : Pos}
theorem ev_one1 {op} (ha : EvE X a f) : EvE X (.BoolOp op [a] pos) f := ⟨pe_one ha.ok⟩
theorem ev_or (ha : EvE X a f) (hb : EvE X (.BoolOp .Or (b :: rest) pos) g) : EvE X (.BoolOp .Or (a :: b :: rest) pos) (fOrV f g) := ⟨peI (pe_orT ha.ok hb.ok) fun σ H Q ⟨m, W, ρ, r, W', eH, s, rs, e, k⟩ => by
  unfold fOrV at e
  cases e1 : f ρ W with
  | none => rw [e1] at e; cases e
  | some p =>
    rw [e1, Option.bind_some] at e
    cases e2 : p.1.tru p.2 with
    | none => rw [e2] at e; cases e
    | some b =>
      rw [e2, Option.bind_some] at e
      refine ⟨m, W, ρ, p.1, p.2, eH, s, rs, e1, fun v n x s1 r1 => ⟨b, tru_v s1 r1 e2, ?_⟩⟩
      by_cases hb : b = true
      · rw [if_pos hb] at e ⊢
        cases e
        exact k v n x s1 r1
      · rw [if_neg hb] at e ⊢
        exact ⟨n, p.2, ρ, r, W', rfl, s1, rs.ext x, e, fun v' n' x' s2 r2 => k v' n' (x.trans x') s2 (r2.old fun _ z => x.fresh z)⟩⟩
theorem ev_and (ha : EvE X a f) (hb : EvE X (.BoolOp .And (b :: rest) pos) g) : EvE X (.BoolOp .And (a :: b :: rest) pos) (fAndV f g) := ⟨peI (pe_andT ha.ok hb.ok) fun σ H Q ⟨m, W, ρ, r, W', eH, s, rs, e, k⟩ => by
  unfold fAndV at e
  cases e1 : f ρ W with
  | none => rw [e1] at e; cases e
  | some p =>
    rw [e1, Option.bind_some] at e
    cases e2 : p.1.tru p.2 with
    | none => rw [e2] at e; cases e
    | some b =>
      rw [e2, Option.bind_some] at e
      refine ⟨m, W, ρ, p.1, p.2, eH, s, rs, e1, fun v n x s1 r1 => ⟨b, tru_v s1 r1 e2, ?_⟩⟩
      by_cases hb : b = true
      · rw [if_pos hb] at e ⊢
        exact ⟨n, p.2, ρ, r, W', rfl, s1, rs.ext x, e, fun v' n' x' s2 r2 => k v' n' (x.trans x') s2 (r2.old fun _ z => x.fresh z)⟩
      · rw [if_neg hb] at e ⊢
        cases e
        exact k v n x s1 r1⟩
theorem ev_not (ha : EvE X a f) : EvE X (.UnaryOp .Not a pos) (fNotV f) := ⟨peI (pe_notT ha.ok) fun σ H Q ⟨m, W, ρ, r, W', eH, s, rs, e, k⟩ => by
  unfold fNotV at e
  cases e1 : f ρ W with
  | none => rw [e1] at e; cases e
  | some p =>
    rw [e1, Option.bind_some] at e
    cases e2 : p.1.tru p.2 with
    | none => rw [e2] at e; cases e
    | some b =>
      rw [e2] at e
      cases e
      exact ⟨m, W, ρ, p.1, p.2, eH, s, rs, e1, fun v n x s1 r1 => ⟨b, tru_v s1 r1 e2, k _ n x s1 (.bl _)⟩⟩⟩
theorem ev_neg (ha : EvE X a f) : EvE X (.UnaryOp .USub a pos) (fNeg f) := ⟨peI (pe_un un_neg ha.ok) fun σ H Q ⟨m, W, ρ, r, W', eH, s, rs, e, k⟩ => by
  unfold fNeg at e
  cases e1 : f ρ W with
  | none => rw [e1] at e; cases e
  | some p =>
    rw [e1, Option.bind_some] at e
    obtain ⟨r1, W1⟩ := p
    cases r1 with
    | fr _ => cases e
    | d x =>
      cases x <;> first | (cases e; done) | skip
      cases e
      exact ⟨m, W, ρ, _, _, eH, s, rs, e1, fun v n x s1 r1 => by cases r1; exact ⟨_, rfl, k _ n x s1 (.int _)⟩⟩⟩
theorem ev_ite {c : Expr} {t : FT} (hc : EvT X c t) (ha : EvE X a f) (hb : EvE X b g) : EvE X (.IfExp c a b pos) (fIte t f g) := ⟨peI (pe_ifExp hc.ok ha.ok hb.ok) fun σ H Q ⟨m, W, ρ, r, W', eH, s, rs, e, k⟩ => by
  unfold fIte at e
  cases e1 : t ρ W with
  | none => rw [e1] at e; cases e
  | some p =>
    rw [e1, Option.bind_some] at e
    refine ⟨m, W, ρ, p.1, p.2, eH, s, rs, e1, fun n x s1 => ?_⟩
    by_cases hp : p.1 = true
    · rw [if_pos hp] at e ⊢
      exact ⟨n, p.2, ρ, r, W', rfl, s1, rs.ext x, e, fun v' n' x' s2 r2 => k v' n' (x.trans x') s2 (r2.old fun _ z => x.fresh z)⟩
    · rw [if_neg hp] at e ⊢
      exact ⟨n, p.2, ρ, r, W', rfl, s1, rs.ext x, e, fun v' n' x' s2 r2 => k v' n' (x.trans x') s2 (r2.old fun _ z => x.fresh z)⟩⟩
end

/-! ### >= of two tuples of ints (and of two ints) -/
def geAt (ns ms : List Int) : Bool := Ob.lexAt (fun j => decide (ns.getD j 0 = ms.getD j 0)) (fun j => decide (ns.getD j 0 ≥ ms.getD j 0)) (decide (ns.length ≥ ms.length)) 0 (min ns.length ms.length)
def opGe (_ : Wd) : R → R → Option R
  | .d (.int i), .d (.int j) => some (.d (.bl (decide (j ≤ i))))
  | .d (.tup xs), .d (.tup ys) => (asIs xs).bind fun ns => (asIs ys).map fun ms => .d (.bl (geAt ns ms))
  | _, _ => none
section
variable {X : Cx}
theorem op_geT (hu : X.A.units < cLine) : OpR X (compareOp .GtE) fun x y H Q => ∃ (a b : Addr) (ns ms : List Int), x = .ref a ∧ y = .ref b ∧ SqT X.K H a (ns.map V.int) ∧ SqT X.K H b (ms.map V.int) ∧ Q (.bl (geAt ns ms)) H := by
  intro pins s σ H x y v u Q I rx ry h
  obtain ⟨a, b, ns, ms, rfl, rfl, ha, hb, q⟩ := h
  cases rx; cases ry
  obtain ⟨is1, v1, t1, _⟩ := I.tuple ha
  obtain ⟨is2, v2, t2, _⟩ := I.tuple hb
  have j1 := Vals.ints v1
  have j2 := Vals.ints v2
  have g1 : ∀ j (h : j < is1.toArray.size), ∃ t, is1.toArray[j] = .int (ns.getD j 0) t := fun j h => PyProof.Rows.IntsAre.int_at j1 _ _ (by simp at h; simp [h])
  have g2 : ∀ j (h : j < is2.toArray.size), ∃ t, is2.toArray[j] = .int (ms.getD j 0) t := fun j h => PyProof.Rows.IntsAre.int_at j2 _ _ (by simp at h; simp [h])
  have rc := Ob.RcOp.tuples_ge (A := X.A) (s := s) (e := fun j => decide (ns.getD j 0 = ms.getD j 0)) (r := fun j => decide (ns.getD j 0 ≥ ms.getD j 0)) t1 t2 hu
    (fun j h1 h2 => by
      obtain ⟨_, e1⟩ := g1 j h1
      obtain ⟨_, e2⟩ := g2 j h2
      rw [e1, e2, ← show (ns.getD j 0 == ms.getD j 0) = decide (ns.getD j 0 = ms.getD j 0) from Bool.beq_eq_decide_eq ..]
      exact SeqAt.EqAt.int_int _ _ _ _)
    (fun j h1 h2 _ => by
      obtain ⟨_, e1⟩ := g1 j h1
      obtain ⟨_, e2⟩ := g2 j h2
      rw [e1, e2]
      exact Ob.RcOp.ge_int _ _ _ _)
  rw [show is1.toArray.size = ns.length by rw [List.size_toArray]; exact j1.length, show is2.toArray.size = ms.length by rw [List.size_toArray]; exact j2.length] at rc
  exact rc X.prog X.w X.xe (EP X pins σ Q) ⟨.bl _, H, I, rfl, q⟩
theorem o_ge (hu : X.A.units < cLine) : OpR X (compareOp .GtE) (rO X.K opGe) := by
  intro pins s σ H x y v u Q I rx ry h
  obtain ⟨m, W, a, b, r, o, eH, sr, ra, rb, ho, e, k⟩ := h
  unfold opGe at e
  split at e
  · cases e; cases ra; cases rb
    subst eH
    exact op_ge pins s σ _ _ _ v u Q I rx ry ⟨_, _, rfl, rfl, give sr k (.bl _)⟩
  · rename_i xs ys
    cases e1 : asIs xs with
    | none => rw [e1] at e; cases e
    | some ns =>
      rw [e1, Option.bind_some] at e
      cases e2 : asIs ys with
      | none => rw [e2] at e; cases e
      | some ms =>
        rw [e2] at e
        cases e
        cases ra with
        | tup h1 h2 =>
          cases rb with
          | tup h3 h4 =>
            have q1 := asIs_v h2 e1
            have q2 := asIs_v h4 e2
            subst eH q1 q2
            exact op_geT hu pins s σ _ _ _ v u Q I rx ry ⟨_, _, _, _, rfl, rfl, sr.sub.sqT h1, sr.sub.sqT h3, give sr k (.bl _)⟩
  · cases e
end

/-! ### repr(x), str(x) of data -/
def bRepr (W : Wd) : List D → Option R
  | [.int i] => if i.natAbs.log2 < 1920 then some (.d (.str (toString i))) else none
  | [d] => (d.py W 60).bind fun p => if p.showable = true ∧ p.shown.length ≤ sizeLine then some (.d (.str p.shown)) else none
  | _ => none
section
variable {X : Cx}
theorem dp_ref {K : PySem.W.Frag} {m : Mem} {d : D} {v : V} (h : Rp K m.Z m.mu v d) (hn : d.fl = none) : ∃ a, v = .ref a := by
  cases h <;> first | (cases hn; done) | exact ⟨_, rfl⟩
theorem canLay_noDict : ∀ d : PyData, d.canLay0 = true → d.hasDict = false := by
  intro d
  refine PyData.rec (motive_1 := fun d => d.canLay0 = true → d.hasDict = false) (motive_2 := fun ds => PyData.canLayAll0 ds = true → PyData.hasDictAll ds = false) (motive_3 := fun _ => True) (motive_4 := fun _ => True) ?_ ?_ ?_ ?_ ?_ ?_ ?_ ?_ ?_ ?_ ?_ ?_ d
  · intro _; simp [PyData.hasDict]
  · intro _ _; simp [PyData.hasDict]
  · intro _ _; simp [PyData.hasDict]
  · intro _ _; simp [PyData.hasDict]
  · intro xs ih h
    simp only [PyData.canLay0] at h
    simpa [PyData.hasDict] using ih h
  · intro xs ih h
    simp only [PyData.canLay0] at h
    simpa [PyData.hasDict] using ih h
  · intro kvs _ h; simp [PyData.canLay0] at h
  · intro _; simp [PyData.hasDictAll]
  · intro x xs ih1 ih2 h
    simp only [PyData.canLayAll0, Bool.and_eq_true] at h
    simp [PyData.hasDictAll, ih1 h.1, ih2 h.2]
  · trivial
  · intros; trivial
  · intros; trivial
theorem c_repr (hq : Quiet X.A) (hu : X.A.units + 64 < cLine) : CallR X (.builtin "repr") (rC X.K bRepr) := by
  intro pins s σ H xs us Q I rr h
  obtain ⟨m, W, ds, r, o, eH, sr, ra, ho, e, k⟩ := h
  unfold bRepr at e
  split at e
  · split at e
    · rename_i hz
      cases e
      obtain ⟨v, rfl, h1⟩ := rpa1 ra
      cases h1
      subst eH
      cases rr with
      | cons r1 rt =>
        cases rt
        obtain ⟨t, rfl⟩ := r1
        exact PySem.P.repr_of_int hz ⟨.str _, m.H, I.tok _, ⟨_, rfl⟩, give sr k (.str _)⟩
    · cases e
  · rename_i d hni
    cases e1 : d.py W 60 with
    | none => rw [e1] at e; cases e
    | some p =>
      rw [e1, Option.bind_some] at e
      split at e
      · rename_i hz
        cases e
        obtain ⟨v, rfl, h1⟩ := rpa1 ra
        have sh := py_shape 60 d p e1
        have dp := py_dp sr 60 d v p h1 e1
        subst eH
        cases rr with
        | cons r1 rt =>
          rename_i u _
          cases rt
          obtain ⟨as, rd⟩ := Dp.reads I p v u dp r1
          have fin : ∀ (h' : Heap) (t : Tok) (tk : Nat), (∀ b ob, s.heap.get? b = some ob → h'.get? b = some ob) → EP X pins σ Q (.str p.shown t) { s with heap := h', toks := tk } := fun h' t tk hk => ⟨.str _, m.H, I.kept hk, ⟨_, rfl⟩, give sr k (.str _)⟩
          cases hfl : d.fl with
          | none =>
            obtain ⟨a, rfl⟩ := dp_ref h1 hfl
            cases r1
            exact repr_of_reads' rd hz.1 (fun hd => by rw [canLay_noDict p sh.1] at hd; cases hd) hq (by have := sh.2; omega) (fun _ _ e => e) (fun h' t tk hk => fin h' t tk hk) hz.2
          | some w =>
            cases h1 with
            | non =>
              cases e1; cases r1
              exact PySem.P.repr_of_none (fin s.heap _ _ fun _ _ e => e)
            | bl b =>
              cases e1; cases r1
              have fin := fin s.heap
              simp only [PyData.shown] at fin
              exact PySem.P.repr_of_bool (fin _ _ fun _ _ e => e)
            | str x =>
              unfold D.py at e1
              split at e1
              · cases e1
                obtain ⟨t, rfl⟩ := r1
                have h2 := hz.2
                have fin := fin s.heap
                simp only [PyData.shown] at fin h2
                exact PySem.P.repr_of_str (fin _ _ fun _ _ e => e) h2
              · cases e1
            | int i => exact absurd rfl (hni i)
            | _ => cases hfl
      · cases e
  · cases e
end
end Ev

set_option Elab.async false
set_option linter.all false
set_option maxRecDepth 100000
namespace Ev
open PySem PySem.Spec L2

/-! ### which keys were met: each once, in the order of their first places -/
def addK (acc : List Leaf) (k : Leaf) : List Leaf := if k ∈ acc then acc else acc ++ [k]
def met (ks : List Leaf) : List Leaf := ks.foldl addK []
theorem met_snoc (ks : List Leaf) (k : Leaf) : met (ks ++ [k]) = addK (met ks) k := by
  unfold met; rw [List.foldl_append]; rfl
theorem addK_len (acc : List Leaf) (k : Leaf) : (addK acc k).length ≤ acc.length + 1 := by
  unfold addK; split
  · omega
  · rw [List.length_append]; exact Nat.le_refl _
theorem met_len : ∀ ks : List Leaf, (met ks).length ≤ ks.length := by
  intro ks
  have : ∀ (l acc : List Leaf), (l.foldl addK acc).length ≤ acc.length + l.length := by
    intro l
    induction l with
    | nil => intro acc; exact Nat.le_refl _
    | cons k l ih =>
      intro acc
      have h1 := ih (addK acc k)
      have h2 := addK_len acc k
      rw [List.foldl_cons, List.length_cons]
      omega
  have h := this ks []
  simp only [List.length_nil, Nat.zero_add] at h
  exact h
def memK (acc : List Leaf) : Leaf → Bool := fun k => decide (k ∈ acc)
theorem memK_add (acc : List Leaf) (k : Leaf) : (fun j => memK acc j || decide (j = k)) = memK (addK acc k) := by
  funext j
  unfold memK addK
  by_cases h : k ∈ acc
  · rw [if_pos h]
    by_cases hj : j = k
    · subst hj; simp [h]
    · simp [hj]
  · rw [if_neg h]
    by_cases hj : j = k
    · subst hj; simp
    · simp [hj]
theorem memK_len (acc : List Leaf) (k : Leaf) : (if memK acc k = true then acc.length else acc.length + 1) = (addK acc k).length := by
  unfold memK addK
  by_cases h : k ∈ acc
  · rw [if_pos (by simpa using h), if_pos h]
  · rw [if_neg (by simpa using h), if_neg h, List.length_append]; rfl
theorem leaf_scan {P : Program} {w : World} {k : Leaf} {v : Value} (h : (leafKind P w).is k v = true) : v.scannable = true := by
  have h : Leaf.isOf k v = true := h
  cases k with
  | none => cases v <;> first | rfl | exact absurd h Bool.false_ne_true
  | num i => cases v <;> first | rfl | exact absurd h Bool.false_ne_true
  | text x =>
    obtain ⟨t, rfl⟩ := Value.isStrOf_shape (show Value.isStrOf x v = true from h)
    rfl

section
variable {prog : Program} {w : World} {A : Around} {E : Value → Shared → Prop} {s : Shared}
/-- the items of a list or tuple are such keys -/
def KeysAt (P : Program) (w : World) (items : Array Value) (ks : List Leaf) : Prop := items.size = ks.length ∧ ∀ (i : Nat) (v : Value), items[i]? = some v → ∃ k, ks[i]? = some k ∧ (leafKind P w).is k v = true

theorem set_fill {I S : Addr} {fp wr : List Addr} {G : Array GenState → Array GenState → Prop} {n : Nat} {St : Nat → Shared → Prop} {items : Array Value} {ks : List Leaf} {R : Result → Shared → Prop}
    (Wk : WalksS prog w A.in1 I fp wr G n (fun i v => items[i]? = some v) St) (out : S ∉ fp) (hk : KeysAt prog w items ks) (hn : n = items.size) (few : n + 1 < scanBound) :
    ∀ (left i : Nat) (s : Shared), n - i = left → i ≤ n → St i s → s.heap.SetOf (leafKind prog w) S (memK (met (ks.take i))) (met (ks.take i)).length →
      (∀ s', Moved (S :: wr) G s s' → s'.heap.SetOf (leafKind prog w) S (memK (met ks)) (met ks).length → R (.ok (.ret .none)) s') →
      codeAny (model prog w) A (.builtin "set.update.loop" ⟨[.ref S, .ref I], []⟩) R s := by
  have Sw : S ∉ wr := fun h => out (Wk.sub _ h)
  have more : ∀ b ∈ wr, b ∈ S :: wr := fun b hb => List.mem_cons_of_mem _ hb
  have held : ∀ {a b : Shared} {f : Leaf → Bool} {k : Nat}, Moved wr G a b → a.heap.SetOf (leafKind prog w) S f k → b.heap.SetOf (leafKind prog w) S f k := fun mv ⟨o, es, ep, tb, ho, r⟩ => ⟨o, es, ep, tb, mv.heap S _ Sw ho, r⟩
  intro left
  induction left with
  | zero =>
    intro i s e1 e2 st hS hR
    have e3 : i = n := by omega
    subst e3
    rw [show ks.take i = ks from List.take_of_length_le (by rw [hn, hk.1]; exact Nat.le_refl _)] at hS
    refine codeAny_builtin PyProof.Rows.F.entry_set_update_loop ?_
    rw [Around.under_plainId PyProof.Rows.F.plain_set_update_loop _]
    exact wpAny_bind (Wk.done s _ _ st fun s' mv => wpAny_pure (hR s' (mv.mono more) (held mv hS)))
  | succ left ih =>
    intro i s e1 e2 st hS hR
    have lt : i < n := by omega
    refine codeAny_builtin PyProof.Rows.F.entry_set_update_loop ?_
    rw [Around.under_plainId PyProof.Rows.F.plain_set_update_loop _]
    refine wpAny_bind (Wk.item i s _ _ lt st fun v s' hv st' mv => ?_)
    obtain ⟨k, hki, his⟩ := hk.2 i v hv
    have hS' := held mv hS
    show wpAny _ A.in1 (holding [v] (setAdd S v) >>= _) _ _ s'
    refine wpAny_bind (wpAny_holding ?_)
    unfold setAdd
    refine wpAny_holding (wpAny_bind ((leafKind prog w).pyHash (k := k) his ?_))
    have room : (met (ks.take i)).length + 1 < scanBound := by
      have h1 := met_len (ks.take i)
      rw [List.length_take] at h1
      omega
    refine wpAny_setAddHashed_of (knd := leafKind prog w) (s := { s' with toks := s'.toks + 1 }) his (leaf_scan his) hS' room fun h' but hS2 => ?_
    have hS3 : h'.SetOf (leafKind prog w) S (memK (met (ks.take (i + 1)))) (met (ks.take (i + 1))).length := by
      rw [List.take_add_one, hki, Option.toList_some, met_snoc, ← memK_add, ← memK_len]
      exact hS2
    refine wpAny_pure ⟨plainId_quiet PyProof.Rows.F.plain_set_update_loop _, ih (i + 1) _ (by omega) lt (Wk.frame _ s' _ _ st' (Nat.le_succ _) fun b hb o e => ?_) hS3 fun s2 mv2 done => ?_⟩
    · rw [but.2 b fun z => out (by rw [← z]; exact hb)]; exact e
    · refine hR s2 (Moved.trans Wk.gtrans ((mv.mono more).then_heap (Nat.le_succ _) fun b o hb e => ?_) mv2) done
      rw [but.2 b fun z => hb (by rw [z]; exact List.mem_cons_self)]; exact e

namespace F9
theorem tuple_no_set : isSubtype (.type "tuple") (.type "set") = pure false := by rw [isSubtype_type]; kernel_rfl
theorem tuple_no_frozen : isSubtype (.type "tuple") (.type "frozenset") = pure false := by rw [isSubtype_type]; kernel_rfl
end F9
/-- what set(x) walks: a list or a tuple, behind its iterator -/
def SeqHere (h : Heap) (l : Addr) (items : Array Value) : Prop := ∃ T : String, (T = "list" ∨ T = "tuple") ∧ ∃ dd n sl, h.get? l = some { cls := .type T, dict := dd, data := .seq items n, slots := sl }
set_option maxHeartbeats 4000000 in
theorem set_from {l : Addr} {items : Array Value} {ks : List Leaf} {Q : Value → Shared → Prop} (calm : A.handled = none) (hl : SeqHere s.heap l items) (hk : KeysAt prog w items ks) (few : items.size + 1 < scanBound)
    (fin : ∀ (h' : Heap) (tk : Nat), h'.SetOf (leafKind prog w) s.heap.objs.size (memK (met ks)) (met ks).length → (∀ b o, b < s.heap.objs.size → s.heap.get? b = some o → h'.get? b = some o) → Q (.ref s.heap.objs.size) { s with heap := h', toks := tk }) :
    wpAny (model prog w) A (call (.type "set") [.ref l]) Q E s := by
  obtain ⟨c, tl, hmro⟩ := F.called_set.mro
  have made := F.called_set.made
  have hsub := F.called_set.sub
  refine wpAny_call (codeAny_of_tree ?_)
  show wpAny _ _ (callAny (.type "set") _) _ _ _
  refine wpAny_pure ⟨Code.quiet_builtin _ (by decide +kernel), codeAny_builtin F.entry_type_call ?_⟩
  rw [Around.under_plain (weight_type_call_type "set" [.ref l] []) rfl]
  have n1 := F.called_set.notType
  have n2 := F.called_set.canCreate
  have n3 := F.typeCall_set_1 (.ref l)
  repeat (any_goals (first | assumption | wp_step))
  let P0 : Bool → Heap := fun led => s.heap.push { cls := .type "set", dict := none, data := .set #[] 0 (.fresh 0 0 led) }
  refine codeAny_mono (code_set_new_1 (.ref l) (E := E) (Q₁ := fun obj s₁ => ∃ led : Bool, obj = .ref s.heap.objs.size ∧ s₁ = { s with heap := P0 led }) fun led => ⟨led, rfl, rfl⟩) fun r s₁ hr => ?_
  cases r with
  | error e => exact hr
  | ok fl =>
    cases fl with
    | ret obj =>
      obtain ⟨led, rfl, rfl⟩ := hr
      have atS : (P0 led).get? s.heap.objs.size = some { cls := .type "set", dict := none, data := .set #[] 0 (.fresh 0 0 led) } := Heap.get?_push_size _ rfl
      have tyS : Shared.TypeIs { s with heap := P0 led } (.ref s.heap.objs.size) "set" := ⟨_, atS, rfl⟩
      have i1 := F.called_set.init.lookup
      have i2 := F.called_set.init.bind (.ref s.heap.objs.size)
      repeat (any_goals (first | assumption | wp_step))
      refine codeAny_mono (codeAny_call_builtin (R := wants (fun r s₂ => r = .none ∧ ∃ h' tk, s₂ = { s with heap := h', toks := tk } ∧ h'.SetOf (leafKind prog w) s.heap.objs.size (memK (met ks)) (met ks).length ∧
          (∀ b o, b < s.heap.objs.size → s.heap.get? b = some o → h'.get? b = some o)) E) F.called_set.init.plain F.entry_set_init (check_set_init_1 tyS ?_)) fun r₂ s₂ hr₂ => ?_
      · obtain ⟨T, hT, dd, nl, sl, hol⟩ := hl
        have hol2 : (P0 led).get? l = some { cls := .type T, dict := dd, data := .seq items nl, slots := sl } := Heap.get?_push_of_some _ hol
        have sub1 : isSubtype (.type T) (.type "set") = pure false := by rcases hT with rfl | rfl; exact F.sub_list_set; exact F9.tuple_no_set
        have sub2 : isSubtype (.type T) (.type "frozenset") = pure false := by rcases hT with rfl | rfl; exact F.sub_list_frozenset; exact F9.tuple_no_frozen
        have noD : (Value.type T == Value.type "dict") = false := by rcases hT with rfl | rfl <;> decide
        have lS : l < s.heap.objs.size := Heap.lt_size hol
        have sz : (P0 led).objs.size = s.heap.objs.size + 1 := Heap.size_push ..
        have neI : l ≠ (P0 led).objs.size := by rw [sz]; exact Nat.ne_of_lt (Nat.lt_succ_of_lt lS)
        have outS : s.heap.objs.size ∉ [(P0 led).objs.size, l] := by
          rw [sz]; simp only [List.mem_cons, List.not_mem_nil, or_false, not_or]
          exact ⟨Nat.ne_of_lt (Nat.lt_succ_self _), Nat.ne_of_gt lS⟩
        have calm3 : A.in1.in1.in1.handled = none := by simp [calm]
        -- the loop, behind whatever iterator stands at the new place
        have go : ∀ (it : Obj) (St : Nat → Heap → Prop), Walks prog w A.in1.in1.in1 (P0 led).objs.size [(P0 led).objs.size, l] [(P0 led).objs.size] items.size (fun i v => items[i]? = some v) St → St 0 ((P0 led).push it) →
            codeAny (model prog w) A.in1.in1 (.builtin "set.update.loop" ⟨[.ref s.heap.objs.size, .ref (P0 led).objs.size], []⟩) (fun r s' => r = .ok (.ret .none) ∧ ∃ h' tk, s' = { s with heap := h', toks := tk } ∧ h'.SetOf (leafKind prog w) s.heap.objs.size (memK (met ks)) (met ks).length ∧
              (∀ b o, b < s.heap.objs.size → s.heap.get? b = some o → h'.get? b = some o)) { s with heap := (P0 led).push it } := by
          intro it St Wk st0
          refine set_fill Wk.toS outS hk rfl few (items.size - 0) 0 _ (by omega) (Nat.zero_le _) st0 ?_ ?_
          · have at2 : ((P0 led).push it).get? s.heap.objs.size = some { cls := .type "set", dict := none, data := .set #[] 0 (.fresh 0 0 led) } := Heap.get?_push_of_some _ atS
            have base := (PyProof.Rows.setObjOf_fresh (prog := prog) (w := w) (knd := leafKind prog w) led).setOf at2 (by unfold scanBound; omega)
            exact PyProof.Rows.SetOf_congr base (fun k => by simp [memK, met]) (by simp [met])
          · intro s' mv done
            obtain ⟨h', g', d', tk', os'⟩ := s'
            obtain rfl : g' = s.gens := mv.gens
            obtain rfl : d' = s.drawn := mv.drawn
            obtain rfl : os' = s.os := mv.os
            refine ⟨rfl, h', tk', rfl, done, fun b o hb e => mv.heap b o ?_ (Heap.get?_push_of_some _ (Heap.get?_push_of_some _ e))⟩
            have b1 : b ≠ s.heap.objs.size := Nat.ne_of_lt hb
            have b2 : b ≠ (P0 led).objs.size := by rw [sz]; exact Nat.ne_of_lt (Nat.lt_succ_of_lt hb)
            simp [b1, b2]
        unfold Builtin.«set.__init__» noKeywords Builtin.Frozenset.updateFrom
        generalize hPI : pyIter = PI
        wp_walk
        subst hPI
        rcases hT with rfl | rfl
        · have isl : (P0 led).IsList l items := ⟨_, hol2, rfl, nl, rfl⟩
          refine wpAny_pyIter_list isl (wpAny_bind (wpAny_runValue ?_))
          refine codeAny_mono (go _ _ (Walks.list calm3 _ l neI items) ⟨⟨_, Heap.get?_push_size _ rfl, rfl, rfl⟩, isl.push _⟩) fun r s' h => ?_
          obtain ⟨rfl, h', tk, rfl, q1, q2⟩ := h
          refine wpAny_pure ?_
          show wpAny _ _ (ret Value.none) _ _ _
          exact wpAny_pure ⟨rfl, h', tk, rfl, q1, q2⟩
        · have isl : (P0 led).IsTuple l items := ⟨_, hol2, rfl, nl, rfl⟩
          refine wpAny_pyIter_tuple isl (wpAny_bind (wpAny_runValue ?_))
          refine codeAny_mono (go _ _ (Walks.tuple calm3 _ l neI items) ⟨⟨_, Heap.get?_push_size _ rfl, rfl, rfl⟩, isl.push _⟩) fun r s' h => ?_
          obtain ⟨rfl, h', tk, rfl, q1, q2⟩ := h
          refine wpAny_pure ?_
          show wpAny _ _ (ret Value.none) _ _ _
          exact wpAny_pure ⟨rfl, h', tk, rfl, q1, q2⟩
      · cases r₂ with
        | error e => exact hr₂
        | ok fl₂ =>
          cases fl₂ with
          | ret r =>
            obtain ⟨rfl, h', tk, rfl, q1, q2⟩ := hr₂
            repeat (any_goals (first | assumption | wp_step))
            exact fin _ _ q1 q2
          | _ => exact hr₂.elim
    | _ => exact hr.elim
end
end Ev

set_option Elab.async false
set_option linter.all false
set_option maxRecDepth 100000
namespace Ev
open PySem PySem.Spec L2

/-! ### sets of leaves as tracked things -/
def SetLf (P : Program) (w : World) (a : Addr) (ks : List Leaf) : HO := .ext fun h => h.SetOf (leafKind P w) a (memK ks) ks.length
def lfV : Leaf → V
  | .none => .non
  | .num i => .int i
  | .text x => .str x
theorem lf_is {P : Program} {w : World} {k : Leaf} {u : Value} (r : RelV (lfV k) u) : (leafKind P w).is k u = true := by
  cases k with
  | none => cases r; rfl
  | num i => obtain ⟨t, rfl⟩ := r; exact beq_self_eq_true i
  | text x => obtain ⟨t, rfl⟩ := r; exact decide_eq_true rfl
theorem setL_at {P : Program} {w : World} {h h' : Heap} {a : Addr} {S : Leaf → Bool} {n : Nat} (R : h.SetOf (leafKind P w) a S n) (k : ∀ o, h.get? a = some o → h'.get? a = some o) : h'.SetOf (leafKind P w) a S n := by
  obtain ⟨o, es, ep, t, ho, r⟩ := R
  exact ⟨o, es, ep, t, k o ho, r⟩
theorem setL_new {w : World} {P : Program} {H : Hp} {h : Heap} {a : Addr} {ks : List Leaf} (R : h.SetOf (leafKind P w) a (memK ks) ks.length) : ObjOk P w H h a (SetLf P w a ks) := by
  have ⟨o, _, _, _, ho, _⟩ := R
  exact ⟨R, ⟨o, ho⟩, fun h1 h2 p k => setL_at p k⟩
section
variable {X : Cx}
theorem setL_get {pins : List (Addr × Obj)} {σ : St} {H : Hp} {s : Shared} {a : Addr} {ks : List Leaf} (I : Inv X pins σ H s) (ha : H a = some (SetLf X.prog X.w a ks)) : s.heap.SetOf (leafKind X.prog X.w) a (memK ks) ks.length := (I.hok a _ ha).1
theorem lf_keys {its : List Value} {ks : List Leaf} (r : Vals (ks.map lfV) its) : KeysAt X.prog X.w its.toArray ks := by
  have hl : its.length = ks.length := by rw [← r.length, List.length_map]
  refine ⟨by rw [List.size_toArray]; exact hl, fun i v hv => ?_⟩
  have hv : its[i]? = some v := by simpa using hv
  have hi : i < ks.length := by rw [← hl]; exact getElem_lt hv
  refine ⟨ks[i], List.getElem?_eq_getElem hi, ?_⟩
  have hx : (ks.map lfV)[i]? = some (lfV ks[i]) := by rw [List.getElem?_map, List.getElem?_eq_getElem hi]; rfl
  obtain ⟨u, hu, ru⟩ := r.get hx
  rw [hv] at hu
  cases hu
  exact lf_is ru
/-- set(x) of a list or tuple of leaves -/
def rSetL (K : PySem.W.Frag) (P : Program) (w : World) : List V → Hp → VK → Prop := fun vs H Q => ∃ (l : Addr) (ks : List Leaf), vs = [.ref l] ∧ (SqL K H l (ks.map lfV) ∨ SqT K H l (ks.map lfV)) ∧ ks.length + 1 < scanBound ∧
  ∀ S, H S = none → Q (.ref S) (upd H S (SetLf P w S (met ks)))
theorem cr_setL (hc : X.calm = true) : CallR X (.type "set") (rSetL X.K X.prog X.w) := by
  intro pins s σ H xs us Q I r h
  obtain ⟨l, ks, rfl, hq, few, q⟩ := h
  cases r with
  | cons r1 rt =>
    cases rt
    cases r1
    have go : ∀ its : List Value, Vals (ks.map lfV) its → SeqHere s.heap l its.toArray → wpAny (model X.prog X.w) X.A (call (.type "set") [.ref l]) (EP X pins σ Q) X.xe s := fun its rv hl => by
      have sz : its.toArray.size = ks.length := by rw [List.size_toArray, ← rv.length, List.length_map]
      refine set_from (I.ok.hd hc) hl (lf_keys rv) (by rw [sz]; exact few) fun h' tk hS hk => ?_
      exact ⟨.ref _, upd H s.heap.objs.size (SetLf X.prog X.w s.heap.objs.size (met ks)), I.laid (t' := tk) (fun b u e => hk b u (Heap.lt_size e) e) (Nat.le_refl _) (setL_new hS), rfl, q _ (I.hok.fresh (Nat.le_refl _))⟩
    rcases hq with hq | hq
    · obtain ⟨its, rv, pl, _⟩ := I.list hq
      refine go its rv ?_
      obtain ⟨o, e, c, n, d⟩ := pl.isList
      refine ⟨"list", .inl rfl, o.dict, n, o.slots, by rw [e]; cases o; cases c; cases d; rfl⟩
    · obtain ⟨its, rv, ⟨o, e, c, n, d⟩, _⟩ := I.tuple hq
      refine go its rv ⟨"tuple", .inr rfl, o.dict, n, o.slots, by rw [e]; cases o; cases c; cases d; rfl⟩
/-- len of one -/
def rLenS (P : Program) (w : World) : List V → Hp → VK → Prop := fun vs H Q => ∃ (S : Addr) (ks : List Leaf), vs = [.ref S] ∧ H S = some (SetLf P w S ks) ∧ ks.length ≤ sizeLine ∧ Q (.int ks.length) H
theorem cr_lenS : CallR X (.builtin "len") (rLenS X.prog X.w) := by
  intro pins s σ H xs us Q I r h
  obtain ⟨S, ks, rfl, hS, hz, q⟩ := h
  cases r with
  | cons r1 rt =>
    cases rt
    cases r1
    obtain ⟨o, es, ep, t, ho, hex, hd, _, _, _, hf, hn⟩ := setL_get I hS
    have hb : sizeLine < 2 ^ 63 := by decide
    refine call_len_set ho hex hd hf (by rw [hn]; omega) ⟨.int ks.length, H, I.tok _, ⟨_, by rw [hn]⟩, q⟩
theorem addL_ok {pins : List (Addr × Obj)} {σ : St} {H : Hp} {s : Shared} {E : Value → Shared → Prop} {D : Addr} {ks : List Leaf} {y : Leaf} {u : Value} {Q : Value → Shared → Prop} (I : Inv X pins σ H s) (hD : H D = some (SetLf X.prog X.w D ks)) (ry : RelV (lfV y) u) (room : ks.length + 1 < scanBound)
    (h : ∀ s', Inv X pins σ (upd H D (SetLf X.prog X.w D (addK ks y))) s' → Q .none s') : wpAny (model X.prog X.w) X.A (call (.builtin "set.add") [.ref D, u]) Q E s := by
  refine call_set_add (lf_is (P := X.prog) (w := X.w) ry) (leaf_scan (lf_is (P := X.prog) (w := X.w) ry)) (setL_get I hD) room fun h' sb new => ?_
  rw [memK_add, memK_len] at new
  have he : ∃ u, h'.get? D = some u := by
    have ⟨o, _, _, _, ho, _⟩ := new
    exact ⟨o, ho⟩
  exact h _ (I.write (e := D) (t' := s.toks + 1) (by rw [hD]; trivial) (.inl rfl) (fun b u hb hu => (sb.2 b hb).trans hu) he (setL_new new))
end
end Ev

set_option Elab.async false
set_option linter.all false
set_option maxRecDepth 100000
namespace Ev
open PySem PySem.Spec L2

/-! ### {x for .. in ..} of leaves -/
section
variable {X : Cx}
abbrev eS (P : Program) (w : World) (H : Hp) (D : Addr) (ks : List Leaf) : Hp := upd H D (SetLf P w D ks)
/-- a turn puts the leaf y into the set at D -/
def putLf (P : Program) (w : World) (D : Addr) (Nx : Hp → Prop) : VK := fun y H => ∃ k ks, y = lfV k ∧ H D = some (SetLf P w D ks) ∧ ks.length + 1 < scanBound ∧ Nx (eS P w H D (addK ks k))
def tScL (P : Program) (w : World) (wi : TI) (g : TG) (tt : TT) (te : TE) (vs : List Nat) : TE := fun σ H Q => wi σ H fun J H1 => ∀ D, H1 D = none → ∃ W : Nat → Nat → Hp → Prop, (∃ m, W 0 m (eS P w H1 D [])) ∧ ∀ i m H, W i m H →
  (J.stop i H ∧ Q (.ref D) H) ∨ (J.go i H ∧ ∃ Nx : Hp → Prop, (∀ H', Nx H' → ∃ m', m' < m ∧ W (i + 1) m' H') ∧ ∀ x H', J.yld i H x H' → g x (wipe σ vs) H' fun σ2 H2 => wipe σ2 vs = wipe σ vs ∧ tt σ2 H2 fun b H3 =>
    if b = true then te σ2 H3 (putLf P w D Nx) else Nx H3)
variable {elt tg iter : Expr} {ifs : List Expr} {scope : Scope} {own : List (Str × Nat)} {pos : Pos} {wi : TI} {g : TG} {tt : TT} {te : TE}
theorem pe_scL (hc : X.calm = true) (hN : X.N.Nodup) (hi : PI X tg iter wi) (ok : BlkOk X.N X.env.scope scope own)
    (hg : ∀ (s : Shared) (H : Hp) (C : Addr) (cl : List (Str × Addr)) (fp : List Addr), PG (X.blk s H scope (compEnvC scope cl C X.env) fp) tg g) (ht : ∀ (s : Shared) (H : Hp) (C : Addr) (cl : List (Str × Addr)) (fp : List Addr), PTs (X.blk s H scope (compEnvC scope cl C X.env) fp) ifs tt)
    (he : ∀ (s : Shared) (H : Hp) (C : Addr) (cl : List (Str × Addr)) (fp : List Addr), PE (X.blk s H scope (compEnvC scope cl C X.env) fp) elt te) (hs : ∀ x, foldedSetIterable iter X.env x = pure x := by intro _; rfl) :
    PE X (.SetComp elt [⟨tg, iter, ifs, 0⟩] scope pos) (tScL X.prog X.w wi g tt te (own.map (·.2))) := by
  refine ⟨fun pins s σ H Q I h => ?_⟩
  rw [PpSet.eval_SetComp]
  refine wpAny_comprehension_free (use := none) rfl hs (closure_ok fun y hy e => (ok.free y hy e).elim (fun k => I.ok.has _ (.inl k)) fun k => I.ok.has _ (.inr k)) ok.kind (fun y hy e => by rw [ok.uniq y hy, e])
    (thn (hi.run pins s σ H _ I h) fun xv sA hx => thn hx fun itv sB hB => ?_)
  obtain ⟨it, fp, tn, J, HB, rfl, IB, T, stB, fB, q⟩ := hB
  refine PpSet.newSet_ok (newEnv_comp ?_)
  have hDn : HB sB.heap.objs.size = none := IB.hok.fresh (Nat.le_refl _)
  obtain ⟨W, ⟨m0, w0⟩, turn⟩ := q _ hDn
  generalize hD : sB.heap.objs.size = D at hDn w0 turn ⊢
  generalize ho : ({ cls := .type "set", dict := none, data := .set #[] 0 (.fresh 0 0 (!X.w.params.followText "set-order")) } : Obj) = o
  -- the new set
  have base : (sB.heap.push o).SetOf (leafKind X.prog X.w) D (memK []) ([] : List Leaf).length := by
    rw [← ho, ← hD]
    exact PyProof.Rows.SetOf_congr ((PyProof.Rows.setObjOf_fresh (prog := X.prog) (w := X.w) (knd := leafKind X.prog X.w) _).setOf (Heap.get?_push_size _ rfl) (by unfold scanBound; omega)) (fun k => by simp [memK]) rfl
  have IC : Inv X pins σ (eS X.prog X.w HB D []) { sB with heap := sB.heap.push o, toks := sB.toks } := IB.laid (fun b u e => Heap.get?_push_of_some _ e) (Nat.le_of_eq hD) (setL_new base)
  generalize hs3 : ({ sB with heap := sB.heap.push o, toks := sB.toks } : Shared) = sC at IC
  have hC : sC.heap = sB.heap.push o := by rw [← hs3]
  have fC : ∀ b ∈ fp, FpOk X pins (eS X.prog X.w HB D []) b ∧ b < sC.heap.objs.size := fun b hb => by
    obtain ⟨u, e, _⟩ := T.obj _ _ stB b hb
    have hlt := Heap.lt_size e
    refine ⟨⟨(upd_ne (by rw [← hD]; exact Nat.ne_of_lt hlt)).trans (fB b hb).1, (fB b hb).2⟩, ?_⟩
    rw [hC, Heap.size_push]
    exact Nat.lt_succ_of_lt hlt
  have stC : tn 0 sC.heap := T.keep _ _ _ stB fun b _ u e => by rw [hC]; exact Heap.get?_push_of_some _ e
  have I4 := block_start IC ok hN fC
  -- the block
  suffices big : ∀ (ce : Env), ce = compEnvC scope (cellsFrom (sC.heap.objs.size + 1) scope.names (cloFrom X.env.cells scope.names [])) sC.heap.objs.size X.env →
      ∀ s4 : Shared, Inv (X.blk sC (eS X.prog X.w HB D []) scope ce fp) [] (wipe σ (own.map (·.2))) (eS X.prog X.w HB D []) s4 → tn 0 s4.heap →
      codeAny (model X.prog X.w) X.A (.compLoop (.SetComp elt [⟨tg, iter, ifs, 0⟩] scope pos) 0 (.ref it) (.ref D) ce) (compPost (model X.prog X.w) X.A X.xe none (EP X pins σ Q) (.ref D) sC.heap.objs.size) s4 by
    have st4 : tn 0 ({ sC with heap := pushCells (sC.heap.push { cls := .type "dict", data := .dict #[] }) scope.names } : Shared).heap := T.keep _ _ _ stC fun b _ u e => pushCells_keeps _ _ _ _ (Heap.get?_push_of_some _ e)
    have lp := big _ rfl _ I4 st4
    subst hs3
    have en := PpSet.codeAny_compStart_set lp (T.self X.A 0 _ _ _ st4 lp)
    rw [← ho] at en ⊢
    exact en
  intro ce hce s4 I4 st4
  have pg := hg sC (eS X.prog X.w HB D []) sC.heap.objs.size (cellsFrom (sC.heap.objs.size + 1) scope.names (cloFrom X.env.cells scope.names [])) fp
  have pt := ht sC (eS X.prog X.w HB D []) sC.heap.objs.size (cellsFrom (sC.heap.objs.size + 1) scope.names (cloFrom X.env.cells scope.names [])) fp
  have pe := he sC (eS X.prog X.w HB D []) sC.heap.objs.size (cellsFrom (sC.heap.objs.size + 1) scope.names (cloFrom X.env.cells scope.names [])) fp
  rw [← hce] at pg pt pe
  have cL : ce.locals = sC.heap.objs.size := by rw [hce]; rfl
  have nfp : ∀ b ∈ fp, (eS X.prog X.w HB D []) b = none := fun b hb => (fC b hb).1.1
  generalize hY : X.blk sC (eS X.prog X.w HB D []) scope ce fp = Y at I4 pg pt pe
  have stat : ∀ {σ' : St} {H' : Hp} {s' : Shared}, Inv Y [] σ' H' s' → (∀ b ∈ fp, H' b = none) → ∀ b ∈ fp, FpOk Y [] H' b := fun {σ' H' s'} I' hn b hb => by
    subst hY
    exact ⟨hn b hb, (I'.ok.exf b hb).1, I'.ok.exfs b hb, .inl hb, fun x c e => (I'.ok.exf b hb).2 x c e, fun p hp => absurd (show p ∈ ([] : List (Addr × Obj)) ++ [] from hp) (by simp)⟩
  subst hY
  refine PpSet.compLoopS_any (fun n s' => ∃ i H', Inv (X.blk sC (eS X.prog X.w HB D []) scope ce fp) [] (wipe σ (own.map (·.2))) H' s' ∧ tn i s'.heap ∧ (∀ b ∈ fp, H' b = none) ∧ W i n H') ?_ m0 ⟨0, _, I4, st4, nfp, w0⟩
  rintro n s5 ⟨i, H5, I5, st5, n5, w5⟩
  rcases turn i n H5 w5 with ⟨stop, qq⟩ | ⟨go, Nx, hNx, step⟩
  · refine thnF (T.done (X.blk sC (eS X.prog X.w HB D []) scope ce fp) rfl rfl rfl hc i [] s5 _ H5 (fun _ _ => False) I5 (stat I5 n5) st5 stop) fun r s6 ⟨hr, I6⟩ => ?_
    subst hr
    have I7 : Inv X pins σ H5 s6 := IC.call' (ch := fp) I6.os I6.base I6.hok I6.bare fun b hb => ⟨(fC b hb).1.2.2.2.1, (fC b hb).1.2.1, (fC b hb).1.2.2.2.2.1, (fC b hb).1.2.2.2.2.2⟩
    have nC : H5 sC.heap.objs.size = none := by
      have z : H5 ce.locals = none := I6.free
      rwa [cL] at z
    obtain ⟨m, hn, _⟩ := I6.loc
    have hn : s6.heap.Ns ce.locals m := hn
    rw [cL] at hn
    obtain ⟨f0, f1, f2, f3, f4, f5⟩ := IC.fpOk (Nat.le_refl _) nC
    exact ⟨m, hn, fun h'' sb => ⟨.ref D, H5, I7.turned (t' := s6.toks) (fun b u hb e => (sb.2 b hb).trans e) f0 f1 f3 f4 f5, rfl, qq⟩⟩
  · refine thnF (T.item (X.blk sC (eS X.prog X.w HB D []) scope ce fp) rfl rfl rfl hc i [] s5 _ H5 (fun _ _ => False) I5 (stat I5 n5) st5 go) fun r s6 ⟨u, hr, h6⟩ => ?_
    subst hr
    refine thnF h6 fun _ s7 ⟨x, H7, I7, r7, y7, st7, n7⟩ => ?_
    refine thnF (pg.run _ s7 _ H7 x u _ (I7.pinned (stat I7 n7) (T.obj _ _ st7)) r7 (step x H7 y7)) fun _ s8 ⟨σ8, H8, I8, hw8, q8⟩ => ?_
    have back : ∀ {s' : Shared} {H' : Hp}, Inv (X.blk sC (eS X.prog X.w HB D []) scope ce fp) ([] ++ pinsAt fp s7.heap) σ8 H' s' → Nx H' → ∃ m, m < n ∧ ∃ i H', Inv (X.blk sC (eS X.prog X.w HB D []) scope ce fp) [] (wipe σ (own.map (·.2))) H' s' ∧ tn i s'.heap ∧ (∀ b ∈ fp, H' b = none) ∧ W i m H' := fun {s' H'} I' nx => by
      obtain ⟨m', hm, w'⟩ := hNx H' nx
      have pin' : ∀ b ∈ fp, ∀ u, s7.heap.get? b = some u → s'.heap.get? b = some u ∧ H' b = none := fun b hb u e => by
        have z := I'.pin (b, u) (List.mem_append_right _ (List.mem_append_right _ (mem_pinsAt hb e)))
        exact ⟨z.1, z.2.1⟩
      refine ⟨m', hm, i + 1, H', (I'.unpinned (pins := [])).weak (by rw [← hw8, wipe_length]) (fun j v e => ?_), T.keep _ _ _ st7 fun b hb u e => (pin' b hb u e).1, fun b hb => ?_, w'⟩
      · rw [← hw8] at e
        exact (wipe_some e).1
      · obtain ⟨u, e, _⟩ := T.obj _ _ st7 b hb
        exact (pin' b hb u e).2
    refine thnF (pt.run _ s8 σ8 H8 _ I8 q8) fun b s9 ⟨H9, I9, q9⟩ => ?_
    cases b with
    | false => exact back I9 q9
    | true =>
      refine thnF (pe.run _ s9 σ8 H9 _ I9 q9) fun z s10 ⟨yv, H10, I10, r10, k, ks, ey, hD10, hz10, nx⟩ => ?_
      subst ey
      exact addL_ok (X := X.blk sC (eS X.prog X.w HB D []) scope ce fp) I10 hD10 r10 hz10 fun s11 I11 => back I11 nx
end
end Ev

set_option Elab.async false
set_option linter.all false
set_option maxRecDepth 100000
namespace Ev
open PySem PySem.Spec L2

/-! ### how many different leaves -/
def D.lf : D → Option Leaf
  | .non => some .none
  | .int i => some (.num i)
  | .str x => some (.text x)
  | _ => none
def R.lf : R → Option Leaf
  | .d x => x.lf
  | .fr _ => none
def asLf : List D → Option (List Leaf)
  | [] => some []
  | d :: r => d.lf.bind fun k => (asLf r).map fun q => k :: q
theorem lf_v {K : PySem.W.Frag} {Z : Hp} {mu : List Addr} {d : D} {v : V} {k : Leaf} (h : Rp K Z mu v d) (e : d.lf = some k) : v = lfV k := by
  cases d <;> first | (cases e; done) | (cases e; cases h; rfl)
theorem asLf_v {K : PySem.W.Frag} {Z : Hp} {mu : List Addr} : ∀ {ds : List D} {vs : List V} {ks : List Leaf}, RpA K Z mu vs ds → asLf ds = some ks → vs = ks.map lfV
  | [], _, _, h, e => by cases h; cases e; rfl
  | d :: r, _, _, h, e => by
    cases h with
    | cons h1 h2 =>
      unfold asLf at e
      cases e1 : d.lf with
      | none => rw [e1] at e; cases e
      | some k =>
        rw [e1, Option.bind_some] at e
        cases e2 : asLf r with
        | none => rw [e2] at e; cases e
        | some q =>
          rw [e2] at e
          cases e
          rw [List.map_cons, ← asLf_v h2 e2, lf_v h1 e1]
/-- len(set(e)) -/
def fLenSet (f : FE) : FE := fun ρ W => (f ρ W).bind fun p => (asS p.2 p.1).bind fun xs => (asLf xs).bind fun ks => if ks.length ≤ 1000 then some (.d (.int (met ks).length), p.2) else none
def scL (chk : Wd → Bool) (t : Tg) (c : FT) (f : FE) (ρ : En) : List D → Wd → List Leaf → Option (List Leaf × Wd)
  | [], W, acc => if chk W = true ∧ acc.length ≤ 1000 then some (acc, W) else none
  | d :: r, W, acc => if chk W = true then (fTg t d ρ).bind fun ρ1 => (c ρ1 W).bind fun p => if p.1 = true then
      (f ρ1 p.2).bind fun q => q.1.lf.bind fun k => if acc.length ≤ 1000 then scL chk t c f ρ r q.2 (addK acc k) else none
      else scL chk t c f ρ r p.2 acc
    else none
/-- len({e for ..}) -/
def fLenSc (vs : List Nat) (s : FI) (t : Tg) (c : FT) (f : FE) : FE := fun ρ W => (s ρ W).bind fun p => (scL p.1.chk t c f (wipeE ρ vs) p.1.items p.2 []).map fun q => (.d (.int q.1.length), q.2)
/-- set(e) == set(f) -/
def sameSet (ks js : List Leaf) : Bool := ks.all (fun k => decide (k ∈ js)) && js.all (fun k => decide (k ∈ ks))
section
variable {X : Cx} {x y : Str} {p p2 pos pos2 : Pos} {e : Expr} {f : FE}
theorem met_le (ks : List Leaf) (h : ks.length ≤ 1000) : (met ks).length ≤ sizeLine := le_size (Nat.le_trans (met_len ks) h)
theorem few_keys {n : Nat} (h : n ≤ 1000) : n + 1 < scanBound := by unfold scanBound; omega
theorem ev_lenSet (hc : X.calm = true) (hg : Gl X x) (hm : X.mg x = none) (hv : bootBuiltins x = some (.builtin "len")) (hg2 : Gl X y) (hm2 : X.mg y = none) (hv2 : bootBuiltins y = some (.type "set")) (he : EvE X e f)
    (hn : x ≠ "__name__" := by decide) (hdb : (x == ("__debug__" : Str)) = false := by decide) (hn2 : y ≠ "__name__" := by decide) (hdb2 : (y == ("__debug__" : Str)) = false := by decide)
    (hs : starEach [e] X.env = (false, eval e X.env) :: starEach [] X.env := by rfl) (hs2 : starEach [(.Call (.Name y p2) [e] [] pos2 : Expr)] X.env = (false, eval (.Call (.Name y p2) [e] [] pos2) X.env) :: starEach [] X.env := by rfl) :
    EvE X (.Call (.Name x p) [.Call (.Name y p2) [e] [] pos2] [] pos) (fLenSet f) :=
  ⟨peI (pe_callB cr_lenS hg hm hv (pa_cons (pe_callTy (cr_setL hc) hg2 hm2 hv2 (pa_cons he.ok pa_nil hs) hn2 hdb2 hs) pa_nil hs2) hn hdb hs2) fun σ H Q ⟨m, W, ρ, r, W', eH, sr, rs, q, k⟩ => by
    unfold fLenSet at q
    cases e1 : f ρ W with
    | none => rw [e1] at q; cases q
    | some z =>
      rw [e1, Option.bind_some] at q
      cases e2 : asS z.2 z.1 with
      | none => rw [e2] at q; cases q
      | some xs =>
        rw [e2, Option.bind_some] at q
        cases e3 : asLf xs with
        | none => rw [e3] at q; cases q
        | some ks =>
          rw [e3, Option.bind_some] at q
          split at q
          · rename_i hz
            cases q
            refine ⟨m, W, ρ, z.1, z.2, eH, sr, rs, e1, fun v n x1 s1 r1 => ?_⟩
            obtain ⟨a, vs, rfl, g1, g2⟩ := asS_H s1 r1 e2
            have ev := asLf_v g2 e3
            subst ev
            refine ⟨a, ks, rfl, g1, few_keys hz, fun S hS => ?_⟩
            refine ⟨S, met ks, rfl, upd_same, met_le ks hz, ?_⟩
            exact k _ ⟨upd n.H S (SetLf X.prog X.w S (met ks)), n.Z, n.mu⟩ (x1.trans (laid_ext s1 hS _)) (laid_sr s1 hS _) (.int _)
          · cases q⟩
variable {elt tg iter : Expr} {ifs : List Expr} {scope : Scope} {own : List (Str × Nat)} {s : FI} {t : Tg} {c : FT}
theorem scL_few {chk : Wd → Bool} {ρ : En} : ∀ {l : List D} {W W' : Wd} {acc ks : List Leaf}, scL chk t c f ρ l W acc = some (ks, W') → ks.length ≤ 1000
  | [], W, W', acc, ks, h => by
    unfold scL at h
    split at h
    · cases h; exact (‹_ ∧ _›).2
    · cases h
  | d :: r, W, W', acc, ks, h => by
    unfold scL at h
    split at h
    · cases e1 : fTg t d ρ with
      | none => rw [e1] at h; cases h
      | some ρ1 =>
        rw [e1, Option.bind_some] at h
        cases e2 : c ρ1 W with
        | none => rw [e2] at h; cases h
        | some q =>
          rw [e2, Option.bind_some] at h
          split at h
          · cases e3 : f ρ1 q.2 with
            | none => rw [e3] at h; cases h
            | some z =>
              rw [e3, Option.bind_some] at h
              cases e4 : z.1.lf with
              | none => rw [e4] at h; cases h
              | some k =>
                rw [e4, Option.bind_some] at h
                split at h
                · exact scL_few h
                · cases h
          · exact scL_few h
    · cases h
theorem rd_sc {K : PySem.W.Frag} {P : Program} {w : World} {vs : List Nat} (ht : ∀ i ∈ t.slots, i ∈ vs) {σ : St} {H : Hp} {Q : VK} (q : rdE K (fLenSc vs s t c f) σ H Q) :
    tScL P w (rdI K s) (rdG K t) (rdT K c) (rdE K f) vs σ H fun x H1 => tNil σ H1 fun xs H2 => rLenS P w (x :: xs) H2 Q := by
  obtain ⟨m, W, ρ, r, W', eH, sr, rs, q, k⟩ := q
  unfold fLenSc at q
  cases e1 : s ρ W with
  | none => rw [e1] at q; cases q
  | some z =>
    rw [e1, Option.bind_some] at q
    obtain ⟨src, W1⟩ := z
    cases e2 : scL src.chk t c f (wipeE ρ vs) src.items W1 [] with
    | none =>
      have q : (scL src.chk t c f (wipeE ρ vs) src.items W1 []).map _ = some (r, W') := q
      rw [e2] at q; cases q
    | some z =>
      have q : (scL src.chk t c f (wipeE ρ vs) src.items W1 []).map _ = some (r, W') := q
      rw [e2] at q
      cases q
      obtain ⟨ys, W'⟩ := z
      have hys := scL_few e2
      refine ⟨m, W, ρ, src, W1, eH, sr, rs, e1, fun J n x s1 io => ?_⟩
      intro D hD
      refine ⟨fun i μ H' => μ = src.items.length - i ∧ i ≤ src.items.length ∧ ∃ n' W2 acc, n'.H = H' ∧ Ext n n' ∧ SR K n' W2 ∧ n'.H D = some (SetLf P w D acc) ∧ n'.Z D = none ∧ D ∉ n'.mu ∧ scL src.chk t c f (wipeE ρ vs) (src.items.drop i) W2 acc = some (ys, W'),
        ⟨_, rfl, Nat.zero_le _, ⟨upd n.H D (SetLf P w D []), n.Z, n.mu⟩, W1, [], rfl, laid_ext s1 hD _, laid_sr s1 hD _, upd_same, s1.zn hD, s1.mun hD, e2⟩, ?_⟩
      rintro i μ H' ⟨rfl, hi, n', W2, acc, rfl, x1, s2, d1, d3, d4, q2⟩
      have hchk : src.chk W2 = true := by
        cases hd : src.items.drop i with
        | nil =>
          rw [hd] at q2
          unfold scL at q2
          split at q2
          · exact (‹_ ∧ _›).1
          · cases q2
        | cons d r =>
          rw [hd] at q2
          unfold scL at q2
          split at q2
          · assumption
          · cases q2
      obtain ⟨st, go⟩ := io n' W2 x1 s2 hchk
      by_cases hlt : i < src.items.length
      · refine .inr ?_
        obtain ⟨g1, g2⟩ := go i src.items[i] (List.getElem?_eq_getElem hlt)
        refine ⟨g1, fun H2 => ∃ n' W2 acc, n'.H = H2 ∧ Ext n n' ∧ SR K n' W2 ∧ n'.H D = some (SetLf P w D acc) ∧ n'.Z D = none ∧ D ∉ n'.mu ∧ scL src.chk t c f (wipeE ρ vs) (src.items.drop (i + 1)) W2 acc = some (ys, W'),
          fun H2 h => ⟨_, by omega, rfl, hlt, h⟩, fun y H2 hy => ?_⟩
        obtain ⟨l, rfl, x3, s3, r3⟩ := g2 y H2 hy
        rw [List.drop_eq_getElem_cons hlt] at q2
        unfold scL at q2
        rw [if_pos hchk] at q2
        cases e3 : fTg t src.items[i] (wipeE ρ vs) with
        | none => rw [e3] at q2; cases q2
        | some ρ1 =>
          rw [e3, Option.bind_some] at q2
          cases e4 : c ρ1 W2 with
          | none => rw [e4] at q2; cases q2
          | some pc =>
            rw [e4, Option.bind_some] at q2
            have rw0 : RpS K l (wipe σ vs) (wipeE ρ vs) := ((rs.ext x).ext (x1.trans x3)).wipe vs
            have live : n'.H D ≠ none := by rw [d1]; simp
            refine ⟨l, W2, wipeE ρ vs, _, ρ1, rfl, s3, rw0, r3, e3, fun ws hw _ => ⟨?_, ?_⟩⟩
            · rw [wipe_setN ht, wipe_wipe]
            refine ⟨l, W2, ρ1, pc.1, pc.2, rfl, s3, hw, e4, fun n4 x4 s4 => ?_⟩
            have x34 := x3.trans x4
            by_cases hp : pc.1 = true
            · rw [if_pos hp] at q2
              refine ite2 (fun _ => ?_) fun z => absurd hp z
              cases e5 : f ρ1 pc.2 with
              | none => rw [e5] at q2; cases q2
              | some pf =>
                rw [e5, Option.bind_some] at q2
                cases e6 : pf.1.lf with
                | none => rw [e6] at q2; cases q2
                | some kk =>
                  rw [e6, Option.bind_some] at q2
                  split at q2
                  · rename_i hl
                    refine ⟨n4, pc.2, ρ1, pf.1, pf.2, rfl, s4, hw.ext x4, e5, fun v n5 x5 s5 r5 => ?_⟩
                    have xa := x34.trans x5
                    have dk : n5.H D = some (SetLf P w D acc) := xa.keep _ _ d1 d4
                    have zk : n5.Z D = none := (xa.zold D live).trans d3
                    have mk : D ∉ n5.mu := fun h => by
                      rcases xa.munew D h with z | z
                      · exact d4 z
                      · exact live z
                    have hv : v = lfV kk := by
                      obtain ⟨pr, pW⟩ := pf
                      cases pr with
                      | fr _ => cases e6
                      | d dd => exact lf_v r5 e6
                    exact ⟨kk, acc, hv, dk, few_keys hl, ⟨eS P w n5.H D (addK acc kk), n5.Z, n5.mu⟩, _, _, rfl, priv_ext (x1.trans xa) hD, priv_sr s5 zk mk, upd_same, zk, mk, q2⟩
                  · cases q2
            · rw [if_neg hp] at q2
              refine ite2 (fun z => absurd z hp) fun _ => ?_
              exact ⟨n4, pc.2, acc, rfl, x1.trans x34, s4, x34.keep _ _ d1 d4, (x34.zold D live).trans d3, fun h => by
                rcases x34.munew D h with z | z
                · exact d4 z
                · exact live z, q2⟩
      · have e : i = src.items.length := by omega
        subst e
        refine .inl ⟨st, ?_⟩
        rw [List.drop_length] at q2
        unfold scL at q2
        split at q2
        · cases q2
          exact ⟨D, _, rfl, d1, le_size hys, k _ n' (x.trans x1) s2 (.int _)⟩
        · cases q2
theorem ev_lenSc (own : List (Str × Nat)) (hc : X.calm = true) (hN : X.N.Nodup) (hgl : Gl X x) (hm : X.mg x = none) (hv : bootBuiltins x = some (.builtin "len")) (hi : EvI X tg iter s) (ok : BlkOk X.N X.env.scope scope own)
    (hg : ∀ (s : Shared) (H : Hp) (C : Addr) (cl : List (Str × Addr)) (fp : List Addr), EvG (X.blk s H scope (compEnvC scope cl C X.env) fp) tg t) (ht : ∀ (s : Shared) (H : Hp) (C : Addr) (cl : List (Str × Addr)) (fp : List Addr), EvTs (X.blk s H scope (compEnvC scope cl C X.env) fp) ifs c)
    (he : ∀ (s : Shared) (H : Hp) (C : Addr) (cl : List (Str × Addr)) (fp : List Addr), EvE (X.blk s H scope (compEnvC scope cl C X.env) fp) elt f) (hsl : ∀ i ∈ t.slots, i ∈ own.map (·.2)) (hs : ∀ x, foldedSetIterable iter X.env x = pure x := by intro _; rfl)
    (hn : x ≠ "__name__" := by decide) (hdb : (x == ("__debug__" : Str)) = false := by decide)
    (hs2 : starEach [(.SetComp elt [⟨tg, iter, ifs, 0⟩] scope pos2 : Expr)] X.env = (false, eval (.SetComp elt [⟨tg, iter, ifs, 0⟩] scope pos2) X.env) :: starEach [] X.env := by rfl) :
    EvE X (.Call (.Name x p) [.SetComp elt [⟨tg, iter, ifs, 0⟩] scope pos2] [] pos) (fLenSc (own.map (·.2)) s t c f) :=
  ⟨peI (pe_callB cr_lenS hgl hm hv (pa_cons (pe_scL (own := own) hc hN hi.ok ok (fun s H C cl fp => (hg s H C cl fp).rd) (fun s H C cl fp => (ht s H C cl fp).ok) (fun s H C cl fp => (he s H C cl fp).ok) hs) pa_nil hs2) hn hdb hs2) fun _ _ _ q => rd_sc hsl q⟩
end
end Ev

set_option Elab.async false
set_option linter.all false
set_option maxRecDepth 100000
namespace Ev
open PySem PySem.Spec L2

/-! ### the program's defs, as its top has left them; what they run -/
/-- the def st stands in the module under its own name -/
structure Sf (K : PySem.W.Frag) (mg : Str → Option Value) (x : Str) (st : Stmt) (ps : List Str) : Prop where
  ex : ∃ (f : Addr) (fd : FuncData), mg x = some (.ref f) ∧ Fun K x x st f fd ∧ Binds K fd ps []
/-- def x runs φ, its flag says whether its lists are handed on as cells; k calls are allowed -/
structure Df (P : Program) (w : World) (K : PySem.W.Frag) (mg : Str → Option Value) (base : Heap) (k : Nat) (x : Str) (ar : Nat) (φ : Bool → Run) : Prop where
  ex : ∃ (f : Addr) (fd : FuncData) (ps : List Str), mg x = some (.ref f) ∧ PySem.W.keepIn K (.ref f) = true ∧ Binds K fd ps [] ∧ ∀ h, FnG P w K mg base k f fd ps (spR K ar (φ h))
section
variable {P : Program} {w : World} {K : PySem.W.Frag} {mg : Str → Option Value} {base : Heap} {x : Str} {st : Stmt} {ps : List Str}
theorem sf_mk {h : Heap} {f : Addr} {oc : Value} {od an : Option Addr} {osl : Array (Option Value)} {kV doc pm cdv ct : Value} (X : K.In h) (G : h.Ns mainGlobals mg)
    (a : PySem.W.nsIn K mainGlobals x = some (some (.ref f))) (l : K.lookup f = some ⟨oc, od, .func (PySem.W.fnOf x x (defArgs st) (defBody st) (defScope st) .none kV doc pm an cdv ct), osl⟩)
    (c : PySem.W.codeIn K cdv x = true) (k : PySem.W.keepIn K (.ref f) = true)
    (b : ∀ (kV doc pm : Value) (an : Option Addr) (cdv ct : Value) (us : List Value), us.length = ps.length → bindArgs (PySem.W.fnOf x x (defArgs st) (defBody st) (defScope st) .none kV doc pm an cdv ct) ⟨us, []⟩ = pure (ps.zip us)) : Sf K mg x st ps :=
  ⟨⟨f, _, PySem.W.mg_of X G a, fun_mk l c k, (fun_mk l c k).binds b⟩⟩
theorem Sf.zero (s : Sf K mg x st ps) : Df P w K mg base 0 x ps.length fun _ _ _ => none := by
  obtain ⟨f, fd, e, F, b⟩ := s.ex
  exact ⟨f, fd, ps, e, F.kp, b, fun _ => def_zero rfl⟩
theorem Sf.df {N : List Str} {k nn : Nat} {g : Bool → FS} (s : Sf K mg x st ps) (S : FnScope N ps (defScope st)) (hnn : N.length = nn)
    (body : ∀ (h : Bool) (f : Addr) (cdv : Value) (A : Around) (outer : List Env) (s : Shared) (H : Hp) (E : XK), Quiet A → Room k (A.deeper (PyProof.Rows.envOfC x (defScope st) s.heap.objs.size f cdv)) →
      EvB (cxOf CX0 P w K mg base N x (defScope st) f cdv A outer s H E).nox (defBody st) (g h)) : Df P w K mg base (k + 1) x ps.length fun h => runB h nn (g h) := by
  obtain ⟨f, fd, e, F, b⟩ := s.ex
  exact ⟨f, fd, ps, e, F.kp, b, fun h => def_ok h F S rfl hnn (body h f)⟩
end
section
variable {X : Cx} {k ar : Nat} {φ : Bool → Run} {x : Str} {p pos : Pos} {e : Expr} {es : List Expr} {g : FA}
theorem ev_callD (d : Df X.prog X.w X.K X.mg X.base k x ar φ) (h : Bool) (hq : Quiet X.A) (hr : Room k X.A) (hg : Gl X x) (ha : EvA X (e :: es) g) (hn : FAn g ar)
    (hdb : (x == ("__debug__" : Str)) = false := by decide) (he : starEach (e :: es) X.env = (false, eval e X.env) :: starEach es X.env := by rfl) (hpl : (backTo pos (starEach es X.env)).any (·.1) = false := by rfl) : EvE X (.Call (.Name x p) (e :: es) [] pos) (fCall (φ h) g) := by
  obtain ⟨f, fd, ps, e, kp, b, F⟩ := d.ex
  exact ev_call (F h) hq hr hg e kp b ha hn hdb he hpl
theorem ev_callD0 (d : Df X.prog X.w X.K X.mg X.base k x 0 φ) (h : Bool) (hq : Quiet X.A) (hr : Room k X.A) (hg : Gl X x) (hdb : (x == ("__debug__" : Str)) = false := by decide) : EvE X (.Call (.Name x p) [] [] pos) (fCall (φ h) fNilA) := by
  obtain ⟨f, fd, ps, e, kp, b, F⟩ := d.ex
  exact ev_call0 (F h) hq hr hg e kp b hdb
/-- a constant of the module -/
structure Cn (K : PySem.W.Frag) (mg : Str → Option Value) (x : Str) (d : D) : Prop where
  ex : ∃ (v : V) (u : Value), mg x = some u ∧ RelV v u ∧ ∀ Z mu, Rp K Z mu v d
theorem ev_con {d : D} (c : Cn X.K X.mg x d) (hg : Gl X x) (hd : (x == ("__debug__" : Str)) = false := by decide) : EvE X (.Name x pos) (fC d) := by
  obtain ⟨v, u, e, r, h⟩ := c.ex
  exact ev_glob hg e r h hd
theorem cn_int {K : PySem.W.Frag} {mg : Str → Option Value} {i : Int} {t : Tok} {h : Heap} (X : K.In h) (G : h.Ns mainGlobals mg) (a : PySem.W.nsIn K mainGlobals x = some (some (.int i t))) : Cn K mg x (.int i) :=
  ⟨⟨.int i, .int i t, PySem.W.mg_of X G a, ⟨t, rfl⟩, fun _ _ => .int i⟩⟩
theorem rpa_strs {K : PySem.W.Frag} {Z : Hp} {mu : List Addr} : ∀ xs : List Str, RpA K Z mu (xs.map V.str) (xs.map D.str)
  | [] => .nil
  | x :: r => .cons (.str x) (rpa_strs r)
/-- a tuple of texts -/
theorem cn_strs {K : PySem.W.Frag} {mg : Str → Option Value} {h : Heap} {a : Addr} {o : Obj} {its : List Value} {n : Nat} {xs : List Str} (X : K.In h) (G : h.Ns mainGlobals mg) (e : PySem.W.nsIn K mainGlobals x = some (some (.ref a)))
    (l : K.lookup a = some o) (c : o.cls = .type "tuple") (d : o.data = .seq its.toArray n) (r : Vals (xs.map V.str) its) (z : xs.length ≤ 1000) : Cn K mg x (.tup (xs.map D.str)) :=
  ⟨⟨.ref a, .ref a, PySem.W.mg_of X G e, rfl, fun _ _ => .tup (.inr ⟨o, _, n, l, c, d, by rw [List.size_toArray, ← r.length, List.length_map]; exact le_size z, r⟩) (rpa_strs xs)⟩⟩
end
end Ev

set_option Elab.async false
set_option linter.all false
set_option maxRecDepth 100000
namespace Ev
open PySem L2

/-! ### a step -/
theorem fSeq_nx {g h : FS} {ρ ρ' : En} {W W' : Wd} {o : Option Out} (e : g ρ W = some (.nx ρ' W')) (e2 : h ρ' W' = o) : fSeq g h ρ W = o := by
  unfold fSeq; rw [e]; exact e2
theorem fSeq_rt {g h : FS} {ρ : En} {W W' : Wd} {r : R} (e : g ρ W = some (.rt r W')) : fSeq g h ρ W = some (.rt r W') := by
  unfold fSeq; rw [e]; rfl
theorem runB_rt {h : Bool} {n : Nat} {g : FS} {ds : List D} {W W' : Wd} {r : R} {z : Option (R × Wd)} (e : g (startE n ds) W = some (.rt r W')) (e2 : fin h W r W' = z) : runB h n g ds W = z := by
  unfold runB; rw [e]; exact e2
theorem fFor_nx {s : FI} {t : Tg} {b : FS} {ρ ρ' : En} {W W1 W' : Wd} {src : Src} (e : s ρ W = some (src, W1)) (e2 : forL src.chk t b src.items ρ W1 = some (.nx ρ' W')) : fFor s t b ρ W = some (.nx ρ' W') := by
  unfold fFor; rw [e]; exact e2
theorem fFor_eq {s : FI} {t : Tg} {b : FS} {ρ : En} {W W1 : Wd} {src : Src} {o : Option Out} (e : s ρ W = some (src, W1)) (e2 : forL src.chk t b src.items ρ W1 = o) : fFor s t b ρ W = o := by
  unfold fFor; rw [e]; exact e2
theorem fAsg_one {f : FE} {al : Bool} {i : Nat} {ρ : En} {W W1 : Wd} {r : R} (e : f ρ W = some (r, W1)) : fAsg al (.one i) f ρ W = some (.nx (ρ.set i (some (toD al r W1).1)) (toD al r W1).2) := by
  unfold fAsg; rw [e]; rfl
theorem fBin_eq {op : Wd → R → R → Option R} {fa fb : FE} {ρ : En} {W W1 W2 : Wd} {a b r : R} (e1 : fa ρ W = some (a, W1)) (e2 : fb ρ W1 = some (b, W2)) (e3 : op W2 a b = some r) : fBin op fa fb ρ W = some (r, W2) := by
  unfold fBin; rw [e1, Option.bind_some, e2, Option.bind_some, e3]; rfl
theorem fCall_eq {φ : Run} {g : FA} {ρ : En} {W W1 : Wd} {ds : List D} {o : Option (R × Wd)} (e1 : g ρ W = some (ds, W1)) (e2 : φ ds W1 = o) : fCall φ g ρ W = o := by
  unfold fCall; rw [e1]; exact e2
theorem fDrop_eq {f : FE} {ρ : En} {W W1 : Wd} {r : R} (e : f ρ W = some (r, W1)) : fDrop f ρ W = some (.nx ρ W1) := by
  unfold fDrop; rw [e]; rfl
theorem fRet_eq {f : FE} {ρ : En} {W W1 : Wd} {r : R} (e : f ρ W = some (r, W1)) : fRet f ρ W = some (.rt r W1) := by
  unfold fRet; rw [e]; rfl
theorem fIf_t {t : FT} {g h : FS} {ρ : En} {W W1 : Wd} {o : Option Out} (e : t ρ W = some (true, W1)) (e2 : g ρ W1 = o) : fIf t g h ρ W = o := by
  unfold fIf; rw [e]; exact e2
theorem fIf_f {t : FT} {g h : FS} {ρ : En} {W W1 : Wd} {o : Option Out} (e : t ρ W = some (false, W1)) (e2 : h ρ W1 = o) : fIf t g h ρ W = o := by
  unfold fIf; rw [e]; exact e2
theorem fCons_eq {al : Bool} {f : FE} {g : FA} {ρ : En} {W W1 W2 : Wd} {r : R} {ds : List D} (e1 : f ρ W = some (r, W1)) (e2 : g ρ (toD al r W1).2 = some (ds, W2)) : fCons al f g ρ W = some ((toD al r W1).1 :: ds, W2) := by
  unfold fCons; rw [e1, Option.bind_some, e2]; rfl
theorem fTup_eq {g : FA} {ρ : En} {W W1 : Wd} {ds : List D} (e : g ρ W = some (ds, W1)) (h : ds.length ≤ 1000) : fTup g ρ W = some (.d (.tup ds), W1) := by
  unfold fTup; rw [e, Option.bind_some, if_pos h]
theorem fVal_eq {f : FE} {ρ : En} {W W1 : Wd} {b : Bool} (e : f ρ W = some (.d (.bl b), W1)) : fVal f ρ W = some (b, W1) := by
  unfold fVal; rw [e]; rfl
theorem fBlt_eq {b : Wd → List D → Option R} {g : FA} {ρ : En} {W W1 : Wd} {ds : List D} {r : R} (e1 : g ρ W = some (ds, W1)) (e2 : b W1 ds = some r) : fBlt b g ρ W = some (r, W1) := by
  unfold fBlt; rw [e1, Option.bind_some, e2]; rfl
theorem fLc_eq {al : Bool} {vs : List Nat} {s : FI} {t : Tg} {c : FT} {f : FE} {ρ : En} {W W1 W2 : Wd} {src : Src} {ys : List D} (e1 : s ρ W = some (src, W1)) (e2 : lcL al src.chk t c f (wipeE ρ vs) src.items W1 [] = some (ys, W2)) : fLc al vs s t c f ρ W = some (.fr ys, W2) := by
  unfold fLc; rw [e1, Option.bind_some, e2]; rfl
theorem fSrc_eq {f : FE} {ρ : En} {W W1 : Wd} {r : R} {s : Src} (e1 : f ρ W = some (r, W1)) (e2 : srcOf W1 r = some s) : fSrc f ρ W = some (s, W1) := by
  unfold fSrc; rw [e1, Option.bind_some, e2]; rfl
theorem rng1_nat (m : Nat) (h : m ≤ 1000000) : rng1 [.int (m : Int)] = some ⟨rngL 0 1 m, yes⟩ := by
  have hr : inR (m : Int) := h
  show (if inR (m : Int) then some (Src.mk (rngL 0 1 (m : Int).toNat) yes) else none) = _
  rw [if_pos hr]
  rfl
theorem fRng1_nat {f : FE} {ρ : En} {W W1 : Wd} {m : Nat} (e : f ρ W = some (.d (.int (m : Int)), W1)) (h : m ≤ 1000000) : fRng rng1 (fCons false f fNilA) ρ W = some (⟨rngL 0 1 m, yes⟩, W1) := by
  have e2 : fCons false f fNilA ρ W = some ([.int (m : Int)], W1) := by
    unfold fCons
    rw [e]
    rfl
  have e3 := rng1_nat m h
  generalize rng1 = g at e3 ⊢
  simp only [fRng, e2, Option.bind_some, e3, Option.map_some]
theorem rng_cons {m i : Nat} {d : D} {r : List D} (h : d :: r = (rngL 0 1 m).drop i) : i < m ∧ d = .int (i : Int) ∧ r = (rngL 0 1 m).drop (i + 1) := by
  have hl : (rngL 0 1 m).length = m := by simp [rngL]
  have hi : i < m := by
    have := congrArg List.length h
    rw [List.length_cons, List.length_drop, hl] at this
    omega
  rw [List.drop_eq_getElem_cons (by rw [hl]; exact hi)] at h
  injection h with h1 h2
  refine ⟨hi, ?_, h2⟩
  rw [h1]
  unfold rngL
  rw [List.getElem_map, List.getElem_range]
  simp
theorem rng_end {m i : Nat} (h : ([] : List D) = (rngL 0 1 m).drop i) (hi : i ≤ m) : i = m := by
  have := congrArg List.length h
  simp [rngL] at this
  omega
theorem cut_take (xs : List D) (d : Nat) (h : d ≤ xs.length) : cutD xs none (some (d : Int)) = xs.take d := by
  unfold cutD
  rw [HT.sIx_none, HT.sIx_nat, List.drop_zero, Nat.min_eq_left h, Nat.sub_zero]
/-! ### loops -/
theorem forL_inv {chk : Wd → Bool} {t : Tg} {b : FS} (I : List D → En → Wd → Prop) (hc : ∀ l ρ W, I l ρ W → chk W = true)
    (step : ∀ d r ρ W, I (d :: r) ρ W → ∃ ρ1, fTg t d ρ = some ρ1 ∧ ∃ ρ' W', (b ρ1 W = some (.nx ρ' W') ∨ b ρ1 W = some (.ct ρ' W')) ∧ I r ρ' W') :
    ∀ l ρ W, I l ρ W → ∃ ρ' W', forL chk t b l ρ W = some (.nx ρ' W') ∧ I [] ρ' W'
  | [], ρ, W, h => ⟨ρ, W, by unfold forL; rw [if_pos (hc _ _ _ h)], h⟩
  | d :: r, ρ, W, h => by
    obtain ⟨ρ1, e1, ρ2, W2, e2, h2⟩ := step d r ρ W h
    obtain ⟨ρ', W', e3, h3⟩ := forL_inv I hc step r ρ2 W2 h2
    refine ⟨ρ', W', ?_, h3⟩
    unfold forL
    rw [if_pos (hc _ _ _ h), e1, Option.bind_some]
    rcases e2 with e2 | e2 <;> (rw [e2, Option.bind_some]; exact e3)
/-- a loop that may return -/
theorem forL_ret {chk : Wd → Bool} {t : Tg} {b : FS} (I : List D → En → Wd → Prop) (J : R → Wd → Prop) (hc : ∀ l ρ W, I l ρ W → chk W = true)
    (step : ∀ d r ρ W, I (d :: r) ρ W → ∃ ρ1, fTg t d ρ = some ρ1 ∧ ((∃ ρ' W', (b ρ1 W = some (.nx ρ' W') ∨ b ρ1 W = some (.ct ρ' W')) ∧ I r ρ' W') ∨ ∃ v W', b ρ1 W = some (.rt v W') ∧ J v W')) :
    ∀ l ρ W, I l ρ W → (∃ ρ' W', forL chk t b l ρ W = some (.nx ρ' W') ∧ I [] ρ' W') ∨ ∃ v W', forL chk t b l ρ W = some (.rt v W') ∧ J v W'
  | [], ρ, W, h => .inl ⟨ρ, W, by unfold forL; rw [if_pos (hc _ _ _ h)], h⟩
  | d :: r, ρ, W, h => by
    obtain ⟨ρ1, e1, q⟩ := step d r ρ W h
    rcases q with ⟨ρ2, W2, e2, h2⟩ | ⟨v, W2, e2, h2⟩
    · rcases forL_ret I J hc step r ρ2 W2 h2 with ⟨ρ', W', e3, h3⟩ | ⟨v, W', e3, h3⟩
      · refine .inl ⟨ρ', W', ?_, h3⟩
        unfold forL
        rw [if_pos (hc _ _ _ h), e1, Option.bind_some]
        rcases e2 with e2 | e2 <;> (rw [e2, Option.bind_some]; exact e3)
      · refine .inr ⟨v, W', ?_, h3⟩
        unfold forL
        rw [if_pos (hc _ _ _ h), e1, Option.bind_some]
        rcases e2 with e2 | e2 <;> (rw [e2, Option.bind_some]; exact e3)
    · refine .inr ⟨v, W2, ?_, h2⟩
      unfold forL
      rw [if_pos (hc _ _ _ h), e1, Option.bind_some, e2, Option.bind_some]
theorem lcL_inv {al : Bool} {chk : Wd → Bool} {t : Tg} {c : FT} {f : FE} {ρ : En} (I : List D → Wd → List D → Prop) (hc : ∀ l W acc, I l W acc → chk W = true)
    (step : ∀ d r W acc, I (d :: r) W acc → acc.length < sizeLine ∧ ∃ ρ1, fTg t d ρ = some ρ1 ∧ ∃ b W1, c ρ1 W = some (b, W1) ∧ ((b = true ∧ ∃ y W2, f ρ1 W1 = some (y, W2) ∧ I r (toD al y W2).2 (acc ++ [(toD al y W2).1])) ∨ (b = false ∧ I r W1 acc))) :
    ∀ l W acc, I l W acc → ∃ ys W', lcL al chk t c f ρ l W acc = some (ys, W') ∧ I [] W' ys
  | [], W, acc, h => ⟨acc, W, by unfold lcL; rw [if_pos (hc _ _ _ h)], h⟩
  | d :: r, W, acc, h => by
    obtain ⟨hl, ρ1, e1, b, W1, e2, q⟩ := step d r W acc h
    rcases q with ⟨rfl, y, W2, e3, h3⟩ | ⟨rfl, h3⟩
    · obtain ⟨ys, W', e4, h4⟩ := lcL_inv I hc step r _ _ h3
      refine ⟨ys, W', ?_, h4⟩
      unfold lcL
      rw [if_pos (hc _ _ _ h), e1, Option.bind_some, e2, Option.bind_some, if_pos rfl, e3, Option.bind_some, if_pos hl]
      exact e4
    · obtain ⟨ys, W', e4, h4⟩ := lcL_inv I hc step r _ _ h3
      refine ⟨ys, W', ?_, h4⟩
      unfold lcL
      rw [if_pos (hc _ _ _ h), e1, Option.bind_some, e2, Option.bind_some, if_neg Bool.false_ne_true]
      exact e4
/-- every item by a function, the cells stay -/
theorem lcL_map {chk : Wd → Bool} {t : Tg} {f : FE} {ρ : En} {W : Wd} (F : D → D) (hc : chk W = true) : ∀ (l acc : List D), acc.length + l.length ≤ sizeLine → (∀ d ∈ l, ∃ ρ1, fTg t d ρ = some ρ1 ∧ f ρ1 W = some (.d (F d), W)) →
    lcL false chk t fYes f ρ l W acc = some (acc ++ l.map F, W)
  | [], acc, _, _ => by unfold lcL; rw [if_pos hc]; simp
  | d :: r, acc, hl, h => by
    obtain ⟨ρ1, e1, e2⟩ := h d List.mem_cons_self
    rw [List.length_cons] at hl
    unfold lcL
    rw [if_pos hc, e1, Option.bind_some]
    show (some (true, W)).bind _ = _
    rw [Option.bind_some, if_pos rfl, e2, Option.bind_some, if_pos (by omega)]
    show lcL false chk t fYes f ρ r W (acc ++ [F d]) = _
    rw [lcL_map F hc r _ (by rw [List.length_append, List.length_singleton]; omega) fun x hx => h x (List.mem_cons_of_mem _ hx)]
    simp
/-- the items that a test keeps, each by a function -/
theorem lcL_filter {chk : Wd → Bool} {t : Tg} {c : FT} {f : FE} {ρ : En} {W : Wd} (p : D → Bool) (F : D → D) (hc : chk W = true) : ∀ (l acc : List D), acc.length + l.length ≤ sizeLine → (∀ d ∈ l, ∃ ρ1, fTg t d ρ = some ρ1 ∧ c ρ1 W = some (p d, W) ∧ (p d = true → f ρ1 W = some (.d (F d), W))) →
    lcL false chk t c f ρ l W acc = some (acc ++ (l.filter p).map F, W)
  | [], acc, _, _ => by unfold lcL; rw [if_pos hc]; simp
  | d :: r, acc, hl, h => by
    obtain ⟨ρ1, e1, e2, e3⟩ := h d List.mem_cons_self
    rw [List.length_cons] at hl
    unfold lcL
    rw [if_pos hc, e1, Option.bind_some, e2, Option.bind_some]
    by_cases hp : p d = true
    · show (if p d = true then _ else _) = _
      rw [if_pos hp, e3 hp, Option.bind_some, if_pos (by omega)]
      show lcL false chk t c f ρ r W (acc ++ [F d]) = _
      rw [lcL_filter p F hc r _ (by rw [List.length_append, List.length_singleton]; omega) fun x hx => h x (List.mem_cons_of_mem _ hx), List.filter_cons_of_pos hp]
      simp
    · show (if p d = true then _ else _) = _
      rw [if_neg hp, lcL_filter p F hc r _ (by omega) fun x hx => h x (List.mem_cons_of_mem _ hx), List.filter_cons_of_neg hp]
theorem scL_map {chk : Wd → Bool} {t : Tg} {f : FE} {ρ : En} {W : Wd} (F : D → Leaf) (hc : chk W = true) : ∀ (l : List D) (acc : List Leaf), acc.length + l.length ≤ 1000 → (∀ d ∈ l, ∃ ρ1 r, fTg t d ρ = some ρ1 ∧ f ρ1 W = some (r, W) ∧ r.lf = some (F d)) →
    scL chk t fYes f ρ l W acc = some ((l.map F).foldl addK acc, W)
  | [], acc, hl, _ => by unfold scL; rw [if_pos ⟨hc, by simpa using hl⟩]; simp
  | d :: r, acc, hl, h => by
    obtain ⟨ρ1, y, e1, e2, e3⟩ := h d List.mem_cons_self
    rw [List.length_cons] at hl
    unfold scL
    rw [if_pos hc, e1, Option.bind_some]
    show (some (true, W)).bind _ = _
    rw [Option.bind_some, if_pos rfl, e2, Option.bind_some, e3, Option.bind_some, if_pos (by omega)]
    show scL chk t fYes f ρ r W (addK acc (F d)) = _
    rw [scL_map F hc r _ (by have := addK_len acc (F d); omega) fun x hx => h x (List.mem_cons_of_mem _ hx)]
    simp
theorem met_nodup {ks : List Leaf} (h : ks.Nodup) : met ks = ks := by
  have go : ∀ (l acc : List Leaf), (acc ++ l).Nodup → l.foldl addK acc = acc ++ l := by
    intro l
    induction l with
    | nil => intro acc _; simp
    | cons k l ih =>
      intro acc hn
      have hk : k ∉ acc := fun hm => by
        have := (List.nodup_append.mp hn).2.2 k hm k List.mem_cons_self
        exact this rfl
      have e : addK acc k = acc ++ [k] := by unfold addK; rw [if_neg hk]
      rw [List.foldl_cons, e, ih _ (by simpa using hn)]
      simp
  exact go ks [] (by simpa using h)

/-! ### the cells at a def's end -/
theorem okCell_refl (c : Cell) : okCell c c = true := by cases c with | lst xs => simp [okCell, sameA_refl]
theorem okCells_refl : ∀ W : Wd, okCells W W = true
  | [] => rfl
  | c :: r => by simp [okCells, okCell_refl, okCells_refl r]
theorem okCells_set : ∀ (W : Wd) (k : Nat) (xs : List D), pureA xs = true → okCells W (W.set k (.lst xs)) = true
  | [], _, _, _ => rfl
  | c :: r, 0, xs, h => by cases c with | lst ys => simp [okCells, okCell, h, okCells_refl]
  | c :: r, k + 1, xs, h => by simp [okCells, okCell_refl, okCells_set r k xs h]
theorem fin_same {h : Bool} {W W' : Wd} {r : R} (e : W'.length = W.length) : fin h W r W' = some (r, W') := by
  unfold fin
  by_cases hh : h = true
  · rw [if_pos hh]
  · rw [if_neg hh, if_pos e]
theorem fin_true {W W' : Wd} {r : R} : fin true W r W' = some (r, W') := by unfold fin; rw [if_pos rfl]
section
variable {W W1 : Wd} {cs : Wd}
theorem take_app (e : W1.length = W.length) : (W1 ++ cs).take W.length = W1 := by rw [← e]; exact List.take_left
theorem fin_d (e : W1.length = W.length) (ok : okCells W W1 = true) {x : D} (hx : pureD x = true) : fin false W (.d x) (W1 ++ cs) = some (.d x, W1) := by
  have q : x.lf = none → True := fun _ => trivial
  unfold fin
  rw [if_neg Bool.false_ne_true]
  by_cases hl : (W1 ++ cs).length = W.length
  · rw [if_pos hl]
    have hc : cs = [] := by
      rw [List.length_append, e] at hl
      exact List.eq_nil_of_length_eq_zero (by omega)
    rw [hc, List.append_nil]
  · rw [if_neg hl, take_app e, if_pos ok]
    cases x with
    | hdl _ => simp [pureD] at hx
    | _ =>
      show (frzS _ _).map _ = _
      rw [frz_pure _ _ hx]
      rfl
theorem fin_fr (e : W1.length = W.length) (ok : okCells W W1 = true) {xs : List D} (hx : pureA xs = true) : fin false W (.fr xs) (W1 ++ cs) = some (.fr xs, W1) := by
  unfold fin
  rw [if_neg Bool.false_ne_true]
  by_cases hl : (W1 ++ cs).length = W.length
  · rw [if_pos hl]
    have hc : cs = [] := by
      rw [List.length_append, e] at hl
      exact List.eq_nil_of_length_eq_zero (by omega)
    rw [hc, List.append_nil]
  · rw [if_neg hl, take_app e, if_pos ok]
    show (frzA _ _).map _ = _
    rw [frzA_pure _ _ hx]
    rfl
/-- a list of its own is handed back -/
theorem fin_hdl (e : W1.length = W.length) (ok : okCells W W1 = true) {j : Nat} {xs : List D} (hj : W.length ≤ j) (hg : (W1 ++ cs)[j]? = some (.lst xs)) (hx : pureA xs = true) : fin false W (.d (.hdl j)) (W1 ++ cs) = some (.fr xs, W1) := by
  have hl : ¬ (W1 ++ cs).length = W.length := fun hl => by
    have := getElem_lt hg
    omega
  unfold fin
  rw [if_neg Bool.false_ne_true, if_neg hl, take_app e, if_pos ok]
  show (if j < W.length then _ else _) = _
  rw [if_neg (by omega), hg]
  show (frzA _ _).map _ = _
  rw [frzA_pure _ _ hx]
  rfl
end

/-- four parts, the third a list of its own -/
theorem fin_cell {W : Wd} {xs : List D} {a b c : D} (ha : pureD a = true) (hb : pureD b = true) (hc : pureD c = true) (hx : pureA xs = true) : fin false W (.d (.tup [a, b, .hdl W.length, c])) (W ++ [.lst xs]) = some (.d (.tup [a, b, .lst xs, c]), W) := by
  have hl : ¬ (W ++ [Cell.lst xs]).length = W.length := by simp
  have hg : (W ++ [Cell.lst xs])[W.length]? = some (.lst xs) := by rw [List.getElem?_append_right (Nat.le_refl _), Nat.sub_self]; rfl
  have hh : ∀ m, frzH (W ++ [Cell.lst xs]) W.length none (m + 1) W.length = some (.lst xs) := fun m => by
    show (if W.length < W.length then _ else _) = _
    rw [if_neg (Nat.lt_irrefl _), if_neg (by simp), hg]
    show (frzA _ _).map _ = _
    rw [frzA_pure _ _ hx]; rfl
  unfold fin
  rw [if_neg Bool.false_ne_true, if_neg hl, take_app rfl, if_pos (okCells_refl W)]
  show (frzS (frzH (W ++ [Cell.lst xs]) W.length none 8) (.tup [a, b, .hdl W.length, c])).map _ = _
  have h8 := hh 7
  generalize frzH (W ++ [Cell.lst xs]) W.length none (7 + 1) = F at h8
  show (frzS F (.tup [a, b, .hdl W.length, c])).map _ = _
  simp only [frzS, frzA, frz_pure F a ha, frz_pure F b hb, frz_pure F c hc, h8, Option.bind_some, Option.map_some]
/-! ### the digits: a cell with one number -/
def PileAt (W : Wd) (k : Nat) : Prop := ∃ p : Int, 0 ≤ p ∧ W[k]? = some (.lst [.int p])
/-- only the digits' cell was changed -/
def Go (k : Nat) (W W' : Wd) : Prop := ∃ p : Int, 0 ≤ p ∧ k < W.length ∧ W' = W.set k (.lst [.int p])
section
variable {k : Nat} {W W' W'' : Wd}
theorem PileAt.lt (h : PileAt W k) : k < W.length := let ⟨_, _, e⟩ := h; getElem_lt e
theorem PileAt.go (h : PileAt W k) : Go k W W := by
  obtain ⟨p, h0, e⟩ := h
  refine ⟨p, h0, getElem_lt e, ?_⟩
  obtain ⟨hk, e2⟩ := List.getElem?_eq_some_iff.mp e
  rw [← e2, List.set_getElem_self]
theorem Go.pile (h : Go k W W') : PileAt W' k := by
  obtain ⟨p, h0, hk, rfl⟩ := h
  exact ⟨p, h0, by rw [List.getElem?_set_self hk]⟩
theorem Go.trans (h : Go k W W') (h' : Go k W' W'') : Go k W W'' := by
  obtain ⟨p, h0, hk, rfl⟩ := h
  obtain ⟨q, q0, _, rfl⟩ := h'
  exact ⟨q, q0, hk, by rw [List.set_set]⟩
theorem Go.len (h : Go k W W') : W'.length = W.length := by
  obtain ⟨p, h0, hk, rfl⟩ := h
  rw [List.length_set]
theorem Go.get (h : Go k W W') {j : Nat} (hj : j ≠ k) : W'[j]? = W[j]? := by
  obtain ⟨p, h0, hk, rfl⟩ := h
  rw [List.getElem?_set_ne (fun e => hj e.symm)]
theorem Go.ok (h : Go k W W') : okCells W W' = true := by
  obtain ⟨p, h0, hk, rfl⟩ := h
  exact okCells_set _ _ _ (by simp [pureA, pureD])
/-- own cells behind those of the caller -/
theorem Go.app {cs : Wd} {V : Wd} (h : Go k (W ++ cs) V) (hk : k < W.length) : ∃ W', Go k W W' ∧ V = W' ++ cs := by
  obtain ⟨p, h0, _, rfl⟩ := h
  exact ⟨W.set k (.lst [.int p]), ⟨p, h0, hk, rfl⟩, by rw [List.set_append_left _ _ hk]⟩
theorem PileAt.app (h : PileAt W k) (cs : Wd) : PileAt (W ++ cs) k := by
  obtain ⟨p, h0, e⟩ := h
  exact ⟨p, h0, by rw [List.getElem?_append_left (getElem_lt e)]; exact e⟩
theorem Go.appR {cs : Wd} (h : Go k W W') : Go k (W ++ cs) (W' ++ cs) := by
  obtain ⟨p, h0, hk, rfl⟩ := h
  exact ⟨p, h0, by rw [List.length_append]; omega, by rw [List.set_append_left _ _ hk]⟩
end
/-- the caller's cells, only the digits changed, own ones behind them -/
def Ex (k : Nat) (W V : Wd) : Prop := ∃ W' cs, Go k W W' ∧ V = W' ++ cs
section
variable {k j : Nat} {W V V' : Wd}
theorem PileAt.ex (h : PileAt W k) : Ex k W W := ⟨W, [], h.go, by simp⟩
theorem Go.ex (h : Go k W V) : Ex k W V := ⟨V, [], h, by simp⟩
theorem Ex.kl (h : Ex k W V) : k < W.length := by
  obtain ⟨W', cs, ⟨_, _, hk, _⟩, _⟩ := h
  exact hk
theorem Ex.le (h : Ex k W V) : W.length ≤ V.length := by
  obtain ⟨W', cs, g, rfl⟩ := h
  rw [List.length_append, g.len]; omega
theorem Ex.pile (h : Ex k W V) : PileAt V k := by
  obtain ⟨W', cs, g, rfl⟩ := h
  exact g.pile.app cs
theorem Ex.go (h : Ex k W V) (g : Go k V V') : Ex k W V' := by
  obtain ⟨W', cs, g1, rfl⟩ := h
  have hk : k < W'.length := g1.pile.lt
  obtain ⟨W2, g2, rfl⟩ := g.app hk
  exact ⟨W2, cs, g1.trans g2, rfl⟩
theorem Ex.push (h : Ex k W V) (c : Cell) : Ex k W (V ++ [c]) := by
  obtain ⟨W', cs, g, rfl⟩ := h
  exact ⟨W', cs ++ [c], g, by simp⟩
theorem Ex.set (h : Ex k W V) (hj : W.length ≤ j) (c : Cell) : Ex k W (V.set j c) := by
  obtain ⟨W', cs, g, rfl⟩ := h
  refine ⟨W', cs.set (j - W'.length) c, g, ?_⟩
  rw [List.set_append_right _ _ (by rw [g.len]; exact hj)]
theorem Ex.fin_d (h : Ex k W V) {x : D} (hx : pureD x = true) : ∃ W', fin false W (.d x) V = some (.d x, W') ∧ Go k W W' := by
  obtain ⟨W', cs, g, rfl⟩ := h
  exact ⟨W', Ev.fin_d g.len g.ok hx, g⟩
theorem Ex.fin_fr (h : Ex k W V) {xs : List D} (hx : pureA xs = true) : ∃ W', fin false W (.fr xs) V = some (.fr xs, W') ∧ Go k W W' := by
  obtain ⟨W', cs, g, rfl⟩ := h
  exact ⟨W', Ev.fin_fr g.len g.ok hx, g⟩
theorem Ex.fin_hdl (h : Ex k W V) {xs : List D} (hj : W.length ≤ j) (hg : V[j]? = some (.lst xs)) (hx : pureA xs = true) : ∃ W', fin false W (.d (.hdl j)) V = some (.fr xs, W') ∧ Go k W W' := by
  obtain ⟨W', cs, g, rfl⟩ := h
  exact ⟨W', Ev.fin_hdl g.len g.ok hj hg hx, g⟩
theorem Ex.fin_cell (h : Ex k W V) {xs : List D} {a b c : D} (hj : W.length ≤ j) (hg : V[j]? = some (.lst xs)) (ha : pureD a = true) (hb : pureD b = true) (hc : pureD c = true) (hx : pureA xs = true) :
    ∃ W', fin false W (.d (.tup [a, b, .hdl j, c])) V = some (.d (.tup [a, b, .lst xs, c]), W') ∧ Go k W W' := by
  obtain ⟨W', cs, g, rfl⟩ := h
  refine ⟨W', ?_, g⟩
  have hl : ¬ (W' ++ cs).length = W.length := fun hl => by
    have := getElem_lt hg
    omega
  have hh : ∀ m, frzH (W' ++ cs) W.length none (m + 1) j = some (.lst xs) := fun m => by
    show (if j < W.length then _ else _) = _
    rw [if_neg (by omega), if_neg (by simp), hg]
    show (frzA _ _).map _ = _
    rw [frzA_pure _ _ hx]; rfl
  unfold fin
  rw [if_neg Bool.false_ne_true, if_neg hl, take_app g.len, if_pos g.ok]
  show (frzS (frzH (W' ++ cs) W.length none 8) (.tup [a, b, .hdl j, c])).map _ = _
  have h8 := hh 7
  generalize frzH (W' ++ cs) W.length none (7 + 1) = F at h8
  show (frzS F (.tup [a, b, .hdl j, c])).map _ = _
  simp only [frzS, frzA, frz_pure F a ha, frz_pure F b hb, frz_pure F c hc, h8, Option.bind_some, Option.map_some]
theorem push_at (V : Wd) (c : Cell) : (V ++ [c])[V.length]? = some c := by rw [List.getElem?_append_right (Nat.le_refl _), Nat.sub_self]; rfl
theorem push_old {V : Wd} {c x : Cell} (h : V[j]? = some x) : (V ++ [c])[j]? = some x := by rw [List.getElem?_append_left (getElem_lt h)]; exact h
theorem set_at {V : Wd} {c x : Cell} (h : V[j]? = some x) : (V.set j c)[j]? = some c := by rw [List.getElem?_set_self (getElem_lt h)]
theorem set_old {V : Wd} {c x : Cell} {i : Nat} (hj : j ≠ i) (h : V[i]? = some x) : (V.set j c)[i]? = some x := by rw [List.getElem?_set_ne hj]; exact h
theorem Go.old {x : Cell} (g : Go k V V') (hj : j ≠ k) (h : V[j]? = some x) : V'[j]? = some x := (g.get hj).trans h
end
end Ev

set_option Elab.async false
set_option linter.all false
set_option maxRecDepth 100000
namespace Ev
open PySem PySem.Spec L2

/-! ### the end over a head by facts -/
theorem law_endE {l : PySem.W.OpenLaw} {n k : Nat} {q : Program} {loose : List Str} {XP : (Str → Option Value) → Heap → Prop} {YP : World → Heap → Prop} {d : DefRec} {φ : Run} {x : Str} (hn : l.most = some n) (hn2 : n ≤ sizeLine) (hdf : d.params.defaults = []) (room : Room k callerA)
    (F : ∀ (w : World) (mg : Str → Option Value) (fa : Addr) (h : Heap), YP w h → h.Ns mainGlobals mg → mg d.name = some (.ref fa) → ∃ (K : PySem.W.Frag) (fd : FuncData), K.In h ∧ (∀ (s : Shared) (u : Value), BindsTo s fd ⟨[u], []⟩ [(x, u)]) ∧
        ∀ base : Heap, K.In base → base.Ns mainGlobals mg → FnG l.prog w K mg base k fa fd [x] (spR K 1 φ))
    (yes : ∀ ns : List Int, ns.length ≤ n → ∃ W', φ [.rol ns] [] = some (.d (.bl true), W')) : PySem.W.WalkO q loose XP YP l.row.toRowW d [] (fun f vs => PySem.call f vs) := by
  refine Att.attach_call hn hdf fun w s₀ s₁ mg mb fa o pm cd doc a vs ns G Y ho hd hcd hmg hobj hints hlen hg => ?_
  obtain ⟨K, fd, KX, binds, ok⟩ := F w mg fa _ Y G.T.g hmg
  exact law_goes KX G.T.g G.T.b G.T.builtins G.T.nolimit hg hobj hints (Nat.le_trans hlen hn2) room ok binds (yes ns hlen)
section
variable {K : PySem.W.Frag} {mg : Str → Option Value} {x : Str} {st : Stmt} {ps : List Str} {h : Heap}
theorem sf_ofD {fd : FuncData} (X : K.In h) (G : h.Ns mainGlobals mg) (g : (He.Fa.glo x).ok K = true) (F : FunD K x x (defArgs st) (defBody st) (defScope st) [] [] (He.ga K x) fd)
    (b : ∀ (kV doc pm : Value) (an : Option Addr) (cdv ct : Value) (us : List Value), us.length = ps.length → bindArgs (PySem.W.fnOf x x (defArgs st) (defBody st) (defScope st) .none kV doc pm an cdv ct) ⟨us, []⟩ = pure (ps.zip us)) : Sf K mg x st ps := by
  obtain ⟨oc, od, dV, kV, doc, pm, an, cdv, ct, osl, rfl, lk, hcd, hd, _⟩ := F.ex
  have e : dV = .none := by
    rcases hd with ⟨_, e⟩ | ⟨ne, _⟩
    · exact e
    · exact absurd rfl ne
  subst e
  have F2 : Fun K x x st (He.ga K x) _ := ⟨⟨oc, od, kV, doc, pm, an, cdv, ct, osl, rfl, lk, hcd⟩, F.kp⟩
  exact ⟨⟨_, _, He.glo_ok X G g, F2, F2.binds b⟩⟩
theorem cn_intD (X : K.In h) (G : h.Ns mainGlobals mg) {i : Int} (c : (He.Fa.int x i).ok K = true) : Cn K mg x (.int i) := by
  obtain ⟨t, e⟩ := He.int_ok X G c
  exact ⟨⟨.int i, .int i t, e, ⟨t, rfl⟩, fun _ _ => .int i⟩⟩
theorem dv_strs : ∀ xs : List Str, (xs.map He.Dv.str).map (He.Dv.v K) = xs.map V.str
  | [] => rfl
  | x :: r => by rw [List.map_cons, List.map_cons, List.map_cons, dv_strs r]; rfl
theorem cn_strsD (X : K.In h) (G : h.Ns mainGlobals mg) {xs : List Str} (g : (He.Fa.glo x).ok K = true) (c : He.tupB K x (xs.map He.Dv.str) = true) : Cn K mg x (.tup (xs.map D.str)) :=
  ⟨⟨.ref (He.ga K x), .ref (He.ga K x), He.glo_ok X G g, rfl, fun Z mu => .tup (by have := He.tupB_ok c Z; rwa [dv_strs] at this) (rpa_strs xs)⟩⟩
end
end Ev

set_option Elab.async false
set_option linter.all false
set_option maxRecDepth 100000
set_option maxHeartbeats 4000000
namespace K06
open PySem PySem.Spec L2 Ev
/-! ### the runs of the defs; printed by gen.py -/
abbrev Tb := Nat → Bool → Ev.Run
def c_MOST_COLUMNS : D := .int 6
def c_ORDERS : D := .tup ((["up first", "up last", "down first", "down last"] : List Str).map D.str)
abbrev i_is_whole : Nat := 0
abbrev i_is_below : Nat := 1
abbrev i_is_value : Nat := 2
abbrev i_is_order : Nat := 3
abbrev i_is_column : Nat := 4
abbrev i_is_schema : Nat := 5
abbrev i_look_at_schema : Nat := 6
abbrev i_is_step : Nat := 7
abbrev i_is_right_flat : Nat := 8
abbrev i_is_branch : Nat := 9
abbrev i_is_tree_without : Nat := 10
abbrev i_is_tree : Nat := 11
abbrev i_look_at_flat : Nat := 12
abbrev i_flat_as_tree : Nat := 13
abbrev i_tree_of : Nat := 14
abbrev i_is_value_before : Nat := 15
abbrev i_made_plain : Nat := 16
abbrev i_plain : Nat := 17
abbrev i__law_mixed : Nat := 18
abbrev i__law_pile : Nat := 19
abbrev i__law_take : Nat := 20
abbrev i__law_schema : Nat := 21
abbrev i__law_value : Nat := 22
abbrev i__law_row : Nat := 23
abbrev i__law_order_of : Nat := 24
abbrev i__law_flat : Nat := 25
abbrev i__law_tree : Nat := 26
abbrev i__law_puts : Nat := 27
abbrev i__law_compare : Nat := 28
abbrev i__law_near : Nat := 29
abbrev i__law_chain : Nat := 30
abbrev i__law_is_plain : Nat := 31
abbrev i__law_loose : Nat := 32
abbrev i__law_alike : Nat := 33
abbrev i__law_all_lists : Nat := 34
abbrev i__law_numbered : Nat := 35
abbrev i__law_good : Nat := 36
abbrev i_law : Nat := 37
/-- is_whole: 0 thing -/
def g_is_whole (h : Bool) (Φ : Tb) : FS :=
    fRet (fAndV (fIsi "int" (fName 0)) (fNotV (fIsi "bool" (fName 0))))
/-- is_below: 0 thing, 1 many -/
def g_is_below (h : Bool) (Φ : Tb) : FS :=
    fRet (fAndV (fCall (Φ i_is_whole false) (fCons false (fName 0) (fNilA))) (fAndV (fBin opLe (fC (.int 0)) (fName 0)) (fBin opLt (fName 0) (fName 1))))
/-- is_value: 0 thing -/
def g_is_value (h : Bool) (Φ : Tb) : FS :=
    fRet (fOrV (fBin (opIs id) (fName 0) (fC .non)) (fCall (Φ i_is_whole false) (fCons false (fName 0) (fNilA))))
/-- is_order: 0 thing -/
def g_is_order (h : Bool) (Φ : Tb) : FS :=
    fRet (fAndV (fIsi "str" (fName 0)) (fBin (opIn id) (fName 0) (fC c_ORDERS)))
/-- is_column: 0 thing, 1 order -/
def x_is_column_1 (h : Bool) (Φ : Tb) : FE :=
    fCall (Φ i_is_order false) (fCons false (fName 1) (fNilA))
def g_is_column (h : Bool) (Φ : Tb) : FS :=
    fSeq (fIf (fOrT (fNotT (fVal (fIsi "tuple" (fName 0)))) (fOrT (fVal (fBin (opEq id) (fBlt bLen (fCons false (fName 0) (fNilA))) (fC (.int 0)))) (fNotT (fVal (fBlt bAll (fCons false (fLc false [1] (fSrc (fName 0)) (.one 1) (fYes) (x_is_column_1 h Φ)) (fNilA))))))) (fRet (fC (.bl false))) (fNil))
    (fRet (fBin (opEq id) (fLenSet (fName 0)) (fBlt bLen (fCons false (fName 0) (fNilA)))))
/-- is_schema: 0 thing, 1 column -/
def x_is_schema_1 (h : Bool) (Φ : Tb) : FE :=
    fCall (Φ i_is_column false) (fCons false (fName 1) (fNilA))
def g_is_schema (h : Bool) (Φ : Tb) : FS :=
    fSeq (fIf (fOrT (fNotT (fVal (fIsi "list" (fName 0)))) (fOrT (fVal (fBin (opEq id) (fBlt bLen (fCons false (fName 0) (fNilA))) (fC (.int 0)))) (fVal (fBin opGt (fBlt bLen (fCons false (fName 0) (fNilA))) (fC c_MOST_COLUMNS))))) (fRet (fC (.bl false))) (fNil))
    (fRet (fBlt bAll (fCons false (fLc false [1] (fSrc (fName 0)) (.one 1) (fYes) (x_is_schema_1 h Φ)) (fNilA))))
/-- look_at_schema: 0 schema -/
def g_look_at_schema (h : Bool) (Φ : Tb) : FS :=
    fIf (fNotT (fVal (fCall (Φ i_is_schema false) (fCons false (fName 0) (fNilA))))) (fNo) (fNil)
/-- is_step: 0 schema, 1 thing -/
def g_is_step (h : Bool) (Φ : Tb) : FS :=
    fSeq (fIf (fOrT (fNotT (fVal (fIsi "tuple" (fName 1)))) (fOrT (fVal (fBin (opEq Bool.not) (fBlt bLen (fCons false (fName 1) (fNilA))) (fC (.int 2)))) (fNotT (fVal (fCall (Φ i_is_below false) (fCons false (fBin opIx (fName 1) (fC (.int 0))) (fCons false (fBlt bLen (fCons false (fName 0) (fNilA))) (fNilA)))))))) (fRet (fC (.bl false))) (fNil))
    (fRet (fAndV (fCall (Φ i_is_order false) (fCons false (fBin opIx (fName 1) (fC (.int 1))) (fNilA))) (fBin (opIn id) (fBin opIx (fName 1) (fC (.int 1))) (fBin opIx (fName 0) (fBin opIx (fName 1) (fC (.int 0)))))))
/-- is_right_flat: 0 schema, 1 thing, 2 column, 3 order, 4 step -/
def x_is_right_flat_1 (h : Bool) (Φ : Tb) : FE :=
    fCall (Φ i_is_step false) (fCons false (fName 0) (fCons false (fName 4) (fNilA)))
def g_is_right_flat (h : Bool) (Φ : Tb) : FS :=
    fSeq (fIf (fOrT (fNotT (fVal (fIsi "list" (fName 1)))) (fNotT (fVal (fBlt bAll (fCons false (fLc false [4] (fSrc (fName 1)) (.one 4) (fYes) (x_is_right_flat_1 h Φ)) (fNilA)))))) (fRet (fC (.bl false))) (fNil))
    (fRet (fBin (opEq id) (fLenSc [2, 3] (fSrc (fName 1)) (.tup [2, 3]) (fYes) (fName 2)) (fBlt bLen (fCons false (fName 1) (fNilA)))))
/-- is_branch: 0 thing -/
def g_is_branch (h : Bool) (Φ : Tb) : FS :=
    fRet (fAndV (fIsi "tuple" (fName 0)) (fAndV (fBin (opEq id) (fBlt bLen (fCons false (fName 0) (fNilA))) (fC (.int 2))) (fCall (Φ i_is_value false) (fCons false (fBin opIx (fName 0) (fC (.int 0))) (fNilA)))))
/-- is_tree_without: 0 schema, 1 thing, 2 used, 3 below, 4 tree, 5 branch -/
def x_is_tree_without_1 (h : Bool) (Φ : Tb) : FE :=
    fBin opIx (fName 5) (fC (.int 1))
def x_is_tree_without_2 (h : Bool) (Φ : Tb) : FE :=
    fCall (Φ i_is_tree_without false) (fCons false (fName 0) (fCons false (fName 4) (fCons false (fName 3) (fNilA))))
def x_is_tree_without_3 (h : Bool) (Φ : Tb) : FE :=
    fBin opIx (fName 5) (fC (.int 0))
def x_is_tree_without_4 (h : Bool) (Φ : Tb) : FE :=
    fCall (Φ i_is_branch false) (fCons false (fName 5) (fNilA))
def g_is_tree_without (h : Bool) (Φ : Tb) : FS :=
    fSeq (fIf (fVal (fBin (opIs id) (fName 1) (fC .non))) (fRet (fC (.bl true))) (fNil))
    (fSeq (fIf (fOrT (fNotT (fVal (fIsi "tuple" (fName 1)))) (fOrT (fVal (fBin (opEq Bool.not) (fBlt bLen (fCons false (fName 1) (fNilA))) (fC (.int 4)))) (fOrT (fNotT (fVal (fCall (Φ i_is_step false) (fCons false (fName 0) (fCons false (fSl (fName 1) fON (fOS (fC (.int 2)))) (fNilA)))))) (fVal (fBin (opIn id) (fBin opIx (fName 1) (fC (.int 0))) (fName 2)))))) (fRet (fC (.bl false))) (fNil))
    (fSeq (fIf (fOrT (fNotT (fVal (fIsi "list" (fBin opIx (fName 1) (fC (.int 2)))))) (fNotT (fVal (fBlt bAll (fCons false (fLc false [5] (fSrc (fBin opIx (fName 1) (fC (.int 2)))) (.one 5) (fYes) (x_is_tree_without_4 h Φ)) (fNilA)))))) (fRet (fC (.bl false))) (fNil))
    (fSeq (fIf (fVal (fBin opLt (fLenSc [5] (fSrc (fBin opIx (fName 1) (fC (.int 2)))) (.one 5) (fYes) (x_is_tree_without_3 h Φ)) (fBlt bLen (fCons false (fBin opIx (fName 1) (fC (.int 2))) (fNilA))))) (fRet (fC (.bl false))) (fNil))
    (fSeq (fAsg false (.one 3) (fBin opAdd (fName 2) (fLst (fCons false (fBin opIx (fName 1) (fC (.int 0))) (fNilA)))))
    (fRet (fBlt bAll (fCons false (fLc false [4] (fSrc (fBin opAdd (fLc false [5] (fSrc (fBin opIx (fName 1) (fC (.int 2)))) (.one 5) (fYes) (x_is_tree_without_1 h Φ)) (fLst (fCons false (fBin opIx (fName 1) (fC (.int 3))) (fNilA))))) (.one 4) (fYes) (x_is_tree_without_2 h Φ)) (fNilA))))))))
/-- is_tree: 0 schema, 1 thing -/
def g_is_tree (h : Bool) (Φ : Tb) : FS :=
    fSeq (fDrop (fCall (Φ i_look_at_schema false) (fCons false (fName 0) (fNilA))))
    (fRet (fCall (Φ i_is_tree_without false) (fCons false (fName 0) (fCons false (fName 1) (fCons false (fLst (fNilA)) (fNilA))))))
/-- look_at_flat: 0 schema, 1 flat -/
def g_look_at_flat (h : Bool) (Φ : Tb) : FS :=
    fIf (fNotT (fVal (fCall (Φ i_is_right_flat false) (fCons false (fName 0) (fCons false (fName 1) (fNilA)))))) (fNo) (fNil)
/-- flat_as_tree: 0 flat, 1 found, 2 column, 3 order -/
def l_flat_as_tree_1 (h : Bool) (Φ : Tb) : FS :=
    fAsg false (.one 1) (fTup (fCons h (fName 2) (fCons h (fName 3) (fCons h (fLst (fNilA)) (fCons h (fName 1) (fNilA))))))
def g_flat_as_tree (h : Bool) (Φ : Tb) : FS :=
    fSeq (fAsg false (.one 1) (fC .non))
    (fSeq (fFor (fSrc (fRev (fName 0))) (.tup [2, 3]) (l_flat_as_tree_1 h Φ))
    (fRet (fName 1)))
/-- tree_of: 0 schema, 1 flat -/
def g_tree_of (h : Bool) (Φ : Tb) : FS :=
    fSeq (fDrop (fCall (Φ i_look_at_schema false) (fCons false (fName 0) (fNilA))))
    (fSeq (fDrop (fCall (Φ i_look_at_flat false) (fCons false (fName 0) (fCons false (fName 1) (fNilA)))))
    (fRet (fCall (Φ i_flat_as_tree h) (fCons false (fName 1) (fNilA)))))
/-- is_value_before: 0 one, 1 other -/
def g_is_value_before (h : Bool) (Φ : Tb) : FS :=
    fRet (fOrV (fBin (opIs id) (fName 0) (fC .non)) (fAndV (fBin (opIs Bool.not) (fName 1) (fC .non)) (fBin opLt (fName 0) (fName 1))))
/-- made_plain: 0 tree, 1 other, 2 branches, 3 found, 4 branch, 5 place, 6 value, 7 below -/
def y_made_plain_1 (h : Bool) (Φ : Tb) : FT :=
    fAndT (fVal (fBin opGt (fName 5) (fC (.int 0)))) (fVal (fCall (Φ i_is_value_before false) (fCons false (fBin opIx (fName 4) (fC (.int 0))) (fCons false (fBin opIx (fBin opIx (fName 3) (fBin opSub (fName 5) (fC (.int 1)))) (fC (.int 0))) (fNilA)))))
def l_made_plain_2 (h : Bool) (Φ : Tb) : FS :=
    fAug 5 (fun i j => i - j) (fC (.int 1))
def l_made_plain_3 (h : Bool) (Φ : Tb) : FS :=
    fIf (fVal (fBin (opEq Bool.not) (fBin opIx (fName 4) (fC (.int 1))) (fName 1))) (fSeq (fAsg false (.one 5) (fBlt bLen (fCons false (fName 3) (fNilA))))
    (fSeq (fWhile (y_made_plain_1 h Φ) (l_made_plain_2 h Φ))
    (fDrop (fMth mInsert (fName 3) (fCons false (fName 5) (fCons false (fName 4) (fNilA))))))) (fNil)
def x_made_plain_4 (h : Bool) (Φ : Tb) : FE :=
    fTup (fCons h (fName 6) (fCons h (fCall (Φ i_made_plain h) (fCons false (fName 7) (fNilA))) (fNilA)))
def g_made_plain (h : Bool) (Φ : Tb) : FS :=
    fSeq (fIf (fVal (fBin (opIs id) (fName 0) (fC .non))) (fRet (fC .non)) (fNil))
    (fSeq (fAsg false (.one 1) (fCall (Φ i_made_plain h) (fCons false (fBin opIx (fName 0) (fC (.int 3))) (fNilA))))
    (fSeq (fAsg false (.one 2) (fLc h [6, 7] (fSrc (fBin opIx (fName 0) (fC (.int 2)))) (.tup [6, 7]) (fYes) (x_made_plain_4 h Φ)))
    (fSeq (fAsg true (.one 3) (fLst (fNilA)))
    (fSeq (fFor (fSrc (fName 2)) (.one 4) (l_made_plain_3 h Φ))
    (fRet (fTup (fCons h (fBin opIx (fName 0) (fC (.int 0))) (fCons h (fBin opIx (fName 0) (fC (.int 1))) (fCons h (fName 3) (fCons h (fName 1) (fNilA)))))))))))
/-- plain: 0 schema, 1 tree -/
def g_plain (h : Bool) (Φ : Tb) : FS :=
    fSeq (fDrop (fCall (Φ i_look_at_schema false) (fCons false (fName 0) (fNilA))))
    (fSeq (fIf (fNotT (fVal (fCall (Φ i_is_tree_without false) (fCons false (fName 0) (fCons false (fName 1) (fCons false (fLst (fNilA)) (fNilA))))))) (fNo) (fNil))
    (fRet (fCall (Φ i_made_plain h) (fCons false (fName 1) (fNilA)))))
/-- _law_mixed: 0 _law_cell, 1 _law_k, 2 _law_number -/
def g__law_mixed (h : Bool) (Φ : Tb) : FS :=
    fSeq (fAsg false (.one 2) (fBin opMod (fBlt bInt (fCons false (fBin opAdd (fBin opAdd (fBin opMul (fBin opMod (fBlt bInt (fCons false (fName 0) (fNilA))) (fC (.int 2147483647))) (fC (.int 48271))) (fBin opMul (fName 1) (fC (.int 69621)))) (fC (.int 1048583))) (fNilA))) (fC (.int 2147483629))))
    (fSeq (fAsg false (.one 2) (fBin opMod (fBlt bInt (fCons false (fBin opMul (fName 2) (fName 2)) (fNilA))) (fC (.int 2147483587))))
    (fRet (fBin opMod (fBlt bInt (fCons false (fBin opMul (fName 2) (fBin opAdd (fName 2) (fC (.int 2)))) (fNilA))) (fC (.int 2147483579)))))
/-- _law_pile: 0 _law_script, 1 _law_k, 2 _law_cell, 3 _law_found, 4 _law_j -/
def l__law_pile_1 (h : Bool) (Φ : Tb) : FS :=
    fAsg false (.one 3) (fBin opAdd (fBin opMul (fName 3) (fC (.int 2147483579))) (fCall (Φ i__law_mixed false) (fCons false (fName 2) (fCons false (fBin opAdd (fBin opAdd (fBin opMul (fC (.int 7)) (fName 1)) (fBin opMul (fC (.int 100)) (fName 4))) (fBin opMul (fName 4) (fName 4))) (fNilA)))))
def g__law_pile (h : Bool) (Φ : Tb) : FS :=
    fSeq (fAsg false (.one 2) (fC (.int 0)))
    (fSeq (fIf (fVal (fBin opLt (fName 1) (fBlt bLen (fCons false (fName 0) (fNilA))))) (fAsg false (.one 2) (fBin opIx (fName 0) (fName 1))) (fNil))
    (fSeq (fIf (fVal (fBin opGe (fName 2) (fBin opPow (fC (.int 10)) (fC (.int 18))))) (fRet (fLst (fCons false (fBin opMod (fBlt bInt (fCons false (fBin opSub (fName 2) (fBin opPow (fC (.int 10)) (fC (.int 18)))) (fNilA))) (fBin opMul (fBin opMul (fBin opMul (fBin opPow (fC (.int 10)) (fC (.int 60))) (fBin opPow (fC (.int 10)) (fC (.int 60)))) (fBin opPow (fC (.int 10)) (fC (.int 60)))) (fBin opPow (fC (.int 10)) (fC (.int 60))))) (fNilA)))) (fNil))
    (fSeq (fAsg false (.one 3) (fC (.int 0)))
    (fSeq (fFor (fRng rng1 (fCons false (fC (.int 24)) (fNilA))) (.one 4) (l__law_pile_1 h Φ))
    (fRet (fLst (fCons false (fName 3) (fNilA))))))))
/-- _law_take: 0 _law_pile_here, 1 _law_size, 2 _law_digit -/
def g__law_take (h : Bool) (Φ : Tb) : FS :=
    fSeq (fAsg false (.one 2) (fBin opMod (fBlt bInt (fCons false (fBin opIx (fName 0) (fC (.int 0))) (fNilA))) (fName 1)))
    (fSeq (fStore false (fBin opFdiv (fBin opIx (fName 0) (fC (.int 0))) (fName 1)) (fName 0) (fC (.int 0)))
    (fRet (fName 2)))
/-- _law_schema: 0 _law_pile_here, 1 _law_orders, 2 _law_schema_here, 3 _law_k, 4 _law_some, 5 _law_order -/
def l__law_schema_1 (h : Bool) (Φ : Tb) : FS :=
    fIf (fVal (fBin (opEq id) (fCall (Φ i__law_take false) (fCons false (fName 0) (fCons false (fC (.int 2)) (fNilA)))) (fC (.int 1)))) (fDrop (fMth mInsert (fName 4) (fCons false (fCall (Φ i__law_take false) (fCons false (fName 0) (fCons false (fBin opAdd (fBlt bLen (fCons false (fName 4) (fNilA))) (fC (.int 1))) (fNilA)))) (fCons false (fName 5) (fNilA))))) (fNil)
def l__law_schema_2 (h : Bool) (Φ : Tb) : FS :=
    fSeq (fAsg true (.one 4) (fLst (fNilA)))
    (fSeq (fFor (fSrc (fName 1)) (.one 5) (l__law_schema_1 h Φ))
    (fSeq (fIf (fVal (fBin (opEq id) (fName 4) (fLst (fNilA)))) (fAsg true (.one 4) (fLst (fCons false (fBin opIx (fName 1) (fCall (Φ i__law_take false) (fCons false (fName 0) (fCons false (fC (.int 4)) (fNilA))))) (fNilA)))) (fNil))
    (fDrop (fMth mAppend (fName 2) (fCons false (fBlt bTuple (fCons false (fName 4) (fNilA))) (fNilA))))))
def g__law_schema (h : Bool) (Φ : Tb) : FS :=
    fSeq (fAsg false (.one 1) (fLst (fCons false (fC (.str "up first")) (fCons false (fC (.str "up last")) (fCons false (fC (.str "down first")) (fCons false (fC (.str "down last")) (fNilA)))))))
    (fSeq (fAsg true (.one 2) (fLst (fNilA)))
    (fSeq (fFor (fRng rng1 (fCons false (fBin opIx (fLst (fCons false (fC (.int 1)) (fCons false (fC (.int 2)) (fCons false (fC (.int 2)) (fCons false (fC (.int 3)) (fCons false (fC (.int 3)) (fCons false (fC (.int 4)) (fCons false (fC (.int 5)) (fCons false (fC (.int 6)) (fNilA)))))))))) (fCall (Φ i__law_take false) (fCons false (fName 0) (fCons false (fC (.int 8)) (fNilA))))) (fNilA))) (.one 3) (l__law_schema_2 h Φ))
    (fRet (fName 2))))
/-- _law_value: 0 _law_pile_here, 1 _law_wide, 2 _law_some -/
def g__law_value (h : Bool) (Φ : Tb) : FS :=
    fSeq (fIf (fVal (fBin (opEq id) (fName 1) (fC (.int 0)))) (fRet (fBin opIx (fLst (fCons false (fC .non) (fCons false (fC (.int 1)) (fCons false (fC (.int 2)) (fCons false (fC (.int 1)) (fCons false (fC (.int 2)) (fNilA))))))) (fCall (Φ i__law_take false) (fCons false (fName 0) (fCons false (fC (.int 5)) (fNilA)))))) (fNil))
    (fSeq (fAsg false (.one 2) (fLst (fCons false (fC .non) (fCons false (fC (.int 0)) (fCons false (fC (.int 1)) (fCons false (fC (.int 2)) (fCons false (fC (.int 3)) (fCons false (fNeg (fC (.int 1))) (fCons false (fNeg (fC (.int 5))) (fCons false (fC (.int 10)) (fCons false (fC (.int 1)) (fCons false (fC (.int 2)) (fCons false (fC (.int 0)) (fCons false (fBin opPow (fC (.int 10)) (fC (.int 20))) (fCons false (fBin opSub (fBin opPow (fC (.int 10)) (fC (.int 29))) (fC (.int 3))) (fCons false (fBin opSub (fC (.int 0)) (fBin opPow (fC (.int 10)) (fC (.int 28)))) (fCons false (fC (.int 68)) (fCons false (fNeg (fC (.int 97))) (fNilA)))))))))))))))))))
    (fRet (fBin opIx (fName 2) (fCall (Φ i__law_take false) (fCons false (fName 0) (fCons false (fC (.int 16)) (fNilA)))))))
/-- _law_row: 0 _law_pile_here, 1 _law_schema_here, 2 _law_wide, 3 _law_column -/
def x__law_row_1 (h : Bool) (Φ : Tb) : FE :=
    fCall (Φ i__law_value false) (fCons false (fName 0) (fCons false (fName 2) (fNilA)))
def g__law_row (h : Bool) (Φ : Tb) : FS :=
    fRet (fBlt bTuple (fCons false (fLc false [3] (fSrc (fName 1)) (.one 3) (fYes) (x__law_row_1 h Φ)) (fNilA)))
/-- _law_order_of: 0 _law_pile_here, 1 _law_many, 2 _law_order, 3 _law_k -/
def l__law_order_of_1 (h : Bool) (Φ : Tb) : FS :=
    fDrop (fMth mInsert (fName 2) (fCons false (fCall (Φ i__law_take false) (fCons false (fName 0) (fCons false (fBin opAdd (fName 3) (fC (.int 1))) (fNilA)))) (fCons false (fName 3) (fNilA))))
def g__law_order_of (h : Bool) (Φ : Tb) : FS :=
    fSeq (fAsg true (.one 2) (fLst (fNilA)))
    (fSeq (fFor (fRng rng1 (fCons false (fName 1) (fNilA))) (.one 3) (l__law_order_of_1 h Φ))
    (fRet (fName 2)))
/-- _law_flat: 0 _law_pile_here, 1 _law_schema_here, 2 _law_columns, 3 _law_column -/
def x__law_flat_1 (h : Bool) (Φ : Tb) : FE :=
    fTup (fCons false (fName 3) (fCons false (fBin opIx (fBin opIx (fName 1) (fName 3)) (fCall (Φ i__law_take false) (fCons false (fName 0) (fCons false (fBlt bLen (fCons false (fBin opIx (fName 1) (fName 3)) (fNilA))) (fNilA))))) (fNilA)))
def g__law_flat (h : Bool) (Φ : Tb) : FS :=
    fSeq (fAsg false (.one 2) (fSl (fCall (Φ i__law_order_of false) (fCons false (fName 0) (fCons false (fBlt bLen (fCons false (fName 1) (fNilA))) (fNilA)))) fON (fOS (fCall (Φ i__law_take false) (fCons false (fName 0) (fCons false (fBin opAdd (fBlt bLen (fCons false (fName 1) (fNilA))) (fC (.int 1))) (fNilA)))))))
    (fRet (fLc false [3] (fSrc (fName 2)) (.one 3) (fYes) (x__law_flat_1 h Φ)))
/-- _law_tree: 0 _law_pile_here, 1 _law_schema_here, 2 _law_used, 3 _law_depth, 4 _law_left, 5 _law_column, 6 _law_order, 7 _law_values, 8 _law_k, 9 _law_value_here, 10 _law_below, 11 _law_branches -/
def x__law_tree_1 (h : Bool) (Φ : Tb) : FE :=
    fTup (fCons false (fName 9) (fCons false (fCall (Φ i__law_tree false) (fCons false (fName 0) (fCons false (fName 1) (fCons false (fName 10) (fCons false (fBin opSub (fName 3) (fC (.int 1))) (fNilA)))))) (fNilA)))
def l__law_tree_2 (h : Bool) (Φ : Tb) : FS :=
    fSeq (fAsg false (.one 9) (fBin opIx (fLst (fCons false (fC .non) (fCons false (fC (.int 1)) (fCons false (fC (.int 2)) (fCons false (fC (.int 0)) (fCons false (fC (.int 3)) (fCons false (fNeg (fC (.int 1))) (fCons false (fC (.int 9)) (fCons false (fC (.int 10)) (fCons false (fNeg (fC (.int 5))) (fCons false (fBin opPow (fC (.int 10)) (fC (.int 20))) (fCons false (fBin opSub (fC (.int 0)) (fBin opPow (fC (.int 10)) (fC (.int 28)))) (fNilA))))))))))))) (fCall (Φ i__law_take false) (fCons false (fName 0) (fCons false (fC (.int 11)) (fNilA))))))
    (fIf (fVal (fBin (opIn Bool.not) (fName 9) (fName 7))) (fDrop (fMth mAppend (fName 7) (fCons false (fName 9) (fNilA)))) (fNil))
def y__law_tree_3 (h : Bool) (Φ : Tb) : FT :=
    fVal (fBin (opIn Bool.not) (fName 5) (fName 2))
def g__law_tree (h : Bool) (Φ : Tb) : FS :=
    fSeq (fAsg false (.one 4) (fLc false [5] (fRng rng1 (fCons false (fBlt bLen (fCons false (fName 1) (fNilA))) (fNilA))) (.one 5) (y__law_tree_3 h Φ) (fName 5)))
    (fSeq (fIf (fOrT (fVal (fBin (opEq id) (fName 4) (fLst (fNilA)))) (fOrT (fVal (fBin (opEq id) (fName 3) (fC (.int 0)))) (fVal (fBin (opEq id) (fCall (Φ i__law_take false) (fCons false (fName 0) (fCons false (fC (.int 6)) (fNilA)))) (fC (.int 0)))))) (fRet (fC .non)) (fNil))
    (fSeq (fAsg false (.one 5) (fBin opIx (fName 4) (fCall (Φ i__law_take false) (fCons false (fName 0) (fCons false (fBlt bLen (fCons false (fName 4) (fNilA))) (fNilA))))))
    (fSeq (fAsg false (.one 6) (fBin opIx (fBin opIx (fName 1) (fName 5)) (fCall (Φ i__law_take false) (fCons false (fName 0) (fCons false (fBlt bLen (fCons false (fBin opIx (fName 1) (fName 5)) (fNilA))) (fNilA))))))
    (fSeq (fAsg true (.one 7) (fLst (fNilA)))
    (fSeq (fFor (fRng rng1 (fCons false (fCall (Φ i__law_take false) (fCons false (fName 0) (fCons false (fC (.int 4)) (fNilA)))) (fNilA))) (.one 8) (l__law_tree_2 h Φ))
    (fSeq (fAsg false (.one 10) (fBin opAdd (fName 2) (fLst (fCons false (fName 5) (fNilA)))))
    (fSeq (fAsg false (.one 11) (fLc false [9] (fSrc (fName 7)) (.one 9) (fYes) (x__law_tree_1 h Φ)))
    (fRet (fTup (fCons false (fName 5) (fCons false (fName 6) (fCons false (fName 11) (fCons false (fCall (Φ i__law_tree false) (fCons false (fName 0) (fCons false (fName 1) (fCons false (fName 10) (fCons false (fBin opSub (fName 3) (fC (.int 1))) (fNilA)))))) (fNilA))))))))))))))
/-- _law_puts: 0 _law_order, 1 _law_one, 2 _law_other -/
def g__law_puts (h : Bool) (Φ : Tb) : FS :=
    fSeq (fIf (fOrT (fVal (fBin (opIs id) (fName 1) (fC .non))) (fVal (fBin (opIs id) (fName 2) (fC .non)))) (fRet (fBin (opEq id) (fBin (opIs id) (fName 1) (fC .non)) (fBin (opIn id) (fName 0) (fLst (fCons false (fC (.str "up first")) (fCons false (fC (.str "down first")) (fNilA))))))) (fNil))
    (fRet (fBin (opEq id) (fBin opLt (fName 1) (fName 2)) (fBin (opIn id) (fName 0) (fLst (fCons false (fC (.str "up first")) (fCons false (fC (.str "up last")) (fNilA)))))))
/-- _law_compare: 0 _law_rule, 1 _law_x, 2 _law_y, 3 _law_column, 4 _law_order, 5 _law_branches, 6 _law_other, 7 _law_value_here, 8 _law_tree_here -/
def l__law_compare_1 (h : Bool) (Φ : Tb) : FS :=
    fIf (fVal (fBin (opEq id) (fName 7) (fBin opIx (fName 1) (fName 3)))) (fRet (fCall (Φ i__law_compare false) (fCons false (fName 8) (fCons false (fName 1) (fCons false (fName 2) (fNilA)))))) (fNil)
def l__law_compare_2 (h : Bool) (Φ : Tb) : FS :=
    fIf (fVal (fBin (opEq Bool.not) (fBin opIx (fName 1) (fName 3)) (fBin opIx (fName 2) (fName 3)))) (fRet (fBin opIx (fLst (fCons false (fC (.int 1)) (fCons false (fNeg (fC (.int 1))) (fNilA)))) (fBlt bInt (fCons false (fCall (Φ i__law_puts false) (fCons false (fName 4) (fCons false (fBin opIx (fName 1) (fName 3)) (fCons false (fBin opIx (fName 2) (fName 3)) (fNilA))))) (fNilA))))) (fNil)
def g__law_compare (h : Bool) (Φ : Tb) : FS :=
    fSeq (fIf (fVal (fIsi "list" (fName 0))) (fSeq (fFor (fSrc (fName 0)) (.tup [3, 4]) (l__law_compare_2 h Φ))
    (fRet (fC (.int 0)))) (fNil))
    (fSeq (fIf (fVal (fBin (opIs id) (fName 0) (fC .non))) (fRet (fC (.int 0))) (fNil))
    (fSeq (fAsg false (.tup [3, 4, 5, 6]) (fName 0))
    (fSeq (fIf (fVal (fBin (opEq Bool.not) (fBin opIx (fName 1) (fName 3)) (fBin opIx (fName 2) (fName 3)))) (fRet (fBin opIx (fLst (fCons false (fC (.int 1)) (fCons false (fNeg (fC (.int 1))) (fNilA)))) (fBlt bInt (fCons false (fCall (Φ i__law_puts false) (fCons false (fName 4) (fCons false (fBin opIx (fName 1) (fName 3)) (fCons false (fBin opIx (fName 2) (fName 3)) (fNilA))))) (fNilA))))) (fNil))
    (fSeq (fFor (fSrc (fName 5)) (.tup [7, 8]) (l__law_compare_1 h Φ))
    (fRet (fCall (Φ i__law_compare false) (fCons false (fName 6) (fCons false (fName 1) (fCons false (fName 2) (fNilA))))))))))
/-- _law_near: 0 _law_pile_here, 1 _law_row_here, 2 _law_wide, 3 _law_found, 4 _law_k -/
def l__law_near_1 (h : Bool) (Φ : Tb) : FS :=
    fIf (fVal (fBin (opEq id) (fCall (Φ i__law_take false) (fCons false (fName 0) (fCons false (fC (.int 3)) (fNilA)))) (fC (.int 0)))) (fStore false (fCall (Φ i__law_value false) (fCons false (fName 0) (fCons false (fName 2) (fNilA)))) (fName 3) (fName 4)) (fNil)
def g__law_near (h : Bool) (Φ : Tb) : FS :=
    fSeq (fAsg true (.one 3) (fBlt bList (fCons false (fName 1) (fNilA))))
    (fSeq (fFor (fRng rng1 (fCons false (fBlt bLen (fCons false (fName 1) (fNilA))) (fNilA))) (.one 4) (l__law_near_1 h Φ))
    (fRet (fBlt bTuple (fCons false (fName 3) (fNilA)))))
/-- _law_chain: 0 _law_flat_here, 1 _law_found, 2 _law_k -/
def l__law_chain_1 (h : Bool) (Φ : Tb) : FS :=
    fAsg false (.one 1) (fTup (fCons false (fBin opIx (fBin opIx (fName 0) (fName 2)) (fC (.int 0))) (fCons false (fBin opIx (fBin opIx (fName 0) (fName 2)) (fC (.int 1))) (fCons false (fLst (fNilA)) (fCons false (fName 1) (fNilA))))))
def g__law_chain (h : Bool) (Φ : Tb) : FS :=
    fSeq (fAsg false (.one 1) (fC .non))
    (fSeq (fFor (fRng rng3 (fCons false (fBin opSub (fBlt bLen (fCons false (fName 0) (fNilA))) (fC (.int 1))) (fCons false (fNeg (fC (.int 1))) (fCons false (fNeg (fC (.int 1))) (fNilA))))) (.one 2) (l__law_chain_1 h Φ))
    (fRet (fName 1)))
/-- _law_is_plain: 0 _law_tree_here, 1 _law_keys, 2 _law_value_here, 3 _law_below, 4 _law_k -/
def y__law_is_plain_1 (h : Bool) (Φ : Tb) : FT :=
    fOrT (fVal (fBin (opEq id) (fName 3) (fBin opIx (fName 0) (fC (.int 3))))) (fNotT (fVal (fCall (Φ i__law_is_plain false) (fCons false (fName 3) (fNilA)))))
def y__law_is_plain_2 (h : Bool) (Φ : Tb) : FT :=
    fVal (fBin opGe (fBin opIx (fName 1) (fBin opSub (fName 4) (fC (.int 1)))) (fBin opIx (fName 1) (fName 4)))
def x__law_is_plain_3 (h : Bool) (Φ : Tb) : FE :=
    fTup (fCons false (fBlt bInt (fCons false (fBin (opIs Bool.not) (fName 2) (fC .non)) (fNilA))) (fCons false (fOrV (fName 2) (fC (.int 0))) (fNilA)))
def g__law_is_plain (h : Bool) (Φ : Tb) : FS :=
    fSeq (fIf (fVal (fBin (opIs id) (fName 0) (fC .non))) (fRet (fC (.bl true))) (fNil))
    (fSeq (fAsg false (.one 1) (fLc false [2, 3] (fSrc (fBin opIx (fName 0) (fC (.int 2)))) (.tup [2, 3]) (fYes) (x__law_is_plain_3 h Φ)))
    (fSeq (fIf (fVal (fBin (opEq Bool.not) (fLc false [4] (fRng rng2 (fCons false (fC (.int 1)) (fCons false (fBlt bLen (fCons false (fName 1) (fNilA))) (fNilA)))) (.one 4) (y__law_is_plain_2 h Φ) (fName 4)) (fLst (fNilA)))) (fRet (fC (.bl false))) (fNil))
    (fSeq (fIf (fVal (fBin (opEq Bool.not) (fLc false [2, 3] (fSrc (fBin opIx (fName 0) (fC (.int 2)))) (.tup [2, 3]) (y__law_is_plain_1 h Φ) (fName 3)) (fLst (fNilA)))) (fRet (fC (.bl false))) (fNil))
    (fRet (fCall (Φ i__law_is_plain false) (fCons false (fBin opIx (fName 0) (fC (.int 3))) (fNilA)))))))
/-- _law_loose: 0 _law_pile_here, 1 _law_tree_here, 2 _law_column, 3 _law_order, 4 _law_branches, 5 _law_other, 6 _law_found, 7 _law_value_here, 8 _law_below -/
def x__law_loose_1 (h : Bool) (Φ : Tb) : FE :=
    fTup (fCons false (fName 7) (fCons false (fCall (Φ i__law_loose false) (fCons false (fName 0) (fCons false (fName 8) (fNilA)))) (fNilA)))
def g__law_loose (h : Bool) (Φ : Tb) : FS :=
    fSeq (fIf (fVal (fBin (opIs id) (fName 1) (fC .non))) (fRet (fC .non)) (fNil))
    (fSeq (fAsg false (.tup [2, 3, 4, 5]) (fName 1))
    (fSeq (fAsg true (.one 6) (fLc false [7, 8] (fSrc (fName 4)) (.tup [7, 8]) (fYes) (x__law_loose_1 h Φ)))
    (fSeq (fIf (fVal (fBin (opEq id) (fCall (Φ i__law_take false) (fCons false (fName 0) (fCons false (fC (.int 2)) (fNilA)))) (fC (.int 0)))) (fAsg true (.one 6) (fRev (fName 6))) (fNil))
    (fSeq (fIf (fAndT (fVal (fBin (opIn Bool.not) (fC (.int 77)) (fLc false [7, 8] (fSrc (fName 6)) (.tup [7, 8]) (fYes) (fName 7)))) (fVal (fBin (opEq id) (fCall (Φ i__law_take false) (fCons false (fName 0) (fCons false (fC (.int 2)) (fNilA)))) (fC (.int 0))))) (fDrop (fMth mInsert (fName 6) (fCons false (fCall (Φ i__law_take false) (fCons false (fName 0) (fCons false (fBin opAdd (fBlt bLen (fCons false (fName 6) (fNilA))) (fC (.int 1))) (fNilA)))) (fCons false (fTup (fCons false (fC (.int 77)) (fCons false (fName 5) (fNilA)))) (fNilA))))) (fNil))
    (fRet (fTup (fCons false (fName 2) (fCons false (fName 3) (fCons false (fName 6) (fCons false (fCall (Φ i__law_loose false) (fCons false (fName 0) (fCons false (fName 5) (fNilA)))) (fNilA)))))))))))
/-- _law_alike: 0 _law_pile_here, 1 _law_schema_here, 2 _law_one, 3 _law_other, 4 _law_turn, 5 _law_wide, 6 _law_x, 7 _law_y -/
def l__law_alike_1 (h : Bool) (Φ : Tb) : FS :=
    fSeq (fAsg false (.one 5) (fCall (Φ i__law_take false) (fCons false (fName 0) (fCons false (fC (.int 2)) (fNilA)))))
    (fSeq (fAsg false (.one 6) (fCall (Φ i__law_row false) (fCons false (fName 0) (fCons false (fName 1) (fCons false (fName 5) (fNilA))))))
    (fSeq (fAsg false (.one 7) (fCall (Φ i__law_near false) (fCons false (fName 0) (fCons false (fName 6) (fCons false (fName 5) (fNilA))))))
    (fIf (fVal (fBin (opEq Bool.not) (fCall (Φ i__law_compare false) (fCons false (fName 2) (fCons false (fName 6) (fCons false (fName 7) (fNilA))))) (fCall (Φ i__law_compare false) (fCons false (fName 3) (fCons false (fName 6) (fCons false (fName 7) (fNilA))))))) (fRet (fC (.bl false))) (fNil))))
def g__law_alike (h : Bool) (Φ : Tb) : FS :=
    fSeq (fFor (fRng rng1 (fCons false (fC (.int 8)) (fNilA))) (.one 4) (l__law_alike_1 h Φ))
    (fRet (fC (.bl true)))
/-- _law_all_lists: 0 _law_thing, 1 _law_found, 2 _law_part -/
def l__law_all_lists_1 (h : Bool) (Φ : Tb) : FS :=
    fAsg false (.one 1) (fBin opAdd (fName 1) (fCall (Φ i__law_all_lists false) (fCons false (fName 2) (fNilA))))
def g__law_all_lists (h : Bool) (Φ : Tb) : FS :=
    fSeq (fAsg false (.one 1) (fBin opMul (fLst (fCons false (fName 0) (fNilA))) (fBlt bInt (fCons false (fIsi "list" (fName 0)) (fNilA)))))
    (fSeq (fIf (fOrT (fVal (fIsi "list" (fName 0))) (fVal (fIsi "tuple" (fName 0)))) (fFor (fSrc (fName 0)) (.one 2) (l__law_all_lists_1 h Φ)) (fNil))
    (fRet (fName 1)))
/-- _law_numbered: 0 _law_thing, 1 _law_some, 2 _law_k, 3 _law_one -/
def x__law_numbered_1 (h : Bool) (Φ : Tb) : FE :=
    fBin opIx (fName 3) (fNeg (fC (.int 1)))
def l__law_numbered_2 (h : Bool) (Φ : Tb) : FS :=
    fDrop (fMth mAppend (fBin opIx (fName 1) (fName 2)) (fCons false (fName 2) (fNilA)))
def g__law_numbered (h : Bool) (Φ : Tb) : FS :=
    fSeq (fAsg false (.one 1) (fCall (Φ i__law_all_lists false) (fCons false (fName 0) (fNilA))))
    (fSeq (fFor (fRng rng1 (fCons false (fBlt bLen (fCons false (fName 1) (fNilA))) (fNilA))) (.one 2) (l__law_numbered_2 h Φ))
    (fRet (fBin (opEq id) (fLc false [3] (fSrc (fName 1)) (.one 3) (fYes) (x__law_numbered_1 h Φ)) (fLc false [2] (fRng rng1 (fCons false (fBlt bLen (fCons false (fName 1) (fNilA))) (fNilA))) (.one 2) (fYes) (fName 2)))))
/-- _law_good: 0 _law_pile_here, 1 _law_schema_here, 2 _law_tree_here, 3 _law_kept, 4 _law_found, 5 _law_told -/
def g__law_good (h : Bool) (Φ : Tb) : FS :=
    fSeq (fAsg false (.one 3) (fBlt bRepr (fCons false (fLst (fCons false (fName 1) (fCons false (fName 2) (fNilA)))) (fNilA))))
    (fSeq (fAsg false (.one 4) (fCall (Φ i_plain true) (fCons false (fName 1) (fCons false (fName 2) (fNilA)))))
    (fSeq (fIf (fOrT (fVal (fBin (opIs Bool.not) (fCall (Φ i_is_tree false) (fCons false (fName 1) (fCons false (fName 4) (fNilA)))) (fC (.bl true)))) (fOrT (fNotT (fVal (fCall (Φ i__law_is_plain false) (fCons false (fName 4) (fNilA))))) (fVal (fBin (opEq Bool.not) (fBlt bRepr (fCons false (fLst (fCons false (fName 1) (fCons false (fName 2) (fNilA)))) (fNilA))) (fName 3))))) (fRet (fC (.bl false))) (fNil))
    (fSeq (fIf (fOrT (fNotT (fVal (fCall (Φ i__law_alike false) (fCons false (fName 0) (fCons false (fName 1) (fCons false (fName 2) (fCons false (fName 4) (fNilA)))))))) (fVal (fBin (opEq Bool.not) (fCall (Φ i_plain false) (fCons false (fName 1) (fCons false (fName 4) (fNilA)))) (fName 4)))) (fRet (fC (.bl false))) (fNil))
    (fSeq (fIf (fVal (fBin (opEq Bool.not) (fCall (Φ i_plain false) (fCons false (fName 1) (fCons false (fCall (Φ i__law_loose false) (fCons false (fName 0) (fCons false (fName 2) (fNilA)))) (fNilA)))) (fName 4))) (fRet (fC (.bl false))) (fNil))
    (fSeq (fAsg false (.one 5) (fBlt bRepr (fCons false (fName 4) (fNilA))))
    (fSeq (fIf (fOrT (fNotT (fVal (fCall (Φ i__law_numbered false) (fCons false (fName 4) (fNilA))))) (fVal (fBin (opEq Bool.not) (fBlt bRepr (fCons false (fLst (fCons false (fName 1) (fCons false (fName 2) (fNilA)))) (fNilA))) (fName 3)))) (fRet (fC (.bl false))) (fNil))
    (fRet (fBin (opEq id) (fBlt bRepr (fCons false (fCall (Φ i_plain false) (fCons false (fName 1) (fCons false (fName 2) (fNilA)))) (fNilA))) (fName 5)))))))))
/-- law: 0 _law_script, 1 _law_k, 2 _law_pile_here, 3 _law_schema_here, 4 _law_flat_here, 5 _law_kept, 6 _law_found -/
def l_law_1 (h : Bool) (Φ : Tb) : FS :=
    fSeq (fAsg true (.one 2) (fCall (Φ i__law_pile false) (fCons false (fName 0) (fCons false (fName 1) (fNilA)))))
    (fSeq (fAsg false (.one 3) (fCall (Φ i__law_schema false) (fCons false (fName 2) (fNilA))))
    (fSeq (fAsg false (.one 4) (fCall (Φ i__law_flat false) (fCons false (fName 2) (fCons false (fName 3) (fNilA)))))
    (fSeq (fAsg false (.one 5) (fBlt bRepr (fCons false (fName 4) (fNilA))))
    (fSeq (fAsg false (.one 6) (fCall (Φ i_tree_of true) (fCons false (fName 3) (fCons false (fName 4) (fNilA)))))
    (fSeq (fIf (fOrT (fVal (fBin (opEq Bool.not) (fName 6) (fCall (Φ i__law_chain false) (fCons false (fName 4) (fNilA))))) (fOrT (fVal (fBin (opEq Bool.not) (fBlt bRepr (fCons false (fName 4) (fNilA))) (fName 5))) (fVal (fBin (opEq Bool.not) (fCall (Φ i_plain false) (fCons false (fName 3) (fCons false (fName 6) (fNilA)))) (fName 6))))) (fRet (fC (.bl false))) (fNil))
    (fSeq (fIf (fOrT (fNotT (fVal (fCall (Φ i__law_numbered false) (fCons false (fName 6) (fNilA))))) (fOrT (fVal (fBin (opEq Bool.not) (fBlt bRepr (fCons false (fName 4) (fNilA))) (fName 5))) (fVal (fBin (opEq Bool.not) (fCall (Φ i_tree_of false) (fCons false (fName 3) (fCons false (fName 4) (fNilA)))) (fCall (Φ i__law_chain false) (fCons false (fName 4) (fNilA))))))) (fRet (fC (.bl false))) (fNil))
    (fIf (fOrT (fNotT (fVal (fCall (Φ i__law_good false) (fCons false (fName 2) (fCons false (fName 3) (fCons false (fCall (Φ i__law_tree false) (fCons false (fName 2) (fCons false (fName 3) (fCons false (fLst (fNilA)) (fCons false (fC (.int 4)) (fNilA)))))) (fNilA))))))) (fNotT (fVal (fCall (Φ i__law_good false) (fCons false (fName 2) (fCons false (fName 3) (fCons false (fC .non) (fNilA)))))))) (fRet (fC (.bl false))) (fNil))))))))
def g_law (h : Bool) (Φ : Tb) : FS :=
    fSeq (fFor (fRng rng1 (fCons false (fBlt bMax (fCons false (fC (.int 2)) (fCons false (fBlt bMin (fCons false (fBlt bLen (fCons false (fName 0) (fNilA))) (fCons false (fC (.int 8)) (fNilA)))) (fNilA)))) (fNilA))) (.one 1) (l_law_1 h Φ))
    (fRet (fC (.bl true)))
def tab (Φ : Tb) : Tb := fun i h => match i with
  | 0 => runB h 1 (g_is_whole h Φ)
  | 1 => runB h 2 (g_is_below h Φ)
  | 2 => runB h 1 (g_is_value h Φ)
  | 3 => runB h 1 (g_is_order h Φ)
  | 4 => runB h 2 (g_is_column h Φ)
  | 5 => runB h 2 (g_is_schema h Φ)
  | 6 => runB h 1 (g_look_at_schema h Φ)
  | 7 => runB h 2 (g_is_step h Φ)
  | 8 => runB h 5 (g_is_right_flat h Φ)
  | 9 => runB h 1 (g_is_branch h Φ)
  | 10 => runB h 6 (g_is_tree_without h Φ)
  | 11 => runB h 2 (g_is_tree h Φ)
  | 12 => runB h 2 (g_look_at_flat h Φ)
  | 13 => runB h 4 (g_flat_as_tree h Φ)
  | 14 => runB h 2 (g_tree_of h Φ)
  | 15 => runB h 2 (g_is_value_before h Φ)
  | 16 => runB h 8 (g_made_plain h Φ)
  | 17 => runB h 2 (g_plain h Φ)
  | 18 => runB h 3 (g__law_mixed h Φ)
  | 19 => runB h 5 (g__law_pile h Φ)
  | 20 => runB h 3 (g__law_take h Φ)
  | 21 => runB h 6 (g__law_schema h Φ)
  | 22 => runB h 3 (g__law_value h Φ)
  | 23 => runB h 4 (g__law_row h Φ)
  | 24 => runB h 4 (g__law_order_of h Φ)
  | 25 => runB h 4 (g__law_flat h Φ)
  | 26 => runB h 12 (g__law_tree h Φ)
  | 27 => runB h 3 (g__law_puts h Φ)
  | 28 => runB h 9 (g__law_compare h Φ)
  | 29 => runB h 5 (g__law_near h Φ)
  | 30 => runB h 3 (g__law_chain h Φ)
  | 31 => runB h 5 (g__law_is_plain h Φ)
  | 32 => runB h 9 (g__law_loose h Φ)
  | 33 => runB h 8 (g__law_alike h Φ)
  | 34 => runB h 3 (g__law_all_lists h Φ)
  | 35 => runB h 4 (g__law_numbered h Φ)
  | 36 => runB h 6 (g__law_good h Φ)
  | 37 => runB h 7 (g_law h Φ)
  | _ => fun _ _ => none
def ev : Nat → Tb
  | 0 => fun _ _ => fun _ _ => none
  | n + 1 => tab (ev n)
theorem e_is_whole (n : Nat) (h : Bool) : ev (n + 1) i_is_whole h = runB h 1 (g_is_whole h (ev n)) := rfl
theorem e_is_below (n : Nat) (h : Bool) : ev (n + 1) i_is_below h = runB h 2 (g_is_below h (ev n)) := rfl
theorem e_is_value (n : Nat) (h : Bool) : ev (n + 1) i_is_value h = runB h 1 (g_is_value h (ev n)) := rfl
theorem e_is_order (n : Nat) (h : Bool) : ev (n + 1) i_is_order h = runB h 1 (g_is_order h (ev n)) := rfl
theorem e_is_column (n : Nat) (h : Bool) : ev (n + 1) i_is_column h = runB h 2 (g_is_column h (ev n)) := rfl
theorem e_is_schema (n : Nat) (h : Bool) : ev (n + 1) i_is_schema h = runB h 2 (g_is_schema h (ev n)) := rfl
theorem e_look_at_schema (n : Nat) (h : Bool) : ev (n + 1) i_look_at_schema h = runB h 1 (g_look_at_schema h (ev n)) := rfl
theorem e_is_step (n : Nat) (h : Bool) : ev (n + 1) i_is_step h = runB h 2 (g_is_step h (ev n)) := rfl
theorem e_is_right_flat (n : Nat) (h : Bool) : ev (n + 1) i_is_right_flat h = runB h 5 (g_is_right_flat h (ev n)) := rfl
theorem e_is_branch (n : Nat) (h : Bool) : ev (n + 1) i_is_branch h = runB h 1 (g_is_branch h (ev n)) := rfl
theorem e_is_tree_without (n : Nat) (h : Bool) : ev (n + 1) i_is_tree_without h = runB h 6 (g_is_tree_without h (ev n)) := rfl
theorem e_is_tree (n : Nat) (h : Bool) : ev (n + 1) i_is_tree h = runB h 2 (g_is_tree h (ev n)) := rfl
theorem e_look_at_flat (n : Nat) (h : Bool) : ev (n + 1) i_look_at_flat h = runB h 2 (g_look_at_flat h (ev n)) := rfl
theorem e_flat_as_tree (n : Nat) (h : Bool) : ev (n + 1) i_flat_as_tree h = runB h 4 (g_flat_as_tree h (ev n)) := rfl
theorem e_tree_of (n : Nat) (h : Bool) : ev (n + 1) i_tree_of h = runB h 2 (g_tree_of h (ev n)) := rfl
theorem e_is_value_before (n : Nat) (h : Bool) : ev (n + 1) i_is_value_before h = runB h 2 (g_is_value_before h (ev n)) := rfl
theorem e_made_plain (n : Nat) (h : Bool) : ev (n + 1) i_made_plain h = runB h 8 (g_made_plain h (ev n)) := rfl
theorem e_plain (n : Nat) (h : Bool) : ev (n + 1) i_plain h = runB h 2 (g_plain h (ev n)) := rfl
theorem e__law_mixed (n : Nat) (h : Bool) : ev (n + 1) i__law_mixed h = runB h 3 (g__law_mixed h (ev n)) := rfl
theorem e__law_pile (n : Nat) (h : Bool) : ev (n + 1) i__law_pile h = runB h 5 (g__law_pile h (ev n)) := rfl
theorem e__law_take (n : Nat) (h : Bool) : ev (n + 1) i__law_take h = runB h 3 (g__law_take h (ev n)) := rfl
theorem e__law_schema (n : Nat) (h : Bool) : ev (n + 1) i__law_schema h = runB h 6 (g__law_schema h (ev n)) := rfl
theorem e__law_value (n : Nat) (h : Bool) : ev (n + 1) i__law_value h = runB h 3 (g__law_value h (ev n)) := rfl
theorem e__law_row (n : Nat) (h : Bool) : ev (n + 1) i__law_row h = runB h 4 (g__law_row h (ev n)) := rfl
theorem e__law_order_of (n : Nat) (h : Bool) : ev (n + 1) i__law_order_of h = runB h 4 (g__law_order_of h (ev n)) := rfl
theorem e__law_flat (n : Nat) (h : Bool) : ev (n + 1) i__law_flat h = runB h 4 (g__law_flat h (ev n)) := rfl
theorem e__law_tree (n : Nat) (h : Bool) : ev (n + 1) i__law_tree h = runB h 12 (g__law_tree h (ev n)) := rfl
theorem e__law_puts (n : Nat) (h : Bool) : ev (n + 1) i__law_puts h = runB h 3 (g__law_puts h (ev n)) := rfl
theorem e__law_compare (n : Nat) (h : Bool) : ev (n + 1) i__law_compare h = runB h 9 (g__law_compare h (ev n)) := rfl
theorem e__law_near (n : Nat) (h : Bool) : ev (n + 1) i__law_near h = runB h 5 (g__law_near h (ev n)) := rfl
theorem e__law_chain (n : Nat) (h : Bool) : ev (n + 1) i__law_chain h = runB h 3 (g__law_chain h (ev n)) := rfl
theorem e__law_is_plain (n : Nat) (h : Bool) : ev (n + 1) i__law_is_plain h = runB h 5 (g__law_is_plain h (ev n)) := rfl
theorem e__law_loose (n : Nat) (h : Bool) : ev (n + 1) i__law_loose h = runB h 9 (g__law_loose h (ev n)) := rfl
theorem e__law_alike (n : Nat) (h : Bool) : ev (n + 1) i__law_alike h = runB h 8 (g__law_alike h (ev n)) := rfl
theorem e__law_all_lists (n : Nat) (h : Bool) : ev (n + 1) i__law_all_lists h = runB h 3 (g__law_all_lists h (ev n)) := rfl
theorem e__law_numbered (n : Nat) (h : Bool) : ev (n + 1) i__law_numbered h = runB h 4 (g__law_numbered h (ev n)) := rfl
theorem e__law_good (n : Nat) (h : Bool) : ev (n + 1) i__law_good h = runB h 6 (g__law_good h (ev n)) := rfl
theorem e_law (n : Nat) (h : Bool) : ev (n + 1) i_law h = runB h 7 (g_law h (ev n)) := rfl
end K06

set_option Elab.async false
set_option linter.all false
set_option maxRecDepth 100000
set_option maxHeartbeats 4000000
namespace K06
open PySem PySem.Spec L2 Ev
/-! ### the defs run their runs -/
def top (i : Nat) : Stmt := PySem.Challenge.pw_sortclues_k06_trees_made_plain.main.body.getD i (.Pass ⟨0, 0, 0, 0⟩)
abbrev s_is_whole : Stmt := top 7
abbrev s_is_below : Stmt := top 8
abbrev s_is_value : Stmt := top 9
abbrev s_is_order : Stmt := top 10
abbrev s_is_column : Stmt := top 11
abbrev s_is_schema : Stmt := top 12
abbrev s_look_at_schema : Stmt := top 13
abbrev s_is_step : Stmt := top 14
abbrev s_is_right_flat : Stmt := top 16
abbrev s_is_branch : Stmt := top 17
abbrev s_is_tree_without : Stmt := top 18
abbrev s_is_tree : Stmt := top 19
abbrev s_look_at_flat : Stmt := top 20
abbrev s_flat_as_tree : Stmt := top 21
abbrev s_tree_of : Stmt := top 22
abbrev s_is_value_before : Stmt := top 23
abbrev s_made_plain : Stmt := top 24
abbrev s_plain : Stmt := top 25
abbrev s__law_mixed : Stmt := top 27
abbrev s__law_pile : Stmt := top 28
abbrev s__law_take : Stmt := top 29
abbrev s__law_schema : Stmt := top 30
abbrev s__law_value : Stmt := top 31
abbrev s__law_row : Stmt := top 32
abbrev s__law_order_of : Stmt := top 33
abbrev s__law_flat : Stmt := top 34
abbrev s__law_tree : Stmt := top 35
abbrev s__law_puts : Stmt := top 36
abbrev s__law_compare : Stmt := top 37
abbrev s__law_near : Stmt := top 38
abbrev s__law_chain : Stmt := top 39
abbrev s__law_is_plain : Stmt := top 40
abbrev s__law_loose : Stmt := top 41
abbrev s__law_alike : Stmt := top 42
abbrev s__law_all_lists : Stmt := top 43
abbrev s__law_numbered : Stmt := top 44
abbrev s__law_good : Stmt := top 45
abbrev s_law : Stmt := top 46
theorem b_all : bootBuiltins "all" = some (.builtin "all") := by decide +kernel
theorem b_bool : bootBuiltins "bool" = some (.type "bool") := by decide +kernel
theorem b_int : bootBuiltins "int" = some (.type "int") := by decide +kernel
theorem b_isinstance : bootBuiltins "isinstance" = some (.builtin "isinstance") := by decide +kernel
theorem b_len : bootBuiltins "len" = some (.builtin "len") := by decide +kernel
theorem b_list : bootBuiltins "list" = some (.type "list") := by decide +kernel
theorem b_max : bootBuiltins "max" = some (.builtin "max") := by decide +kernel
theorem b_min : bootBuiltins "min" = some (.builtin "min") := by decide +kernel
theorem b_range : bootBuiltins "range" = some (.type "range") := by decide +kernel
theorem b_repr : bootBuiltins "repr" = some (.builtin "repr") := by decide +kernel
theorem b_set : bootBuiltins "set" = some (.type "set") := by decide +kernel
theorem b_str : bootBuiltins "str" = some (.type "str") := by decide +kernel
theorem b_tuple : bootBuiltins "tuple" = some (.type "tuple") := by decide +kernel
theorem sc_is_whole : FnScope ["thing"] ["thing"] (defScope s_is_whole) := ⟨rfl, rfl, rfl, by decide +kernel, rfl, by decide +kernel, by decide +kernel⟩
theorem sc_is_below : FnScope ["thing", "many"] ["thing", "many"] (defScope s_is_below) := ⟨rfl, rfl, rfl, by decide +kernel, rfl, by decide +kernel, by decide +kernel⟩
theorem sc_is_value : FnScope ["thing"] ["thing"] (defScope s_is_value) := ⟨rfl, rfl, rfl, by decide +kernel, rfl, by decide +kernel, by decide +kernel⟩
theorem sc_is_order : FnScope ["thing"] ["thing"] (defScope s_is_order) := ⟨rfl, rfl, rfl, by decide +kernel, rfl, by decide +kernel, by decide +kernel⟩
theorem sc_is_column : FnScope ["thing", "order"] ["thing"] (defScope s_is_column) := ⟨rfl, rfl, rfl, by decide +kernel, rfl, by decide +kernel, by decide +kernel⟩
theorem sc_is_schema : FnScope ["thing", "column"] ["thing"] (defScope s_is_schema) := ⟨rfl, rfl, rfl, by decide +kernel, rfl, by decide +kernel, by decide +kernel⟩
theorem sc_look_at_schema : FnScope ["schema"] ["schema"] (defScope s_look_at_schema) := ⟨rfl, rfl, rfl, by decide +kernel, rfl, by decide +kernel, by decide +kernel⟩
theorem sc_is_step : FnScope ["schema", "thing"] ["schema", "thing"] (defScope s_is_step) := ⟨rfl, rfl, rfl, by decide +kernel, rfl, by decide +kernel, by decide +kernel⟩
theorem sc_is_right_flat : FnScope ["schema", "thing", "column", "order", "step"] ["schema", "thing"] (defScope s_is_right_flat) := ⟨rfl, rfl, rfl, by decide +kernel, rfl, by decide +kernel, by decide +kernel⟩
theorem sc_is_branch : FnScope ["thing"] ["thing"] (defScope s_is_branch) := ⟨rfl, rfl, rfl, by decide +kernel, rfl, by decide +kernel, by decide +kernel⟩
theorem sc_is_tree_without : FnScope ["schema", "thing", "used", "below", "tree", "branch"] ["schema", "thing", "used"] (defScope s_is_tree_without) := ⟨rfl, rfl, rfl, by decide +kernel, rfl, by decide +kernel, by decide +kernel⟩
theorem sc_is_tree : FnScope ["schema", "thing"] ["schema", "thing"] (defScope s_is_tree) := ⟨rfl, rfl, rfl, by decide +kernel, rfl, by decide +kernel, by decide +kernel⟩
theorem sc_look_at_flat : FnScope ["schema", "flat"] ["schema", "flat"] (defScope s_look_at_flat) := ⟨rfl, rfl, rfl, by decide +kernel, rfl, by decide +kernel, by decide +kernel⟩
theorem sc_flat_as_tree : FnScope ["flat", "found", "column", "order"] ["flat"] (defScope s_flat_as_tree) := ⟨rfl, rfl, rfl, by decide +kernel, rfl, by decide +kernel, by decide +kernel⟩
theorem sc_tree_of : FnScope ["schema", "flat"] ["schema", "flat"] (defScope s_tree_of) := ⟨rfl, rfl, rfl, by decide +kernel, rfl, by decide +kernel, by decide +kernel⟩
theorem sc_is_value_before : FnScope ["one", "other"] ["one", "other"] (defScope s_is_value_before) := ⟨rfl, rfl, rfl, by decide +kernel, rfl, by decide +kernel, by decide +kernel⟩
theorem sc_made_plain : FnScope ["tree", "other", "branches", "found", "branch", "place", "value", "below"] ["tree"] (defScope s_made_plain) := ⟨rfl, rfl, rfl, by decide +kernel, rfl, by decide +kernel, by decide +kernel⟩
theorem sc_plain : FnScope ["schema", "tree"] ["schema", "tree"] (defScope s_plain) := ⟨rfl, rfl, rfl, by decide +kernel, rfl, by decide +kernel, by decide +kernel⟩
theorem sc__law_mixed : FnScope ["_law_cell", "_law_k", "_law_number"] ["_law_cell", "_law_k"] (defScope s__law_mixed) := ⟨rfl, rfl, rfl, by decide +kernel, rfl, by decide +kernel, by decide +kernel⟩
theorem sc__law_pile : FnScope ["_law_script", "_law_k", "_law_cell", "_law_found", "_law_j"] ["_law_script", "_law_k"] (defScope s__law_pile) := ⟨rfl, rfl, rfl, by decide +kernel, rfl, by decide +kernel, by decide +kernel⟩
theorem sc__law_take : FnScope ["_law_pile_here", "_law_size", "_law_digit"] ["_law_pile_here", "_law_size"] (defScope s__law_take) := ⟨rfl, rfl, rfl, by decide +kernel, rfl, by decide +kernel, by decide +kernel⟩
theorem sc__law_schema : FnScope ["_law_pile_here", "_law_orders", "_law_schema_here", "_law_k", "_law_some", "_law_order"] ["_law_pile_here"] (defScope s__law_schema) := ⟨rfl, rfl, rfl, by decide +kernel, rfl, by decide +kernel, by decide +kernel⟩
theorem sc__law_value : FnScope ["_law_pile_here", "_law_wide", "_law_some"] ["_law_pile_here", "_law_wide"] (defScope s__law_value) := ⟨rfl, rfl, rfl, by decide +kernel, rfl, by decide +kernel, by decide +kernel⟩
theorem sc__law_row : FnScope ["_law_pile_here", "_law_schema_here", "_law_wide", "_law_column"] ["_law_pile_here", "_law_schema_here", "_law_wide"] (defScope s__law_row) := ⟨rfl, rfl, rfl, by decide +kernel, rfl, by decide +kernel, by decide +kernel⟩
theorem sc__law_order_of : FnScope ["_law_pile_here", "_law_many", "_law_order", "_law_k"] ["_law_pile_here", "_law_many"] (defScope s__law_order_of) := ⟨rfl, rfl, rfl, by decide +kernel, rfl, by decide +kernel, by decide +kernel⟩
theorem sc__law_flat : FnScope ["_law_pile_here", "_law_schema_here", "_law_columns", "_law_column"] ["_law_pile_here", "_law_schema_here"] (defScope s__law_flat) := ⟨rfl, rfl, rfl, by decide +kernel, rfl, by decide +kernel, by decide +kernel⟩
theorem sc__law_tree : FnScope ["_law_pile_here", "_law_schema_here", "_law_used", "_law_depth", "_law_left", "_law_column", "_law_order", "_law_values", "_law_k", "_law_value_here", "_law_below", "_law_branches"] ["_law_pile_here", "_law_schema_here", "_law_used", "_law_depth"] (defScope s__law_tree) := ⟨rfl, rfl, rfl, by decide +kernel, rfl, by decide +kernel, by decide +kernel⟩
theorem sc__law_puts : FnScope ["_law_order", "_law_one", "_law_other"] ["_law_order", "_law_one", "_law_other"] (defScope s__law_puts) := ⟨rfl, rfl, rfl, by decide +kernel, rfl, by decide +kernel, by decide +kernel⟩
theorem sc__law_compare : FnScope ["_law_rule", "_law_x", "_law_y", "_law_column", "_law_order", "_law_branches", "_law_other", "_law_value_here", "_law_tree_here"] ["_law_rule", "_law_x", "_law_y"] (defScope s__law_compare) := ⟨rfl, rfl, rfl, by decide +kernel, rfl, by decide +kernel, by decide +kernel⟩
theorem sc__law_near : FnScope ["_law_pile_here", "_law_row_here", "_law_wide", "_law_found", "_law_k"] ["_law_pile_here", "_law_row_here", "_law_wide"] (defScope s__law_near) := ⟨rfl, rfl, rfl, by decide +kernel, rfl, by decide +kernel, by decide +kernel⟩
theorem sc__law_chain : FnScope ["_law_flat_here", "_law_found", "_law_k"] ["_law_flat_here"] (defScope s__law_chain) := ⟨rfl, rfl, rfl, by decide +kernel, rfl, by decide +kernel, by decide +kernel⟩
theorem sc__law_is_plain : FnScope ["_law_tree_here", "_law_keys", "_law_value_here", "_law_below", "_law_k"] ["_law_tree_here"] (defScope s__law_is_plain) := ⟨rfl, rfl, rfl, by decide +kernel, rfl, by decide +kernel, by decide +kernel⟩
theorem sc__law_loose : FnScope ["_law_pile_here", "_law_tree_here", "_law_column", "_law_order", "_law_branches", "_law_other", "_law_found", "_law_value_here", "_law_below"] ["_law_pile_here", "_law_tree_here"] (defScope s__law_loose) := ⟨rfl, rfl, rfl, by decide +kernel, rfl, by decide +kernel, by decide +kernel⟩
theorem sc__law_alike : FnScope ["_law_pile_here", "_law_schema_here", "_law_one", "_law_other", "_law_turn", "_law_wide", "_law_x", "_law_y"] ["_law_pile_here", "_law_schema_here", "_law_one", "_law_other"] (defScope s__law_alike) := ⟨rfl, rfl, rfl, by decide +kernel, rfl, by decide +kernel, by decide +kernel⟩
theorem sc__law_all_lists : FnScope ["_law_thing", "_law_found", "_law_part"] ["_law_thing"] (defScope s__law_all_lists) := ⟨rfl, rfl, rfl, by decide +kernel, rfl, by decide +kernel, by decide +kernel⟩
theorem sc__law_numbered : FnScope ["_law_thing", "_law_some", "_law_k", "_law_one"] ["_law_thing"] (defScope s__law_numbered) := ⟨rfl, rfl, rfl, by decide +kernel, rfl, by decide +kernel, by decide +kernel⟩
theorem sc__law_good : FnScope ["_law_pile_here", "_law_schema_here", "_law_tree_here", "_law_kept", "_law_found", "_law_told"] ["_law_pile_here", "_law_schema_here", "_law_tree_here"] (defScope s__law_good) := ⟨rfl, rfl, rfl, by decide +kernel, rfl, by decide +kernel, by decide +kernel⟩
theorem sc_law : FnScope ["_law_script", "_law_k", "_law_pile_here", "_law_schema_here", "_law_flat_here", "_law_kept", "_law_found"] ["_law_script"] (defScope s_law) := ⟨rfl, rfl, rfl, by decide +kernel, rfl, by decide +kernel, by decide +kernel⟩
/-- what the module has: its constants, the built-ins' names not taken -/
structure St0 (K : PySem.W.Frag) (mg : Str → Option Value) : Prop where
  c_MOST_COLUMNS : Cn K mg "MOST_COLUMNS" c_MOST_COLUMNS
  c_ORDERS : Cn K mg "ORDERS" c_ORDERS
  z_all : mg "all" = none
  z_bool : mg "bool" = none
  z_int : mg "int" = none
  z_isinstance : mg "isinstance" = none
  z_len : mg "len" = none
  z_list : mg "list" = none
  z_max : mg "max" = none
  z_min : mg "min" = none
  z_range : mg "range" = none
  z_repr : mg "repr" = none
  z_set : mg "set" = none
  z_str : mg "str" = none
  z_tuple : mg "tuple" = none
  f_is_whole : Sf K mg "is_whole" s_is_whole ["thing"]
  f_is_below : Sf K mg "is_below" s_is_below ["thing", "many"]
  f_is_value : Sf K mg "is_value" s_is_value ["thing"]
  f_is_order : Sf K mg "is_order" s_is_order ["thing"]
  f_is_column : Sf K mg "is_column" s_is_column ["thing"]
  f_is_schema : Sf K mg "is_schema" s_is_schema ["thing"]
  f_look_at_schema : Sf K mg "look_at_schema" s_look_at_schema ["schema"]
  f_is_step : Sf K mg "is_step" s_is_step ["schema", "thing"]
  f_is_right_flat : Sf K mg "is_right_flat" s_is_right_flat ["schema", "thing"]
  f_is_branch : Sf K mg "is_branch" s_is_branch ["thing"]
  f_is_tree_without : Sf K mg "is_tree_without" s_is_tree_without ["schema", "thing", "used"]
  f_is_tree : Sf K mg "is_tree" s_is_tree ["schema", "thing"]
  f_look_at_flat : Sf K mg "look_at_flat" s_look_at_flat ["schema", "flat"]
  f_flat_as_tree : Sf K mg "flat_as_tree" s_flat_as_tree ["flat"]
  f_tree_of : Sf K mg "tree_of" s_tree_of ["schema", "flat"]
  f_is_value_before : Sf K mg "is_value_before" s_is_value_before ["one", "other"]
  f_made_plain : Sf K mg "made_plain" s_made_plain ["tree"]
  f_plain : Sf K mg "plain" s_plain ["schema", "tree"]
  f__law_mixed : Sf K mg "_law_mixed" s__law_mixed ["_law_cell", "_law_k"]
  f__law_pile : Sf K mg "_law_pile" s__law_pile ["_law_script", "_law_k"]
  f__law_take : Sf K mg "_law_take" s__law_take ["_law_pile_here", "_law_size"]
  f__law_schema : Sf K mg "_law_schema" s__law_schema ["_law_pile_here"]
  f__law_value : Sf K mg "_law_value" s__law_value ["_law_pile_here", "_law_wide"]
  f__law_row : Sf K mg "_law_row" s__law_row ["_law_pile_here", "_law_schema_here", "_law_wide"]
  f__law_order_of : Sf K mg "_law_order_of" s__law_order_of ["_law_pile_here", "_law_many"]
  f__law_flat : Sf K mg "_law_flat" s__law_flat ["_law_pile_here", "_law_schema_here"]
  f__law_tree : Sf K mg "_law_tree" s__law_tree ["_law_pile_here", "_law_schema_here", "_law_used", "_law_depth"]
  f__law_puts : Sf K mg "_law_puts" s__law_puts ["_law_order", "_law_one", "_law_other"]
  f__law_compare : Sf K mg "_law_compare" s__law_compare ["_law_rule", "_law_x", "_law_y"]
  f__law_near : Sf K mg "_law_near" s__law_near ["_law_pile_here", "_law_row_here", "_law_wide"]
  f__law_chain : Sf K mg "_law_chain" s__law_chain ["_law_flat_here"]
  f__law_is_plain : Sf K mg "_law_is_plain" s__law_is_plain ["_law_tree_here"]
  f__law_loose : Sf K mg "_law_loose" s__law_loose ["_law_pile_here", "_law_tree_here"]
  f__law_alike : Sf K mg "_law_alike" s__law_alike ["_law_pile_here", "_law_schema_here", "_law_one", "_law_other"]
  f__law_all_lists : Sf K mg "_law_all_lists" s__law_all_lists ["_law_thing"]
  f__law_numbered : Sf K mg "_law_numbered" s__law_numbered ["_law_thing"]
  f__law_good : Sf K mg "_law_good" s__law_good ["_law_pile_here", "_law_schema_here", "_law_tree_here"]
  f_law : Sf K mg "law" s_law ["_law_script"]
structure Ts (P : Program) (w : World) (K : PySem.W.Frag) (mg : Str → Option Value) (base : Heap) (n : Nat) (Φ : Tb) : Prop extends St0 K mg where
  d_is_whole : Df P w K mg base n "is_whole" 1 (Φ 0)
  d_is_below : Df P w K mg base n "is_below" 2 (Φ 1)
  d_is_value : Df P w K mg base n "is_value" 1 (Φ 2)
  d_is_order : Df P w K mg base n "is_order" 1 (Φ 3)
  d_is_column : Df P w K mg base n "is_column" 1 (Φ 4)
  d_is_schema : Df P w K mg base n "is_schema" 1 (Φ 5)
  d_look_at_schema : Df P w K mg base n "look_at_schema" 1 (Φ 6)
  d_is_step : Df P w K mg base n "is_step" 2 (Φ 7)
  d_is_right_flat : Df P w K mg base n "is_right_flat" 2 (Φ 8)
  d_is_branch : Df P w K mg base n "is_branch" 1 (Φ 9)
  d_is_tree_without : Df P w K mg base n "is_tree_without" 3 (Φ 10)
  d_is_tree : Df P w K mg base n "is_tree" 2 (Φ 11)
  d_look_at_flat : Df P w K mg base n "look_at_flat" 2 (Φ 12)
  d_flat_as_tree : Df P w K mg base n "flat_as_tree" 1 (Φ 13)
  d_tree_of : Df P w K mg base n "tree_of" 2 (Φ 14)
  d_is_value_before : Df P w K mg base n "is_value_before" 2 (Φ 15)
  d_made_plain : Df P w K mg base n "made_plain" 1 (Φ 16)
  d_plain : Df P w K mg base n "plain" 2 (Φ 17)
  d__law_mixed : Df P w K mg base n "_law_mixed" 2 (Φ 18)
  d__law_pile : Df P w K mg base n "_law_pile" 2 (Φ 19)
  d__law_take : Df P w K mg base n "_law_take" 2 (Φ 20)
  d__law_schema : Df P w K mg base n "_law_schema" 1 (Φ 21)
  d__law_value : Df P w K mg base n "_law_value" 2 (Φ 22)
  d__law_row : Df P w K mg base n "_law_row" 3 (Φ 23)
  d__law_order_of : Df P w K mg base n "_law_order_of" 2 (Φ 24)
  d__law_flat : Df P w K mg base n "_law_flat" 2 (Φ 25)
  d__law_tree : Df P w K mg base n "_law_tree" 4 (Φ 26)
  d__law_puts : Df P w K mg base n "_law_puts" 3 (Φ 27)
  d__law_compare : Df P w K mg base n "_law_compare" 3 (Φ 28)
  d__law_near : Df P w K mg base n "_law_near" 3 (Φ 29)
  d__law_chain : Df P w K mg base n "_law_chain" 1 (Φ 30)
  d__law_is_plain : Df P w K mg base n "_law_is_plain" 1 (Φ 31)
  d__law_loose : Df P w K mg base n "_law_loose" 2 (Φ 32)
  d__law_alike : Df P w K mg base n "_law_alike" 4 (Φ 33)
  d__law_all_lists : Df P w K mg base n "_law_all_lists" 1 (Φ 34)
  d__law_numbered : Df P w K mg base n "_law_numbered" 1 (Φ 35)
  d__law_good : Df P w K mg base n "_law_good" 3 (Φ 36)
  d_law : Df P w K mg base n "law" 1 (Φ 37)
section
variable {P : Program} {w : World} {K : PySem.W.Frag} {mg : Str → Option Value} {base : Heap} {n : Nat} {Φ : Tb}
theorem r_is_whole (T : Ts P w K mg base n Φ) (h : Bool) (f : Addr) (cdv : Value) (A : Around) (outer : List Env) (s : Shared) (H : Hp) (E : XK) (hq : Quiet A) (hr : Room n (A.deeper (PyProof.Rows.envOfC "is_whole" (defScope s_is_whole) s.heap.objs.size f cdv))) :
    EvB (cxOf CX0 P w K mg base ["thing"] "is_whole" (defScope s_is_whole) f cdv A outer s H E).nox (defBody s_is_whole) (g_is_whole h Φ) := by
  have hu := hr.units
  have hu0 := hr.units0
  have hu1 : (A.deeper (PyProof.Rows.envOfC "is_whole" (defScope s_is_whole) s.heap.objs.size f cdv)).units + 65 < cLine := by have := hr.un; omega
  exact (ev_one (ev_ret (ev_and (ev_isi (T := "int") (by decide) (ev_name (i := 0) rfl (.inl rfl)) rfl T.z_isinstance rfl T.z_int b_int (by decide) (by decide)) (ev_one1 (ev_not (ev_isi (T := "bool") (by decide) (ev_name (i := 0) rfl (.inl rfl)) rfl T.z_isinstance rfl T.z_bool b_bool (by decide) (by decide)))))))
theorem r_is_below (T : Ts P w K mg base n Φ) (h : Bool) (f : Addr) (cdv : Value) (A : Around) (outer : List Env) (s : Shared) (H : Hp) (E : XK) (hq : Quiet A) (hr : Room n (A.deeper (PyProof.Rows.envOfC "is_below" (defScope s_is_below) s.heap.objs.size f cdv))) :
    EvB (cxOf CX0 P w K mg base ["thing", "many"] "is_below" (defScope s_is_below) f cdv A outer s H E).nox (defBody s_is_below) (g_is_below h Φ) := by
  have hu := hr.units
  have hu0 := hr.units0
  have hu1 : (A.deeper (PyProof.Rows.envOfC "is_below" (defScope s_is_below) s.heap.objs.size f cdv)).units + 65 < cLine := by have := hr.un; omega
  exact (ev_one (ev_ret (ev_and (ev_callD T.d_is_whole false hq hr rfl (ea_cons false (ev_name (i := 0) rfl (.inl rfl)) ea_nil) (fan_cons fan_nil)) (ev_and (ev_cmp o_le ev_int (ev_name (i := 0) rfl (.inl rfl))) (ev_one1 (ev_cmp o_lt (ev_name (i := 0) rfl (.inl rfl)) (ev_name (i := 1) rfl (.inl rfl))))))))
theorem r_is_value (T : Ts P w K mg base n Φ) (h : Bool) (f : Addr) (cdv : Value) (A : Around) (outer : List Env) (s : Shared) (H : Hp) (E : XK) (hq : Quiet A) (hr : Room n (A.deeper (PyProof.Rows.envOfC "is_value" (defScope s_is_value) s.heap.objs.size f cdv))) :
    EvB (cxOf CX0 P w K mg base ["thing"] "is_value" (defScope s_is_value) f cdv A outer s H E).nox (defBody s_is_value) (g_is_value h Φ) := by
  have hu := hr.units
  have hu0 := hr.units0
  have hu1 : (A.deeper (PyProof.Rows.envOfC "is_value" (defScope s_is_value) s.heap.objs.size f cdv)).units + 65 < cLine := by have := hr.un; omega
  exact (ev_one (ev_ret (ev_or (ev_cmp o_isY (ev_name (i := 0) rfl (.inl rfl)) ev_non) (ev_one1 (ev_callD T.d_is_whole false hq hr rfl (ea_cons false (ev_name (i := 0) rfl (.inl rfl)) ea_nil) (fan_cons fan_nil))))))
theorem r_is_order (T : Ts P w K mg base n Φ) (h : Bool) (f : Addr) (cdv : Value) (A : Around) (outer : List Env) (s : Shared) (H : Hp) (E : XK) (hq : Quiet A) (hr : Room n (A.deeper (PyProof.Rows.envOfC "is_order" (defScope s_is_order) s.heap.objs.size f cdv))) :
    EvB (cxOf CX0 P w K mg base ["thing"] "is_order" (defScope s_is_order) f cdv A outer s H E).nox (defBody s_is_order) (g_is_order h Φ) := by
  have hu := hr.units
  have hu0 := hr.units0
  have hu1 : (A.deeper (PyProof.Rows.envOfC "is_order" (defScope s_is_order) s.heap.objs.size f cdv)).units + 65 < cLine := by have := hr.un; omega
  exact (ev_one (ev_ret (ev_and (ev_isi (T := "str") (by decide) (ev_name (i := 0) rfl (.inl rfl)) rfl T.z_isinstance rfl T.z_str b_str (by decide) (by decide)) (ev_one1 (ev_cmp (o_in hu1) (ev_name (i := 0) rfl (.inl rfl)) (ev_con T.c_ORDERS rfl))))))
theorem r_is_column (T : Ts P w K mg base n Φ) (h : Bool) (f : Addr) (cdv : Value) (A : Around) (outer : List Env) (s : Shared) (H : Hp) (E : XK) (hq : Quiet A) (hr : Room n (A.deeper (PyProof.Rows.envOfC "is_column" (defScope s_is_column) s.heap.objs.size f cdv))) :
    EvB (cxOf CX0 P w K mg base ["thing", "order"] "is_column" (defScope s_is_column) f cdv A outer s H E).nox (defBody s_is_column) (g_is_column h Φ) := by
  have hu := hr.units
  have hu0 := hr.units0
  have hu1 : (A.deeper (PyProof.Rows.envOfC "is_column" (defScope s_is_column) s.heap.objs.size f cdv)).units + 65 < cLine := by have := hr.un; omega
  exact (ev_cons (ev_if (EvW.t (ew_or (et_not (et_val (ev_isi (T := "tuple") (by decide) (ev_name (i := 0) rfl (.inl rfl)) rfl T.z_isinstance rfl T.z_tuple b_tuple (by decide) (by decide)))) (ew_or (et_cmp (o_eq hu) (ev_blt c_len rfl T.z_len b_len (ea_cons false (ev_name (i := 0) rfl (.inl rfl)) ea_nil)) ev_int) (ew_or1 (et_not (et_val (ev_blt (c_all rfl) rfl T.z_all b_all (ea_cons false (ev_lc false [("order", 1)] rfl sc_is_column.nd (ev_src (ev_name (i := 0) rfl (.inl rfl))) (blkOk_by rfl) (fun _ _ _ _ _ => (ev_tone sc_is_column.nd (i := 1) rfl (.inl rfl))) (fun _ _ _ _ _ => ets_nil) (fun _ _ _ _ _ => (ev_callD T.d_is_order false hq hr rfl (ea_cons false (ev_name (i := 1) rfl (.inl rfl)) ea_nil) (fan_cons fan_nil))) (by decide)) ea_nil)))))))) (ev_one (ev_ret ev_bl)) ev_nil)
    (ev_one (ev_ret (ev_cmp (o_eq hu) (ev_lenSet rfl rfl T.z_len b_len rfl T.z_set b_set (ev_name (i := 0) rfl (.inl rfl))) (ev_blt c_len rfl T.z_len b_len (ea_cons false (ev_name (i := 0) rfl (.inl rfl)) ea_nil))))))
theorem r_is_schema (T : Ts P w K mg base n Φ) (h : Bool) (f : Addr) (cdv : Value) (A : Around) (outer : List Env) (s : Shared) (H : Hp) (E : XK) (hq : Quiet A) (hr : Room n (A.deeper (PyProof.Rows.envOfC "is_schema" (defScope s_is_schema) s.heap.objs.size f cdv))) :
    EvB (cxOf CX0 P w K mg base ["thing", "column"] "is_schema" (defScope s_is_schema) f cdv A outer s H E).nox (defBody s_is_schema) (g_is_schema h Φ) := by
  have hu := hr.units
  have hu0 := hr.units0
  have hu1 : (A.deeper (PyProof.Rows.envOfC "is_schema" (defScope s_is_schema) s.heap.objs.size f cdv)).units + 65 < cLine := by have := hr.un; omega
  exact (ev_cons (ev_if (EvW.t (ew_or (et_not (et_val (ev_isi (T := "list") (by decide) (ev_name (i := 0) rfl (.inl rfl)) rfl T.z_isinstance rfl T.z_list b_list (by decide) (by decide)))) (ew_or (et_cmp (o_eq hu) (ev_blt c_len rfl T.z_len b_len (ea_cons false (ev_name (i := 0) rfl (.inl rfl)) ea_nil)) ev_int) (ew_or1 (et_cmp o_gt (ev_blt c_len rfl T.z_len b_len (ea_cons false (ev_name (i := 0) rfl (.inl rfl)) ea_nil)) (ev_con T.c_MOST_COLUMNS rfl)))))) (ev_one (ev_ret ev_bl)) ev_nil)
    (ev_one (ev_ret (ev_blt (c_all rfl) rfl T.z_all b_all (ea_cons false (ev_lc false [("column", 1)] rfl sc_is_schema.nd (ev_src (ev_name (i := 0) rfl (.inl rfl))) (blkOk_by rfl) (fun _ _ _ _ _ => (ev_tone sc_is_schema.nd (i := 1) rfl (.inl rfl))) (fun _ _ _ _ _ => ets_nil) (fun _ _ _ _ _ => (ev_callD T.d_is_column false hq hr rfl (ea_cons false (ev_name (i := 1) rfl (.inl rfl)) ea_nil) (fan_cons fan_nil))) (by decide)) ea_nil)))))
theorem r_look_at_schema (T : Ts P w K mg base n Φ) (h : Bool) (f : Addr) (cdv : Value) (A : Around) (outer : List Env) (s : Shared) (H : Hp) (E : XK) (hq : Quiet A) (hr : Room n (A.deeper (PyProof.Rows.envOfC "look_at_schema" (defScope s_look_at_schema) s.heap.objs.size f cdv))) :
    EvB (cxOf CX0 P w K mg base ["schema"] "look_at_schema" (defScope s_look_at_schema) f cdv A outer s H E).nox (defBody s_look_at_schema) (g_look_at_schema h Φ) := by
  have hu := hr.units
  have hu0 := hr.units0
  have hu1 : (A.deeper (PyProof.Rows.envOfC "look_at_schema" (defScope s_look_at_schema) s.heap.objs.size f cdv)).units + 65 < cLine := by have := hr.un; omega
  exact (ev_one (ev_if (et_not (et_val (ev_callD T.d_is_schema false hq hr rfl (ea_cons false (ev_name (i := 0) rfl (.inl rfl)) ea_nil) (fan_cons fan_nil)))) (ev_one ev_no) ev_nil))
theorem r_is_step (T : Ts P w K mg base n Φ) (h : Bool) (f : Addr) (cdv : Value) (A : Around) (outer : List Env) (s : Shared) (H : Hp) (E : XK) (hq : Quiet A) (hr : Room n (A.deeper (PyProof.Rows.envOfC "is_step" (defScope s_is_step) s.heap.objs.size f cdv))) :
    EvB (cxOf CX0 P w K mg base ["schema", "thing"] "is_step" (defScope s_is_step) f cdv A outer s H E).nox (defBody s_is_step) (g_is_step h Φ) := by
  have hu := hr.units
  have hu0 := hr.units0
  have hu1 : (A.deeper (PyProof.Rows.envOfC "is_step" (defScope s_is_step) s.heap.objs.size f cdv)).units + 65 < cLine := by have := hr.un; omega
  exact (ev_cons (ev_if (EvW.t (ew_or (et_not (et_val (ev_isi (T := "tuple") (by decide) (ev_name (i := 1) rfl (.inl rfl)) rfl T.z_isinstance rfl T.z_tuple b_tuple (by decide) (by decide)))) (ew_or (et_cmp (o_ne hu) (ev_blt c_len rfl T.z_len b_len (ea_cons false (ev_name (i := 1) rfl (.inl rfl)) ea_nil)) ev_int) (ew_or1 (et_not (et_val (ev_callD T.d_is_below false hq hr rfl (ea_cons false (ev_ix (ev_name (i := 1) rfl (.inl rfl)) ev_int) (ea_cons false (ev_blt c_len rfl T.z_len b_len (ea_cons false (ev_name (i := 0) rfl (.inl rfl)) ea_nil)) ea_nil)) (fan_cons (fan_cons fan_nil))))))))) (ev_one (ev_ret ev_bl)) ev_nil)
    (ev_one (ev_ret (ev_and (ev_callD T.d_is_order false hq hr rfl (ea_cons false (ev_ix (ev_name (i := 1) rfl (.inl rfl)) ev_int) ea_nil) (fan_cons fan_nil)) (ev_one1 (ev_cmp (o_in hu1) (ev_ix (ev_name (i := 1) rfl (.inl rfl)) ev_int) (ev_ix (ev_name (i := 0) rfl (.inl rfl)) (ev_ix (ev_name (i := 1) rfl (.inl rfl)) ev_int))))))))
theorem r_is_right_flat (T : Ts P w K mg base n Φ) (h : Bool) (f : Addr) (cdv : Value) (A : Around) (outer : List Env) (s : Shared) (H : Hp) (E : XK) (hq : Quiet A) (hr : Room n (A.deeper (PyProof.Rows.envOfC "is_right_flat" (defScope s_is_right_flat) s.heap.objs.size f cdv))) :
    EvB (cxOf CX0 P w K mg base ["schema", "thing", "column", "order", "step"] "is_right_flat" (defScope s_is_right_flat) f cdv A outer s H E).nox (defBody s_is_right_flat) (g_is_right_flat h Φ) := by
  have hu := hr.units
  have hu0 := hr.units0
  have hu1 : (A.deeper (PyProof.Rows.envOfC "is_right_flat" (defScope s_is_right_flat) s.heap.objs.size f cdv)).units + 65 < cLine := by have := hr.un; omega
  exact (ev_cons (ev_if (EvW.t (ew_or (et_not (et_val (ev_isi (T := "list") (by decide) (ev_name (i := 1) rfl (.inl rfl)) rfl T.z_isinstance rfl T.z_list b_list (by decide) (by decide)))) (ew_or1 (et_not (et_val (ev_blt (c_all rfl) rfl T.z_all b_all (ea_cons false (ev_lc false [("step", 4)] rfl sc_is_right_flat.nd (ev_src (ev_name (i := 1) rfl (.inl rfl))) (blkOk_by rfl) (fun _ _ _ _ _ => (ev_tone sc_is_right_flat.nd (i := 4) rfl (.inl rfl))) (fun _ _ _ _ _ => ets_nil) (fun _ _ _ _ _ => (ev_callD T.d_is_step false hq hr rfl (ea_cons false (ev_name (i := 0) rfl (.inr (.inl rfl))) (ea_cons false (ev_name (i := 4) rfl (.inl rfl)) ea_nil)) (fan_cons (fan_cons fan_nil)))) (by decide)) ea_nil))))))) (ev_one (ev_ret ev_bl)) ev_nil)
    (ev_one (ev_ret (ev_cmp (o_eq hu) (ev_lenSc [("column", 2), ("order", 3)] rfl sc_is_right_flat.nd rfl T.z_len b_len (ev_src (ev_name (i := 1) rfl (.inl rfl))) (blkOk_by rfl) (fun _ _ _ _ _ => (ev_ttup rfl (ev_tcons sc_is_right_flat.nd (i := 2) rfl (.inl rfl) (ev_tcons sc_is_right_flat.nd (i := 3) rfl (.inl rfl) ev_tnil)))) (fun _ _ _ _ _ => ets_nil) (fun _ _ _ _ _ => (ev_name (i := 2) rfl (.inl rfl))) (by decide)) (ev_blt c_len rfl T.z_len b_len (ea_cons false (ev_name (i := 1) rfl (.inl rfl)) ea_nil))))))
theorem r_is_branch (T : Ts P w K mg base n Φ) (h : Bool) (f : Addr) (cdv : Value) (A : Around) (outer : List Env) (s : Shared) (H : Hp) (E : XK) (hq : Quiet A) (hr : Room n (A.deeper (PyProof.Rows.envOfC "is_branch" (defScope s_is_branch) s.heap.objs.size f cdv))) :
    EvB (cxOf CX0 P w K mg base ["thing"] "is_branch" (defScope s_is_branch) f cdv A outer s H E).nox (defBody s_is_branch) (g_is_branch h Φ) := by
  have hu := hr.units
  have hu0 := hr.units0
  have hu1 : (A.deeper (PyProof.Rows.envOfC "is_branch" (defScope s_is_branch) s.heap.objs.size f cdv)).units + 65 < cLine := by have := hr.un; omega
  exact (ev_one (ev_ret (ev_and (ev_isi (T := "tuple") (by decide) (ev_name (i := 0) rfl (.inl rfl)) rfl T.z_isinstance rfl T.z_tuple b_tuple (by decide) (by decide)) (ev_and (ev_cmp (o_eq hu) (ev_blt c_len rfl T.z_len b_len (ea_cons false (ev_name (i := 0) rfl (.inl rfl)) ea_nil)) ev_int) (ev_one1 (ev_callD T.d_is_value false hq hr rfl (ea_cons false (ev_ix (ev_name (i := 0) rfl (.inl rfl)) ev_int) ea_nil) (fan_cons fan_nil)))))))
theorem r_is_tree_without (T : Ts P w K mg base n Φ) (h : Bool) (f : Addr) (cdv : Value) (A : Around) (outer : List Env) (s : Shared) (H : Hp) (E : XK) (hq : Quiet A) (hr : Room n (A.deeper (PyProof.Rows.envOfC "is_tree_without" (defScope s_is_tree_without) s.heap.objs.size f cdv))) :
    EvB (cxOf CX0 P w K mg base ["schema", "thing", "used", "below", "tree", "branch"] "is_tree_without" (defScope s_is_tree_without) f cdv A outer s H E).nox (defBody s_is_tree_without) (g_is_tree_without h Φ) := by
  have hu := hr.units
  have hu0 := hr.units0
  have hu1 : (A.deeper (PyProof.Rows.envOfC "is_tree_without" (defScope s_is_tree_without) s.heap.objs.size f cdv)).units + 65 < cLine := by have := hr.un; omega
  exact (ev_cons (ev_if (et_cmp o_isY (ev_name (i := 1) rfl (.inl rfl)) ev_non) (ev_one (ev_ret ev_bl)) ev_nil)
    (ev_cons (ev_if (EvW.t (ew_or (et_not (et_val (ev_isi (T := "tuple") (by decide) (ev_name (i := 1) rfl (.inl rfl)) rfl T.z_isinstance rfl T.z_tuple b_tuple (by decide) (by decide)))) (ew_or (et_cmp (o_ne hu) (ev_blt c_len rfl T.z_len b_len (ea_cons false (ev_name (i := 1) rfl (.inl rfl)) ea_nil)) ev_int) (ew_or (et_not (et_val (ev_callD T.d_is_step false hq hr rfl (ea_cons false (ev_name (i := 0) rfl (.inr (.inl rfl))) (ea_cons false (ev_sl (ev_name (i := 1) rfl (.inl rfl)) eo_non (eo_some ev_int)) ea_nil)) (fan_cons (fan_cons fan_nil))))) (ew_or1 (et_cmp (o_in hu1) (ev_ix (ev_name (i := 1) rfl (.inl rfl)) ev_int) (ev_name (i := 2) rfl (.inl rfl)))))))) (ev_one (ev_ret ev_bl)) ev_nil)
    (ev_cons (ev_if (EvW.t (ew_or (et_not (et_val (ev_isi (T := "list") (by decide) (ev_ix (ev_name (i := 1) rfl (.inl rfl)) ev_int) rfl T.z_isinstance rfl T.z_list b_list (by decide) (by decide)))) (ew_or1 (et_not (et_val (ev_blt (c_all rfl) rfl T.z_all b_all (ea_cons false (ev_lc false [("branch", 5)] rfl sc_is_tree_without.nd (ev_src (ev_ix (ev_name (i := 1) rfl (.inl rfl)) ev_int)) (blkOk_by rfl) (fun _ _ _ _ _ => (ev_tone sc_is_tree_without.nd (i := 5) rfl (.inl rfl))) (fun _ _ _ _ _ => ets_nil) (fun _ _ _ _ _ => (ev_callD T.d_is_branch false hq hr rfl (ea_cons false (ev_name (i := 5) rfl (.inl rfl)) ea_nil) (fan_cons fan_nil))) (by decide)) ea_nil))))))) (ev_one (ev_ret ev_bl)) ev_nil)
    (ev_cons (ev_if (et_cmp o_lt (ev_lenSc [("branch", 5)] rfl sc_is_tree_without.nd rfl T.z_len b_len (ev_src (ev_ix (ev_name (i := 1) rfl (.inl rfl)) ev_int)) (blkOk_by rfl) (fun _ _ _ _ _ => (ev_tone sc_is_tree_without.nd (i := 5) rfl (.inl rfl))) (fun _ _ _ _ _ => ets_nil) (fun _ _ _ _ _ => (ev_ix (ev_name (i := 5) rfl (.inl rfl)) ev_int)) (by decide)) (ev_blt c_len rfl T.z_len b_len (ea_cons false (ev_ix (ev_name (i := 1) rfl (.inl rfl)) ev_int) ea_nil))) (ev_one (ev_ret ev_bl)) ev_nil)
    (ev_cons (ev_asg false (ev_bin o_add (ev_name (i := 2) rfl (.inl rfl)) (ev_lst (ea_cons false (ev_ix (ev_name (i := 1) rfl (.inl rfl)) ev_int) ea_nil))) (ev_tone sc_is_tree_without.nd (i := 3) rfl (.inr rfl)))
    (ev_one (ev_ret (ev_blt (c_all rfl) rfl T.z_all b_all (ea_cons false (ev_lc false [("tree", 4)] rfl sc_is_tree_without.nd (ev_src (ev_bin o_add (ev_lc false [("branch", 5)] rfl sc_is_tree_without.nd (ev_src (ev_ix (ev_name (i := 1) rfl (.inl rfl)) ev_int)) (blkOk_by rfl) (fun _ _ _ _ _ => (ev_tone sc_is_tree_without.nd (i := 5) rfl (.inl rfl))) (fun _ _ _ _ _ => ets_nil) (fun _ _ _ _ _ => (ev_ix (ev_name (i := 5) rfl (.inl rfl)) ev_int)) (by decide)) (ev_lst (ea_cons false (ev_ix (ev_name (i := 1) rfl (.inl rfl)) ev_int) ea_nil)))) (blkOk_by rfl) (fun _ _ _ _ _ => (ev_tone sc_is_tree_without.nd (i := 4) rfl (.inl rfl))) (fun _ _ _ _ _ => ets_nil) (fun _ _ _ _ _ => (ev_callD T.d_is_tree_without false hq hr rfl (ea_cons false (ev_name (i := 0) rfl (.inr (.inl rfl))) (ea_cons false (ev_name (i := 4) rfl (.inl rfl)) (ea_cons false (ev_name (i := 3) rfl (.inr (.inl rfl))) ea_nil))) (fan_cons (fan_cons (fan_cons fan_nil))))) (by decide)) ea_nil)))))))))
theorem r_is_tree (T : Ts P w K mg base n Φ) (h : Bool) (f : Addr) (cdv : Value) (A : Around) (outer : List Env) (s : Shared) (H : Hp) (E : XK) (hq : Quiet A) (hr : Room n (A.deeper (PyProof.Rows.envOfC "is_tree" (defScope s_is_tree) s.heap.objs.size f cdv))) :
    EvB (cxOf CX0 P w K mg base ["schema", "thing"] "is_tree" (defScope s_is_tree) f cdv A outer s H E).nox (defBody s_is_tree) (g_is_tree h Φ) := by
  have hu := hr.units
  have hu0 := hr.units0
  have hu1 : (A.deeper (PyProof.Rows.envOfC "is_tree" (defScope s_is_tree) s.heap.objs.size f cdv)).units + 65 < cLine := by have := hr.un; omega
  exact (ev_cons (ev_drop (ev_callD T.d_look_at_schema false hq hr rfl (ea_cons false (ev_name (i := 0) rfl (.inl rfl)) ea_nil) (fan_cons fan_nil)))
    (ev_one (ev_ret (ev_callD T.d_is_tree_without false hq hr rfl (ea_cons false (ev_name (i := 0) rfl (.inl rfl)) (ea_cons false (ev_name (i := 1) rfl (.inl rfl)) (ea_cons false (ev_lst ea_nil) ea_nil))) (fan_cons (fan_cons (fan_cons fan_nil)))))))
theorem r_look_at_flat (T : Ts P w K mg base n Φ) (h : Bool) (f : Addr) (cdv : Value) (A : Around) (outer : List Env) (s : Shared) (H : Hp) (E : XK) (hq : Quiet A) (hr : Room n (A.deeper (PyProof.Rows.envOfC "look_at_flat" (defScope s_look_at_flat) s.heap.objs.size f cdv))) :
    EvB (cxOf CX0 P w K mg base ["schema", "flat"] "look_at_flat" (defScope s_look_at_flat) f cdv A outer s H E).nox (defBody s_look_at_flat) (g_look_at_flat h Φ) := by
  have hu := hr.units
  have hu0 := hr.units0
  have hu1 : (A.deeper (PyProof.Rows.envOfC "look_at_flat" (defScope s_look_at_flat) s.heap.objs.size f cdv)).units + 65 < cLine := by have := hr.un; omega
  exact (ev_one (ev_if (et_not (et_val (ev_callD T.d_is_right_flat false hq hr rfl (ea_cons false (ev_name (i := 0) rfl (.inl rfl)) (ea_cons false (ev_name (i := 1) rfl (.inl rfl)) ea_nil)) (fan_cons (fan_cons fan_nil))))) (ev_one ev_no) ev_nil))
theorem r_flat_as_tree (T : Ts P w K mg base n Φ) (h : Bool) (f : Addr) (cdv : Value) (A : Around) (outer : List Env) (s : Shared) (H : Hp) (E : XK) (hq : Quiet A) (hr : Room n (A.deeper (PyProof.Rows.envOfC "flat_as_tree" (defScope s_flat_as_tree) s.heap.objs.size f cdv))) :
    EvB (cxOf CX0 P w K mg base ["flat", "found", "column", "order"] "flat_as_tree" (defScope s_flat_as_tree) f cdv A outer s H E).nox (defBody s_flat_as_tree) (g_flat_as_tree h Φ) := by
  have hu := hr.units
  have hu0 := hr.units0
  have hu1 : (A.deeper (PyProof.Rows.envOfC "flat_as_tree" (defScope s_flat_as_tree) s.heap.objs.size f cdv)).units + 65 < cLine := by have := hr.un; omega
  exact (ev_cons (ev_asg false ev_non (ev_tone sc_flat_as_tree.nd (i := 1) rfl (.inl rfl)))
    (ev_cons (ev_for PassesOwn.never rfl (ev_src (ev_rev (ev_name (i := 0) rfl (.inl rfl)))) (ev_ttup rfl (ev_tcons sc_flat_as_tree.nd (i := 2) rfl (.inl rfl) (ev_tcons sc_flat_as_tree.nd (i := 3) rfl (.inl rfl) ev_tnil))) (ev_one (ev_asg false (ev_tup (ea_cons h (ev_name (i := 2) rfl (.inl rfl)) (ea_cons h (ev_name (i := 3) rfl (.inl rfl)) (ea_cons h (ev_lst ea_nil) (ea_cons h (ev_name (i := 1) rfl (.inl rfl)) ea_nil))))) (ev_tone sc_flat_as_tree.nd (i := 1) rfl (.inl rfl)))))
    (ev_one (ev_ret (ev_name (i := 1) rfl (.inl rfl))))))
theorem r_tree_of (T : Ts P w K mg base n Φ) (h : Bool) (f : Addr) (cdv : Value) (A : Around) (outer : List Env) (s : Shared) (H : Hp) (E : XK) (hq : Quiet A) (hr : Room n (A.deeper (PyProof.Rows.envOfC "tree_of" (defScope s_tree_of) s.heap.objs.size f cdv))) :
    EvB (cxOf CX0 P w K mg base ["schema", "flat"] "tree_of" (defScope s_tree_of) f cdv A outer s H E).nox (defBody s_tree_of) (g_tree_of h Φ) := by
  have hu := hr.units
  have hu0 := hr.units0
  have hu1 : (A.deeper (PyProof.Rows.envOfC "tree_of" (defScope s_tree_of) s.heap.objs.size f cdv)).units + 65 < cLine := by have := hr.un; omega
  exact (ev_cons (ev_drop (ev_callD T.d_look_at_schema false hq hr rfl (ea_cons false (ev_name (i := 0) rfl (.inl rfl)) ea_nil) (fan_cons fan_nil)))
    (ev_cons (ev_drop (ev_callD T.d_look_at_flat false hq hr rfl (ea_cons false (ev_name (i := 0) rfl (.inl rfl)) (ea_cons false (ev_name (i := 1) rfl (.inl rfl)) ea_nil)) (fan_cons (fan_cons fan_nil))))
    (ev_one (ev_ret (ev_callD T.d_flat_as_tree h hq hr rfl (ea_cons false (ev_name (i := 1) rfl (.inl rfl)) ea_nil) (fan_cons fan_nil))))))
theorem r_is_value_before (T : Ts P w K mg base n Φ) (h : Bool) (f : Addr) (cdv : Value) (A : Around) (outer : List Env) (s : Shared) (H : Hp) (E : XK) (hq : Quiet A) (hr : Room n (A.deeper (PyProof.Rows.envOfC "is_value_before" (defScope s_is_value_before) s.heap.objs.size f cdv))) :
    EvB (cxOf CX0 P w K mg base ["one", "other"] "is_value_before" (defScope s_is_value_before) f cdv A outer s H E).nox (defBody s_is_value_before) (g_is_value_before h Φ) := by
  have hu := hr.units
  have hu0 := hr.units0
  have hu1 : (A.deeper (PyProof.Rows.envOfC "is_value_before" (defScope s_is_value_before) s.heap.objs.size f cdv)).units + 65 < cLine := by have := hr.un; omega
  exact (ev_one (ev_ret (ev_or (ev_cmp o_isY (ev_name (i := 0) rfl (.inl rfl)) ev_non) (ev_one1 (ev_and (ev_cmp o_isN (ev_name (i := 1) rfl (.inl rfl)) ev_non) (ev_one1 (ev_cmp o_lt (ev_name (i := 0) rfl (.inl rfl)) (ev_name (i := 1) rfl (.inl rfl)))))))))
theorem r_made_plain (T : Ts P w K mg base n Φ) (h : Bool) (f : Addr) (cdv : Value) (A : Around) (outer : List Env) (s : Shared) (H : Hp) (E : XK) (hq : Quiet A) (hr : Room n (A.deeper (PyProof.Rows.envOfC "made_plain" (defScope s_made_plain) s.heap.objs.size f cdv))) :
    EvB (cxOf CX0 P w K mg base ["tree", "other", "branches", "found", "branch", "place", "value", "below"] "made_plain" (defScope s_made_plain) f cdv A outer s H E).nox (defBody s_made_plain) (g_made_plain h Φ) := by
  have hu := hr.units
  have hu0 := hr.units0
  have hu1 : (A.deeper (PyProof.Rows.envOfC "made_plain" (defScope s_made_plain) s.heap.objs.size f cdv)).units + 65 < cLine := by have := hr.un; omega
  exact (ev_cons (ev_if (et_cmp o_isY (ev_name (i := 0) rfl (.inl rfl)) ev_non) (ev_one (ev_ret ev_non)) ev_nil)
    (ev_cons (ev_asg false (ev_callD T.d_made_plain h hq hr rfl (ea_cons false (ev_ix (ev_name (i := 0) rfl (.inl rfl)) ev_int) ea_nil) (fan_cons fan_nil)) (ev_tone sc_made_plain.nd (i := 1) rfl (.inl rfl)))
    (ev_cons (ev_setLc (i := 2) h false [("value", 6), ("below", 7)] rfl sc_made_plain.nd rfl rfl (sw_true rfl rfl rfl (by decide +kernel)) (ev_src (ev_ix (ev_name (i := 0) rfl (.inl rfl)) ev_int)) (blkOk_by rfl) (fun _ _ _ _ _ => (ev_ttup rfl (ev_tcons sc_made_plain.nd (i := 6) rfl (.inl rfl) (ev_tcons sc_made_plain.nd (i := 7) rfl (.inl rfl) ev_tnil)))) (fun _ _ _ _ _ => ets_nil) (fun _ _ _ _ _ => (ev_tup (ea_cons h (ev_name (i := 6) rfl (.inl rfl)) (ea_cons h (ev_callD T.d_made_plain h hq hr rfl (ea_cons false (ev_name (i := 7) rfl (.inl rfl)) ea_nil) (fan_cons fan_nil)) ea_nil)))) (by decide))
    (ev_cons (ev_asg true (ev_lst ea_nil) (ev_tone sc_made_plain.nd (i := 3) rfl (.inl rfl)))
    (ev_cons (ev_for PassesOwn.never rfl (ev_src (ev_name (i := 2) rfl (.inl rfl))) (ev_tone sc_made_plain.nd (i := 4) rfl (.inl rfl)) (ev_one (ev_if (et_cmp (o_ne hu) (ev_ix (ev_name (i := 4) rfl (.inl rfl)) ev_int) (ev_name (i := 1) rfl (.inl rfl))) (ev_cons (ev_asg false (ev_blt c_len rfl T.z_len b_len (ea_cons false (ev_name (i := 3) rfl (.inl rfl)) ea_nil)) (ev_tone sc_made_plain.nd (i := 5) rfl (.inl rfl)))
    (ev_cons (ev_while PassesOwn.never (EvW.t (ew_and (et_cmp o_gt (ev_name (i := 5) rfl (.inl rfl)) ev_int) (ew_and1 (et_val (ev_callD T.d_is_value_before false hq hr rfl (ea_cons false (ev_ix (ev_name (i := 4) rfl (.inl rfl)) ev_int) (ea_cons false (ev_ix (ev_ix (ev_name (i := 3) rfl (.inl rfl)) (ev_bin o_sub (ev_name (i := 5) rfl (.inl rfl)) ev_int)) ev_int) ea_nil)) (fan_cons (fan_cons fan_nil))))))) (ev_one (ev_aug sc_made_plain.nd (i := 5) rfl (.inl rfl) ev_int ip_sub)))
    (ev_one (ev_drop (ev_mth PySem.F.slot_list_insert PySem.F.type_list_insert m_insert (ev_name (i := 3) rfl (.inl rfl)) (ea_cons false (ev_name (i := 5) rfl (.inl rfl)) (ea_cons false (ev_name (i := 4) rfl (.inl rfl)) ea_nil))))))) ev_nil)))
    (ev_one (ev_ret (ev_tup (ea_cons h (ev_ix (ev_name (i := 0) rfl (.inl rfl)) ev_int) (ea_cons h (ev_ix (ev_name (i := 0) rfl (.inl rfl)) ev_int) (ea_cons h (ev_name (i := 3) rfl (.inl rfl)) (ea_cons h (ev_name (i := 1) rfl (.inl rfl)) ea_nil))))))))))))
theorem r_plain (T : Ts P w K mg base n Φ) (h : Bool) (f : Addr) (cdv : Value) (A : Around) (outer : List Env) (s : Shared) (H : Hp) (E : XK) (hq : Quiet A) (hr : Room n (A.deeper (PyProof.Rows.envOfC "plain" (defScope s_plain) s.heap.objs.size f cdv))) :
    EvB (cxOf CX0 P w K mg base ["schema", "tree"] "plain" (defScope s_plain) f cdv A outer s H E).nox (defBody s_plain) (g_plain h Φ) := by
  have hu := hr.units
  have hu0 := hr.units0
  have hu1 : (A.deeper (PyProof.Rows.envOfC "plain" (defScope s_plain) s.heap.objs.size f cdv)).units + 65 < cLine := by have := hr.un; omega
  exact (ev_cons (ev_drop (ev_callD T.d_look_at_schema false hq hr rfl (ea_cons false (ev_name (i := 0) rfl (.inl rfl)) ea_nil) (fan_cons fan_nil)))
    (ev_cons (ev_if (et_not (et_val (ev_callD T.d_is_tree_without false hq hr rfl (ea_cons false (ev_name (i := 0) rfl (.inl rfl)) (ea_cons false (ev_name (i := 1) rfl (.inl rfl)) (ea_cons false (ev_lst ea_nil) ea_nil))) (fan_cons (fan_cons (fan_cons fan_nil)))))) (ev_one ev_no) ev_nil)
    (ev_one (ev_ret (ev_callD T.d_made_plain h hq hr rfl (ea_cons false (ev_name (i := 1) rfl (.inl rfl)) ea_nil) (fan_cons fan_nil))))))
theorem r__law_mixed (T : Ts P w K mg base n Φ) (h : Bool) (f : Addr) (cdv : Value) (A : Around) (outer : List Env) (s : Shared) (H : Hp) (E : XK) (hq : Quiet A) (hr : Room n (A.deeper (PyProof.Rows.envOfC "_law_mixed" (defScope s__law_mixed) s.heap.objs.size f cdv))) :
    EvB (cxOf CX0 P w K mg base ["_law_cell", "_law_k", "_law_number"] "_law_mixed" (defScope s__law_mixed) f cdv A outer s H E).nox (defBody s__law_mixed) (g__law_mixed h Φ) := by
  have hu := hr.units
  have hu0 := hr.units0
  have hu1 : (A.deeper (PyProof.Rows.envOfC "_law_mixed" (defScope s__law_mixed) s.heap.objs.size f cdv)).units + 65 < cLine := by have := hr.un; omega
  exact (ev_cons (ev_asg false (ev_bin o_mod (ev_bty c_int rfl T.z_int b_int (ea_cons false (ev_bin o_add (ev_bin o_add (ev_bin o_mul (ev_bin o_mod (ev_bty c_int rfl T.z_int b_int (ea_cons false (ev_name (i := 0) rfl (.inl rfl)) ea_nil)) ev_int) ev_int) (ev_bin o_mul (ev_name (i := 1) rfl (.inl rfl)) ev_int)) ev_int) ea_nil)) ev_int) (ev_tone sc__law_mixed.nd (i := 2) rfl (.inl rfl)))
    (ev_cons (ev_asg false (ev_bin o_mod (ev_bty c_int rfl T.z_int b_int (ea_cons false (ev_bin o_mul (ev_name (i := 2) rfl (.inl rfl)) (ev_name (i := 2) rfl (.inl rfl))) ea_nil)) ev_int) (ev_tone sc__law_mixed.nd (i := 2) rfl (.inl rfl)))
    (ev_one (ev_ret (ev_bin o_mod (ev_bty c_int rfl T.z_int b_int (ea_cons false (ev_bin o_mul (ev_name (i := 2) rfl (.inl rfl)) (ev_bin o_add (ev_name (i := 2) rfl (.inl rfl)) ev_int)) ea_nil)) ev_int)))))
theorem r__law_pile (T : Ts P w K mg base n Φ) (h : Bool) (f : Addr) (cdv : Value) (A : Around) (outer : List Env) (s : Shared) (H : Hp) (E : XK) (hq : Quiet A) (hr : Room n (A.deeper (PyProof.Rows.envOfC "_law_pile" (defScope s__law_pile) s.heap.objs.size f cdv))) :
    EvB (cxOf CX0 P w K mg base ["_law_script", "_law_k", "_law_cell", "_law_found", "_law_j"] "_law_pile" (defScope s__law_pile) f cdv A outer s H E).nox (defBody s__law_pile) (g__law_pile h Φ) := by
  have hu := hr.units
  have hu0 := hr.units0
  have hu1 : (A.deeper (PyProof.Rows.envOfC "_law_pile" (defScope s__law_pile) s.heap.objs.size f cdv)).units + 65 < cLine := by have := hr.un; omega
  exact (ev_cons (ev_asg false ev_int (ev_tone sc__law_pile.nd (i := 2) rfl (.inl rfl)))
    (ev_cons (ev_if (et_cmp o_lt (ev_name (i := 1) rfl (.inl rfl)) (ev_blt c_len rfl T.z_len b_len (ea_cons false (ev_name (i := 0) rfl (.inl rfl)) ea_nil))) (ev_one (ev_asg false (ev_ix (ev_name (i := 0) rfl (.inl rfl)) (ev_name (i := 1) rfl (.inl rfl))) (ev_tone sc__law_pile.nd (i := 2) rfl (.inl rfl)))) ev_nil)
    (ev_cons (ev_if (et_cmp (o_ge hu0) (ev_name (i := 2) rfl (.inl rfl)) (ev_bin o_pow ev_int ev_int)) (ev_one (ev_ret (ev_lst (ea_cons false (ev_bin o_mod (ev_bty c_int rfl T.z_int b_int (ea_cons false (ev_bin o_sub (ev_name (i := 2) rfl (.inl rfl)) (ev_bin o_pow ev_int ev_int)) ea_nil)) (ev_bin o_mul (ev_bin o_mul (ev_bin o_mul (ev_bin o_pow ev_int ev_int) (ev_bin o_pow ev_int ev_int)) (ev_bin o_pow ev_int ev_int)) (ev_bin o_pow ev_int ev_int))) ea_nil)))) ev_nil)
    (ev_cons (ev_asg false ev_int (ev_tone sc__law_pile.nd (i := 3) rfl (.inl rfl)))
    (ev_cons (ev_for PassesOwn.never rfl (ev_rng1 rfl T.z_range (ea_cons false ev_int ea_nil)) (ev_tone sc__law_pile.nd (i := 4) rfl (.inl rfl)) (ev_one (ev_asg false (ev_bin o_add (ev_bin o_mul (ev_name (i := 3) rfl (.inl rfl)) ev_int) (ev_callD T.d__law_mixed false hq hr rfl (ea_cons false (ev_name (i := 2) rfl (.inl rfl)) (ea_cons false (ev_bin o_add (ev_bin o_add (ev_bin o_mul ev_int (ev_name (i := 1) rfl (.inl rfl))) (ev_bin o_mul ev_int (ev_name (i := 4) rfl (.inl rfl)))) (ev_bin o_mul (ev_name (i := 4) rfl (.inl rfl)) (ev_name (i := 4) rfl (.inl rfl)))) ea_nil)) (fan_cons (fan_cons fan_nil)))) (ev_tone sc__law_pile.nd (i := 3) rfl (.inl rfl)))))
    (ev_one (ev_ret (ev_lst (ea_cons false (ev_name (i := 3) rfl (.inl rfl)) ea_nil)))))))))
theorem r__law_take (T : Ts P w K mg base n Φ) (h : Bool) (f : Addr) (cdv : Value) (A : Around) (outer : List Env) (s : Shared) (H : Hp) (E : XK) (hq : Quiet A) (hr : Room n (A.deeper (PyProof.Rows.envOfC "_law_take" (defScope s__law_take) s.heap.objs.size f cdv))) :
    EvB (cxOf CX0 P w K mg base ["_law_pile_here", "_law_size", "_law_digit"] "_law_take" (defScope s__law_take) f cdv A outer s H E).nox (defBody s__law_take) (g__law_take h Φ) := by
  have hu := hr.units
  have hu0 := hr.units0
  have hu1 : (A.deeper (PyProof.Rows.envOfC "_law_take" (defScope s__law_take) s.heap.objs.size f cdv)).units + 65 < cLine := by have := hr.un; omega
  exact (ev_cons (ev_asg false (ev_bin o_mod (ev_bty c_int rfl T.z_int b_int (ea_cons false (ev_ix (ev_name (i := 0) rfl (.inl rfl)) ev_int) ea_nil)) (ev_name (i := 1) rfl (.inl rfl))) (ev_tone sc__law_take.nd (i := 2) rfl (.inl rfl)))
    (ev_cons (ev_store false (ev_bin o_fdiv (ev_ix (ev_name (i := 0) rfl (.inl rfl)) ev_int) (ev_name (i := 1) rfl (.inl rfl))) (ev_name (i := 0) rfl (.inl rfl)) ev_int)
    (ev_one (ev_ret (ev_name (i := 2) rfl (.inl rfl))))))
theorem r__law_schema (T : Ts P w K mg base n Φ) (h : Bool) (f : Addr) (cdv : Value) (A : Around) (outer : List Env) (s : Shared) (H : Hp) (E : XK) (hq : Quiet A) (hr : Room n (A.deeper (PyProof.Rows.envOfC "_law_schema" (defScope s__law_schema) s.heap.objs.size f cdv))) :
    EvB (cxOf CX0 P w K mg base ["_law_pile_here", "_law_orders", "_law_schema_here", "_law_k", "_law_some", "_law_order"] "_law_schema" (defScope s__law_schema) f cdv A outer s H E).nox (defBody s__law_schema) (g__law_schema h Φ) := by
  have hu := hr.units
  have hu0 := hr.units0
  have hu1 : (A.deeper (PyProof.Rows.envOfC "_law_schema" (defScope s__law_schema) s.heap.objs.size f cdv)).units + 65 < cLine := by have := hr.un; omega
  exact (ev_cons (ev_asg false (ev_lst (ea_cons false ev_str (ea_cons false ev_str (ea_cons false ev_str (ea_cons false ev_str ea_nil))))) (ev_tone sc__law_schema.nd (i := 1) rfl (.inl rfl)))
    (ev_cons (ev_asg true (ev_lst ea_nil) (ev_tone sc__law_schema.nd (i := 2) rfl (.inl rfl)))
    (ev_cons (ev_for PassesOwn.never rfl (ev_rng1 rfl T.z_range (ea_cons false (ev_ix (ev_lst (ea_cons false ev_int (ea_cons false ev_int (ea_cons false ev_int (ea_cons false ev_int (ea_cons false ev_int (ea_cons false ev_int (ea_cons false ev_int (ea_cons false ev_int ea_nil))))))))) (ev_callD T.d__law_take false hq hr rfl (ea_cons false (ev_name (i := 0) rfl (.inl rfl)) (ea_cons false ev_int ea_nil)) (fan_cons (fan_cons fan_nil)))) ea_nil)) (ev_tone sc__law_schema.nd (i := 3) rfl (.inl rfl)) (ev_cons (ev_asg true (ev_lst ea_nil) (ev_tone sc__law_schema.nd (i := 4) rfl (.inl rfl)))
    (ev_cons (ev_for PassesOwn.never rfl (ev_src (ev_name (i := 1) rfl (.inl rfl))) (ev_tone sc__law_schema.nd (i := 5) rfl (.inl rfl)) (ev_one (ev_if (et_cmp (o_eq hu) (ev_callD T.d__law_take false hq hr rfl (ea_cons false (ev_name (i := 0) rfl (.inl rfl)) (ea_cons false ev_int ea_nil)) (fan_cons (fan_cons fan_nil))) ev_int) (ev_one (ev_drop (ev_mth PySem.F.slot_list_insert PySem.F.type_list_insert m_insert (ev_name (i := 4) rfl (.inl rfl)) (ea_cons false (ev_callD T.d__law_take false hq hr rfl (ea_cons false (ev_name (i := 0) rfl (.inl rfl)) (ea_cons false (ev_bin o_add (ev_blt c_len rfl T.z_len b_len (ea_cons false (ev_name (i := 4) rfl (.inl rfl)) ea_nil)) ev_int) ea_nil)) (fan_cons (fan_cons fan_nil))) (ea_cons false (ev_name (i := 5) rfl (.inl rfl)) ea_nil))))) ev_nil)))
    (ev_cons (ev_if (et_cmp (o_eq hu) (ev_name (i := 4) rfl (.inl rfl)) (ev_lst ea_nil)) (ev_one (ev_asg true (ev_lst (ea_cons false (ev_ix (ev_name (i := 1) rfl (.inl rfl)) (ev_callD T.d__law_take false hq hr rfl (ea_cons false (ev_name (i := 0) rfl (.inl rfl)) (ea_cons false ev_int ea_nil)) (fan_cons (fan_cons fan_nil)))) ea_nil)) (ev_tone sc__law_schema.nd (i := 4) rfl (.inl rfl)))) ev_nil)
    (ev_one (ev_drop (ev_mth PySem.F.slot_list_append PySem.F.type_list_append m_append (ev_name (i := 2) rfl (.inl rfl)) (ea_cons false (ev_bty c_tuple rfl T.z_tuple b_tuple (ea_cons false (ev_name (i := 4) rfl (.inl rfl)) ea_nil)) ea_nil))))))))
    (ev_one (ev_ret (ev_name (i := 2) rfl (.inl rfl)))))))
theorem r__law_value (T : Ts P w K mg base n Φ) (h : Bool) (f : Addr) (cdv : Value) (A : Around) (outer : List Env) (s : Shared) (H : Hp) (E : XK) (hq : Quiet A) (hr : Room n (A.deeper (PyProof.Rows.envOfC "_law_value" (defScope s__law_value) s.heap.objs.size f cdv))) :
    EvB (cxOf CX0 P w K mg base ["_law_pile_here", "_law_wide", "_law_some"] "_law_value" (defScope s__law_value) f cdv A outer s H E).nox (defBody s__law_value) (g__law_value h Φ) := by
  have hu := hr.units
  have hu0 := hr.units0
  have hu1 : (A.deeper (PyProof.Rows.envOfC "_law_value" (defScope s__law_value) s.heap.objs.size f cdv)).units + 65 < cLine := by have := hr.un; omega
  exact (ev_cons (ev_if (et_cmp (o_eq hu) (ev_name (i := 1) rfl (.inl rfl)) ev_int) (ev_one (ev_ret (ev_ix (ev_lst (ea_cons false ev_non (ea_cons false ev_int (ea_cons false ev_int (ea_cons false ev_int (ea_cons false ev_int ea_nil)))))) (ev_callD T.d__law_take false hq hr rfl (ea_cons false (ev_name (i := 0) rfl (.inl rfl)) (ea_cons false ev_int ea_nil)) (fan_cons (fan_cons fan_nil)))))) ev_nil)
    (ev_cons (ev_asg false (ev_lst (ea_cons false ev_non (ea_cons false ev_int (ea_cons false ev_int (ea_cons false ev_int (ea_cons false ev_int (ea_cons false (ev_neg ev_int) (ea_cons false (ev_neg ev_int) (ea_cons false ev_int (ea_cons false ev_int (ea_cons false ev_int (ea_cons false ev_int (ea_cons false (ev_bin o_pow ev_int ev_int) (ea_cons false (ev_bin o_sub (ev_bin o_pow ev_int ev_int) ev_int) (ea_cons false (ev_bin o_sub ev_int (ev_bin o_pow ev_int ev_int)) (ea_cons false ev_int (ea_cons false (ev_neg ev_int) ea_nil))))))))))))))))) (ev_tone sc__law_value.nd (i := 2) rfl (.inl rfl)))
    (ev_one (ev_ret (ev_ix (ev_name (i := 2) rfl (.inl rfl)) (ev_callD T.d__law_take false hq hr rfl (ea_cons false (ev_name (i := 0) rfl (.inl rfl)) (ea_cons false ev_int ea_nil)) (fan_cons (fan_cons fan_nil))))))))
theorem r__law_row (T : Ts P w K mg base n Φ) (h : Bool) (f : Addr) (cdv : Value) (A : Around) (outer : List Env) (s : Shared) (H : Hp) (E : XK) (hq : Quiet A) (hr : Room n (A.deeper (PyProof.Rows.envOfC "_law_row" (defScope s__law_row) s.heap.objs.size f cdv))) :
    EvB (cxOf CX0 P w K mg base ["_law_pile_here", "_law_schema_here", "_law_wide", "_law_column"] "_law_row" (defScope s__law_row) f cdv A outer s H E).nox (defBody s__law_row) (g__law_row h Φ) := by
  have hu := hr.units
  have hu0 := hr.units0
  have hu1 : (A.deeper (PyProof.Rows.envOfC "_law_row" (defScope s__law_row) s.heap.objs.size f cdv)).units + 65 < cLine := by have := hr.un; omega
  exact (ev_one (ev_ret (ev_bty c_tuple rfl T.z_tuple b_tuple (ea_cons false (ev_lc false [("_law_column", 3)] rfl sc__law_row.nd (ev_src (ev_name (i := 1) rfl (.inl rfl))) (blkOk_by rfl) (fun _ _ _ _ _ => (ev_tone sc__law_row.nd (i := 3) rfl (.inl rfl))) (fun _ _ _ _ _ => ets_nil) (fun _ _ _ _ _ => (ev_callD T.d__law_value false hq hr rfl (ea_cons false (ev_name (i := 0) rfl (.inr (.inl rfl))) (ea_cons false (ev_name (i := 2) rfl (.inr (.inl rfl))) ea_nil)) (fan_cons (fan_cons fan_nil)))) (by decide)) ea_nil))))
theorem r__law_order_of (T : Ts P w K mg base n Φ) (h : Bool) (f : Addr) (cdv : Value) (A : Around) (outer : List Env) (s : Shared) (H : Hp) (E : XK) (hq : Quiet A) (hr : Room n (A.deeper (PyProof.Rows.envOfC "_law_order_of" (defScope s__law_order_of) s.heap.objs.size f cdv))) :
    EvB (cxOf CX0 P w K mg base ["_law_pile_here", "_law_many", "_law_order", "_law_k"] "_law_order_of" (defScope s__law_order_of) f cdv A outer s H E).nox (defBody s__law_order_of) (g__law_order_of h Φ) := by
  have hu := hr.units
  have hu0 := hr.units0
  have hu1 : (A.deeper (PyProof.Rows.envOfC "_law_order_of" (defScope s__law_order_of) s.heap.objs.size f cdv)).units + 65 < cLine := by have := hr.un; omega
  exact (ev_cons (ev_asg true (ev_lst ea_nil) (ev_tone sc__law_order_of.nd (i := 2) rfl (.inl rfl)))
    (ev_cons (ev_for PassesOwn.never rfl (ev_rng1 rfl T.z_range (ea_cons false (ev_name (i := 1) rfl (.inl rfl)) ea_nil)) (ev_tone sc__law_order_of.nd (i := 3) rfl (.inl rfl)) (ev_one (ev_drop (ev_mth PySem.F.slot_list_insert PySem.F.type_list_insert m_insert (ev_name (i := 2) rfl (.inl rfl)) (ea_cons false (ev_callD T.d__law_take false hq hr rfl (ea_cons false (ev_name (i := 0) rfl (.inl rfl)) (ea_cons false (ev_bin o_add (ev_name (i := 3) rfl (.inl rfl)) ev_int) ea_nil)) (fan_cons (fan_cons fan_nil))) (ea_cons false (ev_name (i := 3) rfl (.inl rfl)) ea_nil))))))
    (ev_one (ev_ret (ev_name (i := 2) rfl (.inl rfl))))))
theorem r__law_flat (T : Ts P w K mg base n Φ) (h : Bool) (f : Addr) (cdv : Value) (A : Around) (outer : List Env) (s : Shared) (H : Hp) (E : XK) (hq : Quiet A) (hr : Room n (A.deeper (PyProof.Rows.envOfC "_law_flat" (defScope s__law_flat) s.heap.objs.size f cdv))) :
    EvB (cxOf CX0 P w K mg base ["_law_pile_here", "_law_schema_here", "_law_columns", "_law_column"] "_law_flat" (defScope s__law_flat) f cdv A outer s H E).nox (defBody s__law_flat) (g__law_flat h Φ) := by
  have hu := hr.units
  have hu0 := hr.units0
  have hu1 : (A.deeper (PyProof.Rows.envOfC "_law_flat" (defScope s__law_flat) s.heap.objs.size f cdv)).units + 65 < cLine := by have := hr.un; omega
  exact (ev_cons (ev_asg false (ev_sl (ev_callD T.d__law_order_of false hq hr rfl (ea_cons false (ev_name (i := 0) rfl (.inr (.inl rfl))) (ea_cons false (ev_blt c_len rfl T.z_len b_len (ea_cons false (ev_name (i := 1) rfl (.inr (.inl rfl))) ea_nil)) ea_nil)) (fan_cons (fan_cons fan_nil))) eo_non (eo_some (ev_callD T.d__law_take false hq hr rfl (ea_cons false (ev_name (i := 0) rfl (.inr (.inl rfl))) (ea_cons false (ev_bin o_add (ev_blt c_len rfl T.z_len b_len (ea_cons false (ev_name (i := 1) rfl (.inr (.inl rfl))) ea_nil)) ev_int) ea_nil)) (fan_cons (fan_cons fan_nil))))) (ev_tone sc__law_flat.nd (i := 2) rfl (.inl rfl)))
    (ev_one (ev_ret (ev_lc false [("_law_column", 3)] rfl sc__law_flat.nd (ev_src (ev_name (i := 2) rfl (.inl rfl))) (blkOk_by rfl) (fun _ _ _ _ _ => (ev_tone sc__law_flat.nd (i := 3) rfl (.inl rfl))) (fun _ _ _ _ _ => ets_nil) (fun _ _ _ _ _ => (ev_tup (ea_cons false (ev_name (i := 3) rfl (.inl rfl)) (ea_cons false (ev_ix (ev_ix (ev_name (i := 1) rfl (.inr (.inl rfl))) (ev_name (i := 3) rfl (.inl rfl))) (ev_callD T.d__law_take false hq hr rfl (ea_cons false (ev_name (i := 0) rfl (.inr (.inl rfl))) (ea_cons false (ev_blt c_len rfl T.z_len b_len (ea_cons false (ev_ix (ev_name (i := 1) rfl (.inr (.inl rfl))) (ev_name (i := 3) rfl (.inl rfl))) ea_nil)) ea_nil)) (fan_cons (fan_cons fan_nil)))) ea_nil)))) (by decide)))))
theorem r__law_tree (T : Ts P w K mg base n Φ) (h : Bool) (f : Addr) (cdv : Value) (A : Around) (outer : List Env) (s : Shared) (H : Hp) (E : XK) (hq : Quiet A) (hr : Room n (A.deeper (PyProof.Rows.envOfC "_law_tree" (defScope s__law_tree) s.heap.objs.size f cdv))) :
    EvB (cxOf CX0 P w K mg base ["_law_pile_here", "_law_schema_here", "_law_used", "_law_depth", "_law_left", "_law_column", "_law_order", "_law_values", "_law_k", "_law_value_here", "_law_below", "_law_branches"] "_law_tree" (defScope s__law_tree) f cdv A outer s H E).nox (defBody s__law_tree) (g__law_tree h Φ) := by
  have hu := hr.units
  have hu0 := hr.units0
  have hu1 : (A.deeper (PyProof.Rows.envOfC "_law_tree" (defScope s__law_tree) s.heap.objs.size f cdv)).units + 65 < cLine := by have := hr.un; omega
  exact (ev_cons (ev_setLc (i := 4) false false [("_law_column", 5)] rfl sc__law_tree.nd rfl rfl (sw_true rfl rfl rfl (by decide +kernel)) (ev_rng1 rfl T.z_range (ea_cons false (ev_blt c_len rfl T.z_len b_len (ea_cons false (ev_name (i := 1) rfl (.inr (.inl rfl))) ea_nil)) ea_nil)) (blkOk_by rfl) (fun _ _ _ _ _ => (ev_tone sc__law_tree.nd (i := 5) rfl (.inl rfl))) (fun _ _ _ _ _ => (ets_one (et_cmp (o_nin hu1) (ev_name (i := 5) rfl (.inl rfl)) (ev_name (i := 2) rfl (.inr (.inl rfl)))))) (fun _ _ _ _ _ => (ev_name (i := 5) rfl (.inl rfl))) (by decide))
    (ev_cons (ev_if (EvW.t (ew_or (et_cmp (o_eq hu) (ev_name (i := 4) rfl (.inl rfl)) (ev_lst ea_nil)) (ew_or (et_cmp (o_eq hu) (ev_name (i := 3) rfl (.inr (.inl rfl))) ev_int) (ew_or1 (et_cmp (o_eq hu) (ev_callD T.d__law_take false hq hr rfl (ea_cons false (ev_name (i := 0) rfl (.inr (.inl rfl))) (ea_cons false ev_int ea_nil)) (fan_cons (fan_cons fan_nil))) ev_int))))) (ev_one (ev_ret ev_non)) ev_nil)
    (ev_cons (ev_asg false (ev_ix (ev_name (i := 4) rfl (.inl rfl)) (ev_callD T.d__law_take false hq hr rfl (ea_cons false (ev_name (i := 0) rfl (.inr (.inl rfl))) (ea_cons false (ev_blt c_len rfl T.z_len b_len (ea_cons false (ev_name (i := 4) rfl (.inl rfl)) ea_nil)) ea_nil)) (fan_cons (fan_cons fan_nil)))) (ev_tone sc__law_tree.nd (i := 5) rfl (.inl rfl)))
    (ev_cons (ev_asg false (ev_ix (ev_ix (ev_name (i := 1) rfl (.inr (.inl rfl))) (ev_name (i := 5) rfl (.inl rfl))) (ev_callD T.d__law_take false hq hr rfl (ea_cons false (ev_name (i := 0) rfl (.inr (.inl rfl))) (ea_cons false (ev_blt c_len rfl T.z_len b_len (ea_cons false (ev_ix (ev_name (i := 1) rfl (.inr (.inl rfl))) (ev_name (i := 5) rfl (.inl rfl))) ea_nil)) ea_nil)) (fan_cons (fan_cons fan_nil)))) (ev_tone sc__law_tree.nd (i := 6) rfl (.inl rfl)))
    (ev_cons (ev_asg true (ev_lst ea_nil) (ev_tone sc__law_tree.nd (i := 7) rfl (.inl rfl)))
    (ev_cons (ev_for PassesOwn.never rfl (ev_rng1 rfl T.z_range (ea_cons false (ev_callD T.d__law_take false hq hr rfl (ea_cons false (ev_name (i := 0) rfl (.inr (.inl rfl))) (ea_cons false ev_int ea_nil)) (fan_cons (fan_cons fan_nil))) ea_nil)) (ev_tone sc__law_tree.nd (i := 8) rfl (.inl rfl)) (ev_cons (ev_asg false (ev_ix (ev_lst (ea_cons false ev_non (ea_cons false ev_int (ea_cons false ev_int (ea_cons false ev_int (ea_cons false ev_int (ea_cons false (ev_neg ev_int) (ea_cons false ev_int (ea_cons false ev_int (ea_cons false (ev_neg ev_int) (ea_cons false (ev_bin o_pow ev_int ev_int) (ea_cons false (ev_bin o_sub ev_int (ev_bin o_pow ev_int ev_int)) ea_nil)))))))))))) (ev_callD T.d__law_take false hq hr rfl (ea_cons false (ev_name (i := 0) rfl (.inr (.inl rfl))) (ea_cons false ev_int ea_nil)) (fan_cons (fan_cons fan_nil)))) (ev_tone sc__law_tree.nd (i := 9) rfl (.inl rfl)))
    (ev_one (ev_if (et_cmp (o_nin hu1) (ev_name (i := 9) rfl (.inl rfl)) (ev_name (i := 7) rfl (.inl rfl))) (ev_one (ev_drop (ev_mth PySem.F.slot_list_append PySem.F.type_list_append m_append (ev_name (i := 7) rfl (.inl rfl)) (ea_cons false (ev_name (i := 9) rfl (.inl rfl)) ea_nil)))) ev_nil))))
    (ev_cons (ev_asg false (ev_bin o_add (ev_name (i := 2) rfl (.inr (.inl rfl))) (ev_lst (ea_cons false (ev_name (i := 5) rfl (.inl rfl)) ea_nil))) (ev_tone sc__law_tree.nd (i := 10) rfl (.inr rfl)))
    (ev_cons (ev_setLc (i := 11) false false [("_law_value_here", 9)] rfl sc__law_tree.nd rfl rfl (sw_true rfl rfl rfl (by decide +kernel)) (ev_src (ev_name (i := 7) rfl (.inl rfl))) (blkOk_by rfl) (fun _ _ _ _ _ => (ev_tone sc__law_tree.nd (i := 9) rfl (.inl rfl))) (fun _ _ _ _ _ => ets_nil) (fun _ _ _ _ _ => (ev_tup (ea_cons false (ev_name (i := 9) rfl (.inl rfl)) (ea_cons false (ev_callD T.d__law_tree false hq hr rfl (ea_cons false (ev_name (i := 0) rfl (.inr (.inl rfl))) (ea_cons false (ev_name (i := 1) rfl (.inr (.inl rfl))) (ea_cons false (ev_name (i := 10) rfl (.inr (.inl rfl))) (ea_cons false (ev_bin o_sub (ev_name (i := 3) rfl (.inr (.inl rfl))) ev_int) ea_nil)))) (fan_cons (fan_cons (fan_cons (fan_cons fan_nil))))) ea_nil)))) (by decide))
    (ev_one (ev_ret (ev_tup (ea_cons false (ev_name (i := 5) rfl (.inl rfl)) (ea_cons false (ev_name (i := 6) rfl (.inl rfl)) (ea_cons false (ev_name (i := 11) rfl (.inl rfl)) (ea_cons false (ev_callD T.d__law_tree false hq hr rfl (ea_cons false (ev_name (i := 0) rfl (.inr (.inl rfl))) (ea_cons false (ev_name (i := 1) rfl (.inr (.inl rfl))) (ea_cons false (ev_name (i := 10) rfl (.inr (.inl rfl))) (ea_cons false (ev_bin o_sub (ev_name (i := 3) rfl (.inr (.inl rfl))) ev_int) ea_nil)))) (fan_cons (fan_cons (fan_cons (fan_cons fan_nil))))) ea_nil)))))))))))))))
theorem r__law_puts (T : Ts P w K mg base n Φ) (h : Bool) (f : Addr) (cdv : Value) (A : Around) (outer : List Env) (s : Shared) (H : Hp) (E : XK) (hq : Quiet A) (hr : Room n (A.deeper (PyProof.Rows.envOfC "_law_puts" (defScope s__law_puts) s.heap.objs.size f cdv))) :
    EvB (cxOf CX0 P w K mg base ["_law_order", "_law_one", "_law_other"] "_law_puts" (defScope s__law_puts) f cdv A outer s H E).nox (defBody s__law_puts) (g__law_puts h Φ) := by
  have hu := hr.units
  have hu0 := hr.units0
  have hu1 : (A.deeper (PyProof.Rows.envOfC "_law_puts" (defScope s__law_puts) s.heap.objs.size f cdv)).units + 65 < cLine := by have := hr.un; omega
  exact (ev_cons (ev_if (EvW.t (ew_or (et_cmp o_isY (ev_name (i := 1) rfl (.inl rfl)) ev_non) (ew_or1 (et_cmp o_isY (ev_name (i := 2) rfl (.inl rfl)) ev_non)))) (ev_one (ev_ret (ev_cmp (o_eq hu) (ev_cmp o_isY (ev_name (i := 1) rfl (.inl rfl)) ev_non) (ev_cmp (o_in hu1) (ev_name (i := 0) rfl (.inl rfl)) (ev_lst (ea_cons false ev_str (ea_cons false ev_str ea_nil))))))) ev_nil)
    (ev_one (ev_ret (ev_cmp (o_eq hu) (ev_cmp o_lt (ev_name (i := 1) rfl (.inl rfl)) (ev_name (i := 2) rfl (.inl rfl))) (ev_cmp (o_in hu1) (ev_name (i := 0) rfl (.inl rfl)) (ev_lst (ea_cons false ev_str (ea_cons false ev_str ea_nil))))))))
theorem r__law_compare (T : Ts P w K mg base n Φ) (h : Bool) (f : Addr) (cdv : Value) (A : Around) (outer : List Env) (s : Shared) (H : Hp) (E : XK) (hq : Quiet A) (hr : Room n (A.deeper (PyProof.Rows.envOfC "_law_compare" (defScope s__law_compare) s.heap.objs.size f cdv))) :
    EvB (cxOf CX0 P w K mg base ["_law_rule", "_law_x", "_law_y", "_law_column", "_law_order", "_law_branches", "_law_other", "_law_value_here", "_law_tree_here"] "_law_compare" (defScope s__law_compare) f cdv A outer s H E).nox (defBody s__law_compare) (g__law_compare h Φ) := by
  have hu := hr.units
  have hu0 := hr.units0
  have hu1 : (A.deeper (PyProof.Rows.envOfC "_law_compare" (defScope s__law_compare) s.heap.objs.size f cdv)).units + 65 < cLine := by have := hr.un; omega
  exact (ev_cons (ev_if (et_val (ev_isi (T := "list") (by decide) (ev_name (i := 0) rfl (.inl rfl)) rfl T.z_isinstance rfl T.z_list b_list (by decide) (by decide))) (ev_cons (ev_for PassesOwn.never rfl (ev_src (ev_name (i := 0) rfl (.inl rfl))) (ev_ttup rfl (ev_tcons sc__law_compare.nd (i := 3) rfl (.inl rfl) (ev_tcons sc__law_compare.nd (i := 4) rfl (.inl rfl) ev_tnil))) (ev_one (ev_if (et_cmp (o_ne hu) (ev_ix (ev_name (i := 1) rfl (.inl rfl)) (ev_name (i := 3) rfl (.inl rfl))) (ev_ix (ev_name (i := 2) rfl (.inl rfl)) (ev_name (i := 3) rfl (.inl rfl)))) (ev_one (ev_ret (ev_ix (ev_lst (ea_cons false ev_int (ea_cons false (ev_neg ev_int) ea_nil))) (ev_bty c_int rfl T.z_int b_int (ea_cons false (ev_callD T.d__law_puts false hq hr rfl (ea_cons false (ev_name (i := 4) rfl (.inl rfl)) (ea_cons false (ev_ix (ev_name (i := 1) rfl (.inl rfl)) (ev_name (i := 3) rfl (.inl rfl))) (ea_cons false (ev_ix (ev_name (i := 2) rfl (.inl rfl)) (ev_name (i := 3) rfl (.inl rfl))) ea_nil))) (fan_cons (fan_cons (fan_cons fan_nil)))) ea_nil))))) ev_nil)))
    (ev_one (ev_ret ev_int))) ev_nil)
    (ev_cons (ev_if (et_cmp o_isY (ev_name (i := 0) rfl (.inl rfl)) ev_non) (ev_one (ev_ret ev_int)) ev_nil)
    (ev_cons (ev_asg false (ev_name (i := 0) rfl (.inl rfl)) (ev_ttup rfl (ev_tcons sc__law_compare.nd (i := 3) rfl (.inl rfl) (ev_tcons sc__law_compare.nd (i := 4) rfl (.inl rfl) (ev_tcons sc__law_compare.nd (i := 5) rfl (.inl rfl) (ev_tcons sc__law_compare.nd (i := 6) rfl (.inl rfl) ev_tnil))))))
    (ev_cons (ev_if (et_cmp (o_ne hu) (ev_ix (ev_name (i := 1) rfl (.inl rfl)) (ev_name (i := 3) rfl (.inl rfl))) (ev_ix (ev_name (i := 2) rfl (.inl rfl)) (ev_name (i := 3) rfl (.inl rfl)))) (ev_one (ev_ret (ev_ix (ev_lst (ea_cons false ev_int (ea_cons false (ev_neg ev_int) ea_nil))) (ev_bty c_int rfl T.z_int b_int (ea_cons false (ev_callD T.d__law_puts false hq hr rfl (ea_cons false (ev_name (i := 4) rfl (.inl rfl)) (ea_cons false (ev_ix (ev_name (i := 1) rfl (.inl rfl)) (ev_name (i := 3) rfl (.inl rfl))) (ea_cons false (ev_ix (ev_name (i := 2) rfl (.inl rfl)) (ev_name (i := 3) rfl (.inl rfl))) ea_nil))) (fan_cons (fan_cons (fan_cons fan_nil)))) ea_nil))))) ev_nil)
    (ev_cons (ev_for PassesOwn.never rfl (ev_src (ev_name (i := 5) rfl (.inl rfl))) (ev_ttup rfl (ev_tcons sc__law_compare.nd (i := 7) rfl (.inl rfl) (ev_tcons sc__law_compare.nd (i := 8) rfl (.inl rfl) ev_tnil))) (ev_one (ev_if (et_cmp (o_eq hu) (ev_name (i := 7) rfl (.inl rfl)) (ev_ix (ev_name (i := 1) rfl (.inl rfl)) (ev_name (i := 3) rfl (.inl rfl)))) (ev_one (ev_ret (ev_callD T.d__law_compare false hq hr rfl (ea_cons false (ev_name (i := 8) rfl (.inl rfl)) (ea_cons false (ev_name (i := 1) rfl (.inl rfl)) (ea_cons false (ev_name (i := 2) rfl (.inl rfl)) ea_nil))) (fan_cons (fan_cons (fan_cons fan_nil)))))) ev_nil)))
    (ev_one (ev_ret (ev_callD T.d__law_compare false hq hr rfl (ea_cons false (ev_name (i := 6) rfl (.inl rfl)) (ea_cons false (ev_name (i := 1) rfl (.inl rfl)) (ea_cons false (ev_name (i := 2) rfl (.inl rfl)) ea_nil))) (fan_cons (fan_cons (fan_cons fan_nil)))))))))))
theorem r__law_near (T : Ts P w K mg base n Φ) (h : Bool) (f : Addr) (cdv : Value) (A : Around) (outer : List Env) (s : Shared) (H : Hp) (E : XK) (hq : Quiet A) (hr : Room n (A.deeper (PyProof.Rows.envOfC "_law_near" (defScope s__law_near) s.heap.objs.size f cdv))) :
    EvB (cxOf CX0 P w K mg base ["_law_pile_here", "_law_row_here", "_law_wide", "_law_found", "_law_k"] "_law_near" (defScope s__law_near) f cdv A outer s H E).nox (defBody s__law_near) (g__law_near h Φ) := by
  have hu := hr.units
  have hu0 := hr.units0
  have hu1 : (A.deeper (PyProof.Rows.envOfC "_law_near" (defScope s__law_near) s.heap.objs.size f cdv)).units + 65 < cLine := by have := hr.un; omega
  exact (ev_cons (ev_asg true (ev_bty c_list rfl T.z_list b_list (ea_cons false (ev_name (i := 1) rfl (.inl rfl)) ea_nil)) (ev_tone sc__law_near.nd (i := 3) rfl (.inl rfl)))
    (ev_cons (ev_for PassesOwn.never rfl (ev_rng1 rfl T.z_range (ea_cons false (ev_blt c_len rfl T.z_len b_len (ea_cons false (ev_name (i := 1) rfl (.inl rfl)) ea_nil)) ea_nil)) (ev_tone sc__law_near.nd (i := 4) rfl (.inl rfl)) (ev_one (ev_if (et_cmp (o_eq hu) (ev_callD T.d__law_take false hq hr rfl (ea_cons false (ev_name (i := 0) rfl (.inl rfl)) (ea_cons false ev_int ea_nil)) (fan_cons (fan_cons fan_nil))) ev_int) (ev_one (ev_store false (ev_callD T.d__law_value false hq hr rfl (ea_cons false (ev_name (i := 0) rfl (.inl rfl)) (ea_cons false (ev_name (i := 2) rfl (.inl rfl)) ea_nil)) (fan_cons (fan_cons fan_nil))) (ev_name (i := 3) rfl (.inl rfl)) (ev_name (i := 4) rfl (.inl rfl)))) ev_nil)))
    (ev_one (ev_ret (ev_bty c_tuple rfl T.z_tuple b_tuple (ea_cons false (ev_name (i := 3) rfl (.inl rfl)) ea_nil))))))
theorem r__law_chain (T : Ts P w K mg base n Φ) (h : Bool) (f : Addr) (cdv : Value) (A : Around) (outer : List Env) (s : Shared) (H : Hp) (E : XK) (hq : Quiet A) (hr : Room n (A.deeper (PyProof.Rows.envOfC "_law_chain" (defScope s__law_chain) s.heap.objs.size f cdv))) :
    EvB (cxOf CX0 P w K mg base ["_law_flat_here", "_law_found", "_law_k"] "_law_chain" (defScope s__law_chain) f cdv A outer s H E).nox (defBody s__law_chain) (g__law_chain h Φ) := by
  have hu := hr.units
  have hu0 := hr.units0
  have hu1 : (A.deeper (PyProof.Rows.envOfC "_law_chain" (defScope s__law_chain) s.heap.objs.size f cdv)).units + 65 < cLine := by have := hr.un; omega
  exact (ev_cons (ev_asg false ev_non (ev_tone sc__law_chain.nd (i := 1) rfl (.inl rfl)))
    (ev_cons (ev_for PassesOwn.never rfl (ev_rng3 rfl T.z_range (ea_cons false (ev_bin o_sub (ev_blt c_len rfl T.z_len b_len (ea_cons false (ev_name (i := 0) rfl (.inl rfl)) ea_nil)) ev_int) (ea_cons false (ev_neg ev_int) (ea_cons false (ev_neg ev_int) ea_nil)))) (ev_tone sc__law_chain.nd (i := 2) rfl (.inl rfl)) (ev_one (ev_asg false (ev_tup (ea_cons false (ev_ix (ev_ix (ev_name (i := 0) rfl (.inl rfl)) (ev_name (i := 2) rfl (.inl rfl))) ev_int) (ea_cons false (ev_ix (ev_ix (ev_name (i := 0) rfl (.inl rfl)) (ev_name (i := 2) rfl (.inl rfl))) ev_int) (ea_cons false (ev_lst ea_nil) (ea_cons false (ev_name (i := 1) rfl (.inl rfl)) ea_nil))))) (ev_tone sc__law_chain.nd (i := 1) rfl (.inl rfl)))))
    (ev_one (ev_ret (ev_name (i := 1) rfl (.inl rfl))))))
theorem r__law_is_plain (T : Ts P w K mg base n Φ) (h : Bool) (f : Addr) (cdv : Value) (A : Around) (outer : List Env) (s : Shared) (H : Hp) (E : XK) (hq : Quiet A) (hr : Room n (A.deeper (PyProof.Rows.envOfC "_law_is_plain" (defScope s__law_is_plain) s.heap.objs.size f cdv))) :
    EvB (cxOf CX0 P w K mg base ["_law_tree_here", "_law_keys", "_law_value_here", "_law_below", "_law_k"] "_law_is_plain" (defScope s__law_is_plain) f cdv A outer s H E).nox (defBody s__law_is_plain) (g__law_is_plain h Φ) := by
  have hu := hr.units
  have hu0 := hr.units0
  have hu1 : (A.deeper (PyProof.Rows.envOfC "_law_is_plain" (defScope s__law_is_plain) s.heap.objs.size f cdv)).units + 65 < cLine := by have := hr.un; omega
  exact (ev_cons (ev_if (et_cmp o_isY (ev_name (i := 0) rfl (.inr (.inl rfl))) ev_non) (ev_one (ev_ret ev_bl)) ev_nil)
    (ev_cons (ev_asg false (ev_lc false [("_law_value_here", 2), ("_law_below", 3)] rfl sc__law_is_plain.nd (ev_src (ev_ix (ev_name (i := 0) rfl (.inr (.inl rfl))) ev_int)) (blkOk_by rfl) (fun _ _ _ _ _ => (ev_ttup rfl (ev_tcons sc__law_is_plain.nd (i := 2) rfl (.inl rfl) (ev_tcons sc__law_is_plain.nd (i := 3) rfl (.inl rfl) ev_tnil)))) (fun _ _ _ _ _ => ets_nil) (fun _ _ _ _ _ => (ev_tup (ea_cons false (ev_bty c_int rfl T.z_int b_int (ea_cons false (ev_cmp o_isN (ev_name (i := 2) rfl (.inl rfl)) ev_non) ea_nil)) (ea_cons false (ev_or (ev_name (i := 2) rfl (.inl rfl)) (ev_one1 ev_int)) ea_nil)))) (by decide)) (ev_tone sc__law_is_plain.nd (i := 1) rfl (.inr rfl)))
    (ev_cons (ev_if (et_cmp (o_ne hu) (ev_lc false [("_law_k", 4)] rfl sc__law_is_plain.nd (ev_rng2 rfl T.z_range (ea_cons false ev_int (ea_cons false (ev_blt c_len rfl T.z_len b_len (ea_cons false (ev_name (i := 1) rfl (.inr (.inl rfl))) ea_nil)) ea_nil))) (blkOk_by rfl) (fun _ _ _ _ _ => (ev_tone sc__law_is_plain.nd (i := 4) rfl (.inl rfl))) (fun _ _ _ _ _ => (ets_one (et_cmp (o_ge hu0) (ev_ix (ev_name (i := 1) rfl (.inr (.inl rfl))) (ev_bin o_sub (ev_name (i := 4) rfl (.inl rfl)) ev_int)) (ev_ix (ev_name (i := 1) rfl (.inr (.inl rfl))) (ev_name (i := 4) rfl (.inl rfl)))))) (fun _ _ _ _ _ => (ev_name (i := 4) rfl (.inl rfl))) (by decide)) (ev_lst ea_nil)) (ev_one (ev_ret ev_bl)) ev_nil)
    (ev_cons (ev_if (et_cmp (o_ne hu) (ev_lc false [("_law_value_here", 2), ("_law_below", 3)] rfl sc__law_is_plain.nd (ev_src (ev_ix (ev_name (i := 0) rfl (.inr (.inl rfl))) ev_int)) (blkOk_by rfl) (fun _ _ _ _ _ => (ev_ttup rfl (ev_tcons sc__law_is_plain.nd (i := 2) rfl (.inl rfl) (ev_tcons sc__law_is_plain.nd (i := 3) rfl (.inl rfl) ev_tnil)))) (fun _ _ _ _ _ => (ets_one (EvW.t (ew_or (et_cmp (o_eq hu) (ev_name (i := 3) rfl (.inl rfl)) (ev_ix (ev_name (i := 0) rfl (.inr (.inl rfl))) ev_int)) (ew_or1 (et_not (et_val (ev_callD T.d__law_is_plain false hq hr rfl (ea_cons false (ev_name (i := 3) rfl (.inl rfl)) ea_nil) (fan_cons fan_nil))))))))) (fun _ _ _ _ _ => (ev_name (i := 3) rfl (.inl rfl))) (by decide)) (ev_lst ea_nil)) (ev_one (ev_ret ev_bl)) ev_nil)
    (ev_one (ev_ret (ev_callD T.d__law_is_plain false hq hr rfl (ea_cons false (ev_ix (ev_name (i := 0) rfl (.inr (.inl rfl))) ev_int) ea_nil) (fan_cons fan_nil))))))))
theorem r__law_loose (T : Ts P w K mg base n Φ) (h : Bool) (f : Addr) (cdv : Value) (A : Around) (outer : List Env) (s : Shared) (H : Hp) (E : XK) (hq : Quiet A) (hr : Room n (A.deeper (PyProof.Rows.envOfC "_law_loose" (defScope s__law_loose) s.heap.objs.size f cdv))) :
    EvB (cxOf CX0 P w K mg base ["_law_pile_here", "_law_tree_here", "_law_column", "_law_order", "_law_branches", "_law_other", "_law_found", "_law_value_here", "_law_below"] "_law_loose" (defScope s__law_loose) f cdv A outer s H E).nox (defBody s__law_loose) (g__law_loose h Φ) := by
  have hu := hr.units
  have hu0 := hr.units0
  have hu1 : (A.deeper (PyProof.Rows.envOfC "_law_loose" (defScope s__law_loose) s.heap.objs.size f cdv)).units + 65 < cLine := by have := hr.un; omega
  exact (ev_cons (ev_if (et_cmp o_isY (ev_name (i := 1) rfl (.inl rfl)) ev_non) (ev_one (ev_ret ev_non)) ev_nil)
    (ev_cons (ev_asg false (ev_name (i := 1) rfl (.inl rfl)) (ev_ttup rfl (ev_tcons sc__law_loose.nd (i := 2) rfl (.inl rfl) (ev_tcons sc__law_loose.nd (i := 3) rfl (.inl rfl) (ev_tcons sc__law_loose.nd (i := 4) rfl (.inl rfl) (ev_tcons sc__law_loose.nd (i := 5) rfl (.inl rfl) ev_tnil))))))
    (ev_cons (ev_setLc (i := 6) false true [("_law_value_here", 7), ("_law_below", 8)] rfl sc__law_loose.nd rfl rfl (sw_true rfl rfl rfl (by decide +kernel)) (ev_src (ev_name (i := 4) rfl (.inl rfl))) (blkOk_by rfl) (fun _ _ _ _ _ => (ev_ttup rfl (ev_tcons sc__law_loose.nd (i := 7) rfl (.inl rfl) (ev_tcons sc__law_loose.nd (i := 8) rfl (.inl rfl) ev_tnil)))) (fun _ _ _ _ _ => ets_nil) (fun _ _ _ _ _ => (ev_tup (ea_cons false (ev_name (i := 7) rfl (.inl rfl)) (ea_cons false (ev_callD T.d__law_loose false hq hr rfl (ea_cons false (ev_name (i := 0) rfl (.inr (.inl rfl))) (ea_cons false (ev_name (i := 8) rfl (.inl rfl)) ea_nil)) (fan_cons (fan_cons fan_nil))) ea_nil)))) (by decide))
    (ev_cons (ev_if (et_cmp (o_eq hu) (ev_callD T.d__law_take false hq hr rfl (ea_cons false (ev_name (i := 0) rfl (.inr (.inl rfl))) (ea_cons false ev_int ea_nil)) (fan_cons (fan_cons fan_nil))) ev_int) (ev_one (ev_asg true (ev_rev (ev_name (i := 6) rfl (.inl rfl))) (ev_tone sc__law_loose.nd (i := 6) rfl (.inl rfl)))) ev_nil)
    (ev_cons (ev_if (EvW.t (ew_and (et_cmp (o_nin hu1) ev_int (ev_lc false [("_law_value_here", 7), ("_law_below", 8)] rfl sc__law_loose.nd (ev_src (ev_name (i := 6) rfl (.inl rfl))) (blkOk_by rfl) (fun _ _ _ _ _ => (ev_ttup rfl (ev_tcons sc__law_loose.nd (i := 7) rfl (.inl rfl) (ev_tcons sc__law_loose.nd (i := 8) rfl (.inl rfl) ev_tnil)))) (fun _ _ _ _ _ => ets_nil) (fun _ _ _ _ _ => (ev_name (i := 7) rfl (.inl rfl))) (by decide))) (ew_and1 (et_cmp (o_eq hu) (ev_callD T.d__law_take false hq hr rfl (ea_cons false (ev_name (i := 0) rfl (.inr (.inl rfl))) (ea_cons false ev_int ea_nil)) (fan_cons (fan_cons fan_nil))) ev_int)))) (ev_one (ev_drop (ev_mth PySem.F.slot_list_insert PySem.F.type_list_insert m_insert (ev_name (i := 6) rfl (.inl rfl)) (ea_cons false (ev_callD T.d__law_take false hq hr rfl (ea_cons false (ev_name (i := 0) rfl (.inr (.inl rfl))) (ea_cons false (ev_bin o_add (ev_blt c_len rfl T.z_len b_len (ea_cons false (ev_name (i := 6) rfl (.inl rfl)) ea_nil)) ev_int) ea_nil)) (fan_cons (fan_cons fan_nil))) (ea_cons false (ev_tup (ea_cons false ev_int (ea_cons false (ev_name (i := 5) rfl (.inl rfl)) ea_nil))) ea_nil))))) ev_nil)
    (ev_one (ev_ret (ev_tup (ea_cons false (ev_name (i := 2) rfl (.inl rfl)) (ea_cons false (ev_name (i := 3) rfl (.inl rfl)) (ea_cons false (ev_name (i := 6) rfl (.inl rfl)) (ea_cons false (ev_callD T.d__law_loose false hq hr rfl (ea_cons false (ev_name (i := 0) rfl (.inr (.inl rfl))) (ea_cons false (ev_name (i := 5) rfl (.inl rfl)) ea_nil)) (fan_cons (fan_cons fan_nil))) ea_nil))))))))))))
theorem r__law_alike (T : Ts P w K mg base n Φ) (h : Bool) (f : Addr) (cdv : Value) (A : Around) (outer : List Env) (s : Shared) (H : Hp) (E : XK) (hq : Quiet A) (hr : Room n (A.deeper (PyProof.Rows.envOfC "_law_alike" (defScope s__law_alike) s.heap.objs.size f cdv))) :
    EvB (cxOf CX0 P w K mg base ["_law_pile_here", "_law_schema_here", "_law_one", "_law_other", "_law_turn", "_law_wide", "_law_x", "_law_y"] "_law_alike" (defScope s__law_alike) f cdv A outer s H E).nox (defBody s__law_alike) (g__law_alike h Φ) := by
  have hu := hr.units
  have hu0 := hr.units0
  have hu1 : (A.deeper (PyProof.Rows.envOfC "_law_alike" (defScope s__law_alike) s.heap.objs.size f cdv)).units + 65 < cLine := by have := hr.un; omega
  exact (ev_cons (ev_for PassesOwn.never rfl (ev_rng1 rfl T.z_range (ea_cons false ev_int ea_nil)) (ev_tone sc__law_alike.nd (i := 4) rfl (.inl rfl)) (ev_cons (ev_asg false (ev_callD T.d__law_take false hq hr rfl (ea_cons false (ev_name (i := 0) rfl (.inl rfl)) (ea_cons false ev_int ea_nil)) (fan_cons (fan_cons fan_nil))) (ev_tone sc__law_alike.nd (i := 5) rfl (.inl rfl)))
    (ev_cons (ev_asg false (ev_callD T.d__law_row false hq hr rfl (ea_cons false (ev_name (i := 0) rfl (.inl rfl)) (ea_cons false (ev_name (i := 1) rfl (.inl rfl)) (ea_cons false (ev_name (i := 5) rfl (.inl rfl)) ea_nil))) (fan_cons (fan_cons (fan_cons fan_nil)))) (ev_tone sc__law_alike.nd (i := 6) rfl (.inl rfl)))
    (ev_cons (ev_asg false (ev_callD T.d__law_near false hq hr rfl (ea_cons false (ev_name (i := 0) rfl (.inl rfl)) (ea_cons false (ev_name (i := 6) rfl (.inl rfl)) (ea_cons false (ev_name (i := 5) rfl (.inl rfl)) ea_nil))) (fan_cons (fan_cons (fan_cons fan_nil)))) (ev_tone sc__law_alike.nd (i := 7) rfl (.inl rfl)))
    (ev_one (ev_if (et_cmp (o_ne hu) (ev_callD T.d__law_compare false hq hr rfl (ea_cons false (ev_name (i := 2) rfl (.inl rfl)) (ea_cons false (ev_name (i := 6) rfl (.inl rfl)) (ea_cons false (ev_name (i := 7) rfl (.inl rfl)) ea_nil))) (fan_cons (fan_cons (fan_cons fan_nil)))) (ev_callD T.d__law_compare false hq hr rfl (ea_cons false (ev_name (i := 3) rfl (.inl rfl)) (ea_cons false (ev_name (i := 6) rfl (.inl rfl)) (ea_cons false (ev_name (i := 7) rfl (.inl rfl)) ea_nil))) (fan_cons (fan_cons (fan_cons fan_nil))))) (ev_one (ev_ret ev_bl)) ev_nil))))))
    (ev_one (ev_ret ev_bl)))
theorem r__law_all_lists (T : Ts P w K mg base n Φ) (h : Bool) (f : Addr) (cdv : Value) (A : Around) (outer : List Env) (s : Shared) (H : Hp) (E : XK) (hq : Quiet A) (hr : Room n (A.deeper (PyProof.Rows.envOfC "_law_all_lists" (defScope s__law_all_lists) s.heap.objs.size f cdv))) :
    EvB (cxOf CX0 P w K mg base ["_law_thing", "_law_found", "_law_part"] "_law_all_lists" (defScope s__law_all_lists) f cdv A outer s H E).nox (defBody s__law_all_lists) (g__law_all_lists h Φ) := by
  have hu := hr.units
  have hu0 := hr.units0
  have hu1 : (A.deeper (PyProof.Rows.envOfC "_law_all_lists" (defScope s__law_all_lists) s.heap.objs.size f cdv)).units + 65 < cLine := by have := hr.un; omega
  exact (ev_cons (ev_asg false (ev_bin o_mul (ev_lst (ea_cons false (ev_name (i := 0) rfl (.inl rfl)) ea_nil)) (ev_bty c_int rfl T.z_int b_int (ea_cons false (ev_isi (T := "list") (by decide) (ev_name (i := 0) rfl (.inl rfl)) rfl T.z_isinstance rfl T.z_list b_list (by decide) (by decide)) ea_nil))) (ev_tone sc__law_all_lists.nd (i := 1) rfl (.inl rfl)))
    (ev_cons (ev_if (EvW.t (ew_or (et_val (ev_isi (T := "list") (by decide) (ev_name (i := 0) rfl (.inl rfl)) rfl T.z_isinstance rfl T.z_list b_list (by decide) (by decide))) (ew_or1 (et_val (ev_isi (T := "tuple") (by decide) (ev_name (i := 0) rfl (.inl rfl)) rfl T.z_isinstance rfl T.z_tuple b_tuple (by decide) (by decide)))))) (ev_one (ev_for PassesOwn.never rfl (ev_src (ev_name (i := 0) rfl (.inl rfl))) (ev_tone sc__law_all_lists.nd (i := 2) rfl (.inl rfl)) (ev_one (ev_asg false (ev_bin o_add (ev_name (i := 1) rfl (.inl rfl)) (ev_callD T.d__law_all_lists false hq hr rfl (ea_cons false (ev_name (i := 2) rfl (.inl rfl)) ea_nil) (fan_cons fan_nil))) (ev_tone sc__law_all_lists.nd (i := 1) rfl (.inl rfl)))))) ev_nil)
    (ev_one (ev_ret (ev_name (i := 1) rfl (.inl rfl))))))
theorem r__law_numbered (T : Ts P w K mg base n Φ) (h : Bool) (f : Addr) (cdv : Value) (A : Around) (outer : List Env) (s : Shared) (H : Hp) (E : XK) (hq : Quiet A) (hr : Room n (A.deeper (PyProof.Rows.envOfC "_law_numbered" (defScope s__law_numbered) s.heap.objs.size f cdv))) :
    EvB (cxOf CX0 P w K mg base ["_law_thing", "_law_some", "_law_k", "_law_one"] "_law_numbered" (defScope s__law_numbered) f cdv A outer s H E).nox (defBody s__law_numbered) (g__law_numbered h Φ) := by
  have hu := hr.units
  have hu0 := hr.units0
  have hu1 : (A.deeper (PyProof.Rows.envOfC "_law_numbered" (defScope s__law_numbered) s.heap.objs.size f cdv)).units + 65 < cLine := by have := hr.un; omega
  exact (ev_cons (ev_asg false (ev_callD T.d__law_all_lists false hq hr rfl (ea_cons false (ev_name (i := 0) rfl (.inl rfl)) ea_nil) (fan_cons fan_nil)) (ev_tone sc__law_numbered.nd (i := 1) rfl (.inl rfl)))
    (ev_cons (ev_for PassesOwn.never rfl (ev_rng1 rfl T.z_range (ea_cons false (ev_blt c_len rfl T.z_len b_len (ea_cons false (ev_name (i := 1) rfl (.inl rfl)) ea_nil)) ea_nil)) (ev_tone sc__law_numbered.nd (i := 2) rfl (.inl rfl)) (ev_one (ev_drop (ev_mth PySem.F.slot_list_append PySem.F.type_list_append m_append (ev_ix (ev_name (i := 1) rfl (.inl rfl)) (ev_name (i := 2) rfl (.inl rfl))) (ea_cons false (ev_name (i := 2) rfl (.inl rfl)) ea_nil)))))
    (ev_one (ev_ret (ev_cmp (o_eq hu) (ev_lc false [("_law_one", 3)] rfl sc__law_numbered.nd (ev_src (ev_name (i := 1) rfl (.inl rfl))) (blkOk_by rfl) (fun _ _ _ _ _ => (ev_tone sc__law_numbered.nd (i := 3) rfl (.inl rfl))) (fun _ _ _ _ _ => ets_nil) (fun _ _ _ _ _ => (ev_ix (ev_name (i := 3) rfl (.inl rfl)) (ev_neg ev_int))) (by decide)) (ev_lc false [("_law_k", 2)] rfl sc__law_numbered.nd (ev_rng1 rfl T.z_range (ea_cons false (ev_blt c_len rfl T.z_len b_len (ea_cons false (ev_name (i := 1) rfl (.inl rfl)) ea_nil)) ea_nil)) (blkOk_by rfl) (fun _ _ _ _ _ => (ev_tone sc__law_numbered.nd (i := 2) rfl (.inl rfl))) (fun _ _ _ _ _ => ets_nil) (fun _ _ _ _ _ => (ev_name (i := 2) rfl (.inl rfl))) (by decide)))))))
theorem r__law_good (T : Ts P w K mg base n Φ) (h : Bool) (f : Addr) (cdv : Value) (A : Around) (outer : List Env) (s : Shared) (H : Hp) (E : XK) (hq : Quiet A) (hr : Room n (A.deeper (PyProof.Rows.envOfC "_law_good" (defScope s__law_good) s.heap.objs.size f cdv))) :
    EvB (cxOf CX0 P w K mg base ["_law_pile_here", "_law_schema_here", "_law_tree_here", "_law_kept", "_law_found", "_law_told"] "_law_good" (defScope s__law_good) f cdv A outer s H E).nox (defBody s__law_good) (g__law_good h Φ) := by
  have hu := hr.units
  have hu0 := hr.units0
  have hu1 : (A.deeper (PyProof.Rows.envOfC "_law_good" (defScope s__law_good) s.heap.objs.size f cdv)).units + 65 < cLine := by have := hr.un; omega
  exact (ev_cons (ev_asg false (ev_blt (c_repr hq hu) rfl T.z_repr b_repr (ea_cons false (ev_lst (ea_cons false (ev_name (i := 1) rfl (.inl rfl)) (ea_cons false (ev_name (i := 2) rfl (.inl rfl)) ea_nil))) ea_nil)) (ev_tone sc__law_good.nd (i := 3) rfl (.inl rfl)))
    (ev_cons (ev_asg false (ev_callD T.d_plain true hq hr rfl (ea_cons false (ev_name (i := 1) rfl (.inl rfl)) (ea_cons false (ev_name (i := 2) rfl (.inl rfl)) ea_nil)) (fan_cons (fan_cons fan_nil))) (ev_tone sc__law_good.nd (i := 4) rfl (.inl rfl)))
    (ev_cons (ev_if (EvW.t (ew_or (et_cmp o_isN (ev_callD T.d_is_tree false hq hr rfl (ea_cons false (ev_name (i := 1) rfl (.inl rfl)) (ea_cons false (ev_name (i := 4) rfl (.inl rfl)) ea_nil)) (fan_cons (fan_cons fan_nil))) ev_bl) (ew_or (et_not (et_val (ev_callD T.d__law_is_plain false hq hr rfl (ea_cons false (ev_name (i := 4) rfl (.inl rfl)) ea_nil) (fan_cons fan_nil)))) (ew_or1 (et_cmp (o_ne hu) (ev_blt (c_repr hq hu) rfl T.z_repr b_repr (ea_cons false (ev_lst (ea_cons false (ev_name (i := 1) rfl (.inl rfl)) (ea_cons false (ev_name (i := 2) rfl (.inl rfl)) ea_nil))) ea_nil)) (ev_name (i := 3) rfl (.inl rfl))))))) (ev_one (ev_ret ev_bl)) ev_nil)
    (ev_cons (ev_if (EvW.t (ew_or (et_not (et_val (ev_callD T.d__law_alike false hq hr rfl (ea_cons false (ev_name (i := 0) rfl (.inl rfl)) (ea_cons false (ev_name (i := 1) rfl (.inl rfl)) (ea_cons false (ev_name (i := 2) rfl (.inl rfl)) (ea_cons false (ev_name (i := 4) rfl (.inl rfl)) ea_nil)))) (fan_cons (fan_cons (fan_cons (fan_cons fan_nil))))))) (ew_or1 (et_cmp (o_ne hu) (ev_callD T.d_plain false hq hr rfl (ea_cons false (ev_name (i := 1) rfl (.inl rfl)) (ea_cons false (ev_name (i := 4) rfl (.inl rfl)) ea_nil)) (fan_cons (fan_cons fan_nil))) (ev_name (i := 4) rfl (.inl rfl)))))) (ev_one (ev_ret ev_bl)) ev_nil)
    (ev_cons (ev_if (et_cmp (o_ne hu) (ev_callD T.d_plain false hq hr rfl (ea_cons false (ev_name (i := 1) rfl (.inl rfl)) (ea_cons false (ev_callD T.d__law_loose false hq hr rfl (ea_cons false (ev_name (i := 0) rfl (.inl rfl)) (ea_cons false (ev_name (i := 2) rfl (.inl rfl)) ea_nil)) (fan_cons (fan_cons fan_nil))) ea_nil)) (fan_cons (fan_cons fan_nil))) (ev_name (i := 4) rfl (.inl rfl))) (ev_one (ev_ret ev_bl)) ev_nil)
    (ev_cons (ev_asg false (ev_blt (c_repr hq hu) rfl T.z_repr b_repr (ea_cons false (ev_name (i := 4) rfl (.inl rfl)) ea_nil)) (ev_tone sc__law_good.nd (i := 5) rfl (.inl rfl)))
    (ev_cons (ev_if (EvW.t (ew_or (et_not (et_val (ev_callD T.d__law_numbered false hq hr rfl (ea_cons false (ev_name (i := 4) rfl (.inl rfl)) ea_nil) (fan_cons fan_nil)))) (ew_or1 (et_cmp (o_ne hu) (ev_blt (c_repr hq hu) rfl T.z_repr b_repr (ea_cons false (ev_lst (ea_cons false (ev_name (i := 1) rfl (.inl rfl)) (ea_cons false (ev_name (i := 2) rfl (.inl rfl)) ea_nil))) ea_nil)) (ev_name (i := 3) rfl (.inl rfl)))))) (ev_one (ev_ret ev_bl)) ev_nil)
    (ev_one (ev_ret (ev_cmp (o_eq hu) (ev_blt (c_repr hq hu) rfl T.z_repr b_repr (ea_cons false (ev_callD T.d_plain false hq hr rfl (ea_cons false (ev_name (i := 1) rfl (.inl rfl)) (ea_cons false (ev_name (i := 2) rfl (.inl rfl)) ea_nil)) (fan_cons (fan_cons fan_nil))) ea_nil)) (ev_name (i := 5) rfl (.inl rfl))))))))))))
theorem r_law (T : Ts P w K mg base n Φ) (h : Bool) (f : Addr) (cdv : Value) (A : Around) (outer : List Env) (s : Shared) (H : Hp) (E : XK) (hq : Quiet A) (hr : Room n (A.deeper (PyProof.Rows.envOfC "law" (defScope s_law) s.heap.objs.size f cdv))) :
    EvB (cxOf CX0 P w K mg base ["_law_script", "_law_k", "_law_pile_here", "_law_schema_here", "_law_flat_here", "_law_kept", "_law_found"] "law" (defScope s_law) f cdv A outer s H E).nox (defBody s_law) (g_law h Φ) := by
  have hu := hr.units
  have hu0 := hr.units0
  have hu1 : (A.deeper (PyProof.Rows.envOfC "law" (defScope s_law) s.heap.objs.size f cdv)).units + 65 < cLine := by have := hr.un; omega
  exact (ev_cons (ev_for PassesOwn.never rfl (ev_rng1 rfl T.z_range (ea_cons false (ev_blt (c_max rfl) rfl T.z_max b_max (ea_cons false ev_int (ea_cons false (ev_blt (c_min rfl) rfl T.z_min b_min (ea_cons false (ev_blt c_len rfl T.z_len b_len (ea_cons false (ev_name (i := 0) rfl (.inl rfl)) ea_nil)) (ea_cons false ev_int ea_nil))) ea_nil))) ea_nil)) (ev_tone sc_law.nd (i := 1) rfl (.inl rfl)) (ev_cons (ev_asg true (ev_callD T.d__law_pile false hq hr rfl (ea_cons false (ev_name (i := 0) rfl (.inl rfl)) (ea_cons false (ev_name (i := 1) rfl (.inl rfl)) ea_nil)) (fan_cons (fan_cons fan_nil))) (ev_tone sc_law.nd (i := 2) rfl (.inl rfl)))
    (ev_cons (ev_asg false (ev_callD T.d__law_schema false hq hr rfl (ea_cons false (ev_name (i := 2) rfl (.inl rfl)) ea_nil) (fan_cons fan_nil)) (ev_tone sc_law.nd (i := 3) rfl (.inl rfl)))
    (ev_cons (ev_asg false (ev_callD T.d__law_flat false hq hr rfl (ea_cons false (ev_name (i := 2) rfl (.inl rfl)) (ea_cons false (ev_name (i := 3) rfl (.inl rfl)) ea_nil)) (fan_cons (fan_cons fan_nil))) (ev_tone sc_law.nd (i := 4) rfl (.inl rfl)))
    (ev_cons (ev_asg false (ev_blt (c_repr hq hu) rfl T.z_repr b_repr (ea_cons false (ev_name (i := 4) rfl (.inl rfl)) ea_nil)) (ev_tone sc_law.nd (i := 5) rfl (.inl rfl)))
    (ev_cons (ev_asg false (ev_callD T.d_tree_of true hq hr rfl (ea_cons false (ev_name (i := 3) rfl (.inl rfl)) (ea_cons false (ev_name (i := 4) rfl (.inl rfl)) ea_nil)) (fan_cons (fan_cons fan_nil))) (ev_tone sc_law.nd (i := 6) rfl (.inl rfl)))
    (ev_cons (ev_if (EvW.t (ew_or (et_cmp (o_ne hu) (ev_name (i := 6) rfl (.inl rfl)) (ev_callD T.d__law_chain false hq hr rfl (ea_cons false (ev_name (i := 4) rfl (.inl rfl)) ea_nil) (fan_cons fan_nil))) (ew_or (et_cmp (o_ne hu) (ev_blt (c_repr hq hu) rfl T.z_repr b_repr (ea_cons false (ev_name (i := 4) rfl (.inl rfl)) ea_nil)) (ev_name (i := 5) rfl (.inl rfl))) (ew_or1 (et_cmp (o_ne hu) (ev_callD T.d_plain false hq hr rfl (ea_cons false (ev_name (i := 3) rfl (.inl rfl)) (ea_cons false (ev_name (i := 6) rfl (.inl rfl)) ea_nil)) (fan_cons (fan_cons fan_nil))) (ev_name (i := 6) rfl (.inl rfl))))))) (ev_one (ev_ret ev_bl)) ev_nil)
    (ev_cons (ev_if (EvW.t (ew_or (et_not (et_val (ev_callD T.d__law_numbered false hq hr rfl (ea_cons false (ev_name (i := 6) rfl (.inl rfl)) ea_nil) (fan_cons fan_nil)))) (ew_or (et_cmp (o_ne hu) (ev_blt (c_repr hq hu) rfl T.z_repr b_repr (ea_cons false (ev_name (i := 4) rfl (.inl rfl)) ea_nil)) (ev_name (i := 5) rfl (.inl rfl))) (ew_or1 (et_cmp (o_ne hu) (ev_callD T.d_tree_of false hq hr rfl (ea_cons false (ev_name (i := 3) rfl (.inl rfl)) (ea_cons false (ev_name (i := 4) rfl (.inl rfl)) ea_nil)) (fan_cons (fan_cons fan_nil))) (ev_callD T.d__law_chain false hq hr rfl (ea_cons false (ev_name (i := 4) rfl (.inl rfl)) ea_nil) (fan_cons fan_nil))))))) (ev_one (ev_ret ev_bl)) ev_nil)
    (ev_one (ev_if (EvW.t (ew_or (et_not (et_val (ev_callD T.d__law_good false hq hr rfl (ea_cons false (ev_name (i := 2) rfl (.inl rfl)) (ea_cons false (ev_name (i := 3) rfl (.inl rfl)) (ea_cons false (ev_callD T.d__law_tree false hq hr rfl (ea_cons false (ev_name (i := 2) rfl (.inl rfl)) (ea_cons false (ev_name (i := 3) rfl (.inl rfl)) (ea_cons false (ev_lst ea_nil) (ea_cons false ev_int ea_nil)))) (fan_cons (fan_cons (fan_cons (fan_cons fan_nil))))) ea_nil))) (fan_cons (fan_cons (fan_cons fan_nil)))))) (ew_or1 (et_not (et_val (ev_callD T.d__law_good false hq hr rfl (ea_cons false (ev_name (i := 2) rfl (.inl rfl)) (ea_cons false (ev_name (i := 3) rfl (.inl rfl)) (ea_cons false ev_non ea_nil))) (fan_cons (fan_cons (fan_cons fan_nil))))))))) (ev_one (ev_ret ev_bl)) ev_nil))))))))))
    (ev_one (ev_ret ev_bl)))
theorem ts_zero (S : St0 K mg) : Ts P w K mg base 0 (ev 0) :=
  ⟨S, S.f_is_whole.zero, S.f_is_below.zero, S.f_is_value.zero, S.f_is_order.zero, S.f_is_column.zero, S.f_is_schema.zero, S.f_look_at_schema.zero, S.f_is_step.zero, S.f_is_right_flat.zero, S.f_is_branch.zero, S.f_is_tree_without.zero, S.f_is_tree.zero, S.f_look_at_flat.zero, S.f_flat_as_tree.zero, S.f_tree_of.zero, S.f_is_value_before.zero, S.f_made_plain.zero, S.f_plain.zero, S.f__law_mixed.zero, S.f__law_pile.zero, S.f__law_take.zero, S.f__law_schema.zero, S.f__law_value.zero, S.f__law_row.zero, S.f__law_order_of.zero, S.f__law_flat.zero, S.f__law_tree.zero, S.f__law_puts.zero, S.f__law_compare.zero, S.f__law_near.zero, S.f__law_chain.zero, S.f__law_is_plain.zero, S.f__law_loose.zero, S.f__law_alike.zero, S.f__law_all_lists.zero, S.f__law_numbered.zero, S.f__law_good.zero, S.f_law.zero⟩
theorem ts_step (T : Ts P w K mg base n (ev n)) : Ts P w K mg base (n + 1) (ev (n + 1)) :=
  ⟨T.toSt0, T.f_is_whole.df sc_is_whole rfl (r_is_whole T), T.f_is_below.df sc_is_below rfl (r_is_below T), T.f_is_value.df sc_is_value rfl (r_is_value T), T.f_is_order.df sc_is_order rfl (r_is_order T), T.f_is_column.df sc_is_column rfl (r_is_column T), T.f_is_schema.df sc_is_schema rfl (r_is_schema T), T.f_look_at_schema.df sc_look_at_schema rfl (r_look_at_schema T), T.f_is_step.df sc_is_step rfl (r_is_step T), T.f_is_right_flat.df sc_is_right_flat rfl (r_is_right_flat T), T.f_is_branch.df sc_is_branch rfl (r_is_branch T), T.f_is_tree_without.df sc_is_tree_without rfl (r_is_tree_without T), T.f_is_tree.df sc_is_tree rfl (r_is_tree T), T.f_look_at_flat.df sc_look_at_flat rfl (r_look_at_flat T), T.f_flat_as_tree.df sc_flat_as_tree rfl (r_flat_as_tree T), T.f_tree_of.df sc_tree_of rfl (r_tree_of T), T.f_is_value_before.df sc_is_value_before rfl (r_is_value_before T), T.f_made_plain.df sc_made_plain rfl (r_made_plain T), T.f_plain.df sc_plain rfl (r_plain T), T.f__law_mixed.df sc__law_mixed rfl (r__law_mixed T), T.f__law_pile.df sc__law_pile rfl (r__law_pile T), T.f__law_take.df sc__law_take rfl (r__law_take T), T.f__law_schema.df sc__law_schema rfl (r__law_schema T), T.f__law_value.df sc__law_value rfl (r__law_value T), T.f__law_row.df sc__law_row rfl (r__law_row T), T.f__law_order_of.df sc__law_order_of rfl (r__law_order_of T), T.f__law_flat.df sc__law_flat rfl (r__law_flat T), T.f__law_tree.df sc__law_tree rfl (r__law_tree T), T.f__law_puts.df sc__law_puts rfl (r__law_puts T), T.f__law_compare.df sc__law_compare rfl (r__law_compare T), T.f__law_near.df sc__law_near rfl (r__law_near T), T.f__law_chain.df sc__law_chain rfl (r__law_chain T), T.f__law_is_plain.df sc__law_is_plain rfl (r__law_is_plain T), T.f__law_loose.df sc__law_loose rfl (r__law_loose T), T.f__law_alike.df sc__law_alike rfl (r__law_alike T), T.f__law_all_lists.df sc__law_all_lists rfl (r__law_all_lists T), T.f__law_numbered.df sc__law_numbered rfl (r__law_numbered T), T.f__law_good.df sc__law_good rfl (r__law_good T), T.f_law.df sc_law rfl (r_law T)⟩
theorem ts (S : St0 K mg) : ∀ n, Ts P w K mg base n (ev n)
  | 0 => ts_zero S
  | n + 1 => ts_step (ts S n)
end
end K06

set_option Elab.async false
set_option linter.all false
set_option maxRecDepth 100000
namespace K06
open PySem L2 Ev

/-! ### digits -/
theorem lv {c n : Nat} (h : c + 1 ≤ n) : ∃ m, n = m + 1 ∧ c ≤ m := ⟨n - 1, by omega, by omega⟩
theorem atI_cast {α : Type} (xs : List α) (d : Nat) : atI xs (d : Int) = xs[d]? := by
  unfold atI ixN
  rw [if_pos (by omega)]
  by_cases h : d < xs.length
  · rw [if_pos (by omega)]; simp
  · rw [if_neg (by omega), List.getElem?_eq_none (by omega)]; rfl
theorem take_eq {n k : Nat} {p m : Int} {W : Wd} {h : Bool} (hp : W[k]? = some (.lst [.int p])) (hm : 0 < m) (hm2 : m.natAbs.log2 < 9000) : ev (n + 1) i__law_take h [.hdl k, .int m] W = some (.d (.int (p % m)), W.set k (.lst [.int (p / m)])) := by
  rw [e__law_take]
  simp [runB, startE, fSeq, fNil, fIf, fRet, fRetN, fDrop, fPass, fAsg, fTg, toD, fName, fC, fVal, fNotT, fAndT, fOrT, fBin, fCons, fNilA, fTup, fLst, fBlt, fIsi, fCall, fIte, fNeg, fNotV, fOrV, fAndV, fMth, fStore, fAug, fSl, fON, fOS, fSrc, fRng, fFor, fLc, wipeE, Ev.setN, g__law_take, opIx, asS, asL, hp, bInt, opMod, opFdiv, hm, hm2, asH, atI, ixN, fin_same]
section
variable {n k : Nat} {W : Wd} {h : Bool}
theorem take {m : Int} (hn : 1 ≤ n) (hP : PileAt W k) (hm : 0 < m) (hm2 : m < 1000) : ∃ (d : Nat) (W' : Wd), ev n i__law_take h [.hdl k, .int m] W = some (.d (.int d), W') ∧ (d : Int) < m ∧ Go k W W' := by
  obtain ⟨n, rfl, _⟩ := lv hn
  obtain ⟨p, h0, e⟩ := hP
  have hl : m.natAbs.log2 < 9000 := Nat.lt_of_le_of_lt (Nat.log2_le_self _) (by omega)
  refine ⟨(p % m).toNat, _, ?_, ?_, ⟨p / m, Int.ediv_nonneg h0 (Int.le_of_lt hm), getElem_lt e, rfl⟩⟩
  · rw [take_eq e hm hl, Int.toNat_of_nonneg (Int.emod_nonneg _ (by omega))]
  · rw [Int.toNat_of_nonneg (Int.emod_nonneg _ (by omega))]
    exact Int.emod_lt_of_pos _ hm

/-! ### values, rows -/
def valD : Option Int → D
  | none => .non
  | some i => .int i
theorem valD_n : valD none = .non := rfl
theorem valD_s (i : Int) : valD (some i) = .int i := rfl
theorem pure_val (v : Option Int) : pureD (valD v) = true := by cases v <;> simp [valD, pureD]
def vs0 : List (Option Int) := [none, some 1, some 2, some 1, some 2]
def vs1 : List (Option Int) := [none, some 0, some 1, some 2, some 3, some (-1), some (-5), some 10, some 1, some 2, some 0, some (10 ^ 20), some (10 ^ 29 - 3), some (0 - 10 ^ 28), some 68, some (-97)]
theorem pick {α β : Type} (f : α → β) {xs : List α} {d : Nat} (h : d < xs.length) : ∃ x ∈ xs, (xs.map f)[d]? = some (f x) :=
  ⟨xs[d], List.getElem_mem h, by rw [List.getElem?_map, List.getElem?_eq_getElem h]; rfl⟩
theorem value (hn : 2 ≤ n) (hP : PileAt W k) (w : Int) : ∃ (v : Option Int) (W' : Wd), ev n i__law_value h [.hdl k, .int w] W = some (.d (valD v), W') ∧ (v ∈ vs0 ∨ v ∈ vs1) ∧ Go k W W' := by
  obtain ⟨n, rfl, ln⟩ := lv hn
  rw [e__law_value]
  by_cases hw : w = 0
  · obtain ⟨d, W1, e1, hd, g1⟩ := take (h := false) (m := 5) ln hP (by decide) (by decide)
    obtain ⟨v, hv, e2⟩ := pick valD (xs := vs0) (d := d) (by simp [vs0]; omega)
    refine ⟨v, W1, ?_, .inl hv, g1⟩
    simp [vs0, valD_n, valD_s] at e2
    simp [runB, startE, fSeq, fNil, fIf, fRet, fRetN, fDrop, fPass, fAsg, fTg, toD, fName, fC, fVal, fNotT, fAndT, fOrT, fBin, fCons, fNilA, fTup, fLst, fBlt, fIsi, fCall, fIte, fNeg, fNotV, fOrV, fAndV, fMth, fStore, fAug, fSl, fON, fOS, fSrc, fRng, fFor, fLc, wipeE, Ev.setN, g__law_value, hw, e1, opEq, R.py, D.py, PyData.eqv, opIx, asS, asL, atI_cast, e2, fin_same g1.len]
  · obtain ⟨d, W1, e1, hd, g1⟩ := take (h := false) (m := 16) ln hP (by decide) (by decide)
    obtain ⟨v, hv, e2⟩ := pick valD (xs := vs1) (d := d) (by simp [vs1]; omega)
    refine ⟨v, W1, ?_, .inr hv, g1⟩
    simp [vs1, valD_n, valD_s] at e2
    simp [runB, startE, fSeq, fNil, fIf, fRet, fRetN, fDrop, fPass, fAsg, fTg, toD, fName, fC, fVal, fNotT, fAndT, fOrT, fBin, fCons, fNilA, fTup, fLst, fBlt, fIsi, fCall, fIte, fNeg, fNotV, fOrV, fAndV, fMth, fStore, fAug, fSl, fON, fOS, fSrc, fRng, fFor, fLc, wipeE, Ev.setN, g__law_value, hw, e1, opEq, R.py, D.py, PyData.eqv, opIx, asS, asL, atI_cast, opPow, opSub, e2, fin_same g1.len]
theorem pureA_all : ∀ {xs : List D}, (∀ x ∈ xs, pureD x = true) → pureA xs = true
  | [], _ => by simp [pureA]
  | x :: r, hx => by simp [pureA, hx x List.mem_cons_self, pureA_all fun y hy => hx y (List.mem_cons_of_mem _ hy)]
/-- a row: as many values as the schema has columns -/
def rowD (r : List (Option Int)) : D := .tup (r.map valD)
theorem pure_row (r : List (Option Int)) : pureD (rowD r) = true := by
  unfold rowD; rw [pureD]
  exact pureA_all fun x hx => by obtain ⟨v, _, rfl⟩ := List.mem_map.mp hx; exact pure_val v
def GoodVal (v : Option Int) : Prop := v ∈ vs0 ∨ v ∈ vs1
theorem row (hn : 3 ≤ n) (hP : PileAt W k) (w : Int) {S : List D} (hS : S.length ≤ 6) : ∃ (r : List (Option Int)) (W' : Wd), ev n i__law_row h [.hdl k, .lst S, .int w] W = some (.d (rowD r), W') ∧ r.length = S.length ∧ (∀ v ∈ r, GoodVal v) ∧ Go k W W' := by
  obtain ⟨n, rfl, ln⟩ := lv hn
  rw [e__law_row]
  obtain ⟨ys, W', e1, r, rfl, hl, hg, g1⟩ := lcL_inv (al := false) (chk := yes) (t := .one 3) (c := fYes) (f := x__law_row_1 h (ev n)) (ρ := [some (.hdl k), some (.lst S), some (.int w), none])
    (fun l V acc => ∃ r : List (Option Int), acc = r.map valD ∧ r.length + l.length = S.length ∧ (∀ v ∈ r, GoodVal v) ∧ Go k W V) (fun _ _ _ _ => rfl)
    (fun d l V acc ⟨r, ea, hl, hg, g⟩ => by
      have small : sizeLine = 16777216 := by decide
      rw [List.length_cons] at hl
      refine ⟨by rw [ea, List.length_map, small]; omega, _, rfl, true, V, rfl, .inl ⟨rfl, ?_⟩⟩
      obtain ⟨v, W1, e1, hv, g1⟩ := value (h := false) ln g.pile w
      refine ⟨.d (valD v), W1, by simp [x__law_row_1, runB, startE, fSeq, fNil, fIf, fRet, fRetN, fDrop, fPass, fAsg, fTg, toD, fName, fC, fVal, fNotT, fAndT, fOrT, fBin, fCons, fNilA, fTup, fLst, fBlt, fIsi, fCall, fIte, fNeg, fNotV, fOrV, fAndV, fMth, fStore, fAug, fSl, fON, fOS, fSrc, fRng, fFor, fLc, wipeE, Ev.setN, e1], r ++ [v], ?_, by simp; omega, fun x hx => ?_, g.trans g1⟩
      · simp [ea, toD]
      · rcases List.mem_append.mp hx with z | z
        · exact hg x z
        · rw [List.mem_singleton.mp z]; exact hv) S W [] ⟨[], rfl, by simp, by simp, hP.go⟩
  refine ⟨r, W', ?_, by simpa using hl, hg, g1⟩
  simp [runB, startE, fSeq, fNil, fIf, fRet, fRetN, fDrop, fPass, fAsg, fTg, toD, fName, fC, fVal, fNotT, fAndT, fOrT, fBin, fCons, fNilA, fTup, fLst, fBlt, fIsi, fCall, fIte, fNeg, fNotV, fOrV, fAndV, fMth, fStore, fAug, fSl, fON, fOS, fSrc, fRng, fFor, fLc, wipeE, Ev.setN, g__law_row, srcOf, e1, bTuple, asS, asL, fin_same g1.len, rowD]

/-! ### schemas -/
def ORD : List Str := ["up first", "up last", "down first", "down last"]
def strsD (c : List Str) : List D := c.map D.str
theorem strsD_nil : strsD [] = [] := rfl
theorem strsD_one (o : Str) : strsD [o] = [.str o] := rfl
def colD (c : List Str) : D := .tup (strsD c)
def GoodCol (c : List Str) : Prop := c ≠ [] ∧ c.Nodup ∧ ∀ o ∈ c, o ∈ ORD
def GoodSch (S : List (List Str)) : Prop := S ≠ [] ∧ S.length ≤ 6 ∧ ∀ c ∈ S, GoodCol c
theorem pure_strs (c : List Str) : pureA (strsD c) = true := pureA_all fun x hx => by obtain ⟨v, _, rfl⟩ := List.mem_map.mp hx; simp [pureD]
theorem pure_sch (S : List (List Str)) : pureA (S.map colD) = true := pureA_all fun x hx => by obtain ⟨v, _, rfl⟩ := List.mem_map.mp hx; unfold colD; rw [pureD]; exact pure_strs v
theorem ord_ok : ∀ o ∈ ORD, PyData.strOk o = true := by decide +kernel
theorem col_len {c : List Str} (h : c.Nodup) (hs : ∀ o ∈ c, o ∈ ORD) : c.length ≤ 4 := (List.Nodup.length_le_of_subset h hs)
theorem py_strs {V : Wd} {m : Nat} : ∀ {c : List Str}, (∀ o ∈ c, o ∈ ORD) → mapO (D.py V (m + 1)) (strsD c) = some (c.map PyData.str)
  | [], _ => by simp [mapO, strsD]
  | o :: r, h => by
    have e := py_strs (V := V) (m := m) fun x hx => h x (List.mem_cons_of_mem _ hx)
    unfold strsD at e ⊢
    simp [mapO, D.py, ord_ok o (h o List.mem_cons_self), e]
theorem ins_nodup {α : Type} {c os : List α} {o : α} {d : Nat} (h : (c ++ o :: os).Nodup) : ((c.take d ++ o :: c.drop d) ++ os).Nodup := by
  have p : ((c.take d ++ o :: c.drop d) ++ os).Perm (c ++ o :: os) := by
    have q : (c.take d ++ o :: c.drop d).Perm (o :: c) := by
      have := List.perm_middle (a := o) (l₁ := c.take d) (l₂ := c.drop d)
      rwa [List.take_append_drop] at this
    exact (q.append_right os).trans (List.perm_middle.symm)
  exact p.nodup_iff.mpr h
theorem sch_inner (ln : 1 ≤ n) {j : Nat} (V0 : Wd) (sh y : Option D) (od : Option D) (hE : Ex k W V0) (hj : W.length ≤ j) :
    ∀ (l : List D) (ρ : En) (V : Wd), (∃ (c os : List Str) (x : Option D), ρ = [some (.hdl k), od, sh, y, some (.hdl j), x] ∧ l = strsD os ∧ V[j]? = some (.lst (strsD c)) ∧ (c ++ os).Nodup ∧ (∀ o ∈ c ++ os, o ∈ ORD) ∧ Ex k W V ∧ V.length = V0.length ∧ ∀ i, i ≠ j → i ≠ k → V[i]? = V0[i]?) →
    ∃ (ρ' : En) (V' : Wd), forL yes (.one 5) (l__law_schema_1 false (ev n)) l ρ V = some (.nx ρ' V') ∧ ∃ (c : List Str) (x : Option D), ρ' = [some (.hdl k), od, sh, y, some (.hdl j), x] ∧ V'[j]? = some (.lst (strsD c)) ∧ c.Nodup ∧ (∀ o ∈ c, o ∈ ORD) ∧ Ex k W V' ∧ V'.length = V0.length ∧ ∀ i, i ≠ j → i ≠ k → V'[i]? = V0[i]? := by
  intro l ρ V h0
  obtain ⟨ρ', V', e, c, os, x, rfl, el, hg, hn, ho, hE', hl, hf⟩ := forL_inv (b := l__law_schema_1 false (ev n)) (t := .one 5) (chk := yes)
    (fun l ρ V => ∃ (c os : List Str) (x : Option D), ρ = [some (.hdl k), od, sh, y, some (.hdl j), x] ∧ l = strsD os ∧ V[j]? = some (.lst (strsD c)) ∧ (c ++ os).Nodup ∧ (∀ o ∈ c ++ os, o ∈ ORD) ∧ Ex k W V ∧ V.length = V0.length ∧ ∀ i, i ≠ j → i ≠ k → V[i]? = V0[i]?)
    (fun _ _ _ _ => rfl) (fun d r ρ V ⟨c, os, x, eρ, el, hg, hnd, ho, hE, hl, hf⟩ => by
      cases os with
      | nil => cases el
      | cons o os =>
        cases el
        subst eρ
        refine ⟨_, rfl, ?_⟩
        have hjk : j ≠ k := by have := hE.kl; omega
        obtain ⟨d1, V1, e1, h1, g1⟩ := take (h := false) (m := 2) ln hE.pile (by decide) (by decide)
        have hE1 := hE.go g1
        have hg1 := g1.old hjk hg
        by_cases hd : d1 = 1
        · subst hd
          have hlc : c.length ≤ 4 := col_len (hnd.sublist (List.sublist_append_left ..)) fun o ho' => ho o (List.mem_append_left _ ho')
          obtain ⟨d2, V2, e2, h2, g2⟩ := take (h := false) (m := (c.length : Int) + 1) ln hE1.pile (by omega) (by omega)
          have hg2 := g2.old hjk hg1
          have small : sizeLine = 16777216 := by decide
          refine ⟨[some (.hdl k), od, sh, y, some (.hdl j), some (.str o)], V2.set j (.lst (strsD (c.take d2 ++ o :: c.drop d2))), .inl ?_, c.take d2 ++ o :: c.drop d2, os, _, rfl, rfl, set_at hg2, ins_nodup hnd, fun z hz => ?_, (hE1.go g2).set hj _, ?_, fun i h1 h2 => ?_⟩
          · have l1 : (strsD c).length = c.length := by simp [strsD]
            have l2 : (d2 : Int) < 9223372036854775808 := by omega
            have l3 : c.length < 16777216 := by omega
            simp [l__law_schema_1, runB, startE, fSeq, fNil, fIf, fRet, fRetN, fDrop, fPass, fAsg, fTg, toD, fName, fC, fVal, fNotT, fAndT, fOrT, fBin, fCons, fNilA, fTup, fLst, fBlt, fIsi, fCall, fIte, fNeg, fNotV, fOrV, fAndV, fMth, fStore, fAug, fSl, fON, fOS, fSrc, fRng, fFor, fLc, wipeE, Ev.setN, e1, opEq, R.py, D.py, PyData.eqv, bLen, asS, asL, hg1, l1, opAdd, e2, mInsert, asH, hg2, small, l2, l3]
            simp [strsD]
          · refine ho z ?_
            have : z ∈ c ∨ z = o ∨ z ∈ os := by
              rcases List.mem_append.mp hz with q | q
              · rcases List.mem_append.mp q with q | q
                · exact .inl (List.mem_of_mem_take q)
                · rcases List.mem_cons.mp q with q | q
                  · exact .inr (.inl q)
                  · exact .inl (List.mem_of_mem_drop q)
              · exact .inr (.inr q)
            simpa using this
          · rw [List.length_set, g2.len, g1.len, hl]
          · rw [List.getElem?_set_ne (fun e => h1 e.symm), g2.get h2, g1.get h2, hf i h1 h2]
        · have hd0 : d1 = 0 := by omega
          subst hd0
          refine ⟨[some (.hdl k), od, sh, y, some (.hdl j), some (.str o)], V1, .inl ?_, c, os, _, rfl, rfl, hg1, ?_, fun z hz => ho z ?_, hE1, by rw [g1.len, hl], fun i h1 h2 => by rw [g1.get h2, hf i h1 h2]⟩
          · simp [l__law_schema_1, runB, startE, fSeq, fNil, fIf, fRet, fRetN, fDrop, fPass, fAsg, fTg, toD, fName, fC, fVal, fNotT, fAndT, fOrT, fBin, fCons, fNilA, fTup, fLst, fBlt, fIsi, fCall, fIte, fNeg, fNotV, fOrV, fAndV, fMth, fStore, fAug, fSl, fON, fOS, fSrc, fRng, fFor, fLc, wipeE, Ev.setN, e1, opEq, R.py, D.py, PyData.eqv]
          · exact hnd.sublist ((List.sublist_cons_self o os).append_left c)
          · simp at hz ⊢
            rcases hz with q | q
            · exact .inl q
            · exact .inr (.inr q)) l ρ V h0
  have eo : os = [] := by cases os with | nil => rfl | cons _ _ => cases el
  subst eo
  refine ⟨_, V', e, c, x, rfl, hg, by simpa using hn, by simpa using ho, hE', hl, hf⟩
theorem sch_one {V V1 : Wd} {x : Option D} {ords : List D} {sh : Nat} {d : D} {z x1 : Option D} {S c : List D} {ps : List PyData} (e1 : forL yes (.one 5) (l__law_schema_1 false (ev n)) ords [some (.hdl k), some (.lst ords), some (.hdl sh), some d, some (.hdl V.length), z] (V ++ [.lst []]) = some (.nx [some (.hdl k), some (.lst ords), some (.hdl sh), some d, some (.hdl V.length), x1] V1))
    (hc : V1[V.length]? = some (.lst c)) (pc : mapO (D.py V1 59) c = some ps) (hp : PyData.eqvAll ps [] = false) (hg : V1[sh]? = some (.lst S)) (hl : S.length < sizeLine) :
    l__law_schema_2 false (ev n) [some (.hdl k), some (.lst ords), some (.hdl sh), some d, x, z] V = some (.nx [some (.hdl k), some (.lst ords), some (.hdl sh), some d, some (.hdl V.length), x1] (V1.set sh (.lst (S ++ [.tup c])))) := by
  simp [l__law_schema_2, runB, startE, fSeq, fNil, fIf, fRet, fRetN, fDrop, fPass, fAsg, fTg, toD, fName, fC, fVal, fNotT, fAndT, fOrT, fBin, fCons, fNilA, fTup, fLst, fBlt, fIsi, fCall, fIte, fNeg, fNotV, fOrV, fAndV, fMth, fStore, fAug, fSl, fON, fOS, fSrc, fRng, fFor, fLc, wipeE, Ev.setN, srcOf, e1, opEq, R.py, D.py, PyData.eqv, hc, pc, hp, mapO, bTuple, asS, asL, mAppend, asH, hg, hl]
theorem sch_two {V V1 V4 : Wd} {x : Option D} {ords : List D} {sh : Nat} {d o : D} {z x1 : Option D} {S : List D} {d4 : Nat} (e1 : forL yes (.one 5) (l__law_schema_1 false (ev n)) ords [some (.hdl k), some (.lst ords), some (.hdl sh), some d, some (.hdl V.length), z] (V ++ [.lst []]) = some (.nx [some (.hdl k), some (.lst ords), some (.hdl sh), some d, some (.hdl V.length), x1] V1))
    (hc : V1[V.length]? = some (.lst [])) (e4 : ev n i__law_take false [.hdl k, .int 4] V1 = some (.d (.int d4), V4)) (e6 : ords[d4]? = some o) (hg : (V4 ++ [Cell.lst [o]])[sh]? = some (.lst S)) (hl : S.length < sizeLine) :
    l__law_schema_2 false (ev n) [some (.hdl k), some (.lst ords), some (.hdl sh), some d, x, z] V = some (.nx [some (.hdl k), some (.lst ords), some (.hdl sh), some d, some (.hdl V4.length), x1] ((V4 ++ [Cell.lst [o]]).set sh (.lst (S ++ [.tup [o]])))) := by
  have hg5 : (V4 ++ [Cell.lst [o]])[V4.length]? = some (.lst [o]) := push_at _ _
  simp [l__law_schema_2, runB, startE, fSeq, fNil, fIf, fRet, fRetN, fDrop, fPass, fAsg, fTg, toD, fName, fC, fVal, fNotT, fAndT, fOrT, fBin, fCons, fNilA, fTup, fLst, fBlt, fIsi, fCall, fIte, fNeg, fNotV, fOrV, fAndV, fMth, fStore, fAug, fSl, fON, fOS, fSrc, fRng, fFor, fLc, wipeE, Ev.setN, srcOf, e1, opEq, R.py, D.py, PyData.eqv, PyData.eqvAll, hc, mapO, e4, opIx, asS, asL, atI_cast, e6, bTuple, hg5, mAppend, asH, hg, hl]
theorem sch_outer (ln : 1 ≤ n) (m : Nat) (hm : m ≤ 6) : ∀ (l : List D) (ρ : En) (V : Wd), (∃ (S : List (List Str)) (y x z : Option D), ρ = [some (.hdl k), some (.lst (strsD ORD)), some (.hdl W.length), y, x, z] ∧ l.length + S.length = m ∧ V[W.length]? = some (.lst (S.map colD)) ∧ (∀ c ∈ S, GoodCol c) ∧ Ex k W V) →
    ∃ (ρ' : En) (V' : Wd), forL yes (.one 3) (l__law_schema_2 false (ev n)) l ρ V = some (.nx ρ' V') ∧ ∃ (S : List (List Str)) (y x z : Option D), ρ' = [some (.hdl k), some (.lst (strsD ORD)), some (.hdl W.length), y, x, z] ∧ S.length = m ∧ V'[W.length]? = some (.lst (S.map colD)) ∧ (∀ c ∈ S, GoodCol c) ∧ Ex k W V' := by
  intro l ρ V h0
  have small : sizeLine = 16777216 := by decide
  obtain ⟨ρ', V', e3, S, y, x, z, hρ, hi, hg, hS, hE⟩ := forL_inv (b := l__law_schema_2 false (ev n)) (t := .one 3) (chk := yes)
    (fun l ρ V => ∃ (S : List (List Str)) (y x z : Option D), ρ = [some (.hdl k), some (.lst (strsD ORD)), some (.hdl W.length), y, x, z] ∧ l.length + S.length = m ∧ V[W.length]? = some (.lst (S.map colD)) ∧ (∀ c ∈ S, GoodCol c) ∧ Ex k W V)
    (fun _ _ _ _ => rfl) (fun d l ρ V ⟨S, y, x, z, eρ, hl, hg, hS, hE⟩ => by
      subst eρ
      rw [List.length_cons] at hl
      refine ⟨_, rfl, ?_⟩
      have hk := hE.kl
      have hle := hE.le
      have hVlt := getElem_lt hg
      have hE1 := hE.push (.lst [])
      obtain ⟨ρ1, V1, e1, c, x1, rfl, hc, hcn, hco, hE2, hl1, hf1⟩ := sch_inner (n := n) (k := k) (W := W) ln (j := V.length) (V ++ [.lst []]) (some (.hdl W.length)) (some d) (some (.lst (strsD ORD))) hE1 (by omega) (strsD ORD) [some (.hdl k), some (.lst (strsD ORD)), some (.hdl W.length), some d, some (.hdl V.length), z] (V ++ [.lst []])
        ⟨[], ORD, z, rfl, rfl, push_at _ _, by decide +kernel, fun o ho => ho, hE1, rfl, fun _ _ _ => rfl⟩
      have hg1 : V1[W.length]? = some (.lst (S.map colD)) := by
        rw [hf1 _ (by omega) (by omega)]
        exact push_old hg
      have l2 : (S.map colD).length < sizeLine := by rw [List.length_map, small]; omega
      by_cases hce : c = []
      · subst hce
        obtain ⟨d4, V4, e4, h4, g4⟩ := take (h := false) (m := 4) ln hE2.pile (by decide) (by decide)
        obtain ⟨o, ho, e5⟩ := pick D.str (xs := ORD) (d := d4) (by simp [ORD]; omega)
        have hg4 : (V4 ++ [Cell.lst [.str o]])[W.length]? = some (.lst (S.map colD)) := push_old (g4.old (by omega) hg1)
        refine ⟨_, _, .inl (sch_two e1 hc e4 e5 hg4 l2), S ++ [[o]], _, _, _, rfl, by simp; omega, ?_, fun c hc => ?_, ((hE2.go g4).push _).set (Nat.le_refl _) _⟩
        · rw [set_at hg4, List.map_append]; rfl
        · rcases List.mem_append.mp hc with q | q
          · exact hS c q
          · rw [List.mem_singleton.mp q]
            exact ⟨by simp, by simp, fun z hz => by rw [List.mem_singleton.mp hz]; exact ho⟩
      · have hne : PyData.eqvAll (c.map PyData.str) [] = false := by cases c with | nil => exact absurd rfl hce | cons _ _ => rfl
        refine ⟨_, _, .inl (sch_one e1 hc (py_strs hco) hne hg1 l2), S ++ [c], _, _, _, rfl, by simp; omega, ?_, fun c' hc' => ?_, hE2.set (Nat.le_refl _) _⟩
        · rw [set_at hg1, List.map_append]; rfl
        · rcases List.mem_append.mp hc' with q | q
          · exact hS c' q
          · rw [List.mem_singleton.mp q]
            exact ⟨hce, hcn, hco⟩) l ρ V h0
  exact ⟨ρ', V', e3, S, y, x, z, hρ, by simpa using hi, hg, hS, hE⟩
theorem sch_ords {ρ : En} {V : Wd} : fLst (fCons false (fC (.str "up first")) (fCons false (fC (.str "up last")) (fCons false (fC (.str "down first")) (fCons false (fC (.str "down last")) (fNilA))))) ρ V = some (.fr (strsD ORD), V) := rfl
theorem sch_nums {ρ : En} {V : Wd} : fLst (fCons false (fC (.int 1)) (fCons false (fC (.int 2)) (fCons false (fC (.int 2)) (fCons false (fC (.int 3)) (fCons false (fC (.int 3)) (fCons false (fC (.int 4)) (fCons false (fC (.int 5)) (fCons false (fC (.int 6)) (fNilA))))))))) ρ V = some (.fr (([1, 2, 2, 3, 3, 4, 5, 6] : List Nat).map fun i : Nat => D.int (i : Int)), V) := rfl
theorem schema (hn : 2 ≤ n) (hP : PileAt W k) : ∃ (S : List (List Str)) (W' : Wd), ev n i__law_schema false [.hdl k] W = some (.fr (S.map colD), W') ∧ GoodSch S ∧ Go k W W' := by
  obtain ⟨n, rfl, ln⟩ := lv hn
  rw [e__law_schema]
  obtain ⟨d1, W1, e1, h1, g1⟩ := take (h := false) (m := 8) ln (hP.app [.lst []]) (by decide) (by decide)
  obtain ⟨m, hm, e2⟩ := pick (fun i : Nat => D.int (i : Int)) (xs := [1, 2, 2, 3, 3, 4, 5, 6]) (d := d1) (by simp; omega)
  have hm' : 1 ≤ m ∧ m ≤ 6 := by simp at hm; omega
  have hE0 : Ex k W (W ++ [.lst []]) := hP.ex.push _
  have hk := hE0.kl
  obtain ⟨ρ', V', e3, S, y, x, z, rfl, hi, hg, hS, hE⟩ := sch_outer (n := n) (k := k) (W := W) ln m hm'.2 (rngL 0 1 m) [some (.hdl k), some (.lst (strsD ORD)), some (.hdl W.length), none, none, none] W1
    ⟨[], none, none, none, rfl, by simp [rngL], g1.old (by omega) (push_at _ _), fun c hc => (by simp at hc), hE0.go g1⟩
  obtain ⟨W2, e4, g2⟩ := hE.fin_hdl (Nat.le_refl _) hg (pure_sch S)
  refine ⟨S, W2, ?_, ⟨fun e => ?_, by omega, hS⟩, g2⟩
  · refine runB_rt (r := .d (.hdl W.length)) (W' := V') ?_ e4
    unfold g__law_schema
    refine fSeq_nx (ρ' := [some (.hdl k), some (.lst (strsD ORD)), none, none, none, none]) (W' := W) ?_ (fSeq_nx (ρ' := [some (.hdl k), some (.lst (strsD ORD)), some (.hdl W.length), none, none, none]) (W' := W ++ [.lst []]) ?_ (fSeq_nx (fFor_nx (src := ⟨rngL 0 1 m, yes⟩) (W1 := W1) ?_ e3) ?_))
    · unfold fAsg
      rw [sch_ords]
      rfl
    · rfl
    · generalize hB : fLst (fCons false (fC (.int 1)) _) = B
      have eB : ∀ ρ V, B ρ V = some (.fr (([1, 2, 2, 3, 3, 4, 5, 6] : List Nat).map fun i : Nat => D.int (i : Int)), V) := fun ρ V => by rw [← hB]; exact sch_nums
      generalize (([1, 2, 2, 3, 3, 4, 5, 6] : List Nat).map fun i : Nat => D.int (i : Int)) = L at eB e2
      have a1 : fCall (ev n i__law_take false) (fCons false (fName 0) (fCons false (fC (.int 8)) fNilA)) [some (.hdl k), some (.lst (strsD ORD)), some (.hdl W.length), none, none, none] (W ++ [Cell.lst []]) = some (.d (.int d1), W1) := by simp [runB, startE, fSeq, fNil, fIf, fRet, fRetN, fDrop, fPass, fAsg, fTg, toD, fName, fC, fVal, fNotT, fAndT, fOrT, fBin, fCons, fNilA, fTup, fLst, fBlt, fIsi, fCall, fIte, fNeg, fNotV, fOrV, fAndV, fMth, fStore, fAug, fSl, fON, fOS, fSrc, fRng, fFor, fLc, wipeE, Ev.setN, e1]
      have a2 : opIx W1 (.fr L) (.d (.int d1)) = some (.d (.int m)) := by simp [opIx, asS, asL, atI_cast, e2]
      have a3 : fBin opIx B (fCall (ev n i__law_take false) (fCons false (fName 0) (fCons false (fC (.int 8)) fNilA))) [some (.hdl k), some (.lst (strsD ORD)), some (.hdl W.length), none, none, none] (W ++ [Cell.lst []]) = some (.d (.int m), W1) := by
        unfold fBin
        rw [eB, Option.bind_some, a1, Option.bind_some, a2]
        rfl
      exact fRng1_nat a3 (by omega)
    · rfl
  · subst e
    simp at hi
    omega
end
end K06

set_option Elab.async false
set_option linter.all false
set_option maxRecDepth 100000
namespace K06
open PySem L2 Ev
section
variable {n k : Nat} {W : Wd} {h : Bool}
theorem small : sizeLine = 16777216 := by decide

/-! ### a drawn order, a drawn flat rule -/
def natsD (cs : List Nat) : List D := cs.map fun c : Nat => D.int (c : Int)
theorem natsD_len (cs : List Nat) : (natsD cs).length = cs.length := by simp [natsD]
theorem pure_nats (cs : List Nat) : pureA (natsD cs) = true := pureA_all fun x hx => by obtain ⟨v, _, rfl⟩ := List.mem_map.mp hx; simp [pureD]
theorem ins_perm {α : Type} (c : List α) (o : α) (d : Nat) : (c.take d ++ o :: c.drop d).Perm (o :: c) := by
  have := List.perm_middle (a := o) (l₁ := c.take d) (l₂ := c.drop d)
  rwa [List.take_append_drop] at this
theorem nodup_le {cs : List Nat} {m : Nat} (h : cs.Nodup) (hl : ∀ c ∈ cs, c < m) : cs.length ≤ m := by
  have := List.Nodup.length_le_of_subset h (l₂ := List.range m) fun c hc => List.mem_range.mpr (hl c hc)
  simpa using this
theorem oo_body {j d2 i : Nat} {V V2 : Wd} {cs : List Nat} {m : Int} (hj : V[j]? = some (.lst (natsD cs))) (hjk : j ≠ k) (e : ev n i__law_take false [.hdl k, .int ((i : Int) + 1)] V = some (.d (.int (d2 : Int)), V2)) (g : Go k V V2) (hd : d2 < 1000) (hl : cs.length < 1000) :
    l__law_order_of_1 h (ev n) [some (.hdl k), some (.int m), some (.hdl j), some (.int (i : Int))] V = some (.nx [some (.hdl k), some (.int m), some (.hdl j), some (.int (i : Int))] (V2.set j (.lst (natsD (cs.take d2 ++ i :: cs.drop d2))))) := by
  have hj2 := g.old hjk hj
  have l1 : (natsD cs).length < 16777216 := by rw [natsD_len]; omega
  have l2 : (d2 : Int) < 9223372036854775808 := by omega
  have l3 : cs.length < 16777216 := by omega
  simp [l__law_order_of_1, runB, startE, fSeq, fNil, fIf, fRet, fRetN, fDrop, fPass, fAsg, fTg, toD, fName, fC, fVal, fNotT, fAndT, fOrT, fBin, fCons, fNilA, fTup, fLst, fBlt, fIsi, fCall, fIte, fNeg, fNotV, fOrV, fAndV, fMth, fStore, fAug, fSl, fON, fOS, fSrc, fRng, fFor, fLc, wipeE, Ev.setN, opAdd, e, mInsert, asH, asL, asS, hj, hj2, natsD_len, small, l2, l3]
  simp [natsD]
theorem order_of (hn : 2 ≤ n) (hP : PileAt W k) (m : Nat) (hm : m ≤ 900) : ∃ (cs : List Nat) (W' : Wd), ev n i__law_order_of false [.hdl k, .int m] W = some (.fr (natsD cs), W') ∧ cs.Nodup ∧ (∀ c ∈ cs, c < m) ∧ cs.length = m ∧ Go k W W' := by
  obtain ⟨n, rfl, ln⟩ := lv hn
  rw [e__law_order_of]
  have hE0 : Ex k W (W ++ [.lst []]) := hP.ex.push _
  have hk := hE0.kl
  obtain ⟨ρ', V', e3, i, cs, x, rfl, el, hi, hg, hnd, hlt, hlen, hE⟩ := forL_inv (b := l__law_order_of_1 false (ev n)) (t := .one 3) (chk := yes)
    (fun l ρ V => ∃ (i : Nat) (cs : List Nat) (x : Option D), ρ = [some (.hdl k), some (.int m), some (.hdl W.length), x] ∧ l = (rngL 0 1 m).drop i ∧ i ≤ m ∧ V[W.length]? = some (.lst (natsD cs)) ∧ cs.Nodup ∧ (∀ c ∈ cs, c < i) ∧ cs.length = i ∧ Ex k W V)
    (fun _ _ _ _ => rfl) (fun d r ρ V ⟨i, cs, x, eρ, el, hi, hg, hnd, hlt, hlen, hE⟩ => by
      subst eρ
      obtain ⟨hi, rfl, er⟩ := rng_cons el
      obtain ⟨d2, V2, e2, h2, g2⟩ := take (h := false) (m := (i : Int) + 1) ln hE.pile (by omega) (by omega)
      have p := ins_perm cs i d2
      refine ⟨_, rfl, _, _, .inl (oo_body hg (by omega) e2 g2 (by omega) (by omega)), i + 1, cs.take d2 ++ i :: cs.drop d2, _, rfl, er, hi, set_at (g2.old (by omega) hg), ?_, fun c hc => ?_, ?_, (hE.go g2).set (Nat.le_refl _) _⟩
      · exact p.nodup_iff.mpr (List.nodup_cons.mpr ⟨fun hm => by have := hlt i hm; omega, hnd⟩)
      · rcases List.mem_cons.mp (p.mem_iff.mp hc) with q | q
        · omega
        · have := hlt c q; omega
      · rw [p.length_eq, List.length_cons, hlen]) (rngL 0 1 m) [some (.hdl k), some (.int m), some (.hdl W.length), none] (W ++ [.lst []])
    ⟨0, [], none, rfl, rfl, Nat.zero_le _, push_at _ _, by simp, by simp, rfl, hE0⟩
  have ei := rng_end el hi
  subst ei
  obtain ⟨W2, e4, g2⟩ := hE.fin_hdl (Nat.le_refl _) hg (pure_nats cs)
  refine ⟨cs, W2, ?_, hnd, hlt, hlen, g2⟩
  refine runB_rt (r := .d (.hdl W.length)) (W' := V') ?_ e4
  unfold g__law_order_of
  refine fSeq_nx (ρ' := [some (.hdl k), some (.int i), some (.hdl W.length), none]) (W' := W ++ [.lst []]) rfl (fSeq_nx (fFor_nx (src := ⟨rngL 0 1 i, yes⟩) (W1 := W ++ [.lst []]) (fRng1_nat rfl (by omega)) e3) rfl)

def flatD (fl : List (Nat × Str)) : List D := fl.map fun p => .tup [.int (p.1 : Int), .str p.2]
def GoodFlat (S : List (List Str)) (fl : List (Nat × Str)) : Prop := (fl.map (·.1)).Nodup ∧ ∀ p ∈ fl, ∃ c, S[p.1]? = some c ∧ p.2 ∈ c
theorem pure_flat (fl : List (Nat × Str)) : pureA (flatD fl) = true := pureA_all fun x hx => by obtain ⟨v, _, rfl⟩ := List.mem_map.mp hx; simp [pureD, pureA]
theorem colD_len (c : List Str) : (strsD c).length = c.length := by simp [strsD]
theorem fl_elt {c : Nat} {V V1 : Wd} {S : List (List Str)} {col : List Str} {o : Str} {x : Option D} {d1 : Nat} (hc : S[c]? = some col) (e1 : ev n i__law_take false [.hdl k, .int col.length] V = some (.d (.int (d1 : Int)), V1)) (ho : col[d1]? = some o) :
    x__law_flat_1 h (ev n) [some (.hdl k), some (.lst (S.map colD)), x, some (.int (c : Int))] V = some (.d (.tup [.int (c : Int), .str o]), V1) := by
  have ho2 : (strsD col)[d1]? = some (.str o) := by unfold strsD; rw [List.getElem?_map, ho]; rfl
  simp [x__law_flat_1, runB, startE, fSeq, fNil, fIf, fRet, fRetN, fDrop, fPass, fAsg, fTg, toD, fName, fC, fVal, fNotT, fAndT, fOrT, fBin, fCons, fNilA, fTup, fLst, fBlt, fIsi, fCall, fIte, fNeg, fNotV, fOrV, fAndV, fMth, fStore, fAug, fSl, fON, fOS, fSrc, fRng, fFor, fLc, wipeE, Ev.setN, opIx, asS, asL, atI_cast, hc, colD, bLen, colD_len, e1, ho2]
theorem flat (hn : 3 ≤ n) (hP : PileAt W k) {S : List (List Str)} (hS : GoodSch S) : ∃ (fl : List (Nat × Str)) (W' : Wd), ev n i__law_flat false [.hdl k, .lst (S.map colD)] W = some (.fr (flatD fl), W') ∧ GoodFlat S fl ∧ Go k W W' := by
  obtain ⟨n, rfl, ln⟩ := lv hn
  rw [e__law_flat]
  obtain ⟨hS1, hS2, hS3⟩ := hS
  obtain ⟨cs, W1, e1, hnd, hlt, hlen, g1⟩ := order_of (n := n) ln hP S.length (by omega)
  obtain ⟨d, W2, e2, h2, g2⟩ := take (n := n) (h := false) (m := (S.length : Int) + 1) (by omega) g1.pile (by omega) (by omega)
  have g12 := g1.trans g2
  obtain ⟨ys, W', e3, fl, rfl, hl, hmem, g3⟩ := lcL_inv (al := false) (chk := yes) (t := .one 3) (c := fYes) (f := x__law_flat_1 false (ev n)) (ρ := [some (.hdl k), some (.lst (S.map colD)), some (.lst (natsD (cs.take d))), none])
    (fun l V acc => ∃ fl : List (Nat × Str), acc = flatD fl ∧ natsD (cs.take d) = natsD (fl.map (·.1)) ++ l ∧ (∀ p ∈ fl, ∃ c, S[p.1]? = some c ∧ p.2 ∈ c) ∧ Go k W V) (fun _ _ _ _ => rfl)
    (fun x l V acc ⟨fl, ea, hl, hmem, g⟩ => by
      have lens : (natsD (cs.take d)).length ≤ 6 := by rw [natsD_len, List.length_take]; omega
      have hlen2 := congrArg List.length hl
      rw [List.length_append, natsD_len, natsD_len, List.length_map, List.length_cons, List.length_take] at hlen2
      have hx : x ∈ natsD (cs.take d) := by rw [hl]; exact List.mem_append_right _ List.mem_cons_self
      obtain ⟨c, hc, rfl⟩ := List.mem_map.mp hx
      have hc6 := hlt c (List.mem_of_mem_take hc)
      refine ⟨by rw [ea]; unfold flatD; rw [List.length_map, small]; omega, _, rfl, true, V, rfl, .inl ⟨rfl, ?_⟩⟩
      have hcol := List.getElem?_eq_getElem hc6
      have gc := hS3 S[c] (List.getElem_mem hc6)
      have lc := List.length_pos_iff.mpr gc.1
      have lc4 := col_len gc.2.1 gc.2.2
      obtain ⟨d1, V1, e1, hd1, g1⟩ := take (n := n) (h := false) (m := ((S[c]).length : Int)) (by omega) g.pile (by omega) (by omega)
      have ho := List.getElem?_eq_getElem (l := S[c]) (i := d1) (by omega)
      refine ⟨.d (.tup [.int (c : Int), .str (S[c])[d1]]), V1, fl_elt hcol e1 ho, fl ++ [(c, (S[c])[d1])], ?_, ?_, fun p hp => ?_, g.trans g1⟩
      · rw [ea]; simp [flatD, toD]
      · rw [hl]; simp [natsD]
      · rcases List.mem_append.mp hp with q | q
        · exact hmem p q
        · rw [List.mem_singleton.mp q]
          exact ⟨S[c], hcol, List.getElem_mem _⟩) (natsD (cs.take d)) W2 [] ⟨[], rfl, by simp [natsD], by simp, g12⟩
  have efl : cs.take d = fl.map (·.1) := by
    have q : natsD (cs.take d) = natsD (fl.map (·.1)) := by simpa using hl
    refine List.ext_getElem? fun i => ?_
    have q2 := congrArg (fun z : List D => z[i]?) q
    simp only [natsD, List.getElem?_map] at q2
    cases a : (cs.take d)[i]? with
    | none => rw [a] at q2; cases b : (fl.map (·.1))[i]? with
      | none => rfl
      | some y => rw [List.getElem?_map] at b; rw [b] at q2; simp at q2
    | some x => rw [a] at q2; cases b : (fl.map (·.1))[i]? with
      | none => rw [List.getElem?_map] at b; rw [b] at q2; simp at q2
      | some y =>
        rw [List.getElem?_map] at b; rw [b] at q2
        simp at q2
        rw [Int.ofNat_inj.mp q2]
  refine ⟨fl, W', ?_, ⟨by rw [← efl]; exact hnd.sublist (List.take_sublist _ _), hmem⟩, g3⟩
  have hcut : cutD (natsD cs) none (some (d : Int)) = natsD (cs.take d) := by
    rw [cut_take _ _ (by rw [natsD_len]; omega)]
    simp [natsD]
  have l1 : (S.map colD).length = S.length := by simp
  simp [runB, startE, fSeq, fNil, fIf, fRet, fRetN, fDrop, fPass, fAsg, fTg, toD, fName, fC, fVal, fNotT, fAndT, fOrT, fBin, fCons, fNilA, fTup, fLst, fBlt, fIsi, fCall, fIte, fNeg, fNotV, fOrV, fAndV, fMth, fStore, fAug, fSl, fON, fOS, fSrc, fRng, fFor, fLc, wipeE, Ev.setN, g__law_flat, bLen, asS, asL, e1, opAdd, e2, opSl, hcut, srcOf, e3, fin_same g3.len]
end
end K06

set_option Elab.async false
set_option linter.all false
set_option maxRecDepth 100000
namespace K06
open PySem L2 Ev

/-! ### trees -/
inductive T where
  | nil
  | node (c : Nat) (o : Str) (bs : List (Option Int × T)) (t : T)
abbrev Br := Option Int × T
theorem T.ind {P : T → Prop} (h0 : P .nil) (h1 : ∀ c o bs t, (∀ b ∈ bs, P b.2) → P t → P (.node c o bs t)) : ∀ t, P t := by
  intro t
  refine T.rec (motive_1 := P) (motive_2 := fun bs => ∀ b ∈ bs, P b.2) (motive_3 := fun b => P b.2) h0 (fun c o bs t ih1 ih2 => h1 c o bs t ih1 ih2) (fun b hb => nomatch hb) (fun b bs ih1 ih2 x hx => ?_) (fun v t ih => ih) t
  rcases List.mem_cons.mp hx with q | q
  · rw [q]; exact ih1
  · exact ih2 x q
/-! as data -/
mutual
def T.d : T → D
  | .nil => .non
  | .node c o bs t => .tup [.int (c : Int), .str o, .lst (T.ds bs), t.d]
def T.ds : List Br → List D
  | [] => []
  | (v, b) :: r => .tup [valD v, b.d] :: T.ds r
end
def vpy : Option Int → PyData
  | none => .none
  | some i => .int i
mutual
def T.py : T → PyData
  | .nil => .none
  | .node c o bs t => .tuple [.int (c : Int), .str o, .list (T.pys bs), t.py]
def T.pys : List Br → List PyData
  | [] => []
  | (v, b) :: r => .tuple [vpy v, b.py] :: T.pys r
end
mutual
def T.dep : T → Nat
  | .nil => 0
  | .node _ _ bs t => 1 + max (T.deps bs) t.dep
def T.deps : List Br → Nat
  | [] => 0
  | (_, b) :: r => max b.dep (T.deps r)
end
theorem deps_mem : ∀ {bs : List Br} {b : Br}, b ∈ bs → b.2.dep ≤ T.deps bs
  | (v, t) :: r, b, h => by
    rcases List.mem_cons.mp h with q | q
    · rw [q, T.deps]; exact Nat.le_max_left _ _
    · have := deps_mem q
      rw [T.deps]; omega
/-! the same tree, as == sees it -/
theorem pys_cons (v : Option Int) (b : T) (r : List Br) : T.pys ((v, b) :: r) = .tuple [vpy v, b.py] :: T.pys r := by
  rw [T.pys]
theorem vpy_eq (v u : Option Int) : PyData.eqv (vpy v) (vpy u) = decide (v = u) := by
  cases v <;> cases u <;> simp [vpy, PyData.eqv]
  exact Bool.beq_eq_decide_eq _ _
theorem py_eq : ∀ t s : T, PyData.eqv t.py s.py = true ↔ t = s := by
  intro t
  refine T.ind (P := fun t => ∀ s : T, PyData.eqv t.py s.py = true ↔ t = s) ?_ ?_ t
  · intro s
    cases s with
    | nil => simp [T.py, PyData.eqv]
    | node => simp [T.py, PyData.eqv]
  · intro c o bs t ihb iht s
    cases s with
    | nil => simp [T.py, PyData.eqv]
    | node c' o' bs' t' =>
      have hb : ∀ (xs : List Br), (∀ b ∈ xs, ∀ s : T, PyData.eqv b.2.py s.py = true ↔ b.2 = s) → ∀ ys : List Br, PyData.eqvAll (T.pys xs) (T.pys ys) = true ↔ xs = ys := by
        intro xs
        induction xs with
        | nil => intro _ ys; cases ys with
          | nil => simp [T.pys, PyData.eqvAll]
          | cons y ys => obtain ⟨v, b⟩ := y; rw [pys_cons]; simp [T.pys, PyData.eqvAll]
        | cons x xs ih =>
          intro hx ys
          obtain ⟨v, b⟩ := x
          cases ys with
          | nil => rw [pys_cons]; simp [T.pys, PyData.eqvAll]
          | cons y ys =>
            obtain ⟨u, a⟩ := y
            rw [pys_cons, pys_cons]
            have h1 := hx (v, b) List.mem_cons_self a
            have h2 := ih (fun z hz => hx z (List.mem_cons_of_mem _ hz)) ys
            simp only at h1
            simp [PyData.eqvAll, PyData.eqv, vpy_eq, h1, h2]
      have h2 := hb bs ihb bs'
      have h3 := iht t'
      have e1 : ((c : Int) == (c' : Int)) = decide (c = c') := by
        rw [Bool.beq_eq_decide_eq]; exact decide_eq_decide.mpr Int.ofNat_inj
      simp [T.py, PyData.eqv, PyData.eqvAll, h2, h3, e1]

/-! ### a tree in the cells -/
mutual
def Tr (W : Wd) : T → D → Prop
  | .nil, d => d = .non
  | .node c o bs t, d => ∃ L d' xs, d = .tup [.int (c : Int), .str o, L, d'] ∧ asL W (.d L) = some xs ∧ TrB W bs xs ∧ Tr W t d'
def TrB (W : Wd) : List Br → List D → Prop
  | [], xs => xs = []
  | (v, b) :: r, xs => ∃ d ys, xs = .tup [valD v, d] :: ys ∧ Tr W b d ∧ TrB W r ys
end
theorem tr_nil {W : Wd} {d : D} : Tr W .nil d ↔ d = .non := by simp only [Tr]
theorem tr_node {W : Wd} {c : Nat} {o : Str} {bs : List Br} {t : T} {d : D} : Tr W (.node c o bs t) d ↔ ∃ L d' xs, d = .tup [.int (c : Int), .str o, L, d'] ∧ asL W (.d L) = some xs ∧ TrB W bs xs ∧ Tr W t d' := by simp only [Tr]
theorem trb_nil {W : Wd} {xs : List D} : TrB W [] xs ↔ xs = [] := by simp only [TrB]
theorem trb_cons {W : Wd} {v : Option Int} {b : T} {r : List Br} {xs : List D} : TrB W ((v, b) :: r) xs ↔ ∃ d ys, xs = .tup [valD v, d] :: ys ∧ Tr W b d ∧ TrB W r ys := by simp only [TrB]
theorem asL_mono {W W' : Wd} (hw : ∀ (j : Nat) (c : Cell), W[j]? = some c → W'[j]? = some c) {L : D} {xs : List D} (h : asL W (.d L) = some xs) : asL W' (.d L) = some xs := by
  cases L with
  | hdl j =>
    have h : (W[j]?).map _ = some xs := h
    cases e : W[j]? with
    | none => rw [e] at h; cases h
    | some c =>
      rw [e] at h
      show (W'[j]?).map _ = some xs
      rw [hw j c e]; exact h
  | _ => exact h
theorem trB_of {W W' : Wd} : ∀ {bs : List Br} {xs : List D}, (∀ b ∈ bs, ∀ d, Tr W b.2 d → Tr W' b.2 d) → TrB W bs xs → TrB W' bs xs
  | [], xs, _, h => trb_nil.mpr (trb_nil.mp h)
  | (v, b) :: r, xs, hb, h => by
    obtain ⟨d, ys, e, h1, h2⟩ := trb_cons.mp h
    exact trb_cons.mpr ⟨d, ys, e, hb (v, b) List.mem_cons_self d h1, trB_of (fun x hx => hb x (List.mem_cons_of_mem _ hx)) h2⟩
theorem tr_mono {W W' : Wd} (hw : ∀ (j : Nat) (c : Cell), W[j]? = some c → W'[j]? = some c) : ∀ (t : T) (d : D), Tr W t d → Tr W' t d := by
  intro t
  refine T.ind (P := fun t => ∀ d, Tr W t d → Tr W' t d) (fun d h => tr_nil.mpr (tr_nil.mp h)) (fun c o bs t ihb iht d h => ?_) t
  obtain ⟨L, d', xs, e, h1, h2, h3⟩ := tr_node.mp h
  exact tr_node.mpr ⟨L, d', xs, e, asL_mono hw h1, trB_of ihb h2, iht d' h3⟩
theorem trb_mono {W W' : Wd} (hw : ∀ (j : Nat) (c : Cell), W[j]? = some c → W'[j]? = some c) {bs : List Br} {xs : List D} (h : TrB W bs xs) : TrB W' bs xs := trB_of (fun b _ d q => tr_mono hw b.2 d q) h
theorem trB_d {W : Wd} : ∀ {bs : List Br}, (∀ b ∈ bs, Tr W b.2 b.2.d) → TrB W bs (T.ds bs)
  | [], _ => by rw [T.ds]; exact trb_nil.mpr rfl
  | (v, b) :: r, h => by
    rw [T.ds]
    exact trb_cons.mpr ⟨_, _, rfl, h (v, b) List.mem_cons_self, trB_d fun x hx => h x (List.mem_cons_of_mem _ hx)⟩
theorem tr_d {W : Wd} : ∀ t : T, Tr W t t.d := by
  intro t
  refine T.ind (P := fun t => Tr W t t.d) (by rw [T.d]; exact tr_nil.mpr rfl) (fun c o bs t ihb iht => ?_) t
  rw [T.d]
  exact tr_node.mpr ⟨_, _, _, rfl, rfl, trB_d ihb, iht⟩
theorem pure_ds : ∀ {bs : List Br}, (∀ b ∈ bs, pureD b.2.d = true) → pureA (T.ds bs) = true
  | [], _ => by rw [T.ds]; simp [pureA]
  | (v, b) :: r, h => by
    have h1 := h (v, b) List.mem_cons_self
    rw [T.ds]
    simp [pureA, pureD, pure_val, h1, pure_ds fun x hx => h x (List.mem_cons_of_mem _ hx)]
theorem pure_t : ∀ t : T, pureD t.d = true := by
  intro t
  refine T.ind (P := fun t => pureD t.d = true) (by rw [T.d]; simp [pureD]) (fun c o bs t ihb iht => ?_) t
  rw [T.d]
  simp [pureD, pureA, pure_ds ihb, iht]
theorem trB_len {W : Wd} : ∀ {bs : List Br} {xs : List D}, TrB W bs xs → xs.length = bs.length
  | [], xs, h => by rw [trb_nil.mp h]; rfl
  | (v, b) :: r, xs, h => by
    obtain ⟨d, ys, rfl, h1, h2⟩ := trb_cons.mp h
    rw [List.length_cons, List.length_cons, trB_len h2]
theorem trB_mem {W : Wd} : ∀ {bs : List Br} {xs : List D}, TrB W bs xs → ∀ x ∈ xs, ∃ b ∈ bs, ∃ d, x = .tup [valD b.1, d] ∧ Tr W b.2 d
  | [], xs, h, x, hx => by rw [trb_nil.mp h] at hx; cases hx
  | (v, b) :: r, xs, h, x, hx => by
    obtain ⟨d, ys, rfl, h1, h2⟩ := trb_cons.mp h
    rcases List.mem_cons.mp hx with q | q
    · exact ⟨(v, b), List.mem_cons_self, d, q, h1⟩
    · obtain ⟨b', hb, d', e, h3⟩ := trB_mem h2 x q
      exact ⟨b', List.mem_cons_of_mem _ hb, d', e, h3⟩
end K06

set_option Elab.async false
set_option linter.all false
set_option maxRecDepth 100000
namespace K06
open PySem L2 Ev
section
variable {n k : Nat} {W : Wd} {h : Bool}
/-! ### in -/
theorem map_py (V : Wd) (m : Nat) {α : Type} (f : α → D) (g : α → PyData) (hfg : ∀ a, (f a).py V m = some (g a)) : ∀ xs : List α, mapO (D.py V m) (xs.map f) = some (xs.map g)
  | [] => rfl
  | a :: r => by rw [List.map_cons, mapO, hfg, Option.bind_some, map_py V m f g hfg r]; rfl
theorem py_val (V : Wd) (m : Nat) (v : Option Int) : (valD v).py V (m + 1) = some (vpy v) := by cases v <;> simp [valD, D.py, vpy]
theorem any_eq {α : Type} [DecidableEq α] (f : α → PyData) (hf : ∀ a b, PyData.eqv (f a) (f b) = decide (a = b)) (a : α) : ∀ xs : List α, (xs.map f).any (fun z => PyData.eqv z (f a)) = decide (a ∈ xs)
  | [] => by simp
  | x :: r => by
    rw [List.map_cons, List.any_cons, any_eq f hf a r, hf]
    by_cases e : x = a
    · simp [e]
    · have e2 : ¬ a = x := fun q => e q.symm
      simp [e, e2]
theorem nat_eq (a b : Nat) : PyData.eqv (.int (a : Int)) (.int (b : Int)) = decide (a = b) := by
  simp only [PyData.eqv]
  rw [Bool.beq_eq_decide_eq]; exact decide_eq_decide.mpr Int.ofNat_inj
theorem in_nats {g : Bool → Bool} {V : Wd} {c : Nat} {us : List Nat} : opIn g V (.d (.int (c : Int))) (.d (.lst (natsD us))) = some (.d (.bl (g (decide (c ∈ us))))) := by
  have e1 := map_py V 59 (fun c : Nat => D.int (c : Int)) (fun c : Nat => PyData.int (c : Int)) (fun a => by simp [D.py]) us
  have e2 := any_eq (fun c : Nat => PyData.int (c : Int)) nat_eq c us
  have e3 : mapO (D.py V 59) (natsD us) = some (us.map fun c : Nat => PyData.int (c : Int)) := e1
  simp [opIn, asL, R.py, D.py, e3, e2]
theorem in_vals {g : Bool → Bool} {V : Wd} {v : Option Int} {vs : List (Option Int)} {L : R} (hL : asL V L = some (vs.map valD)) (hn : ∀ ys, L ≠ .d (.tup ys)) : opIn g V (.d (valD v)) L = some (.d (.bl (g (decide (v ∈ vs))))) := by
  have e1 := map_py V 59 valD vpy (py_val V 58) vs
  have e2 := any_eq vpy vpy_eq v vs
  have e3 : opIn g V (.d (valD v)) L = (asL V L).bind fun ys => ((R.d (valD v)).py V 60).bind fun p => (mapO (D.py V 59) ys).map fun ps => .d (.bl (g (ps.any fun z => PyData.eqv z p))) := by
    cases L with
    | fr _ => cases v <;> rfl
    | d x => cases x with
      | tup ys => exact absurd rfl (hn ys)
      | _ => cases v <;> rfl
  have e4 : (R.d (valD v)).py V 60 = some (vpy v) := py_val V 59 v
  rw [e3, hL, Option.bind_some, e4, Option.bind_some, e1, Option.map_some, e2]
  exact congrArg (fun b => some (R.d (D.bl (g b)))) (decide_eq_decide.mpr Iff.rfl)

/-! ### right trees -/
def vs2 : List (Option Int) := [none, some 1, some 2, some 0, some 3, some (-1), some 9, some 10, some (-5), some (10 ^ 20), some (0 - 10 ^ 28)]
def VB (v : Option Int) : Prop := ∀ i, v = some i → i.natAbs < 2 ^ 100
mutual
def GoodT (S : List (List Str)) : List Nat → T → Prop
  | _, .nil => True
  | us, .node c o bs t => c ∉ us ∧ (∃ col, S[c]? = some col ∧ o ∈ col) ∧ (bs.map (·.1)).Nodup ∧ bs.length ≤ 4 ∧ GoodB S (us ++ [c]) bs ∧ GoodT S (us ++ [c]) t
def GoodB (S : List (List Str)) : List Nat → List Br → Prop
  | _, [] => True
  | us, (v, b) :: r => VB v ∧ GoodT S us b ∧ GoodB S us r
end
/-! at most three branches at each place -/
mutual
def B3 : T → Prop
  | .nil => True
  | .node _ _ bs t => bs.length ≤ 3 ∧ B3s bs ∧ B3 t
def B3s : List Br → Prop
  | [] => True
  | (_, b) :: r => B3 b ∧ B3s r
end
theorem b3_nil : B3 .nil := by simp only [B3]
theorem b3_node {c : Nat} {o : Str} {bs : List Br} {t : T} : B3 (.node c o bs t) ↔ bs.length ≤ 3 ∧ B3s bs ∧ B3 t := by simp only [B3]
theorem b3s_iff : ∀ {bs : List Br}, B3s bs ↔ ∀ b ∈ bs, B3 b.2
  | [] => by simp [B3s]
  | (v, b) :: r => by
    rw [B3s, b3s_iff (bs := r)]
    simp
theorem goodT_node {S : List (List Str)} {us : List Nat} {c : Nat} {o : Str} {bs : List Br} {t : T} : GoodT S us (.node c o bs t) ↔ c ∉ us ∧ (∃ col, S[c]? = some col ∧ o ∈ col) ∧ (bs.map (·.1)).Nodup ∧ bs.length ≤ 4 ∧ GoodB S (us ++ [c]) bs ∧ GoodT S (us ++ [c]) t := by simp only [GoodT]
theorem goodT_nil {S : List (List Str)} {us : List Nat} : GoodT S us .nil := by simp only [GoodT]
theorem goodB_iff {S : List (List Str)} {us : List Nat} : ∀ {bs : List Br}, GoodB S us bs ↔ ∀ b ∈ bs, VB b.1 ∧ GoodT S us b.2
  | [] => by simp [GoodB]
  | (v, b) :: r => by
    rw [GoodB, goodB_iff (bs := r)]
    simp [and_assoc]
theorem vb2 {v : Option Int} (hv : v ∈ vs2) : VB v := by
  intro i e
  subst e
  simp [vs2] at hv
  omega

/-! ### a drawn tree -/
theorem tree_vals {ρ : En} {V : Wd} : fLst (fCons false (fC .non) (fCons false (fC (.int 1)) (fCons false (fC (.int 2)) (fCons false (fC (.int 0)) (fCons false (fC (.int 3)) (fCons false (fNeg (fC (.int 1))) (fCons false (fC (.int 9)) (fCons false (fC (.int 10)) (fCons false (fNeg (fC (.int 5))) (fCons false (fBin opPow (fC (.int 10)) (fC (.int 20))) (fCons false (fBin opSub (fC (.int 0)) (fBin opPow (fC (.int 10)) (fC (.int 28)))) (fNilA)))))))))))) ρ V = some (.fr (vs2.map valD), V) := by
  simp [runB, startE, fSeq, fNil, fIf, fRet, fRetN, fDrop, fPass, fAsg, fTg, toD, fName, fC, fVal, fNotT, fAndT, fOrT, fBin, fCons, fNilA, fTup, fLst, fBlt, fIsi, fCall, fIte, fNeg, fNotV, fOrV, fAndV, fMth, fStore, fAug, fSl, fON, fOS, fSrc, fRng, fFor, fLc, wipeE, Ev.setN, opPow, opSub, vs2, valD_n, valD_s]
theorem tree_vb {j d1 : Nat} {V V1 : Wd} {vs : List (Option Int)} {v : Option Int} {a1 a2 a3 a4 a5 a6 a8 a9 a10 a11 : Option D} (hj : V[j]? = some (.lst (vs.map valD))) (hjk : j ≠ k) (e : ev n i__law_take false [.hdl k, .int 11] V = some (.d (.int (d1 : Int)), V1)) (g : Go k V V1) (hv : (vs2.map valD)[d1]? = some (valD v)) (hl : vs.length < 1000) :
    l__law_tree_2 h (ev n) [some (.hdl k), a1, a2, a3, a4, a5, a6, some (.hdl j), a8, a9, a10, a11] V = some (.nx [some (.hdl k), a1, a2, a3, a4, a5, a6, some (.hdl j), a8, some (valD v), a10, a11] (if v ∈ vs then V1 else V1.set j (.lst ((vs ++ [v]).map valD)))) := by
  have hj2 := g.old hjk hj
  unfold l__law_tree_2
  refine fSeq_nx (ρ' := [some (.hdl k), a1, a2, a3, a4, a5, a6, some (.hdl j), a8, some (valD v), a10, a11]) (W' := V1) ?_ ?_
  · refine (fAsg_one (r := .d (valD v)) (W1 := V1) (fBin_eq tree_vals (b := .d (.int (d1 : Int))) ?_ ?_)).trans rfl
    · simp [runB, startE, fSeq, fNil, fIf, fRet, fRetN, fDrop, fPass, fAsg, fTg, toD, fName, fC, fVal, fNotT, fAndT, fOrT, fBin, fCons, fNilA, fTup, fLst, fBlt, fIsi, fCall, fIte, fNeg, fNotV, fOrV, fAndV, fMth, fStore, fAug, fSl, fON, fOS, fSrc, fRng, fFor, fLc, wipeE, Ev.setN, e]
    · generalize vs2.map valD = L at hv
      simp [opIx, asS, asL, atI_cast, hv]
  · have ei := in_vals (g := Bool.not) (V := V1) (v := v) (vs := vs) (L := .d (.hdl j)) (by simp [asL, hj2]) (fun _ q => by cases q)
    have l1 : vs.length < 16777216 := by omega
    by_cases hm : v ∈ vs
    · simp [runB, startE, fSeq, fNil, fIf, fRet, fRetN, fDrop, fPass, fAsg, fTg, toD, fName, fC, fVal, fNotT, fAndT, fOrT, fBin, fCons, fNilA, fTup, fLst, fBlt, fIsi, fCall, fIte, fNeg, fNotV, fOrV, fAndV, fMth, fStore, fAug, fSl, fON, fOS, fSrc, fRng, fFor, fLc, wipeE, Ev.setN, ei, hm]
    · simp [runB, startE, fSeq, fNil, fIf, fRet, fRetN, fDrop, fPass, fAsg, fTg, toD, fName, fC, fVal, fNotT, fAndT, fOrT, fBin, fCons, fNilA, fTup, fLst, fBlt, fIsi, fCall, fIte, fNeg, fNotV, fOrV, fAndV, fMth, fStore, fAug, fSl, fON, fOS, fSrc, fRng, fFor, fLc, wipeE, Ev.setN, ei, hm, asL, hj2, mAppend, asH, small, l1]
theorem tree_values (ln : 1 ≤ n) (m : Nat) (hm : m ≤ 3) {a1 a2 a3 a4 a5 a6 a8 a9 a10 a11 : Option D} (hP : PileAt W k) :
    ∃ (ρ' : En) (V' : Wd), forL yes (.one 8) (l__law_tree_2 h (ev n)) (rngL 0 1 m) [some (.hdl k), a1, a2, a3, a4, a5, a6, some (.hdl W.length), a8, a9, a10, a11] (W ++ [.lst []]) = some (.nx ρ' V') ∧
      ∃ (vs : List (Option Int)) (x y : Option D), ρ' = [some (.hdl k), a1, a2, a3, a4, a5, a6, some (.hdl W.length), x, y, a10, a11] ∧ V'[W.length]? = some (.lst (vs.map valD)) ∧ vs.Nodup ∧ (∀ v ∈ vs, VB v) ∧ vs.length ≤ m ∧ Ex k W V' := by
  have hE0 : Ex k W (W ++ [.lst []]) := hP.ex.push _
  obtain ⟨ρ', V', e3, i, vs, x, y, rfl, el, hi, hg, hnd, hvb, hlen, hE⟩ := forL_inv (b := l__law_tree_2 h (ev n)) (t := .one 8) (chk := yes)
    (fun l ρ V => ∃ (i : Nat) (vs : List (Option Int)) (x y : Option D), ρ = [some (.hdl k), a1, a2, a3, a4, a5, a6, some (.hdl W.length), x, y, a10, a11] ∧ l = (rngL 0 1 m).drop i ∧ i ≤ m ∧ V[W.length]? = some (.lst (vs.map valD)) ∧ vs.Nodup ∧ (∀ v ∈ vs, VB v) ∧ vs.length ≤ i ∧ Ex k W V)
    (fun _ _ _ _ => rfl) (fun d r ρ V ⟨i, vs, x, y, eρ, el, hi, hg, hnd, hvb, hlen, hE⟩ => by
      subst eρ
      obtain ⟨hi, rfl, er⟩ := rng_cons el
      obtain ⟨d1, V1, e1, h1, g1⟩ := take (h := false) (m := 11) ln hE.pile (by decide) (by decide)
      obtain ⟨v, hv, hv2⟩ := pick valD (xs := vs2) (d := d1) (by simp [vs2]; omega)
      have hk := hE.kl
      have b := tree_vb (h := h) (a1 := a1) (a2 := a2) (a3 := a3) (a4 := a4) (a5 := a5) (a6 := a6) (a8 := some (.int (i : Int))) (a9 := y) (a10 := a10) (a11 := a11) hg (by omega) e1 g1 hv2 (by omega)
      refine ⟨_, rfl, _, _, .inl b, ?_⟩
      by_cases hm : v ∈ vs
      · rw [if_pos hm]
        exact ⟨i + 1, vs, _, _, rfl, er, hi, g1.old (by omega) hg, hnd, hvb, by omega, hE.go g1⟩
      · rw [if_neg hm]
        refine ⟨i + 1, vs ++ [v], _, _, rfl, er, hi, set_at (g1.old (by omega) hg), ?_, fun u hu => ?_, by simp; omega, (hE.go g1).set (Nat.le_refl _) _⟩
        · exact List.nodup_append.mpr ⟨hnd, by simp, fun a ha b hb => by rw [List.mem_singleton.mp hb]; exact fun e => hm (e ▸ ha)⟩
        · rcases List.mem_append.mp hu with q | q
          · exact hvb u q
          · rw [List.mem_singleton.mp q]; exact vb2 hv) (rngL 0 1 m) [some (.hdl k), a1, a2, a3, a4, a5, a6, some (.hdl W.length), a8, a9, a10, a11] (W ++ [.lst []])
    ⟨0, [], a8, a9, rfl, rfl, Nat.zero_le _, push_at _ _, by simp, by simp, Nat.le_refl _, hE0⟩
  have ei := rng_end el hi
  subst ei
  exact ⟨_, V', e3, vs, x, y, rfl, hg, hnd, hvb, hlen, hE⟩
end
end K06

set_option Elab.async false
set_option linter.all false
set_option maxRecDepth 100000
namespace K06
open PySem L2 Ev
section
variable {n k : Nat} {W : Wd} {h : Bool}
theorem eq_nats {g : Bool → Bool} {V : Wd} {us vs : List Nat} : opEq g V (.d (.lst (natsD us))) (.fr (natsD vs)) = some (.d (.bl (g (decide (us = vs))))) := by
  have e1 := map_py V 59 (fun c : Nat => D.int (c : Int)) (fun c : Nat => PyData.int (c : Int)) (fun a => by simp [D.py]) us
  have e2 := map_py V 60 (fun c : Nat => D.int (c : Int)) (fun c : Nat => PyData.int (c : Int)) (fun a => by simp [D.py]) vs
  have e3 : ∀ us vs : List Nat, PyData.eqvAll (us.map fun c : Nat => PyData.int (c : Int)) (vs.map fun c : Nat => PyData.int (c : Int)) = decide (us = vs) := by
    intro us
    induction us with
    | nil => intro vs; cases vs <;> simp [PyData.eqvAll]
    | cons u us ih =>
      intro vs
      cases vs with
      | nil => simp [PyData.eqvAll]
      | cons v vs =>
        have := nat_eq u v
        simp [PyData.eqvAll, ih vs, this]
  have e4 : mapO (D.py V 59) (natsD us) = some (us.map fun c : Nat => PyData.int (c : Int)) := e1
  have e5 : mapO (D.py V 60) (natsD vs) = some (vs.map fun c : Nat => PyData.int (c : Int)) := e2
  simp [opEq, R.py, D.py, e4, e5, PyData.eqv, e3]
def leftOf (S : List (List Str)) (us : List Nat) : List Nat := (List.range S.length).filter fun c => !decide (c ∈ us)
theorem tree_left {S : List (List Str)} (hS : S.length ≤ 6) {us : List Nat} {a0 a3 : Option D} {r : En} :
    fLc false [5] (fRng rng1 (fCons false (fBlt bLen (fCons false (fName 1) fNilA)) fNilA)) (.one 5) (y__law_tree_3 h (ev n)) (fName 5) (a0 :: some (.lst (S.map colD)) :: some (.lst (natsD us)) :: a3 :: none :: none :: r) W = some (.fr (natsD (leftOf S us)), W) := by
  have l1 : (S.map colD).length = S.length := by simp
  obtain ⟨ys, W', e, i, hi, el, rfl, rfl⟩ := lcL_inv (al := false) (chk := yes) (t := .one 5) (c := y__law_tree_3 h (ev n)) (f := fName 5) (ρ := a0 :: some (.lst (S.map colD)) :: some (.lst (natsD us)) :: a3 :: none :: none :: r)
    (fun l V acc => ∃ i : Nat, i ≤ S.length ∧ l = (rngL 0 1 S.length).drop i ∧ acc = natsD ((List.range i).filter fun c => !decide (c ∈ us)) ∧ V = W) (fun _ _ _ _ => rfl)
    (fun d l V acc ⟨i, hi, el, ea, eV⟩ => by
      subst eV
      obtain ⟨hi, rfl, er⟩ := rng_cons el
      have hl : acc.length ≤ i := by
        rw [ea, natsD_len]
        exact Nat.le_trans (List.length_filter_le ..) (by simp)
      refine ⟨by rw [small]; omega, _, rfl, !decide (i ∈ us), V, ?_, ?_⟩
      · have := in_nats (g := Bool.not) (V := V) (c := i) (us := us)
        simp [y__law_tree_3, runB, startE, fSeq, fNil, fIf, fRet, fRetN, fDrop, fPass, fAsg, fTg, toD, fName, fC, fVal, fNotT, fAndT, fOrT, fBin, fCons, fNilA, fTup, fLst, fBlt, fIsi, fCall, fIte, fNeg, fNotV, fOrV, fAndV, fMth, fStore, fAug, fSl, fON, fOS, fSrc, fRng, fFor, fLc, wipeE, Ev.setN, this]
      · by_cases hm : i ∈ us
        · exact .inr ⟨by simp [hm], i + 1, hi, er, by rw [List.range_succ, List.filter_append, ea]; simp [hm], rfl⟩
        · exact .inl ⟨by simp [hm], .d (.int (i : Int)), V, rfl, i + 1, hi, er, by rw [List.range_succ, List.filter_append, ea]; simp [hm, natsD, toD], rfl⟩) (rngL 0 1 S.length) W [] ⟨0, Nat.zero_le _, rfl, rfl, rfl⟩
  have ei := rng_end el hi
  subst ei
  refine fLc_eq (src := ⟨rngL 0 1 S.length, yes⟩) (fRng1_nat (m := S.length) ?_ (by omega)) e
  simp [runB, startE, fSeq, fNil, fIf, fRet, fRetN, fDrop, fPass, fAsg, fTg, toD, fName, fC, fVal, fNotT, fAndT, fOrT, fBin, fCons, fNilA, fTup, fLst, fBlt, fIsi, fCall, fIte, fNeg, fNotV, fOrV, fAndV, fMth, fStore, fAug, fSl, fON, fOS, fSrc, fRng, fFor, fLc, wipeE, Ev.setN, bLen, asS, asL, l1]
theorem left_mem {S : List (List Str)} {us : List Nat} {c : Nat} : c ∈ leftOf S us ↔ c < S.length ∧ c ∉ us := by simp [leftOf]

/-- what _law_tree does behind its first test -/
def treeTail (h : Bool) (Φ : Tb) : FS :=
    fSeq (fAsg false (.one 5) (fBin opIx (fName 4) (fCall (Φ i__law_take false) (fCons false (fName 0) (fCons false (fBlt bLen (fCons false (fName 4) (fNilA))) (fNilA))))))
    (fSeq (fAsg false (.one 6) (fBin opIx (fBin opIx (fName 1) (fName 5)) (fCall (Φ i__law_take false) (fCons false (fName 0) (fCons false (fBlt bLen (fCons false (fBin opIx (fName 1) (fName 5)) (fNilA))) (fNilA))))))
    (fSeq (fAsg true (.one 7) (fLst (fNilA)))
    (fSeq (fFor (fRng rng1 (fCons false (fCall (Φ i__law_take false) (fCons false (fName 0) (fCons false (fC (.int 4)) (fNilA)))) (fNilA))) (.one 8) (l__law_tree_2 h Φ))
    (fSeq (fAsg false (.one 10) (fBin opAdd (fName 2) (fLst (fCons false (fName 5) (fNilA)))))
    (fSeq (fAsg false (.one 11) (fLc false [9] (fSrc (fName 7)) (.one 9) (fYes) (x__law_tree_1 h Φ)))
    (fRet (fTup (fCons false (fName 5) (fCons false (fName 6) (fCons false (fName 11) (fCons false (fCall (Φ i__law_tree false) (fCons false (fName 0) (fCons false (fName 1) (fCons false (fName 10) (fCons false (fBin opSub (fName 3) (fC (.int 1))) (fNilA)))))) (fNilA))))))))))))
def TreeAt (S : List (List Str)) (k n dpt : Nat) : Prop := ∀ (us : List Nat) (W : Wd), PileAt W k → us.length + dpt ≤ 12 → ∃ (t : T) (W' : Wd), ev n i__law_tree false [.hdl k, .lst (S.map colD), .lst (natsD us), .int (dpt : Int)] W = some (.d t.d, W') ∧ GoodT S us t ∧ t.dep ≤ dpt ∧ B3 t ∧ Go k W W'
theorem tree_tail {S : List (List Str)} (hS : GoodSch S) {dpt : Nat} (hn : 1 ≤ n) (ih : TreeAt S k n dpt) {us : List Nat} (hus : us.length + dpt + 1 ≤ 12) (hP : PileAt W k) (hl : leftOf S us ≠ []) :
    ∃ (t : T) (V : Wd), treeTail h (ev n) [some (.hdl k), some (.lst (S.map colD)), some (.lst (natsD us)), some (.int ((dpt + 1 : Nat) : Int)), some (.lst (natsD (leftOf S us))), none, none, none, none, none, none, none] W = some (.rt (.d t.d) V) ∧ GoodT S us t ∧ t.dep ≤ dpt + 1 ∧ B3 t ∧ Ex k W V := by
  obtain ⟨hS1, hS2, hS3⟩ := hS
  have ll : (leftOf S us).length ≤ 6 := Nat.le_trans (List.length_filter_le ..) (by simpa using hS2)
  have lp := List.length_pos_iff.mpr hl
  obtain ⟨d1, W1, e1, h1, g1⟩ := take (n := n) (h := false) (m := ((leftOf S us).length : Int)) hn hP (by omega) (by omega)
  have hc0 := List.getElem?_eq_getElem (l := leftOf S us) (i := d1) (by omega)
  obtain ⟨hcS, hcu⟩ := left_mem.mp (List.getElem_mem (l := leftOf S us) (n := d1) (by omega))
  generalize (leftOf S us)[d1]'(by omega) = c at hc0 hcS hcu
  have hcol := List.getElem?_eq_getElem hcS
  have gc := hS3 S[c] (List.getElem_mem hcS)
  generalize S[c]'hcS = col at hcol gc
  have lc := List.length_pos_iff.mpr gc.1
  have lc4 := col_len gc.2.1 gc.2.2
  obtain ⟨d2, W2, e2, h2, g2⟩ := take (n := n) (h := false) (m := (col.length : Int)) hn g1.pile (by omega) (by omega)
  have ho := List.getElem?_eq_getElem (l := col) (i := d2) (by omega)
  have hom := List.getElem_mem (l := col) (n := d2) (by omega)
  generalize col[d2]'(by omega) = o at ho hom
  have g12 := g1.trans g2
  obtain ⟨m, W3, e3, h3, g3⟩ := take (n := n) (h := false) (m := 4) hn (g2.pile.app [.lst []]) (by omega) (by omega)
  obtain ⟨W3', g3', rfl⟩ := g3.app g2.pile.lt
  have len3 : W3'.length = W2.length := g3'.len
  obtain ⟨ρ', V4, e4, vs, x, y, rfl, hg4, hnd, hvb, hlen, hE4⟩ := tree_values (n := n) (h := h) hn m (by omega) (a1 := some (.lst (S.map colD))) (a2 := some (.lst (natsD us))) (a3 := some (.int ((dpt + 1 : Nat) : Int))) (a4 := some (.lst (natsD (leftOf S us)))) (a5 := some (.int (c : Int))) (a6 := some (.str o)) (a8 := none) (a9 := none) (a10 := none) (a11 := none) g3'.pile
  have E : Ex k W V4 := by
    obtain ⟨Wx, cs, gx, rfl⟩ := hE4
    exact ⟨Wx, cs, (g12.trans g3').trans gx, rfl⟩
  -- the branches
  have hk4 := hE4.kl
  obtain ⟨ys, V5, e5, bs, rfl, hbs, hbg, hbd, hb3, hg5, g5⟩ := lcL_inv (al := false) (chk := fun W' => match W'[W3'.length]? with | some (.lst ys) => sameA ys (vs.map valD) | none => false) (t := .one 9) (c := fYes) (f := x__law_tree_1 h (ev n))
    (ρ := [some (.hdl k), some (.lst (S.map colD)), some (.lst (natsD us)), some (.int ((dpt + 1 : Nat) : Int)), some (.lst (natsD (leftOf S us))), some (.int (c : Int)), some (.str o), some (.hdl W3'.length), x, none, some (.lst (natsD (us ++ [c]))), none])
    (fun l V acc => ∃ bs : List Br, acc = T.ds bs ∧ vs.map valD = (bs.map (·.1)).map valD ++ l ∧ (∀ b ∈ bs, GoodT S (us ++ [c]) b.2) ∧ (∀ b ∈ bs, b.2.dep ≤ dpt) ∧ (∀ b ∈ bs, B3 b.2) ∧ V[W3'.length]? = some (.lst (vs.map valD)) ∧ Go k V4 V)
    (fun l V acc ⟨_, _, _, _, _, _, hg, _⟩ => by simp only [hg]; exact sameA_refl _)
    (fun d l V acc ⟨bs, ea, hl, hbg, hbd, hb3, hg, g⟩ => by
      have hlen2 := congrArg List.length hl
      simp only [List.length_map, List.length_append, List.length_cons] at hlen2
      have hd : d ∈ vs.map valD := by rw [hl]; exact List.mem_append_right _ List.mem_cons_self
      obtain ⟨v, hv, rfl⟩ := List.mem_map.mp hd
      have lds : ∀ bs : List Br, (T.ds bs).length = bs.length := fun bs => trB_len (W := []) (trB_d fun b _ => tr_d b.2)
      refine ⟨by rw [ea, lds, small]; omega, _, rfl, true, V, rfl, .inl ⟨rfl, ?_⟩⟩
      obtain ⟨t, V1, et, gt, dt, bt, gg⟩ := ih (us ++ [c]) V g.pile (by rw [List.length_append]; simp; omega)
      refine ⟨.d (.tup [valD v, t.d]), V1, ?_, bs ++ [(v, t)], ?_, ?_, fun b hb => ?_, fun b hb => ?_, fun b hb => ?_, gg.old (by omega) hg, g.trans gg⟩
      · simp [x__law_tree_1, runB, startE, fSeq, fNil, fIf, fRet, fRetN, fDrop, fPass, fAsg, fTg, toD, fName, fC, fVal, fNotT, fAndT, fOrT, fBin, fCons, fNilA, fTup, fLst, fBlt, fIsi, fCall, fIte, fNeg, fNotV, fOrV, fAndV, fMth, fStore, fAug, fSl, fON, fOS, fSrc, fRng, fFor, fLc, wipeE, Ev.setN, opSub, et]
      · have : ∀ bs : List Br, T.ds (bs ++ [(v, t)]) = T.ds bs ++ [.tup [valD v, t.d]] := by
          intro bs
          induction bs with
          | nil => rw [List.nil_append, T.ds, T.ds]; rfl
          | cons b bs ih => obtain ⟨u, s⟩ := b; rw [List.cons_append, T.ds, ih, T.ds]; rfl
        rw [this, ea]; rfl
      · rw [hl]; simp
      · rcases List.mem_append.mp hb with q | q
        · exact hbg b q
        · rw [List.mem_singleton.mp q]; exact gt
      · rcases List.mem_append.mp hb with q | q
        · exact hbd b q
        · rw [List.mem_singleton.mp q]; exact dt
      · rcases List.mem_append.mp hb with q | q
        · exact hb3 b q
        · rw [List.mem_singleton.mp q]; exact bt) (vs.map valD) V4 [] ⟨[], by rw [T.ds], by simp, by simp, by simp, by simp, hg4, (hE4.pile).go⟩
  obtain ⟨t, V6, et, gt, dt, bt, gg⟩ := ih (us ++ [c]) V5 g5.pile (by rw [List.length_append]; simp; omega)
  have hvs : bs.map (·.1) = vs := by
    have q : vs.map valD = (bs.map (·.1)).map valD := by simpa using hbs
    refine (List.map_inj_right ?_).mp q.symm
    intro a b e
    cases a <;> cases b <;> simp [valD] at e <;> first | rfl | rw [e]
  refine ⟨.node c o bs t, V6, ?_, goodT_node.mpr ⟨hcu, ⟨col, hcol, hom⟩, by rw [hvs]; exact hnd, ?_, goodB_iff.mpr fun b hb => ⟨?_, hbg b hb⟩, gt⟩, ?_, b3_node.mpr ⟨?_, b3s_iff.mpr hb3, bt⟩, (E.go g5).go gg⟩
  · have hcD : (natsD (leftOf S us))[d1]? = some (.int (c : Int)) := by unfold natsD; rw [List.getElem?_map, hc0]; rfl
    have hoD : (strsD col)[d2]? = some (.str o) := by unfold strsD; rw [List.getElem?_map, ho]; rfl
    have l1 : (natsD us).length + 1 ≤ 16777216 := by rw [natsD_len]; omega
    have eu : natsD us ++ [.int (c : Int)] = natsD (us ++ [c]) := by simp [natsD]
    unfold treeTail
    refine fSeq_nx (ρ' := [some (.hdl k), some (.lst (S.map colD)), some (.lst (natsD us)), some (.int ((dpt + 1 : Nat) : Int)), some (.lst (natsD (leftOf S us))), some (.int (c : Int)), none, none, none, none, none, none]) (W' := W1) ?_
      (fSeq_nx (ρ' := [some (.hdl k), some (.lst (S.map colD)), some (.lst (natsD us)), some (.int ((dpt + 1 : Nat) : Int)), some (.lst (natsD (leftOf S us))), some (.int (c : Int)), some (.str o), none, none, none, none, none]) (W' := W2) ?_
      (fSeq_nx (ρ' := [some (.hdl k), some (.lst (S.map colD)), some (.lst (natsD us)), some (.int ((dpt + 1 : Nat) : Int)), some (.lst (natsD (leftOf S us))), some (.int (c : Int)), some (.str o), some (.hdl W2.length), none, none, none, none]) (W' := W2 ++ [.lst []]) rfl
      (fSeq_nx (fFor_nx (src := ⟨rngL 0 1 m, yes⟩) (W1 := W3' ++ [.lst []]) (fRng1_nat ?_ (by omega)) (by rw [← len3]; exact e4))
      (fSeq_nx (ρ' := [some (.hdl k), some (.lst (S.map colD)), some (.lst (natsD us)), some (.int ((dpt + 1 : Nat) : Int)), some (.lst (natsD (leftOf S us))), some (.int (c : Int)), some (.str o), some (.hdl W3'.length), x, y, some (.lst (natsD (us ++ [c]))), none]) (W' := V4) ?_
      (fSeq_nx (ρ' := [some (.hdl k), some (.lst (S.map colD)), some (.lst (natsD us)), some (.int ((dpt + 1 : Nat) : Int)), some (.lst (natsD (leftOf S us))), some (.int (c : Int)), some (.str o), some (.hdl W3'.length), x, y, some (.lst (natsD (us ++ [c]))), some (.lst (T.ds bs))]) (W' := V5) ?_ ?_)))))
    · simp [runB, startE, fSeq, fNil, fIf, fRet, fRetN, fDrop, fPass, fAsg, fTg, toD, fName, fC, fVal, fNotT, fAndT, fOrT, fBin, fCons, fNilA, fTup, fLst, fBlt, fIsi, fCall, fIte, fNeg, fNotV, fOrV, fAndV, fMth, fStore, fAug, fSl, fON, fOS, fSrc, fRng, fFor, fLc, wipeE, Ev.setN, bLen, asS, asL, natsD_len, e1, opIx, atI_cast, hcD]
    · simp [runB, startE, fSeq, fNil, fIf, fRet, fRetN, fDrop, fPass, fAsg, fTg, toD, fName, fC, fVal, fNotT, fAndT, fOrT, fBin, fCons, fNilA, fTup, fLst, fBlt, fIsi, fCall, fIte, fNeg, fNotV, fOrV, fAndV, fMth, fStore, fAug, fSl, fON, fOS, fSrc, fRng, fFor, fLc, wipeE, Ev.setN, bLen, asS, asL, opIx, atI_cast, hcol, colD, colD_len, e2, hoD]
    · simp [runB, startE, fSeq, fNil, fIf, fRet, fRetN, fDrop, fPass, fAsg, fTg, toD, fName, fC, fVal, fNotT, fAndT, fOrT, fBin, fCons, fNilA, fTup, fLst, fBlt, fIsi, fCall, fIte, fNeg, fNotV, fOrV, fAndV, fMth, fStore, fAug, fSl, fON, fOS, fSrc, fRng, fFor, fLc, wipeE, Ev.setN, e3]
    · refine (fAsg_one (r := .fr (natsD (us ++ [c]))) (W1 := V4) (fBin_eq (a := .d (.lst (natsD us))) (b := .fr [.int (c : Int)]) rfl rfl ?_)).trans rfl
      rw [← eu]
      show (if _ then _ else _) = _
      rw [if_pos (by rw [small]; exact l1)]
    · refine (fAsg_one (fLc_eq (src := ⟨vs.map valD, _⟩) (fSrc_eq (r := .d (.hdl W3'.length)) (W1 := V4) rfl (by simp only [srcOf, hg4]; rfl)) e5)).trans rfl
    · rw [T.d]
      simp [runB, startE, fSeq, fNil, fIf, fRet, fRetN, fDrop, fPass, fAsg, fTg, toD, fName, fC, fVal, fNotT, fAndT, fOrT, fBin, fCons, fNilA, fTup, fLst, fBlt, fIsi, fCall, fIte, fNeg, fNotV, fOrV, fAndV, fMth, fStore, fAug, fSl, fON, fOS, fSrc, fRng, fFor, fLc, wipeE, Ev.setN, opSub, et]
  · have := congrArg List.length hvs
    simp at this
    omega
  · have hb1 : b.1 ∈ vs := by rw [← hvs]; exact List.mem_map_of_mem hb
    exact hvb _ hb1
  · rw [T.dep]
    have : T.deps bs ≤ dpt := by
      clear hbs hvs hbg hb3 e5
      induction bs with
      | nil => rw [T.deps]; omega
      | cons b bs ih =>
        obtain ⟨v, s⟩ := b
        rw [T.deps]
        have h1 : s.dep ≤ dpt := hbd (v, s) List.mem_cons_self
        have h2 := ih fun b hb => hbd b (List.mem_cons_of_mem _ hb)
        omega
    omega
  · have := congrArg List.length hvs
    rw [List.length_map] at this
    omega
end
end K06

set_option Elab.async false
set_option linter.all false
set_option maxRecDepth 100000
namespace K06
open PySem L2 Ev
section
variable {n k : Nat} {W : Wd} {h : Bool}
theorem eq_nil {V : Wd} {us : List Nat} : opEq id V (.d (.lst (natsD us))) (.fr []) = some (.d (.bl (decide (us = [])))) := eq_nats (g := id) (vs := [])
theorem eq_int {g : Bool → Bool} {V : Wd} {i j : Int} : opEq g V (.d (.int i)) (.d (.int j)) = some (.d (.bl (g (decide (i = j))))) := by
  have : PyData.eqv (.int i) (.int j) = decide (i = j) := by simp only [PyData.eqv]; exact Bool.beq_eq_decide_eq _ _
  simp only [opEq, R.py, D.py, Option.bind_some, Option.map_some, this]
theorem t_nil_d : T.nil.d = .non := by rw [T.d]
theorem tree_all {S : List (List Str)} (hS : GoodSch S) : ∀ (dpt n : Nat), dpt + 3 ≤ n → TreeAt S k n dpt := by
  intro dpt
  induction dpt with
  | zero =>
    intro n hn us W hP hus
    obtain ⟨n, rfl, ln⟩ := lv (c := 2) (by omega : 2 + 1 ≤ n)
    refine ⟨.nil, W, ?_, goodT_nil, by rw [T.dep]; exact Nat.le_refl _, b3_nil, hP.go⟩
    rw [e__law_tree]
    refine runB_rt (r := .d .non) (W' := W) ?_ (by rw [t_nil_d]; exact fin_same rfl)
    unfold g__law_tree
    refine fSeq_nx (ρ' := [some (.hdl k), some (.lst (S.map colD)), some (.lst (natsD us)), some (.int 0), some (.lst (natsD (leftOf S us))), none, none, none, none, none, none, none]) (W' := W) ((fAsg_one (tree_left hS.2.1)).trans rfl) (fSeq_rt (fIf_t (W1 := W) ?_ rfl))
    by_cases hl : leftOf S us = []
    · simp [runB, startE, fSeq, fNil, fIf, fRet, fRetN, fDrop, fPass, fAsg, fTg, toD, fName, fC, fVal, fNotT, fAndT, fOrT, fBin, fCons, fNilA, fTup, fLst, fBlt, fIsi, fCall, fIte, fNeg, fNotV, fOrV, fAndV, fMth, fStore, fAug, fSl, fON, fOS, fSrc, fRng, fFor, fLc, wipeE, Ev.setN, eq_nil, hl]
    · simp [runB, startE, fSeq, fNil, fIf, fRet, fRetN, fDrop, fPass, fAsg, fTg, toD, fName, fC, fVal, fNotT, fAndT, fOrT, fBin, fCons, fNilA, fTup, fLst, fBlt, fIsi, fCall, fIte, fNeg, fNotV, fOrV, fAndV, fMth, fStore, fAug, fSl, fON, fOS, fSrc, fRng, fFor, fLc, wipeE, Ev.setN, eq_nil, hl, eq_int]
  | succ dpt ih =>
    intro n hn us W hP hus
    obtain ⟨n, rfl, ln⟩ := lv (c := dpt + 3) (by omega)
    have hne : ¬ (dpt : Int) + 1 = 0 := by omega
    have start : ∀ g : FS, ∀ o, g [some (.hdl k), some (.lst (S.map colD)), some (.lst (natsD us)), some (.int ((dpt + 1 : Nat) : Int)), some (.lst (natsD (leftOf S us))), none, none, none, none, none, none, none] W = o →
        fSeq (fAsg false (.one 4) (fLc false [5] (fRng rng1 (fCons false (fBlt bLen (fCons false (fName 1) (fNilA))) (fNilA))) (.one 5) (y__law_tree_3 false (ev n)) (fName 5))) g (startE 12 [.hdl k, .lst (S.map colD), .lst (natsD us), .int ((dpt + 1 : Nat) : Int)]) W = o :=
      fun g o hg => fSeq_nx ((fAsg_one (tree_left hS.2.1)).trans rfl) hg
    rw [e__law_tree]
    by_cases hl : leftOf S us = []
    · refine ⟨.nil, W, ?_, goodT_nil, by rw [T.dep]; omega, b3_nil, hP.go⟩
      refine runB_rt (r := .d .non) (W' := W) ?_ (by rw [t_nil_d]; exact fin_same rfl)
      refine start _ _ (fSeq_rt (fIf_t (W1 := W) ?_ rfl))
      simp [runB, startE, fSeq, fNil, fIf, fRet, fRetN, fDrop, fPass, fAsg, fTg, toD, fName, fC, fVal, fNotT, fAndT, fOrT, fBin, fCons, fNilA, fTup, fLst, fBlt, fIsi, fCall, fIte, fNeg, fNotV, fOrV, fAndV, fMth, fStore, fAug, fSl, fON, fOS, fSrc, fRng, fFor, fLc, wipeE, Ev.setN, eq_nil, hl]
    · obtain ⟨d1, W1, e1, h1, g1⟩ := take (n := n) (h := false) (m := 6) (by omega) hP (by omega) (by omega)
      by_cases hz : d1 = 0
      · subst hz
        refine ⟨.nil, W1, ?_, goodT_nil, by rw [T.dep]; omega, b3_nil, g1⟩
        refine runB_rt (r := .d .non) (W' := W1) ?_ (by rw [t_nil_d]; exact fin_same g1.len)
        refine start _ _ (fSeq_rt (fIf_t (W1 := W1) ?_ rfl))
        simp [runB, startE, fSeq, fNil, fIf, fRet, fRetN, fDrop, fPass, fAsg, fTg, toD, fName, fC, fVal, fNotT, fAndT, fOrT, fBin, fCons, fNilA, fTup, fLst, fBlt, fIsi, fCall, fIte, fNeg, fNotV, fOrV, fAndV, fMth, fStore, fAug, fSl, fON, fOS, fSrc, fRng, fFor, fLc, wipeE, Ev.setN, eq_nil, hl, eq_int, hne, e1]
      · obtain ⟨t, V, e2, gt, dt, bt, E⟩ := tree_tail (h := false) hS (n := n) (by omega) (ih n (by omega)) (us := us) (W := W1) (by omega) g1.pile hl
        have E2 : Ex k W V := by
          obtain ⟨Wx, cs, gx, rfl⟩ := E
          exact ⟨Wx, cs, g1.trans gx, rfl⟩
        obtain ⟨W2, e3, g2⟩ := E2.fin_d (pure_t t)
        refine ⟨t, W2, ?_, gt, dt, bt, g2⟩
        refine runB_rt (r := .d t.d) (W' := V) ?_ e3
        refine start _ _ (fSeq_nx (ρ' := [some (.hdl k), some (.lst (S.map colD)), some (.lst (natsD us)), some (.int ((dpt + 1 : Nat) : Int)), some (.lst (natsD (leftOf S us))), none, none, none, none, none, none, none]) (W' := W1) (fIf_f (W1 := W1) ?_ rfl) e2)
        simp [runB, startE, fSeq, fNil, fIf, fRet, fRetN, fDrop, fPass, fAsg, fTg, toD, fName, fC, fVal, fNotT, fAndT, fOrT, fBin, fCons, fNilA, fTup, fLst, fBlt, fIsi, fCall, fIte, fNeg, fNotV, fOrV, fAndV, fMth, fStore, fAug, fSl, fON, fOS, fSrc, fRng, fFor, fLc, wipeE, Ev.setN, eq_nil, hl, eq_int, hne, e1, hz]
end
end K06

set_option Elab.async false
set_option linter.all false
set_option maxRecDepth 100000
namespace K06
open PySem L2 Ev
section
variable {n : Nat} {W : Wd} {h : Bool} {S : List (List Str)}
/-! ### what is handed in is right -/
theorem is_whole_int (hn : 1 ≤ n) (i : Int) : ev n i_is_whole h [.int i] W = some (.d (.bl true), W) := by
  obtain ⟨n, rfl, ln⟩ := lv hn
  rw [e_is_whole]
  simp [runB, startE, fSeq, fNil, fIf, fRet, fRetN, fDrop, fPass, fAsg, fTg, toD, fName, fC, fVal, fNotT, fAndT, fOrT, fBin, fCons, fNilA, fTup, fLst, fBlt, fIsi, fCall, fIte, fNeg, fNotV, fOrV, fAndV, fMth, fStore, fAug, fSl, fON, fOS, fSrc, fRng, fFor, fLc, wipeE, Ev.setN, g_is_whole, R.tag, isaB, R.tru, fin_same]
theorem is_below_nat (hn : 2 ≤ n) {c m : Nat} (hc : c < m) : ev n i_is_below h [.int (c : Int), .int (m : Int)] W = some (.d (.bl true), W) := by
  obtain ⟨n, rfl, ln⟩ := lv hn
  rw [e_is_below]
  have h0 : (0 : Int) ≤ (c : Int) := by omega
  have h1 : (c : Int) < (m : Int) := by omega
  simp [runB, startE, fSeq, fNil, fIf, fRet, fRetN, fDrop, fPass, fAsg, fTg, toD, fName, fC, fVal, fNotT, fAndT, fOrT, fBin, fCons, fNilA, fTup, fLst, fBlt, fIsi, fCall, fIte, fNeg, fNotV, fOrV, fAndV, fMth, fStore, fAug, fSl, fON, fOS, fSrc, fRng, fFor, fLc, wipeE, Ev.setN, g_is_below, is_whole_int ln, R.tru, opLe, opLt, opCI, h0, h1, fin_same]
theorem is_value_val (hn : 2 ≤ n) (v : Option Int) : ev n i_is_value h [valD v] W = some (.d (.bl true), W) := by
  obtain ⟨n, rfl, ln⟩ := lv hn
  rw [e_is_value]
  cases v with
  | none => simp [runB, startE, fSeq, fNil, fIf, fRet, fRetN, fDrop, fPass, fAsg, fTg, toD, fName, fC, fVal, fNotT, fAndT, fOrT, fBin, fCons, fNilA, fTup, fLst, fBlt, fIsi, fCall, fIte, fNeg, fNotV, fOrV, fAndV, fMth, fStore, fAug, fSl, fON, fOS, fSrc, fRng, fFor, fLc, wipeE, Ev.setN, g_is_value, valD, opIs, R.tru, fin_same]
  | some i => simp [runB, startE, fSeq, fNil, fIf, fRet, fRetN, fDrop, fPass, fAsg, fTg, toD, fName, fC, fVal, fNotT, fAndT, fOrT, fBin, fCons, fNilA, fTup, fLst, fBlt, fIsi, fCall, fIte, fNeg, fNotV, fOrV, fAndV, fMth, fStore, fAug, fSl, fON, fOS, fSrc, fRng, fFor, fLc, wipeE, Ev.setN, g_is_value, valD, opIs, R.tru, is_whole_int ln, fin_same]
theorem in_ord {U : Wd} {o : Str} (ho : o ∈ ORD) : opIn id U (.d (.str o)) (.d c_ORDERS) = some (.d (.bl true)) := by
  have e1 : ∀ os : List Str, flA (os.map D.str) = some (os.map L2.V.str) := by
    intro os
    induction os with
    | nil => rfl
    | cons a r ih => rw [List.map_cons, flA, ih]; rfl
  have e2 : c_ORDERS = .tup (ORD.map D.str) := rfl
  have e3 : inV (.str o) (ORD.map L2.V.str) = true := by
    unfold inV
    rw [List.any_map]
    exact List.any_eq_true.mpr ⟨o, ho, by simp [eqV]⟩
  rw [e2]
  show (D.fl (.str o)).bind (fun v => (flA (ORD.map D.str)).map fun vs => R.d (.bl (id (inV v vs)))) = _
  rw [e1]
  show some (R.d (.bl (id (inV (.str o) (ORD.map L2.V.str))))) = _
  rw [e3]; rfl
theorem is_order_ord (hn : 1 ≤ n) {o : Str} (ho : o ∈ ORD) : ev n i_is_order h [.str o] W = some (.d (.bl true), W) := by
  obtain ⟨n, rfl, ln⟩ := lv hn
  rw [e_is_order]
  have e := in_ord (U := W) ho
  unfold g_is_order
  generalize c_ORDERS = C at e ⊢
  simp [runB, startE, fSeq, fNil, fIf, fRet, fRetN, fDrop, fPass, fAsg, fTg, toD, fName, fC, fVal, fNotT, fAndT, fOrT, fBin, fCons, fNilA, fTup, fLst, fBlt, fIsi, fCall, fIte, fNeg, fNotV, fOrV, fAndV, fMth, fStore, fAug, fSl, fON, fOS, fSrc, fRng, fFor, fLc, wipeE, Ev.setN, R.tag, isaB, R.tru, e, fin_same]
/-- every item is right -/
theorem all_true {U : Wd} : ∀ (xs : List D), bAll U [.lst (xs.map fun _ => D.bl true)] = some (.d (.bl true)) := by
  intro xs
  have e : asBs (xs.map fun _ => D.bl true) = some (xs.map fun _ => true) := by
    induction xs with
    | nil => rfl
    | cons x r ih => rw [List.map_cons, asBs, ih]; rfl
  have e2 : (xs.map fun _ => true).all id = true := by simp
  show (asBs (xs.map fun _ => D.bl true)).map (fun bs => R.d (.bl (bs.all id))) = _
  rw [e, Option.map_some, e2]
theorem all_of {vs : List Nat} {s : FI} {i : Nat} {f : FE} {ρ : En} {src : Src} (e1 : s ρ W = some (src, W)) (hc : src.chk W = true) (hl : src.items.length ≤ 1000) (hf : ∀ d ∈ src.items, f ((wipeE ρ vs).set i (some d)) W = some (.d (.bl true), W)) :
    fBlt bAll (fCons false (fLc false vs s (.one i) fYes f) fNilA) ρ W = some (.d (.bl true), W) := by
  have e2 := lcL_map (t := .one i) (f := f) (ρ := wipeE ρ vs) (W := W) (fun _ => D.bl true) hc src.items [] (by rw [small]; simp; omega) fun d hd => ⟨_, rfl, hf d hd⟩
  exact fBlt_eq (fCons_eq (fLc_eq e1 e2) rfl) (all_true src.items)
theorem asLf_strs : ∀ c : List Str, asLf (strsD c) = some (c.map Leaf.text)
  | [] => rfl
  | o :: r => by
    have e := asLf_strs r
    unfold strsD at e ⊢
    rw [List.map_cons, asLf, e]; rfl
theorem met_strs {c : List Str} (h : c.Nodup) : (met (c.map Leaf.text)).length = c.length := by
  rw [met_nodup, List.length_map]
  exact List.Pairwise.map _ (fun a b hab e => hab (by injection e)) h
theorem is_column_col (hn : 2 ≤ n) {c : List Str} (hc : GoodCol c) : ev n i_is_column h [colD c] W = some (.d (.bl true), W) := by
  obtain ⟨n, rfl, ln⟩ := lv hn
  obtain ⟨h1, h2, h3⟩ := hc
  rw [e_is_column]
  have l4 := col_len h2 h3
  have lp := List.length_pos_iff.mpr h1
  have a : fBlt bAll (fCons false (fLc false [1] (fSrc (fName 0)) (.one 1) fYes (x_is_column_1 h (ev n))) fNilA) [some (colD c), none] W = some (.d (.bl true), W) := by
    refine all_of (src := ⟨strsD c, yes⟩) rfl rfl (by rw [colD_len]; show c.length ≤ 1000; omega) fun d hd => ?_
    obtain ⟨o, ho, rfl⟩ := List.mem_map.mp hd
    simp [x_is_column_1, runB, startE, fSeq, fNil, fIf, fRet, fRetN, fDrop, fPass, fAsg, fTg, toD, fName, fC, fVal, fNotT, fAndT, fOrT, fBin, fCons, fNilA, fTup, fLst, fBlt, fIsi, fCall, fIte, fNeg, fNotV, fOrV, fAndV, fMth, fStore, fAug, fSl, fON, fOS, fSrc, fRng, fFor, fLc, wipeE, Ev.setN, is_order_ord ln (h3 o ho)]
  have b : fLenSet (fName 0) [some (colD c), none] W = some (.d (.int c.length), W) := by
    have l1 : (c.map Leaf.text).length ≤ 1000 := by rw [List.length_map]; omega
    have e2 := met_strs h2
    unfold fLenSet
    show (asS W (.d (colD c))).bind (fun xs => (asLf xs).bind fun ks => if ks.length ≤ 1000 then some (R.d (.int (met ks).length), W) else none) = _
    show (asLf (strsD c)).bind (fun ks => if ks.length ≤ 1000 then some (R.d (.int (met ks).length), W) else none) = _
    rw [asLf_strs, Option.bind_some, if_pos l1, e2]
  have hz : ¬ ((c.length : Nat) : Int) = 0 := by omega
  have bl : bLen W [colD c] = some (.d (.int c.length)) := by simp [bLen, colD, asS, colD_len]
  refine runB_rt (r := .d (.bl true)) (W' := W) ?_ (fin_same rfl)
  refine fSeq_nx (ρ' := [some (colD c), none]) (W' := W) (fIf_f (W1 := W) ?_ rfl) (fRet_eq (fBin_eq b (b := .d (.int c.length)) (W2 := W) ?_ ?_))
  · generalize fBlt bAll _ = A at a ⊢
    have tg : (R.d (colD c)).tag W = some "tuple" := rfl
    simp [runB, startE, fSeq, fNil, fIf, fRet, fRetN, fDrop, fPass, fAsg, fTg, toD, fName, fC, fVal, fNotT, fAndT, fOrT, fBin, fCons, fNilA, fTup, fLst, fBlt, fIsi, fCall, fIte, fNeg, fNotV, fOrV, fAndV, fMth, fStore, fAug, fSl, fON, fOS, fSrc, fRng, fFor, fLc, wipeE, Ev.setN, a, tg, isaB, bl, eq_int, hz, h1]
  · simp [runB, startE, fSeq, fNil, fIf, fRet, fRetN, fDrop, fPass, fAsg, fTg, toD, fName, fC, fVal, fNotT, fAndT, fOrT, fBin, fCons, fNilA, fTup, fLst, fBlt, fIsi, fCall, fIte, fNeg, fNotV, fOrV, fAndV, fMth, fStore, fAug, fSl, fON, fOS, fSrc, fRng, fFor, fLc, wipeE, Ev.setN, bl]
  · rw [eq_int]; simp
theorem is_schema_sch (hn : 3 ≤ n) (hS : GoodSch S) : ev n i_is_schema h [.lst (S.map colD)] W = some (.d (.bl true), W) := by
  obtain ⟨n, rfl, ln⟩ := lv hn
  obtain ⟨h1, h2, h3⟩ := hS
  rw [e_is_schema]
  have lp := List.length_pos_iff.mpr h1
  have a : fBlt bAll (fCons false (fLc false [1] (fSrc (fName 0)) (.one 1) fYes (x_is_schema_1 h (ev n))) fNilA) [some (.lst (S.map colD)), none] W = some (.d (.bl true), W) := by
    refine all_of (src := ⟨S.map colD, yes⟩) rfl rfl (by simp; omega) fun d hd => ?_
    obtain ⟨c, hc, rfl⟩ := List.mem_map.mp hd
    simp [x_is_schema_1, runB, startE, fSeq, fNil, fIf, fRet, fRetN, fDrop, fPass, fAsg, fTg, toD, fName, fC, fVal, fNotT, fAndT, fOrT, fBin, fCons, fNilA, fTup, fLst, fBlt, fIsi, fCall, fIte, fNeg, fNotV, fOrV, fAndV, fMth, fStore, fAug, fSl, fON, fOS, fSrc, fRng, fFor, fLc, wipeE, Ev.setN, is_column_col ln (h3 c hc)]
  have hz : ¬ ((S.length : Nat) : Int) = 0 := by omega
  have bl : bLen W [.lst (S.map colD)] = some (.d (.int S.length)) := by simp [bLen, asS, asL]
  have h6 : ¬ (6 : Int) < ((S.length : Nat) : Int) := by omega
  refine runB_rt (r := .d (.bl true)) (W' := W) ?_ (fin_same rfl)
  refine fSeq_nx (ρ' := [some (.lst (S.map colD)), none]) (W' := W) (fIf_f (W1 := W) ?_ rfl) (fRet_eq a)
  have tg : (R.d (.lst (S.map colD))).tag W = some "list" := rfl
  generalize S.map colD = L at tg bl
  simp [runB, startE, fSeq, fNil, fIf, fRet, fRetN, fDrop, fPass, fAsg, fTg, toD, fName, fC, fVal, fNotT, fAndT, fOrT, fBin, fCons, fNilA, fTup, fLst, fBlt, fIsi, fCall, fIte, fNeg, fNotV, fOrV, fAndV, fMth, fStore, fAug, fSl, fON, fOS, fSrc, fRng, fFor, fLc, wipeE, Ev.setN, tg, isaB, bl, eq_int, hz, h1, opGt, opCI, c_MOST_COLUMNS, h6]
theorem look_sch (hn : 4 ≤ n) (hS : GoodSch S) : ev n i_look_at_schema h [.lst (S.map colD)] W = some (.d .non, W) := by
  obtain ⟨n, rfl, ln⟩ := lv hn
  rw [e_look_at_schema]
  simp [runB, startE, fSeq, fNil, fIf, fRet, fRetN, fDrop, fPass, fAsg, fTg, toD, fName, fC, fVal, fNotT, fAndT, fOrT, fBin, fCons, fNilA, fTup, fLst, fBlt, fIsi, fCall, fIte, fNeg, fNotV, fOrV, fAndV, fMth, fStore, fAug, fSl, fON, fOS, fSrc, fRng, fFor, fLc, wipeE, Ev.setN, g_look_at_schema, is_schema_sch ln hS, fin_same]
/-- a step: a column and one of its orders -/
def StepOk (S : List (List Str)) (c : Nat) (o : Str) : Prop := ∃ col, S[c]? = some col ∧ o ∈ col
theorem in_col {U : Wd} {o : Str} {col : List Str} (ho : o ∈ col) : opIn id U (.d (.str o)) (.d (colD col)) = some (.d (.bl true)) := by
  have e1 : ∀ os : List Str, flA (strsD os) = some (os.map L2.V.str) := by
    intro os
    unfold strsD
    induction os with
    | nil => rfl
    | cons a r ih => rw [List.map_cons, flA, ih]; rfl
  have e3 : inV (.str o) (col.map L2.V.str) = true := by
    unfold inV
    rw [List.any_map]
    exact List.any_eq_true.mpr ⟨o, ho, by simp [eqV]⟩
  unfold colD
  show (flA (strsD col)).map (fun vs => R.d (.bl (id (inV (.str o) vs)))) = _
  rw [e1, Option.map_some, e3]; rfl
theorem sch_ix {U : Wd} {c : Nat} {col : List Str} (hc : S[c]? = some col) : opIx U (.d (.lst (S.map colD))) (.d (.int (c : Int))) = some (.d (colD col)) := by
  simp [opIx, asS, asL, atI_cast, hc]
theorem is_step_ok (hn : 3 ≤ n) (hS : GoodSch S) {c : Nat} {o : Str} (hs : StepOk S c o) : ev n i_is_step h [.lst (S.map colD), .tup [.int (c : Int), .str o]] W = some (.d (.bl true), W) := by
  obtain ⟨n, rfl, ln⟩ := lv hn
  obtain ⟨col, hc, ho⟩ := hs
  have hcS : c < S.length := getElem_lt hc
  have gc := hS.2.2 col (List.mem_of_getElem? hc)
  have bl : bLen W [.lst (S.map colD)] = some (.d (.int S.length)) := by simp [bLen, asS, asL]
  have e1 := is_below_nat (h := false) (W := W) ln hcS
  have e2 := is_order_ord (h := false) (W := W) (n := n) (by omega) (gc.2.2 o ho)
  have e3 := sch_ix (U := W) hc
  have e4 := in_col (U := W) ho
  rw [e_is_step]
  unfold g_is_step
  generalize S.map colD = L at bl e3 ⊢
  generalize colD col = C at e3 e4
  have x0 : opIx W (.d (.tup [.int (c : Int), .str o])) (.d (.int 0)) = some (.d (.int (c : Int))) := by simp [opIx, asS, atI, ixN]
  have x1 : opIx W (.d (.tup [.int (c : Int), .str o])) (.d (.int 1)) = some (.d (.str o)) := by simp [opIx, asS, atI, ixN]
  have tg : (R.d (.tup [.int (c : Int), .str o])).tag W = some "tuple" := rfl
  have bl2 : bLen W [.tup [.int (c : Int), .str o]] = some (.d (.int 2)) := by simp [bLen, asS]
  generalize D.tup [.int (c : Int), .str o] = Tp at x0 x1 tg bl2 ⊢
  simp [runB, startE, fSeq, fNil, fIf, fRet, fRetN, fDrop, fPass, fAsg, fTg, toD, fName, fC, fVal, fNotT, fAndT, fOrT, fBin, fCons, fNilA, fTup, fLst, fBlt, fIsi, fCall, fIte, fNeg, fNotV, fOrV, fAndV, fMth, fStore, fAug, fSl, fON, fOS, fSrc, fRng, fFor, fLc, wipeE, Ev.setN, tg, isaB, bl2, eq_int, x0, x1, bl, e1, e2, e3, e4, R.tru, fin_same]
/-- how many leaves a list has, told by a set -/
theorem len_sc {vs : List Nat} {s : FI} {t : Tg} {f : FE} {ρ : En} {src : Src} (F : D → Leaf) (e1 : s ρ W = some (src, W)) (hc : src.chk W = true) (hl : src.items.length ≤ 1000) (hn : (src.items.map F).Nodup)
    (hf : ∀ d ∈ src.items, ∃ ρ1 r, fTg t d (wipeE ρ vs) = some ρ1 ∧ f ρ1 W = some (r, W) ∧ r.lf = some (F d)) : fLenSc vs s t fYes f ρ W = some (.d (.int src.items.length), W) := by
  have e2 := scL_map (t := t) (f := f) (ρ := wipeE ρ vs) (W := W) F hc src.items [] (by simpa using hl) hf
  have e3 : (src.items.map F).foldl addK [] = src.items.map F := met_nodup hn
  unfold fLenSc
  rw [e1, Option.bind_some, e2, Option.map_some, e3, List.length_map]
theorem is_right_flat_ok (hn : 4 ≤ n) (hS : GoodSch S) {fl : List (Nat × Str)} (hf : GoodFlat S fl) (hl : fl.length ≤ 900) : ev n i_is_right_flat h [.lst (S.map colD), .lst (flatD fl)] W = some (.d (.bl true), W) := by
  obtain ⟨n, rfl, ln⟩ := lv hn
  obtain ⟨h1, h2⟩ := hf
  rw [e_is_right_flat]
  have lf : (flatD fl).length = fl.length := by simp [flatD]
  have a : fBlt bAll (fCons false (fLc false [4] (fSrc (fName 1)) (.one 4) fYes (x_is_right_flat_1 h (ev n))) fNilA) [some (.lst (S.map colD)), some (.lst (flatD fl)), none, none, none] W = some (.d (.bl true), W) := by
    refine all_of (src := ⟨flatD fl, yes⟩) rfl rfl (by rw [lf]; show fl.length ≤ 1000; omega) fun d hd => ?_
    obtain ⟨p, hp, rfl⟩ := List.mem_map.mp hd
    simp [x_is_right_flat_1, runB, startE, fSeq, fNil, fIf, fRet, fRetN, fDrop, fPass, fAsg, fTg, toD, fName, fC, fVal, fNotT, fAndT, fOrT, fBin, fCons, fNilA, fTup, fLst, fBlt, fIsi, fCall, fIte, fNeg, fNotV, fOrV, fAndV, fMth, fStore, fAug, fSl, fON, fOS, fSrc, fRng, fFor, fLc, wipeE, Ev.setN, is_step_ok ln hS (h2 p hp)]
  have b : fLenSc [2, 3] (fSrc (fName 1)) (.tup [2, 3]) fYes (fName 2) [some (.lst (S.map colD)), some (.lst (flatD fl)), none, none, none] W = some (.d (.int fl.length), W) := by
    have := len_sc (vs := [2, 3]) (s := fSrc (fName 1)) (t := .tup [2, 3]) (f := fName 2) (ρ := [some (.lst (S.map colD)), some (.lst (flatD fl)), none, none, none]) (W := W) (src := ⟨flatD fl, yes⟩)
      (fun d => match d with | .tup (.int i :: _) => Leaf.num i | _ => Leaf.none) rfl rfl (by rw [lf]; show fl.length ≤ 1000; omega) ?_ ?_
    · rw [lf] at this; exact this
    · have e : ((flatD fl).map fun d => match d with | .tup (.int i :: _) => Leaf.num i | _ => Leaf.none) = (fl.map (·.1)).map fun c : Nat => Leaf.num (c : Int) := by simp [flatD]
      show ((flatD fl).map _).Nodup
      rw [e]
      exact List.Pairwise.map _ (fun a b hab e => hab (by injection e with e; exact Int.ofNat_inj.mp e)) h1
    · intro d hd
      obtain ⟨p, hp, rfl⟩ := List.mem_map.mp hd
      exact ⟨_, .d (.int (p.1 : Int)), rfl, rfl, rfl⟩
  have bl : bLen W [.lst (flatD fl)] = some (.d (.int fl.length)) := by simp [bLen, asS, asL, lf]
  refine runB_rt (r := .d (.bl true)) (W' := W) ?_ (fin_same rfl)
  refine fSeq_nx (ρ' := [some (.lst (S.map colD)), some (.lst (flatD fl)), none, none, none]) (W' := W) (fIf_f (W1 := W) ?_ rfl) (fRet_eq (fBin_eq b (b := .d (.int fl.length)) (W2 := W) ?_ ?_))
  · generalize fBlt bAll _ = A at a ⊢
    have tg : (R.d (.lst (flatD fl))).tag W = some "list" := rfl
    simp [runB, startE, fSeq, fNil, fIf, fRet, fRetN, fDrop, fPass, fAsg, fTg, toD, fName, fC, fVal, fNotT, fAndT, fOrT, fBin, fCons, fNilA, fTup, fLst, fBlt, fIsi, fCall, fIte, fNeg, fNotV, fOrV, fAndV, fMth, fStore, fAug, fSl, fON, fOS, fSrc, fRng, fFor, fLc, wipeE, Ev.setN, a, tg, isaB]
  · simp [runB, startE, fSeq, fNil, fIf, fRet, fRetN, fDrop, fPass, fAsg, fTg, toD, fName, fC, fVal, fNotT, fAndT, fOrT, fBin, fCons, fNilA, fTup, fLst, fBlt, fIsi, fCall, fIte, fNeg, fNotV, fOrV, fAndV, fMth, fStore, fAug, fSl, fON, fOS, fSrc, fRng, fFor, fLc, wipeE, Ev.setN, bl]
  · rw [eq_int]; simp
theorem look_flat (hn : 5 ≤ n) (hS : GoodSch S) {fl : List (Nat × Str)} (hf : GoodFlat S fl) (hl : fl.length ≤ 900) : ev n i_look_at_flat h [.lst (S.map colD), .lst (flatD fl)] W = some (.d .non, W) := by
  obtain ⟨n, rfl, ln⟩ := lv hn
  rw [e_look_at_flat]
  simp [runB, startE, fSeq, fNil, fIf, fRet, fRetN, fDrop, fPass, fAsg, fTg, toD, fName, fC, fVal, fNotT, fAndT, fOrT, fBin, fCons, fNilA, fTup, fLst, fBlt, fIsi, fCall, fIte, fNeg, fNotV, fOrV, fAndV, fMth, fStore, fAug, fSl, fON, fOS, fSrc, fRng, fFor, fLc, wipeE, Ev.setN, g_look_at_flat, is_right_flat_ok ln hS hf hl, fin_same]
theorem is_branch_ok (hn : 3 ≤ n) (v : Option Int) (d : D) : ev n i_is_branch h [.tup [valD v, d]] W = some (.d (.bl true), W) := by
  obtain ⟨n, rfl, ln⟩ := lv hn
  rw [e_is_branch]
  have x0 : opIx W (.d (.tup [valD v, d])) (.d (.int 0)) = some (.d (valD v)) := by simp [opIx, asS, atI, ixN]
  have tg : (R.d (.tup [valD v, d])).tag W = some "tuple" := rfl
  have bl2 : bLen W [.tup [valD v, d]] = some (.d (.int 2)) := by simp [bLen, asS]
  have e := is_value_val (h := false) (W := W) (n := n) (by omega) v
  generalize D.tup [valD v, d] = Tp at x0 tg bl2 ⊢
  generalize valD v = vv at x0 e
  simp [runB, startE, fSeq, fNil, fIf, fRet, fRetN, fDrop, fPass, fAsg, fTg, toD, fName, fC, fVal, fNotT, fAndT, fOrT, fBin, fCons, fNilA, fTup, fLst, fBlt, fIsi, fCall, fIte, fNeg, fNotV, fOrV, fAndV, fMth, fStore, fAug, fSl, fON, fOS, fSrc, fRng, fFor, fLc, wipeE, Ev.setN, g_is_branch, tg, isaB, R.tru, bl2, eq_int, x0, e, fin_same]
theorem src_L {U : Wd} {L : D} {xs : List D} (e : asL U (.d L) = some xs) : ∃ chk, srcOf U (.d L) = some ⟨xs, chk⟩ ∧ ∀ U' : Wd, (∀ (j : Nat) (c : Cell), U[j]? = some c → U'[j]? = some c) → chk U' = true := by
  cases L with
  | lst ys => cases e; exact ⟨yes, rfl, fun _ _ => rfl⟩
  | hdl j =>
    have e : (U[j]?).map _ = some xs := e
    cases q : U[j]? with
    | none => rw [q] at e; cases e
    | some c =>
      rw [q] at e
      cases c with
      | lst ys =>
        cases e
        refine ⟨_, by simp only [srcOf, q]; rfl, fun U' hU => ?_⟩
        simp only [hU j _ q]
        exact sameA_refl _
  | _ => cases e
theorem tag_L {U : Wd} {L : D} {xs : List D} (e : asL U (.d L) = some xs) : (R.d L).tag U = some "list" := by
  cases L with
  | lst ys => rfl
  | hdl j =>
    have e : (U[j]?).map _ = some xs := e
    cases q : U[j]? with
    | none => rw [q] at e; cases e
    | some c => cases c with | lst ys => simp only [R.tag, q]; rfl
  | _ => cases e
theorem asS_L {U : Wd} {L : D} {xs : List D} (e : asL U (.d L) = some xs) : asS U (.d L) = some xs := by
  cases L with
  | lst ys => exact e
  | hdl j => exact e
  | _ => cases e
theorem len_L {U : Wd} {L : D} {xs : List D} (e : asL U (.d L) = some xs) : bLen U [L] = some (.d (.int xs.length)) := by
  have e2 := asS_L e
  cases L with
  | lst ys => simp only [bLen]; rw [e2]; rfl
  | hdl j => simp only [bLen]; rw [e2]; rfl
  | _ => cases e
def lfV' : Option Int → Leaf
  | none => .none
  | some i => .num i
theorem lf_val (v : Option Int) : (valD v).lf = some (lfV' v) := by cases v <;> rfl
end
end K06

set_option Elab.async false
set_option linter.all false
set_option maxRecDepth 100000
namespace K06
open PySem L2 Ev
section
variable {n : Nat} {W : Wd} {S : List (List Str)}
def sndD : D → D
  | .tup [_, d] => d
  | _ => .non
def fstLf : D → Leaf
  | .tup (d :: _) => (d.lf).getD .none
  | _ => .none
theorem lfV_inj {a b : Option Int} (e : lfV' a = lfV' b) : a = b := by
  cases a <;> cases b <;> simp [lfV'] at e <;> first | rfl | rw [e]
theorem trB_fst : ∀ {bs : List Br} {xs : List D}, TrB W bs xs → xs.map fstLf = (bs.map (·.1)).map lfV'
  | [], xs, q => by rw [trb_nil.mp q]; rfl
  | (v, b) :: r, xs, q => by
    obtain ⟨d, ys, rfl, h1, h2⟩ := trb_cons.mp q
    rw [List.map_cons, List.map_cons, List.map_cons, trB_fst h2]
    simp [fstLf, lf_val]
theorem trB_nodup {bs : List Br} {xs : List D} (q : TrB W bs xs) (hn : (bs.map (·.1)).Nodup) : (xs.map fstLf).Nodup := by
  rw [trB_fst q]
  exact List.Pairwise.map _ (fun a b hab e => hab (lfV_inj e)) hn
/-- the run behind the tests -/
theorem is_tw : ∀ (t : T) (h : Bool) (n : Nat) (us : List Nat) (d : D), GoodSch S → Tr W t d → GoodT S us t → t.dep + 5 ≤ n → us.length + t.dep ≤ 900 → ev n i_is_tree_without h [.lst (S.map colD), d, .lst (natsD us)] W = some (.d (.bl true), W) := by
  intro t
  refine T.ind (P := fun t => ∀ (h : Bool) (n : Nat) (us : List Nat) (d : D), GoodSch S → Tr W t d → GoodT S us t → t.dep + 5 ≤ n → us.length + t.dep ≤ 900 → ev n i_is_tree_without h [.lst (S.map colD), d, .lst (natsD us)] W = some (.d (.bl true), W)) ?_ ?_ t
  · intro h n us d hS hr hg hn hl
    obtain ⟨n, rfl, ln⟩ := lv (c := 4) (n := n) (by omega)
    obtain rfl := tr_nil.mp hr
    rw [e_is_tree_without]
    simp [runB, startE, fSeq, fNil, fIf, fRet, fRetN, fDrop, fPass, fAsg, fTg, toD, fName, fC, fVal, fNotT, fAndT, fOrT, fBin, fCons, fNilA, fTup, fLst, fBlt, fIsi, fCall, fIte, fNeg, fNotV, fOrV, fAndV, fMth, fStore, fAug, fSl, fON, fOS, fSrc, fRng, fFor, fLc, wipeE, Ev.setN, g_is_tree_without, opIs, fin_same]
  · intro c o bs t ihb iht h n us d hS hr hg hn hl
    obtain ⟨n, rfl, ln⟩ := lv (c := 4) (n := n) (by omega)
    obtain ⟨L, d', xs, rfl, hL, hB, ht⟩ := tr_node.mp hr
    obtain ⟨hc, hso, hnd, hb4, gB, gt⟩ := goodT_node.mp hg
    have gb := goodB_iff.mp gB
    rw [T.dep] at hn hl
    have lx := trB_len hB
    obtain ⟨chk, hsrc, hchk⟩ := src_L hL
    have hck := hchk W fun _ _ e => e
    rw [e_is_tree_without]
    have x0 : opIx W (.d (.tup [.int (c : Int), .str o, L, d'])) (.d (.int 0)) = some (.d (.int (c : Int))) := by simp [opIx, asS, atI, ixN]
    have x2 : opIx W (.d (.tup [.int (c : Int), .str o, L, d'])) (.d (.int 2)) = some (.d L) := by simp [opIx, asS, atI, ixN]
    have x3 : opIx W (.d (.tup [.int (c : Int), .str o, L, d'])) (.d (.int 3)) = some (.d d') := by simp [opIx, asS, atI, ixN]
    have tg : (R.d (.tup [.int (c : Int), .str o, L, d'])).tag W = some "tuple" := rfl
    have bl : bLen W [.tup [.int (c : Int), .str o, L, d']] = some (.d (.int 4)) := by simp [bLen, asS]
    have sl : opSl W (.d (.tup [.int (c : Int), .str o, L, d'])) none (some 2) = some (.d (.tup [.int (c : Int), .str o])) := by
      show some (R.d (.tup (cutD _ none (some ((2 : Nat) : Int))))) = _
      rw [cut_take _ _ (by simp)]; rfl
    have notN : opIs id W (.d (.tup [.int (c : Int), .str o, L, d'])) (.d .non) = some (.d (.bl false)) := by simp [opIs]
    have st := is_step_ok (h := false) (W := W) (n := n) (by omega) hS hso
    have inu := in_nats (g := id) (V := W) (c := c) (us := us)
    have tgL := tag_L hL
    have blL := len_L hL
    generalize hTp : D.tup [.int (c : Int), .str o, L, d'] = Tp at x0 x2 x3 tg bl sl notN ⊢
    have ρe : startE 6 [.lst (S.map colD), Tp, .lst (natsD us)] = [some (.lst (S.map colD)), some Tp, some (.lst (natsD us)), none, none, none] := rfl
    have src2 : ∀ ρ : En, ρ[1]? = some (some Tp) → fSrc (fBin opIx (fName 1) (fC (.int 2))) ρ W = some (⟨xs, chk⟩, W) := fun ρ hρ => by
      refine fSrc_eq (r := .d L) (W1 := W) (fBin_eq (a := .d Tp) (b := .d (.int 2)) (W1 := W) ?_ rfl x2) hsrc
      unfold fName; rw [hρ]; rfl
    have a : fBlt bAll (fCons false (fLc false [5] (fSrc (fBin opIx (fName 1) (fC (.int 2)))) (.one 5) fYes (x_is_tree_without_4 h (ev n))) fNilA) [some (.lst (S.map colD)), some Tp, some (.lst (natsD us)), none, none, none] W = some (.d (.bl true), W) := by
      refine all_of (src := ⟨xs, chk⟩) (src2 _ rfl) hck (by show xs.length ≤ 1000; omega) fun x hx => ?_
      obtain ⟨b, hb, d2, rfl, _⟩ := trB_mem hB x hx
      simp [x_is_tree_without_4, runB, startE, fSeq, fNil, fIf, fRet, fRetN, fDrop, fPass, fAsg, fTg, toD, fName, fC, fVal, fNotT, fAndT, fOrT, fBin, fCons, fNilA, fTup, fLst, fBlt, fIsi, fCall, fIte, fNeg, fNotV, fOrV, fAndV, fMth, fStore, fAug, fSl, fON, fOS, fSrc, fRng, fFor, fLc, wipeE, Ev.setN, is_branch_ok (h := false) (W := W) (n := n) (by omega) b.1 d2]
    have b : fLenSc [5] (fSrc (fBin opIx (fName 1) (fC (.int 2)))) (.one 5) fYes (x_is_tree_without_3 h (ev n)) [some (.lst (S.map colD)), some Tp, some (.lst (natsD us)), none, none, none] W = some (.d (.int xs.length), W) := by
      refine len_sc (src := ⟨xs, chk⟩) fstLf (src2 _ rfl) hck (by show xs.length ≤ 1000; omega) (trB_nodup hB hnd) fun x hx => ?_
      obtain ⟨b, hb, d2, rfl, _⟩ := trB_mem hB x hx
      refine ⟨_, .d (valD b.1), rfl, ?_, ?_⟩
      · simp [x_is_tree_without_3, runB, startE, fSeq, fNil, fIf, fRet, fRetN, fDrop, fPass, fAsg, fTg, toD, fName, fC, fVal, fNotT, fAndT, fOrT, fBin, fCons, fNilA, fTup, fLst, fBlt, fIsi, fCall, fIte, fNeg, fNotV, fOrV, fAndV, fMth, fStore, fAug, fSl, fON, fOS, fSrc, fRng, fFor, fLc, wipeE, Ev.setN, opIx, asS, atI, ixN]
      · show (valD b.1).lf = some ((valD b.1).lf.getD .none)
        rw [lf_val]; rfl
    have e1 : fLc false [5] (fSrc (fBin opIx (fName 1) (fC (.int 2)))) (.one 5) fYes (x_is_tree_without_1 h (ev n)) [some (.lst (S.map colD)), some Tp, some (.lst (natsD us)), some (.lst (natsD (us ++ [c]))), none, none] W = some (.fr (xs.map sndD), W) := by
      refine fLc_eq (src := ⟨xs, chk⟩) (src2 _ rfl) (lcL_map sndD hck xs [] (by rw [small]; simp; omega) fun x hx => ?_)
      obtain ⟨b, hb, d2, rfl, _⟩ := trB_mem hB x hx
      refine ⟨_, rfl, ?_⟩
      simp [x_is_tree_without_1, runB, startE, fSeq, fNil, fIf, fRet, fRetN, fDrop, fPass, fAsg, fTg, toD, fName, fC, fVal, fNotT, fAndT, fOrT, fBin, fCons, fNilA, fTup, fLst, fBlt, fIsi, fCall, fIte, fNeg, fNotV, fOrV, fAndV, fMth, fStore, fAug, fSl, fON, fOS, fSrc, fRng, fFor, fLc, wipeE, Ev.setN, opIx, asS, atI, ixN, sndD]
    have l3 : (xs.map sndD).length + [d'].length ≤ sizeLine := by rw [List.length_map, small]; simp; omega
    have z : fBlt bAll (fCons false (fLc false [4] (fSrc (fBin opAdd (fLc false [5] (fSrc (fBin opIx (fName 1) (fC (.int 2)))) (.one 5) fYes (x_is_tree_without_1 h (ev n))) (fLst (fCons false (fBin opIx (fName 1) (fC (.int 3))) fNilA)))) (.one 4) fYes (x_is_tree_without_2 h (ev n))) fNilA) [some (.lst (S.map colD)), some Tp, some (.lst (natsD us)), some (.lst (natsD (us ++ [c]))), none, none] W = some (.d (.bl true), W) := by
      refine all_of (src := ⟨xs.map sndD ++ [d'], yes⟩) (fSrc_eq (r := .fr (xs.map sndD ++ [d'])) (W1 := W) (fBin_eq e1 (b := .fr [d']) (W2 := W) ?_ ?_) rfl) rfl ?_ fun x hx => ?_
      · simp [runB, startE, fSeq, fNil, fIf, fRet, fRetN, fDrop, fPass, fAsg, fTg, toD, fName, fC, fVal, fNotT, fAndT, fOrT, fBin, fCons, fNilA, fTup, fLst, fBlt, fIsi, fCall, fIte, fNeg, fNotV, fOrV, fAndV, fMth, fStore, fAug, fSl, fON, fOS, fSrc, fRng, fFor, fLc, wipeE, Ev.setN, x3]
      · show (if _ then _ else _) = _
        rw [if_pos l3]
      · show (xs.map sndD ++ [d']).length ≤ 1000
        simp; omega
      · have key : ∀ (s : T) (d2 : D), Tr W s d2 → (∀ (h : Bool) (n : Nat) (us : List Nat) (d : D), GoodSch S → Tr W s d → GoodT S us s → s.dep + 5 ≤ n → us.length + s.dep ≤ 900 → ev n i_is_tree_without h [.lst (S.map colD), d, .lst (natsD us)] W = some (.d (.bl true), W)) → GoodT S (us ++ [c]) s → s.dep ≤ max (T.deps bs) t.dep →
            x_is_tree_without_2 h (ev n) ((wipeE [some (.lst (S.map colD)), some Tp, some (.lst (natsD us)), some (.lst (natsD (us ++ [c]))), none, none] [4]).set 4 (some d2)) W = some (.d (.bl true), W) := fun s d2 hr2 ih g2 hd => by
          have := ih false n (us ++ [c]) d2 hS hr2 g2 (by omega) (by rw [List.length_append]; simp; omega)
          simp [x_is_tree_without_2, runB, startE, fSeq, fNil, fIf, fRet, fRetN, fDrop, fPass, fAsg, fTg, toD, fName, fC, fVal, fNotT, fAndT, fOrT, fBin, fCons, fNilA, fTup, fLst, fBlt, fIsi, fCall, fIte, fNeg, fNotV, fOrV, fAndV, fMth, fStore, fAug, fSl, fON, fOS, fSrc, fRng, fFor, fLc, wipeE, Ev.setN, this]
        rcases List.mem_append.mp hx with q | q
        · obtain ⟨y, hy, rfl⟩ := List.mem_map.mp q
          obtain ⟨b, hb, d2, rfl, hr2⟩ := trB_mem hB y hy
          exact key b.2 d2 hr2 (ihb b hb) (gb b hb).2 (Nat.le_trans (deps_mem hb) (Nat.le_max_left _ _))
        · rw [List.mem_singleton.mp q]
          exact key t d' ht iht gt (Nat.le_max_right _ _)
    refine runB_rt (r := .d (.bl true)) (W' := W) ?_ (fin_same rfl)
    rw [ρe]
    refine fSeq_nx (ρ' := [some (.lst (S.map colD)), some Tp, some (.lst (natsD us)), none, none, none]) (W' := W) (fIf_f (W1 := W) (by simp [runB, startE, fSeq, fNil, fIf, fRet, fRetN, fDrop, fPass, fAsg, fTg, toD, fName, fC, fVal, fNotT, fAndT, fOrT, fBin, fCons, fNilA, fTup, fLst, fBlt, fIsi, fCall, fIte, fNeg, fNotV, fOrV, fAndV, fMth, fStore, fAug, fSl, fON, fOS, fSrc, fRng, fFor, fLc, wipeE, Ev.setN, notN]) rfl)
      (fSeq_nx (ρ' := [some (.lst (S.map colD)), some Tp, some (.lst (natsD us)), none, none, none]) (W' := W) (fIf_f (W1 := W) (by simp [runB, startE, fSeq, fNil, fIf, fRet, fRetN, fDrop, fPass, fAsg, fTg, toD, fName, fC, fVal, fNotT, fAndT, fOrT, fBin, fCons, fNilA, fTup, fLst, fBlt, fIsi, fCall, fIte, fNeg, fNotV, fOrV, fAndV, fMth, fStore, fAug, fSl, fON, fOS, fSrc, fRng, fFor, fLc, wipeE, Ev.setN, tg, isaB, bl, eq_int, sl, st, x0, inu, hc]) rfl)
      (fSeq_nx (ρ' := [some (.lst (S.map colD)), some Tp, some (.lst (natsD us)), none, none, none]) (W' := W) (fIf_f (W1 := W) ?_ rfl)
      (fSeq_nx (ρ' := [some (.lst (S.map colD)), some Tp, some (.lst (natsD us)), none, none, none]) (W' := W) (fIf_f (W1 := W) (fVal_eq (fBin_eq b (b := .d (.int xs.length)) (W2 := W) ?_ ?_)) rfl)
      (fSeq_nx (ρ' := [some (.lst (S.map colD)), some Tp, some (.lst (natsD us)), some (.lst (natsD (us ++ [c]))), none, none]) (W' := W) ?_ (fRet_eq z)))))
    · generalize fBlt bAll _ = A at a ⊢
      simp [runB, startE, fSeq, fNil, fIf, fRet, fRetN, fDrop, fPass, fAsg, fTg, toD, fName, fC, fVal, fNotT, fAndT, fOrT, fBin, fCons, fNilA, fTup, fLst, fBlt, fIsi, fCall, fIte, fNeg, fNotV, fOrV, fAndV, fMth, fStore, fAug, fSl, fON, fOS, fSrc, fRng, fFor, fLc, wipeE, Ev.setN, a, x2, tgL, isaB]
    · simp [runB, startE, fSeq, fNil, fIf, fRet, fRetN, fDrop, fPass, fAsg, fTg, toD, fName, fC, fVal, fNotT, fAndT, fOrT, fBin, fCons, fNilA, fTup, fLst, fBlt, fIsi, fCall, fIte, fNeg, fNotV, fOrV, fAndV, fMth, fStore, fAug, fSl, fON, fOS, fSrc, fRng, fFor, fLc, wipeE, Ev.setN, x2, blL]
    · simp [opLt, opCI]
    · refine (fAsg_one (r := .fr (natsD (us ++ [c]))) (W1 := W) (fBin_eq (a := .d (.lst (natsD us))) (b := .fr [.int (c : Int)]) rfl ?_ ?_)).trans rfl
      · simp [runB, startE, fSeq, fNil, fIf, fRet, fRetN, fDrop, fPass, fAsg, fTg, toD, fName, fC, fVal, fNotT, fAndT, fOrT, fBin, fCons, fNilA, fTup, fLst, fBlt, fIsi, fCall, fIte, fNeg, fNotV, fOrV, fAndV, fMth, fStore, fAug, fSl, fON, fOS, fSrc, fRng, fFor, fLc, wipeE, Ev.setN, x0]
      · have eu : natsD us ++ [.int (c : Int)] = natsD (us ++ [c]) := by simp [natsD]
        rw [← eu]
        show (if _ then _ else _) = _
        rw [if_pos (by rw [small, natsD_len]; simp; omega)]
end
end K06

set_option Elab.async false
set_option linter.all false
set_option maxRecDepth 100000
namespace K06
open PySem L2 Ev
section
variable {n : Nat} {W : Wd} {S : List (List Str)}
theorem is_tree_ok {h : Bool} (hn : 7 ≤ n) (hS : GoodSch S) {t : T} {d : D} (hr : Tr W t d) (hg : GoodT S [] t) (hd : t.dep + 6 ≤ n) (hl : t.dep ≤ 900) : ev n i_is_tree h [.lst (S.map colD), d] W = some (.d (.bl true), W) := by
  obtain ⟨n, rfl, ln⟩ := lv (c := 6) (n := n) (by omega)
  have e2 := is_tw t false n [] d hS hr hg (by omega) (by simpa using hl)
  have e3 : natsD [] = [] := rfl
  rw [e3] at e2
  rw [e_is_tree]
  simp [runB, startE, fSeq, fNil, fIf, fRet, fRetN, fDrop, fPass, fAsg, fTg, toD, fName, fC, fVal, fNotT, fAndT, fOrT, fBin, fCons, fNilA, fTup, fLst, fBlt, fIsi, fCall, fIte, fNeg, fNotV, fOrV, fAndV, fMth, fStore, fAug, fSl, fON, fOS, fSrc, fRng, fFor, fLc, wipeE, Ev.setN, g_is_tree, look_sch (h := false) (W := W) (n := n) (by omega) hS, e2, fin_same]

/-! ### which value stands first; where a branch goes -/
def vlt : Option Int → Option Int → Bool
  | none, _ => true
  | some _, none => false
  | some a, some b => decide (a < b)
theorem is_vb {h : Bool} (hn : 1 ≤ n) (a b : Option Int) : ev n i_is_value_before h [valD a, valD b] W = some (.d (.bl (vlt a b)), W) := by
  obtain ⟨n, rfl, ln⟩ := lv hn
  rw [e_is_value_before]
  cases a with
  | none => cases b <;> simp [runB, startE, fSeq, fNil, fIf, fRet, fRetN, fDrop, fPass, fAsg, fTg, toD, fName, fC, fVal, fNotT, fAndT, fOrT, fBin, fCons, fNilA, fTup, fLst, fBlt, fIsi, fCall, fIte, fNeg, fNotV, fOrV, fAndV, fMth, fStore, fAug, fSl, fON, fOS, fSrc, fRng, fFor, fLc, wipeE, Ev.setN, g_is_value_before, valD, vlt, opIs, R.tru, fin_same]
  | some a => cases b <;> simp [runB, startE, fSeq, fNil, fIf, fRet, fRetN, fDrop, fPass, fAsg, fTg, toD, fName, fC, fVal, fNotT, fAndT, fOrT, fBin, fCons, fNilA, fTup, fLst, fBlt, fIsi, fCall, fIte, fNeg, fNotV, fOrV, fAndV, fMth, fStore, fAug, fSl, fON, fOS, fSrc, fRng, fFor, fLc, wipeE, Ev.setN, g_is_value_before, valD, vlt, opIs, R.tru, opLt, opCI, fin_same]
section
variable {α : Type} (key : α → Option Int)
def pos (v : Option Int) (fs : List α) : Nat → Nat
  | 0 => 0
  | p + 1 => match fs[p]? with
    | some e => if vlt v (key e) = true then pos v fs p else p + 1
    | none => p + 1
def insP (e : α) (fs : List α) : List α := fs.take (pos key (key e) fs fs.length) ++ [e] ++ fs.drop (pos key (key e) fs fs.length)
def keepP (tr : α → T) (t' : T) : List α → List α → List α
  | [], fs => fs
  | e :: r, fs => keepP tr t' r (if PyData.eqv (tr e).py t'.py = true then fs else insP key e fs)
theorem pos_le (v : Option Int) (fs : List α) : ∀ p, pos key v fs p ≤ p
  | 0 => Nat.le_refl _
  | p + 1 => by
    unfold pos
    split
    · split
      · exact Nat.le_succ_of_le (pos_le v fs p)
      · exact Nat.le_refl _
    · exact Nat.le_refl _
theorem insP_len (e : α) (fs : List α) : (insP key e fs).length = fs.length + 1 := by
  unfold insP
  simp
  omega
theorem insP_perm (e : α) (fs : List α) : (insP key e fs).Perm (e :: fs) := by
  have := ins_perm fs e (pos key (key e) fs fs.length)
  unfold insP
  simpa using this
end
theorem pos_map {α β : Type} (f : α → β) (key : β → Option Int) (v : Option Int) (fs : List α) : ∀ p, pos key v (fs.map f) p = pos (fun a => key (f a)) v fs p
  | 0 => rfl
  | p + 1 => by
    unfold pos
    rw [List.getElem?_map, pos_map f key v fs p]
    cases fs[p]? <;> rfl
theorem insP_map {α β : Type} (f : α → β) (key : β → Option Int) (e : α) (fs : List α) : (insP (fun a => key (f a)) e fs).map f = insP key (f e) (fs.map f) := by
  unfold insP
  rw [pos_map, List.length_map]
  simp
theorem keepP_map {α β : Type} (f : α → β) (key : β → Option Int) (tr : β → T) (t' : T) : ∀ (es fs : List α), (keepP (fun a => key (f a)) (fun a => tr (f a)) t' es fs).map f = keepP key tr t' (es.map f) (fs.map f)
  | [], fs => rfl
  | e :: r, fs => by
    unfold keepP
    rw [List.map_cons]
    show _ = keepP key tr t' (r.map f) _
    rw [keepP_map f key tr t' r]
    congr 1
    split
    · rfl
    · exact insP_map f key e fs

/-! ### the loops of made_plain: its branches as triples -/
abbrev Tp := Br × D
def tpD (e : Tp) : D := .tup [valD e.1.1, e.2]
def kT (e : Tp) : Option Int := e.1.1
def tT (e : Tp) : T := e.1.2
theorem mp_while {h : Bool} (hn : 1 ≤ n) {V : Wd} {j : Nat} {fs : List Tp} {e : Tp} {a0 a1 a2 a6 a7 : Option D} (hj : V[j]? = some (.lst (fs.map tpD))) : ∀ (p N : Nat), p ≤ fs.length → p < N →
    whileN (y_made_plain_1 h (ev n)) (l_made_plain_2 h (ev n)) N [a0, a1, a2, some (.hdl j), some (tpD e), some (.int (p : Int)), a6, a7] V = some (.nx [a0, a1, a2, some (.hdl j), some (tpD e), some (.int (pos kT (kT e) fs p : Int)), a6, a7] V)
  | 0, N + 1, _, _ => by
    unfold whileN
    simp [y_made_plain_1, runB, startE, fSeq, fNil, fIf, fRet, fRetN, fDrop, fPass, fAsg, fTg, toD, fName, fC, fVal, fNotT, fAndT, fOrT, fBin, fCons, fNilA, fTup, fLst, fBlt, fIsi, fCall, fIte, fNeg, fNotV, fOrV, fAndV, fMth, fStore, fAug, fSl, fON, fOS, fSrc, fRng, fFor, fLc, wipeE, Ev.setN, opGt, opCI, pos]
  | p + 1, N + 1, hp, hN => by
    have hf := List.getElem?_eq_getElem (l := fs) (i := p) (by omega)
    generalize fs[p]'(by omega) = f at hf
    have hfd : (fs.map tpD)[p]? = some (tpD f) := by rw [List.getElem?_map, hf]; rfl
    have x1 : opIx V (.d (.hdl j)) (.d (.int (p : Int))) = some (.d (tpD f)) := by simp only [opIx, asS, asL, hj, Option.map_some, Option.bind_some, atI_cast, hfd]
    have y1 : ∀ q : Tp, opIx V (.d (tpD q)) (.d (.int 0)) = some (.d (valD q.1.1)) := fun q => by simp [tpD, opIx, asS, atI, ixN]
    have vb : ev n i_is_value_before false [valD e.1.1, valD f.1.1] V = some (.d (.bl (vlt (kT e) (kT f))), V) := is_vb (h := false) (W := V) hn (kT e) (kT f)
    have g0 : (0 : Int) < (p : Int) + 1 := by omega
    have tst : y_made_plain_1 h (ev n) [a0, a1, a2, some (.hdl j), some (tpD e), some (.int ((p + 1 : Nat) : Int)), a6, a7] V = some (vlt (kT e) (kT f), V) := by
      simp [y_made_plain_1, runB, startE, fSeq, fNil, fIf, fRet, fRetN, fDrop, fPass, fAsg, fTg, toD, fName, fC, fVal, fNotT, fAndT, fOrT, fBin, fCons, fNilA, fTup, fLst, fBlt, fIsi, fCall, fIte, fNeg, fNotV, fOrV, fAndV, fMth, fStore, fAug, fSl, fON, fOS, fSrc, fRng, fFor, fLc, wipeE, Ev.setN, opGt, opCI, g0, y1, opSub, x1, vb]
    have ep : pos kT (kT e) fs (p + 1) = if vlt (kT e) (kT f) = true then pos kT (kT e) fs p else p + 1 := by
      rw [pos, hf]
    unfold whileN
    rw [tst, Option.bind_some, ep]
    by_cases hv : vlt (kT e) (kT f) = true
    · rw [if_pos hv, if_pos hv]
      have ih := mp_while (h := h) hn (a0 := a0) (a1 := a1) (a2 := a2) (a6 := a6) (a7 := a7) (e := e) hj p N (by omega) (by omega)
      have b : l_made_plain_2 h (ev n) [a0, a1, a2, some (.hdl j), some (tpD e), some (.int ((p + 1 : Nat) : Int)), a6, a7] V = some (.nx [a0, a1, a2, some (.hdl j), some (tpD e), some (.int (p : Int)), a6, a7] V) := by
        simp [l_made_plain_2, runB, startE, fSeq, fNil, fIf, fRet, fRetN, fDrop, fPass, fAsg, fTg, toD, fName, fC, fVal, fNotT, fAndT, fOrT, fBin, fCons, fNilA, fTup, fLst, fBlt, fIsi, fCall, fIte, fNeg, fNotV, fOrV, fAndV, fMth, fStore, fAug, fSl, fON, fOS, fSrc, fRng, fFor, fLc, wipeE, Ev.setN]
      rw [b, Option.bind_some]
      exact ih
    · rw [if_neg hv, if_neg hv]
theorem mp_body {h : Bool} (hn : 1 ≤ n) {V : Wd} {j : Nat} {fs : List Tp} {e : Tp} {t' : T} {d' : D} {a0 a2 x5 a6 a7 : Option D} (hj : V[j]? = some (.lst (fs.map tpD))) (hl : fs.length < 900) (p1 : e.2.py V 60 = some (tT e).py) (p2 : d'.py V 60 = some t'.py) :
    ∃ x5', l_made_plain_3 h (ev n) [a0, some d', a2, some (.hdl j), some (tpD e), x5, a6, a7] V = some (.nx [a0, some d', a2, some (.hdl j), some (tpD e), x5', a6, a7] (if PyData.eqv (tT e).py t'.py = true then V else V.set j (.lst ((insP kT e fs).map tpD)))) := by
  have y1 : opIx V (.d (tpD e)) (.d (.int 1)) = some (.d e.2) := by simp [tpD, opIx, asS, atI, ixN]
  have q : opEq Bool.not V (.d e.2) (.d d') = some (.d (.bl (!PyData.eqv (tT e).py t'.py))) := by
    show (e.2.py V 60).bind (fun p => (d'.py V 60).map fun q => R.d (.bl (!PyData.eqv p q))) = _
    rw [p1, Option.bind_some, p2]; rfl
  unfold l_made_plain_3
  by_cases hv : PyData.eqv (tT e).py t'.py = true
  · refine ⟨x5, fIf_f (W1 := V) ?_ ?_⟩
    · simp [runB, startE, fSeq, fNil, fIf, fRet, fRetN, fDrop, fPass, fAsg, fTg, toD, fName, fC, fVal, fNotT, fAndT, fOrT, fBin, fCons, fNilA, fTup, fLst, fBlt, fIsi, fCall, fIte, fNeg, fNotV, fOrV, fAndV, fMth, fStore, fAug, fSl, fON, fOS, fSrc, fRng, fFor, fLc, wipeE, Ev.setN, y1, q, hv]
    · rw [if_pos hv]; rfl
  · refine ⟨some (.int (pos kT (kT e) fs fs.length : Int)), fIf_t (W1 := V) ?_ ?_⟩
    · simp [runB, startE, fSeq, fNil, fIf, fRet, fRetN, fDrop, fPass, fAsg, fTg, toD, fName, fC, fVal, fNotT, fAndT, fOrT, fBin, fCons, fNilA, fTup, fLst, fBlt, fIsi, fCall, fIte, fNeg, fNotV, fOrV, fAndV, fMth, fStore, fAug, fSl, fON, fOS, fSrc, fRng, fFor, fLc, wipeE, Ev.setN, y1, q, hv]
    · rw [if_neg hv]
      have lb : bLen V [.hdl j] = some (.d (.int fs.length)) := by simp [bLen, asS, asL, hj]
      have w := mp_while (h := h) hn (e := e) (a0 := a0) (a1 := some d') (a2 := a2) (a6 := a6) (a7 := a7) hj fs.length wBound (Nat.le_refl _) (by unfold wBound; omega)
      refine fSeq_nx (ρ' := [a0, some d', a2, some (.hdl j), some (tpD e), some (.int (fs.length : Int)), a6, a7]) (W' := V) (by simp [runB, startE, fSeq, fNil, fIf, fRet, fRetN, fDrop, fPass, fAsg, fTg, toD, fName, fC, fVal, fNotT, fAndT, fOrT, fBin, fCons, fNilA, fTup, fLst, fBlt, fIsi, fCall, fIte, fNeg, fNotV, fOrV, fAndV, fMth, fStore, fAug, fSl, fON, fOS, fSrc, fRng, fFor, fLc, wipeE, Ev.setN, lb]) (fSeq_nx (by unfold fWhile; exact w) ?_)
      have pl := pos_le kT (kT e) fs fs.length
      have l1 : (pos kT (kT e) fs fs.length : Int) < 9223372036854775808 := by omega
      have l2 : fs.length < 16777216 := by omega
      have ei : (insP kT e fs).map tpD = (fs.map tpD).take (pos kT (kT e) fs fs.length) ++ [tpD e] ++ (fs.map tpD).drop (pos kT (kT e) fs fs.length) := by
        unfold insP; simp
      rw [ei]
      generalize pos kT (kT e) fs fs.length = P at l1
      generalize tpD e = te
      simp [runB, startE, fSeq, fNil, fIf, fRet, fRetN, fDrop, fPass, fAsg, fTg, toD, fName, fC, fVal, fNotT, fAndT, fOrT, fBin, fCons, fNilA, fTup, fLst, fBlt, fIsi, fCall, fIte, fNeg, fNotV, fOrV, fAndV, fMth, fStore, fAug, fSl, fON, fOS, fSrc, fRng, fFor, fLc, wipeE, Ev.setN, asL, hj, mInsert, asH, small, l1, l2]
theorem mp_loop {h : Bool} (hn : 1 ≤ n) {j : Nat} {t' : T} {d' : D} {a0 a2 a6 a7 : Option D} (V0 : Wd) (hV0 : ∃ c, V0[j]? = some c) (hd : ∀ xs, d'.py (V0.set j (.lst xs)) 60 = some t'.py) :
    ∀ (es fs : List Tp) (x4 x5 : Option D), (∀ e ∈ es, ∀ xs, e.2.py (V0.set j (.lst xs)) 60 = some (tT e).py) → fs.length + es.length ≤ 900 →
      ∃ x4' x5', forL yes (.one 4) (l_made_plain_3 h (ev n)) (es.map tpD) [a0, some d', a2, some (.hdl j), x4, x5, a6, a7] (V0.set j (.lst (fs.map tpD))) = some (.nx [a0, some d', a2, some (.hdl j), x4', x5', a6, a7] (V0.set j (.lst ((keepP kT tT t' es fs).map tpD))))
  | [], fs, x4, x5, _, _ => ⟨x4, x5, by simp [forL, keepP, yes]⟩
  | e :: r, fs, x4, x5, he, hl => by
    obtain ⟨c, hc⟩ := hV0
    rw [List.length_cons] at hl
    obtain ⟨x5', b⟩ := mp_body (n := n) (h := h) (fs := fs) (e := e) (a0 := a0) (a2 := a2) (x5 := x5) (a6 := a6) (a7 := a7) hn (set_at hc) (by omega) (he e List.mem_cons_self _) (hd _)
    have eV : (if PyData.eqv (tT e).py t'.py = true then V0.set j (.lst (fs.map tpD)) else (V0.set j (.lst (fs.map tpD))).set j (.lst ((insP kT e fs).map tpD))) = V0.set j (.lst ((if PyData.eqv (tT e).py t'.py = true then fs else insP kT e fs).map tpD)) := by
      split
      · rfl
      · rw [List.set_set]
    rw [eV] at b
    obtain ⟨x4'', x5'', ih⟩ := mp_loop (h := h) hn (a0 := a0) (a2 := a2) (a6 := a6) (a7 := a7) V0 ⟨c, hc⟩ hd r (if PyData.eqv (tT e).py t'.py = true then fs else insP kT e fs) (some (tpD e)) x5' (fun x hx => he x (List.mem_cons_of_mem _ hx)) (by
      split
      · omega
      · rw [insP_len]; omega)
    refine ⟨x4'', x5'', ?_⟩
    rw [List.map_cons]
    unfold forL
    rw [if_pos (show yes (V0.set j (.lst (fs.map tpD))) = true from rfl)]
    show (l_made_plain_3 h (ev n) [a0, some d', a2, some (.hdl j), some (tpD e), x5, a6, a7] (V0.set j (.lst (fs.map tpD)))).bind _ = _
    rw [b, Option.bind_some]
    exact ih
end
end K06

set_option Elab.async false
set_option linter.all false
set_option maxRecDepth 100000
namespace K06
open PySem L2 Ev
section
variable {n : Nat} {W : Wd} {S : List (List Str)}
/-! ### the plain tree -/
mutual
def mp : T → T
  | .nil => .nil
  | .node c o bs t => .node c o (keepP (fun b : Br => b.1) (fun b : Br => b.2) (mp t) (mpB bs) []) (mp t)
def mpB : List Br → List Br
  | [] => []
  | (v, b) :: r => (v, mp b) :: mpB r
end
theorem mp_nil : mp .nil = .nil := by simp only [mp]
theorem mp_node (c : Nat) (o : Str) (bs : List Br) (t : T) : mp (.node c o bs t) = .node c o (keepP (fun b : Br => b.1) (fun b : Br => b.2) (mp t) (mpB bs) []) (mp t) := by simp only [mp]
theorem mpB_map : ∀ bs : List Br, mpB bs = bs.map fun b => (b.1, mp b.2)
  | [] => by simp only [mpB]; rfl
  | (v, b) :: r => by rw [mpB, mpB_map r]; rfl
theorem keepP_perm {α : Type} (key : α → Option Int) (tr : α → T) (t' : T) : ∀ es fs : List α, (keepP key tr t' es fs).Perm (es.filter (fun e => !PyData.eqv (tr e).py t'.py) ++ fs)
  | [], fs => by simp [keepP]
  | e :: r, fs => by
    unfold keepP
    have ih := keepP_perm key tr t' r (if PyData.eqv (tr e).py t'.py = true then fs else insP key e fs)
    by_cases hv : PyData.eqv (tr e).py t'.py = true
    · rw [if_pos hv] at ih ⊢
      rw [List.filter_cons_of_neg (by simp [hv])]
      exact ih
    · rw [if_neg hv] at ih ⊢
      rw [List.filter_cons_of_pos (by simp [hv])]
      have p := insP_perm key e fs
      refine ih.trans ?_
      refine (List.Perm.append_left _ p).trans ?_
      exact List.perm_middle
theorem keepP_mem {α : Type} {key : α → Option Int} {tr : α → T} {t' : T} {es : List α} {e : α} (h : e ∈ keepP key tr t' es []) : e ∈ es ∧ PyData.eqv (tr e).py t'.py = false := by
  have := (keepP_perm key tr t' es []).mem_iff.mp h
  rw [List.append_nil] at this
  obtain ⟨h1, h2⟩ := List.mem_filter.mp this
  exact ⟨h1, by simpa using h2⟩
theorem keepP_len {α : Type} (key : α → Option Int) (tr : α → T) (t' : T) (es : List α) : (keepP key tr t' es []).length ≤ es.length := by
  rw [(keepP_perm key tr t' es []).length_eq, List.append_nil]
  exact List.length_filter_le ..
theorem keepP_nodup {α β : Type} {key : α → Option Int} {tr : α → T} {t' : T} {es : List α} (f : α → β) (h : (es.map f).Nodup) : ((keepP key tr t' es []).map f).Nodup := by
  have p := (keepP_perm key tr t' es []).map f
  rw [List.append_nil] at p
  exact p.nodup_iff.mpr (h.sublist (List.filter_sublist.map f))
theorem mp_good : ∀ (t : T) (us : List Nat), GoodT S us t → GoodT S us (mp t) := by
  intro t
  refine T.ind (P := fun t => ∀ us, GoodT S us t → GoodT S us (mp t)) (fun us h => by rw [mp_nil]; exact h) (fun c o bs t ihb iht us h => ?_) t
  obtain ⟨h1, h2, h3, h4, h5, h6⟩ := goodT_node.mp h
  rw [mp_node]
  have e1 : (mpB bs).map (·.1) = bs.map (·.1) := by rw [mpB_map, List.map_map]; rfl
  refine goodT_node.mpr ⟨h1, h2, ?_, ?_, goodB_iff.mpr fun b hb => ?_, iht _ h6⟩
  · exact keepP_nodup (fun b : Br => b.1) (by rw [e1]; exact h3)
  · refine Nat.le_trans (keepP_len ..) ?_
    rw [mpB_map, List.length_map]; exact h4
  · obtain ⟨hb2, _⟩ := keepP_mem hb
    rw [mpB_map] at hb2
    obtain ⟨a, ha, rfl⟩ := List.mem_map.mp hb2
    have := goodB_iff.mp h5 a ha
    exact ⟨this.1, ihb a ha _ this.2⟩
theorem deps_le {bs : List Br} {m : Nat} (h : ∀ b ∈ bs, b.2.dep ≤ m) : T.deps bs ≤ m := by
  induction bs with
  | nil => rw [T.deps]; exact Nat.zero_le _
  | cons b r ih =>
    obtain ⟨v, t⟩ := b
    rw [T.deps]
    have h1 : t.dep ≤ m := h (v, t) List.mem_cons_self
    have h2 := ih fun b hb => h b (List.mem_cons_of_mem _ hb)
    omega
theorem mp_dep : ∀ t : T, (mp t).dep ≤ t.dep := by
  intro t
  refine T.ind (P := fun t => (mp t).dep ≤ t.dep) (by rw [mp_nil]; exact Nat.le_refl _) (fun c o bs t ihb iht => ?_) t
  rw [mp_node, T.dep, T.dep]
  have : T.deps (keepP (fun b : Br => b.1) (fun b : Br => b.2) (mp t) (mpB bs) []) ≤ T.deps bs := deps_le fun b hb => by
    obtain ⟨hb2, _⟩ := keepP_mem hb
    rw [mpB_map] at hb2
    obtain ⟨a, ha, rfl⟩ := List.mem_map.mp hb2
    exact Nat.le_trans (ihb a ha) (deps_mem ha)
  omega

/-! ### as == and repr read it -/
theorem py_list {V : Wd} {m : Nat} {L : D} {xs : List D} {ps : List PyData} (h : asL V (.d L) = some xs) (e : mapO (D.py V m) xs = some ps) : L.py V (m + 1) = some (.list ps) := by
  cases L with
  | lst ys => cases h; rw [D.py, e]; rfl
  | hdl j =>
    have h : (V[j]?).map _ = some xs := h
    cases q : V[j]? with
    | none => rw [q] at h; cases h
    | some c =>
      rw [q] at h
      cases c with
      | lst ys =>
        have h : some ys = some xs := h
        cases h
        rw [D.py, q, Option.bind_some]
        show (mapO (D.py V m) _).map _ = _
        rw [e]; rfl
  | _ => cases h
theorem py_tr {V : Wd} (hS : GoodSch S) : ∀ (t : T) (us : List Nat) (d : D) (m : Nat), GoodT S us t → Tr V t d → 3 * t.dep + 1 ≤ m → d.py V m = some t.py := by
  intro t
  refine T.ind (P := fun t => ∀ (us : List Nat) (d : D) (m : Nat), GoodT S us t → Tr V t d → 3 * t.dep + 1 ≤ m → d.py V m = some t.py) (fun us d m hg hr hm => ?_) (fun c o bs t ihb iht us d m hg hr hm => ?_) t
  · obtain rfl := tr_nil.mp hr
    obtain ⟨m, rfl⟩ : ∃ q, m = q + 1 := ⟨m - 1, by omega⟩
    simp only [D.py, T.py]
  · obtain ⟨L, d', xs, rfl, hL, hB, ht⟩ := tr_node.mp hr
    obtain ⟨h1, ⟨col, hc, ho⟩, h3, h4, h5, h6⟩ := goodT_node.mp hg
    have gb := goodB_iff.mp h5
    rw [T.dep] at hm
    obtain ⟨m, rfl⟩ : ∃ q, m = q + 4 := ⟨m - 4, by omega⟩
    have so := ord_ok o ((hS.2.2 col (List.mem_of_getElem? hc)).2.2 o ho)
    have hb : ∀ (bs : List Br) (xs : List D), (∀ b ∈ bs, ∀ d, Tr V b.2 d → d.py V (m + 1) = some b.2.py) → TrB V bs xs → mapO (D.py V (m + 2)) xs = some (T.pys bs) := by
      intro bs
      induction bs with
      | nil => intro xs _ q; rw [trb_nil.mp q, T.pys]; rfl
      | cons b r ih =>
        intro xs hx q
        obtain ⟨v, s⟩ := b
        obtain ⟨d2, ys, rfl, q1, q2⟩ := trb_cons.mp q
        have e1 := hx (v, s) List.mem_cons_self d2 q1
        have e2 := py_val V m v
        have e3 := ih ys (fun b hb => hx b (List.mem_cons_of_mem _ hb)) q2
        have e4 : (D.tup [valD v, d2]).py V (m + 2) = some (.tuple [vpy v, s.py]) := by
          rw [D.py]
          simp only [mapO, e2, e1, Option.bind_some, Option.map_some]
        rw [mapO, e4, Option.bind_some, e3, pys_cons]; rfl
    have e1 := hb bs xs (fun b hb d hd => ihb b hb _ d (m + 1) (gb b hb).2 hd (by have := deps_mem hb; omega)) hB
    have e2 := py_list hL e1
    have e3 := iht _ d' (m + 3) h6 ht (by omega)
    rw [D.py, T.py]
    simp only [mapO, D.py, so, if_true, e2, e3, Option.bind_some, Option.map_some]
end
end K06

set_option Elab.async false
set_option linter.all false
set_option maxRecDepth 100000
namespace K06
open PySem L2 Ev
section
variable {n : Nat} {W : Wd} {S : List (List Str)}
theorem ds_map : ∀ bs : List Br, T.ds bs = bs.map fun b => .tup [valD b.1, b.2.d]
  | [] => by rw [T.ds]; rfl
  | (v, b) :: r => by rw [T.ds, ds_map r]; rfl
/-! ### made_plain, its lists handed on as data -/
theorem mp_lc {chk : Wd → Bool} {a0 a1 a2 a3 a4 a5 a6 a7 : Option D} (hc : chk W = true) : ∀ (bs : List Br) (xs acc : List D), TrB W bs xs → acc.length + bs.length ≤ 900 → (∀ b ∈ bs, ∀ d, Tr W b.2 d → ev n i_made_plain false [d] W = some (.d (mp b.2).d, W)) →
    lcL false chk (.tup [6, 7]) fYes (x_made_plain_4 false (ev n)) [a0, a1, a2, a3, a4, a5, a6, a7] xs W acc = some (acc ++ T.ds (mpB bs), W)
  | [], xs, acc, h, _, _ => by
    rw [trb_nil.mp h, mpB, T.ds, List.append_nil]
    unfold lcL
    rw [if_pos hc]
  | (v, b) :: r, xs, acc, h, hl, ih => by
    obtain ⟨d, ys, rfl, h1, h2⟩ := trb_cons.mp h
    rw [List.length_cons] at hl
    have e := ih (v, b) List.mem_cons_self d h1
    have x : x_made_plain_4 false (ev n) [a0, a1, a2, a3, a4, a5, some (valD v), some d] W = some (.d (.tup [valD v, (mp b).d]), W) := by
      simp [x_made_plain_4, runB, startE, fSeq, fNil, fIf, fRet, fRetN, fDrop, fPass, fAsg, fTg, toD, fName, fC, fVal, fNotT, fAndT, fOrT, fBin, fCons, fNilA, fTup, fLst, fBlt, fIsi, fCall, fIte, fNeg, fNotV, fOrV, fAndV, fMth, fStore, fAug, fSl, fON, fOS, fSrc, fRng, fFor, fLc, wipeE, Ev.setN, e]
    unfold lcL
    rw [if_pos hc]
    have ft : fTg (.tup [6, 7]) (.tup [valD v, d]) [a0, a1, a2, a3, a4, a5, a6, a7] = some [a0, a1, a2, a3, a4, a5, some (valD v), some d] := rfl
    rw [ft, Option.bind_some]
    show (some (true, W)).bind _ = _
    rw [Option.bind_some, if_pos rfl, x, Option.bind_some, if_pos (by rw [small]; omega)]
    show lcL false chk (.tup [6, 7]) fYes (x_made_plain_4 false (ev n)) _ ys W (acc ++ [.tup [valD v, (mp b).d]]) = _
    rw [mp_lc hc r ys _ h2 (by rw [List.length_append, List.length_singleton]; omega) fun b hb => ih b (List.mem_cons_of_mem _ hb), mpB, T.ds]
    simp
theorem mp_false (hS : GoodSch S) : ∀ (t : T) (us : List Nat) (n : Nat) (W : Wd) (d : D), GoodT S us t → Tr W t d → t.dep + 2 ≤ n → t.dep ≤ 18 → ev n i_made_plain false [d] W = some (.d (mp t).d, W) := by
  intro t
  refine T.ind (P := fun t => ∀ (us : List Nat) (n : Nat) (W : Wd) (d : D), GoodT S us t → Tr W t d → t.dep + 2 ≤ n → t.dep ≤ 18 → ev n i_made_plain false [d] W = some (.d (mp t).d, W)) ?_ ?_ t
  · intro us n W d hg hr hn hd
    obtain ⟨n, rfl, ln⟩ := lv (c := 1) (n := n) (by omega)
    obtain rfl := tr_nil.mp hr
    rw [e_made_plain, mp_nil, T.d]
    simp [runB, startE, fSeq, fNil, fIf, fRet, fRetN, fDrop, fPass, fAsg, fTg, toD, fName, fC, fVal, fNotT, fAndT, fOrT, fBin, fCons, fNilA, fTup, fLst, fBlt, fIsi, fCall, fIte, fNeg, fNotV, fOrV, fAndV, fMth, fStore, fAug, fSl, fON, fOS, fSrc, fRng, fFor, fLc, wipeE, Ev.setN, g_made_plain, opIs, fin_same]
  · intro c o bs t ihb iht us n W d hg hr hn hd
    obtain ⟨n, rfl, ln⟩ := lv (c := 1) (n := n) (by omega)
    obtain ⟨L, d', xs, rfl, hL, hB, ht⟩ := tr_node.mp hr
    obtain ⟨g1, g2, g3, g4, g5, g6⟩ := goodT_node.mp hg
    have gb := goodB_iff.mp g5
    rw [T.dep] at hn hd
    obtain ⟨chk, hsrc, hchk⟩ := src_L hL
    have hck := hchk W fun _ _ e => e
    have e1 := iht _ n W d' g6 ht (by omega) (by omega)
    have mdep := mp_dep t
    have e2 := mp_lc (n := n) (a0 := some (.tup [.int (c : Int), .str o, L, d'])) (a1 := some (mp t).d) (a2 := none) (a3 := none) (a4 := none) (a5 := none) (a6 := none) (a7 := none) hck bs xs [] hB (by simp; omega) fun b hb d hd2 => ihb b hb _ n W d (gb b hb).2 hd2 (by have := deps_mem hb; omega) (by have := deps_mem hb; omega)
    rw [List.nil_append] at e2
    have gmB : ∀ b ∈ mpB bs, GoodT S (us ++ [c]) b.2 ∧ b.2.dep ≤ 17 := fun b hb => by
      rw [mpB_map] at hb
      obtain ⟨a, ha, rfl⟩ := List.mem_map.mp hb
      refine ⟨mp_good _ _ (gb a ha).2, ?_⟩
      have := mp_dep a.2
      have := deps_mem ha
      show (mp a.2).dep ≤ 17
      omega
    have lB : (mpB bs).length ≤ 4 := by rw [mpB_map, List.length_map]; exact g4
    -- the loop
    have ees : (((mpB bs).map fun b => ((b, b.2.d) : Tp)).map tpD) = T.ds (mpB bs) := by
      rw [ds_map, List.map_map]; rfl
    obtain ⟨x4, x5, e3⟩ := mp_loop (n := n) (h := false) (by omega) (j := W.length) (t' := mp t) (d' := (mp t).d) (a0 := some (.tup [.int (c : Int), .str o, L, d'])) (a2 := some (.lst (T.ds (mpB bs)))) (a6 := none) (a7 := none) (W ++ [.lst []]) ⟨_, push_at _ _⟩ (fun xs => py_tr hS _ _ _ 60 (mp_good _ _ g6) (tr_d _) (by omega))
      ((mpB bs).map fun b => ((b, b.2.d) : Tp)) [] none none (fun e he xs => by
        obtain ⟨b, hb, rfl⟩ := List.mem_map.mp he
        exact py_tr hS _ _ _ 60 (gmB b hb).1 (tr_d _) (by have := (gmB b hb).2; show 3 * b.2.dep + 1 ≤ 60; omega)) (by simp; omega)
    have s0 : (W ++ [Cell.lst []]).set W.length (.lst (([] : List Tp).map tpD)) = W ++ [.lst []] := by
      rw [List.set_append_right _ _ (Nat.le_refl _), Nat.sub_self]; rfl
    have s1 : ∀ ys : List D, (W ++ [Cell.lst []]).set W.length (.lst ys) = W ++ [.lst ys] := fun ys => by
      rw [List.set_append_right _ _ (Nat.le_refl _), Nat.sub_self]; rfl
    rw [s0, s1, ees] at e3
    have ek : (keepP kT tT (mp t) ((mpB bs).map fun b => ((b, b.2.d) : Tp)) []).map tpD = T.ds (keepP (fun b : Br => b.1) (fun b : Br => b.2) (mp t) (mpB bs) []) := by
      have k := keepP_map (fun b : Br => ((b, b.2.d) : Tp)) kT tT (mp t) (mpB bs) []
      have k2 : keepP kT tT (mp t) ((mpB bs).map fun b => ((b, b.2.d) : Tp)) [] = (keepP (fun b : Br => b.1) (fun b : Br => b.2) (mp t) (mpB bs) []).map fun b => ((b, b.2.d) : Tp) := k.symm
      rw [k2, ds_map, List.map_map]; rfl
    rw [ek] at e3
    rw [e_made_plain, mp_node, T.d]
    have x0 : opIx W (.d (.tup [.int (c : Int), .str o, L, d'])) (.d (.int 0)) = some (.d (.int (c : Int))) := by simp [opIx, asS, atI, ixN]
    have y0 : ∀ V, opIx V (.d (.tup [.int (c : Int), .str o, L, d'])) (.d (.int 0)) = some (.d (.int (c : Int))) := fun V => by simp [opIx, asS, atI, ixN]
    have y1 : ∀ V, opIx V (.d (.tup [.int (c : Int), .str o, L, d'])) (.d (.int 1)) = some (.d (.str o)) := fun V => by simp [opIx, asS, atI, ixN]
    have x2 : opIx W (.d (.tup [.int (c : Int), .str o, L, d'])) (.d (.int 2)) = some (.d L) := by simp [opIx, asS, atI, ixN]
    have x3 : opIx W (.d (.tup [.int (c : Int), .str o, L, d'])) (.d (.int 3)) = some (.d d') := by simp [opIx, asS, atI, ixN]
    have notN : opIs id W (.d (.tup [.int (c : Int), .str o, L, d'])) (.d .non) = some (.d (.bl false)) := by simp [opIs]
    have pk : pureA (T.ds (keepP (fun b : Br => b.1) (fun b : Br => b.2) (mp t) (mpB bs) [])) = true := pure_ds fun b _ => pure_t b.2
    refine runB_rt (r := .d (.tup [.int (c : Int), .str o, .hdl W.length, (mp t).d])) (W' := W ++ [.lst (T.ds (keepP (fun b : Br => b.1) (fun b : Br => b.2) (mp t) (mpB bs) []))]) ?_ (fin_cell (by simp [pureD]) (by simp [pureD]) (pure_t _) pk)
    generalize hTp : D.tup [.int (c : Int), .str o, L, d'] = Tq at e2 e3 x2 x3 y0 y1 notN ⊢
    refine fSeq_nx (ρ' := [some Tq, none, none, none, none, none, none, none]) (W' := W) (fIf_f (W1 := W) (by simp [runB, startE, fSeq, fNil, fIf, fRet, fRetN, fDrop, fPass, fAsg, fTg, toD, fName, fC, fVal, fNotT, fAndT, fOrT, fBin, fCons, fNilA, fTup, fLst, fBlt, fIsi, fCall, fIte, fNeg, fNotV, fOrV, fAndV, fMth, fStore, fAug, fSl, fON, fOS, fSrc, fRng, fFor, fLc, wipeE, Ev.setN, notN]) rfl)
      (fSeq_nx (ρ' := [some Tq, some (mp t).d, none, none, none, none, none, none]) (W' := W) (by simp [runB, startE, fSeq, fNil, fIf, fRet, fRetN, fDrop, fPass, fAsg, fTg, toD, fName, fC, fVal, fNotT, fAndT, fOrT, fBin, fCons, fNilA, fTup, fLst, fBlt, fIsi, fCall, fIte, fNeg, fNotV, fOrV, fAndV, fMth, fStore, fAug, fSl, fON, fOS, fSrc, fRng, fFor, fLc, wipeE, Ev.setN, x3, e1])
      (fSeq_nx (ρ' := [some Tq, some (mp t).d, some (.lst (T.ds (mpB bs))), none, none, none, none, none]) (W' := W) ?_
      (fSeq_nx (ρ' := [some Tq, some (mp t).d, some (.lst (T.ds (mpB bs))), some (.hdl W.length), none, none, none, none]) (W' := W ++ [.lst []]) rfl
      (fSeq_nx (fFor_nx (src := ⟨T.ds (mpB bs), yes⟩) (W1 := W ++ [.lst []]) rfl e3) ?_))))
    · refine (fAsg_one (fLc_eq (src := ⟨xs, chk⟩) (fSrc_eq (r := .d L) (W1 := W) (fBin_eq (a := .d Tq) (b := .d (.int 2)) (W1 := W) rfl rfl x2) hsrc) e2)).trans rfl
    · simp [runB, startE, fSeq, fNil, fIf, fRet, fRetN, fDrop, fPass, fAsg, fTg, toD, fName, fC, fVal, fNotT, fAndT, fOrT, fBin, fCons, fNilA, fTup, fLst, fBlt, fIsi, fCall, fIte, fNeg, fNotV, fOrV, fAndV, fMth, fStore, fAug, fSl, fON, fOS, fSrc, fRng, fFor, fLc, wipeE, Ev.setN, y0, y1]
end
end K06

set_option Elab.async false
set_option linter.all false
set_option maxRecDepth 100000
namespace K06
open PySem L2 Ev
section
variable {n : Nat} {W : Wd} {S : List (List Str)}
/-! ### a tree each of whose lists is a cell; the cells in the order in which they are met -/
mutual
def TrH (W : Wd) : T → D → List Nat → Prop
  | .nil, d, hs => d = .non ∧ hs = []
  | .node c o bs t, d, hs => ∃ j d' xs h1 h2, d = .tup [.int (c : Int), .str o, .hdl j, d'] ∧ W[j]? = some (.lst xs) ∧ TrBH W bs xs h1 ∧ TrH W t d' h2 ∧ hs = j :: (h1 ++ h2)
def TrBH (W : Wd) : List Br → List D → List Nat → Prop
  | [], xs, hs => xs = [] ∧ hs = []
  | (v, b) :: r, xs, hs => ∃ d ys h1 h2, xs = .tup [valD v, d] :: ys ∧ TrH W b d h1 ∧ TrBH W r ys h2 ∧ hs = h1 ++ h2
end
theorem trh_nil {d : D} {hs : List Nat} : TrH W .nil d hs ↔ d = .non ∧ hs = [] := by simp only [TrH]
theorem trh_node {c : Nat} {o : Str} {bs : List Br} {t : T} {d : D} {hs : List Nat} : TrH W (.node c o bs t) d hs ↔ ∃ j d' xs h1 h2, d = .tup [.int (c : Int), .str o, .hdl j, d'] ∧ W[j]? = some (.lst xs) ∧ TrBH W bs xs h1 ∧ TrH W t d' h2 ∧ hs = j :: (h1 ++ h2) := by simp only [TrH]
theorem trbh_nil {xs : List D} {hs : List Nat} : TrBH W [] xs hs ↔ xs = [] ∧ hs = [] := by simp only [TrBH]
theorem trbh_cons {v : Option Int} {b : T} {r : List Br} {xs : List D} {hs : List Nat} : TrBH W ((v, b) :: r) xs hs ↔ ∃ d ys h1 h2, xs = .tup [valD v, d] :: ys ∧ TrH W b d h1 ∧ TrBH W r ys h2 ∧ hs = h1 ++ h2 := by simp only [TrBH]
theorem trbh_of {P Q : T → D → List Nat → Prop} {W V : Wd} (hP : ∀ b d hs, TrH W b d hs → P b d hs → TrH V b d hs) : ∀ {bs : List Br} {xs : List D} {hs : List Nat}, (∀ b ∈ bs, ∀ d hs, P b.2 d hs) → TrBH W bs xs hs → TrBH V bs xs hs
  | [], xs, hs, _, h => trbh_nil.mpr (trbh_nil.mp h)
  | (v, b) :: r, xs, hs, hb, h => by
    obtain ⟨d, ys, h1, h2, e, q1, q2, e2⟩ := trbh_cons.mp h
    exact trbh_cons.mpr ⟨d, ys, h1, h2, e, hP b d h1 q1 (hb (v, b) List.mem_cons_self d h1), trbh_of (Q := Q) hP (fun x hx => hb x (List.mem_cons_of_mem _ hx)) q2, e2⟩
theorem trbh_map {V : Wd} : ∀ {bs : List Br} {xs : List D} {hs : List Nat}, (∀ b ∈ bs, ∀ d hs, TrH W b.2 d hs → TrH V b.2 d hs) → TrBH W bs xs hs → TrBH V bs xs hs
  | [], xs, hs, _, h => trbh_nil.mpr (trbh_nil.mp h)
  | (v, b) :: r, xs, hs, hb, h => by
    obtain ⟨d, ys, h1, h2, e, q1, q2, e2⟩ := trbh_cons.mp h
    exact trbh_cons.mpr ⟨d, ys, h1, h2, e, hb (v, b) List.mem_cons_self d h1 q1, trbh_map (fun x hx => hb x (List.mem_cons_of_mem _ hx)) q2, e2⟩
theorem trh_mono {V : Wd} (hw : ∀ (j : Nat) (c : Cell), W[j]? = some c → V[j]? = some c) : ∀ (t : T) (d : D) (hs : List Nat), TrH W t d hs → TrH V t d hs := by
  intro t
  refine T.ind (P := fun t => ∀ d hs, TrH W t d hs → TrH V t d hs) (fun d hs h => trh_nil.mpr (trh_nil.mp h)) (fun c o bs t ihb iht d hs h => ?_) t
  obtain ⟨j, d', xs, h1, h2, e, q1, q2, q3, e2⟩ := trh_node.mp h
  exact trh_node.mpr ⟨j, d', xs, h1, h2, e, hw j _ q1, trbh_map ihb q2, iht d' h2 q3, e2⟩
theorem trbh_tr : ∀ {bs : List Br} {xs : List D} {hs : List Nat}, (∀ b ∈ bs, ∀ d hs, TrH W b.2 d hs → Tr W b.2 d) → TrBH W bs xs hs → TrB W bs xs
  | [], xs, hs, _, h => trb_nil.mpr (trbh_nil.mp h).1
  | (v, b) :: r, xs, hs, hb, h => by
    obtain ⟨d, ys, h1, h2, e, q1, q2, e2⟩ := trbh_cons.mp h
    exact trb_cons.mpr ⟨d, ys, e, hb (v, b) List.mem_cons_self d h1 q1, trbh_tr (fun x hx => hb x (List.mem_cons_of_mem _ hx)) q2⟩
theorem trh_tr : ∀ (t : T) (d : D) (hs : List Nat), TrH W t d hs → Tr W t d := by
  intro t
  refine T.ind (P := fun t => ∀ d hs, TrH W t d hs → Tr W t d) (fun d hs h => tr_nil.mpr (trh_nil.mp h).1) (fun c o bs t ihb iht d hs h => ?_) t
  obtain ⟨j, d', xs, h1, h2, e, q1, q2, q3, e2⟩ := trh_node.mp h
  exact tr_node.mpr ⟨.hdl j, d', xs, e, by simp [asL, q1], trbh_tr ihb q2, iht d' h2 q3⟩
/-- a branch, its datum, its cells -/
abbrev Qd := Tp × List Nat
theorem trbh_list : ∀ (es : List Qd), (∀ e ∈ es, TrH W e.1.1.2 e.1.2 e.2) → TrBH W (es.map fun e => e.1.1) (es.map fun e => tpD e.1) (es.flatMap fun e => e.2)
  | [], _ => trbh_nil.mpr ⟨rfl, rfl⟩
  | ((( v, b), d), hs) :: r, h => trbh_cons.mpr ⟨d, _, hs, _, rfl, h _ List.mem_cons_self, trbh_list r fun x hx => h x (List.mem_cons_of_mem _ hx), rfl⟩
theorem flat_sub {α β : Type} (f : α → List β) : ∀ {xs ys : List α}, xs.Sublist ys → (xs.flatMap f).Sublist (ys.flatMap f)
  | _, _, .slnil => by simp
  | _, _, .cons a h => by rw [List.flatMap_cons]; exact (flat_sub f h).trans (List.sublist_append_right _ _)
  | _, _, .cons₂ a h => by rw [List.flatMap_cons, List.flatMap_cons]; exact (flat_sub f h).append_left _
/-- where the cells lie -/
def Within (lo hi : Nat) (hs : List Nat) : Prop := hs.Nodup ∧ ∀ j ∈ hs, lo ≤ j ∧ j < hi
theorem within_nil (lo hi : Nat) : Within lo hi [] := ⟨by simp, fun j hj => nomatch hj⟩
theorem Within.app {a b c : Nat} {hs ks : List Nat} (h : Within a b hs) (k : Within b c ks) (h1 : a ≤ b) (h2 : b ≤ c) : Within a c (hs ++ ks) := by
  refine ⟨List.nodup_append.mpr ⟨h.1, k.1, fun x hx y hy e => ?_⟩, fun j hj => ?_⟩
  · have := h.2 x hx
    have := k.2 y hy
    omega
  · rcases List.mem_append.mp hj with q | q
    · have := h.2 j q; omega
    · have := k.2 j q; omega
theorem mp_lcT {chk : Wd → Bool} {a0 a1 a2 a3 a4 a5 a6 a7 : Option D} : ∀ (bs : List Br) (xs acc : List D) (V : Wd), (∀ cs, chk (V ++ cs) = true) → TrB V bs xs → acc.length + bs.length ≤ 900 →
      (∀ b ∈ bs, ∀ (V : Wd) (d : D), Tr V b.2 d → ∃ d' cs hs, ev n i_made_plain true [d] V = some (.d d', V ++ cs) ∧ TrH (V ++ cs) (mp b.2) d' hs ∧ Within V.length (V ++ cs).length hs) →
    ∃ (cs : Wd) (es : List Qd), lcL true chk (.tup [6, 7]) fYes (x_made_plain_4 true (ev n)) [a0, a1, a2, a3, a4, a5, a6, a7] xs V acc = some (acc ++ es.map fun e => tpD e.1, V ++ cs) ∧ es.map (fun e => e.1.1) = mpB bs ∧ (∀ e ∈ es, TrH (V ++ cs) e.1.1.2 e.1.2 e.2) ∧ Within V.length (V ++ cs).length (es.flatMap fun e => e.2)
  | [], xs, acc, V, hc, h, _, _ => by
    refine ⟨[], [], ?_, by rw [mpB]; rfl, (fun e he => nomatch he), ?_⟩
    · rw [trb_nil.mp h]
      have := hc []
      rw [List.append_nil] at this ⊢
      unfold lcL
      rw [if_pos this]
      simp
    · exact within_nil _ _
  | (v, b) :: r, xs, acc, V, hc, h, hl, ih => by
    obtain ⟨d, ys, rfl, h1, h2⟩ := trb_cons.mp h
    rw [List.length_cons] at hl
    obtain ⟨d', cs, hs, e, q1, q2⟩ := ih (v, b) List.mem_cons_self V d h1
    have mono : ∀ (j : Nat) (c : Cell), V[j]? = some c → (V ++ cs)[j]? = some c := fun j c q => by rw [List.getElem?_append_left (getElem_lt q)]; exact q
    obtain ⟨cs2, es, e2, em, q3, q4⟩ := mp_lcT (a0 := a0) (a1 := a1) (a2 := a2) (a3 := a3) (a4 := a4) (a5 := a5) (a6 := a6) (a7 := a7) r ys (acc ++ [.tup [valD v, d']]) (V ++ cs) (fun cs2 => by rw [List.append_assoc]; exact hc _) (trb_mono mono h2) (by rw [List.length_append, List.length_singleton]; omega) fun b hb => ih b (List.mem_cons_of_mem _ hb)
    have x : x_made_plain_4 true (ev n) [a0, a1, a2, a3, a4, a5, some (valD v), some d] V = some (.d (.tup [valD v, d']), V ++ cs) := by
      have e : ev n i_made_plain true [d] V = some (.d d', V ++ cs) := e
      simp [x_made_plain_4, runB, startE, fSeq, fNil, fIf, fRet, fRetN, fDrop, fPass, fAsg, fTg, toD, fName, fC, fVal, fNotT, fAndT, fOrT, fBin, fCons, fNilA, fTup, fLst, fBlt, fIsi, fCall, fIte, fNeg, fNotV, fOrV, fAndV, fMth, fStore, fAug, fSl, fON, fOS, fSrc, fRng, fFor, fLc, wipeE, Ev.setN, e]
    have c0 := hc []
    rw [List.append_nil] at c0
    have mono2 : ∀ (j : Nat) (c : Cell), (V ++ cs)[j]? = some c → (V ++ cs ++ cs2)[j]? = some c := fun j c q => by rw [List.getElem?_append_left (getElem_lt q)]; exact q
    refine ⟨cs ++ cs2, (((v, mp b), d'), hs) :: es, ?_, by rw [List.map_cons, em, mpB], fun z hz => ?_, ?_⟩
    · unfold lcL
      rw [if_pos c0]
      have ft : fTg (.tup [6, 7]) (.tup [valD v, d]) [a0, a1, a2, a3, a4, a5, a6, a7] = some [a0, a1, a2, a3, a4, a5, some (valD v), some d] := rfl
      rw [ft, Option.bind_some]
      show (some (true, V)).bind _ = _
      rw [Option.bind_some, if_pos rfl, x, Option.bind_some, if_pos (by rw [small]; omega)]
      show lcL true chk (.tup [6, 7]) fYes (x_made_plain_4 true (ev n)) _ ys (V ++ cs) (acc ++ [.tup [valD v, d']]) = _
      rw [e2, List.append_assoc, List.append_assoc]
      rfl
    · rw [← List.append_assoc]
      rcases List.mem_cons.mp hz with q | q
      · rw [q]; exact trh_mono mono2 _ _ _ q1
      · exact q3 z q
    · rw [← List.append_assoc, List.flatMap_cons]
      exact q2.app q4 (by simp) (by simp)
theorem mp_true (hS : GoodSch S) : ∀ (t : T) (us : List Nat) (n : Nat) (W : Wd) (d : D), GoodT S us t → Tr W t d → t.dep + 2 ≤ n → t.dep ≤ 18 → ∃ (d' : D) (cs : Wd) (hs : List Nat), ev n i_made_plain true [d] W = some (.d d', W ++ cs) ∧ TrH (W ++ cs) (mp t) d' hs ∧ Within W.length (W ++ cs).length hs := by
  intro t
  refine T.ind (P := fun t => ∀ (us : List Nat) (n : Nat) (W : Wd) (d : D), GoodT S us t → Tr W t d → t.dep + 2 ≤ n → t.dep ≤ 18 → ∃ (d' : D) (cs : Wd) (hs : List Nat), ev n i_made_plain true [d] W = some (.d d', W ++ cs) ∧ TrH (W ++ cs) (mp t) d' hs ∧ Within W.length (W ++ cs).length hs) ?_ ?_ t
  · intro us n W d hg hr hn hd
    obtain ⟨n, rfl, ln⟩ := lv (c := 1) (n := n) (by omega)
    obtain rfl := tr_nil.mp hr
    refine ⟨.non, [], [], ?_, by rw [mp_nil]; exact trh_nil.mpr ⟨rfl, rfl⟩, within_nil _ _⟩
    rw [e_made_plain]
    simp [runB, startE, fSeq, fNil, fIf, fRet, fRetN, fDrop, fPass, fAsg, fTg, toD, fName, fC, fVal, fNotT, fAndT, fOrT, fBin, fCons, fNilA, fTup, fLst, fBlt, fIsi, fCall, fIte, fNeg, fNotV, fOrV, fAndV, fMth, fStore, fAug, fSl, fON, fOS, fSrc, fRng, fFor, fLc, wipeE, Ev.setN, g_made_plain, opIs, fin_same]
  · intro c o bs t ihb iht us n W d hg hr hn hd
    obtain ⟨n, rfl, ln⟩ := lv (c := 1) (n := n) (by omega)
    obtain ⟨L, d0, xs, rfl, hL, hB, ht⟩ := tr_node.mp hr
    obtain ⟨g1, g2, g3, g4, g5, g6⟩ := goodT_node.mp hg
    have gb := goodB_iff.mp g5
    rw [T.dep] at hn hd
    have mdep := mp_dep t
    obtain ⟨d', cs1, hs1, e1, r1, w1⟩ := iht _ n W d0 g6 ht (by omega) (by omega)
    have mono : ∀ (j : Nat) (c : Cell), W[j]? = some c → (W ++ cs1)[j]? = some c := fun j c q => by rw [List.getElem?_append_left (getElem_lt q)]; exact q
    obtain ⟨chk, hsrc, hchk⟩ := src_L (asL_mono mono hL)
    obtain ⟨cs2, es, e2, em, r2, w2⟩ := mp_lcT (n := n) (a0 := some (.tup [.int (c : Int), .str o, L, d0])) (a1 := some d') (a2 := none) (a3 := none) (a4 := none) (a5 := none) (a6 := none) (a7 := none) bs xs [] (W ++ cs1) (fun cs => hchk _ fun j c q => by rw [List.getElem?_append_left (getElem_lt q)]; exact q) (trb_mono mono hB) (by simp; omega)
      fun b hb V d hd2 => ihb b hb _ n V d (gb b hb).2 hd2 (by have := deps_mem hb; omega) (by have := deps_mem hb; omega)
    rw [List.nil_append] at e2
    generalize hV : W ++ cs1 ++ cs2 = V at e2 r2 w2
    have mono2 : ∀ (j : Nat) (c : Cell), (W ++ cs1)[j]? = some c → V[j]? = some c := fun j c q => by rw [← hV, List.getElem?_append_left (getElem_lt q)]; exact q
    have gmB : ∀ e ∈ es, GoodT S (us ++ [c]) e.1.1.2 ∧ e.1.1.2.dep ≤ 17 := fun e he => by
      have hb : e.1.1 ∈ mpB bs := by rw [← em]; exact List.mem_map_of_mem he
      rw [mpB_map] at hb
      obtain ⟨a, ha, q⟩ := List.mem_map.mp hb
      rw [← q]
      refine ⟨mp_good _ _ (gb a ha).2, ?_⟩
      have := mp_dep a.2
      have := deps_mem ha
      show (mp a.2).dep ≤ 17
      omega
    have lB : es.length ≤ 4 := by
      have := congrArg List.length em
      rw [List.length_map, mpB_map, List.length_map] at this
      omega
    have s0 : (V ++ [Cell.lst []]).set V.length (.lst (([] : List Tp).map tpD)) = V ++ [.lst []] := by
      rw [List.set_append_right _ _ (Nat.le_refl _), Nat.sub_self]; rfl
    have s1 : ∀ ys : List D, (V ++ [Cell.lst []]).set V.length (.lst ys) = V ++ [.lst ys] := fun ys => by
      rw [List.set_append_right _ _ (Nat.le_refl _), Nat.sub_self]; rfl
    have mono3 : ∀ (ys : List D) (j : Nat) (c : Cell), V[j]? = some c → (V ++ [Cell.lst ys])[j]? = some c := fun ys j c q => push_old q
    obtain ⟨x4, x5, e3⟩ := mp_loop (n := n) (h := true) (by omega) (j := V.length) (t' := mp t) (d' := d') (a0 := some (.tup [.int (c : Int), .str o, L, d0])) (a2 := some (.lst (es.map fun e => tpD e.1))) (a6 := none) (a7 := none) (V ++ [.lst []]) ⟨_, push_at _ _⟩
      (fun xs => by rw [s1]; exact py_tr hS _ _ _ 60 (mp_good _ _ g6) (tr_mono (mono3 _) _ _ (tr_mono mono2 _ _ (trh_tr _ _ _ r1))) (by omega))
      (es.map fun e => e.1) [] none none (fun e he xs => by
        obtain ⟨q, hq, rfl⟩ := List.mem_map.mp he
        rw [s1]
        exact py_tr hS _ _ _ 60 (gmB q hq).1 (tr_mono (mono3 _) _ _ (trh_tr _ _ _ (r2 q hq))) (by have := (gmB q hq).2; show 3 * q.1.1.2.dep + 1 ≤ 60; omega)) (by simp; omega)
    rw [s0, s1, List.map_map] at e3
    have k := keepP_map (fun e : Qd => e.1) kT tT (mp t) es []
    have k2 : keepP kT tT (mp t) (es.map fun e => e.1) [] = (keepP (fun e : Qd => kT e.1) (fun e : Qd => tT e.1) (mp t) es []).map fun e => e.1 := k.symm
    have k3 : keepP (fun b : Br => b.1) (fun b : Br => b.2) (mp t) (mpB bs) [] = (keepP (fun e : Qd => kT e.1) (fun e : Qd => tT e.1) (mp t) es []).map fun e => e.1.1 := by
      rw [← em]
      exact (keepP_map (fun e : Qd => e.1.1) (fun b : Br => b.1) (fun b : Br => b.2) (mp t) es []).symm
    rw [k2, List.map_map] at e3
    simp only [Function.comp_def] at e3
    generalize hes : keepP (fun e : Qd => kT e.1) (fun e : Qd => tT e.1) (mp t) es [] = ks at e3 k3
    have hks : ∀ e ∈ ks, e ∈ es := fun e he => by rw [← hes] at he; exact (keepP_mem he).1
    have nks : (ks.flatMap fun e => e.2).Nodup := by
      have p := (keepP_perm (fun e : Qd => kT e.1) (fun e : Qd => tT e.1) (mp t) es []).flatMap_right (fun e => e.2)
      rw [List.append_nil, hes] at p
      refine p.nodup_iff.mpr (w2.1.sublist ?_)
      exact flat_sub _ List.filter_sublist
    have w3 : Within (W ++ cs1).length V.length (ks.flatMap fun e => e.2) := ⟨nks, fun j hj => by
      obtain ⟨e, he, hj2⟩ := List.mem_flatMap.mp hj
      exact w2.2 j (List.mem_flatMap.mpr ⟨e, hks e he, hj2⟩)⟩
    refine ⟨.tup [.int (c : Int), .str o, .hdl V.length, d'], cs1 ++ cs2 ++ [.lst (ks.map fun e => tpD e.1)], V.length :: ((ks.flatMap fun e => e.2) ++ hs1), ?_, ?_, ?_⟩
    · rw [e_made_plain]
      have y0 : ∀ V, opIx V (.d (.tup [.int (c : Int), .str o, L, d0])) (.d (.int 0)) = some (.d (.int (c : Int))) := fun V => by simp [opIx, asS, atI, ixN]
      have y1 : ∀ V, opIx V (.d (.tup [.int (c : Int), .str o, L, d0])) (.d (.int 1)) = some (.d (.str o)) := fun V => by simp [opIx, asS, atI, ixN]
      have x2 : opIx (W ++ cs1) (.d (.tup [.int (c : Int), .str o, L, d0])) (.d (.int 2)) = some (.d L) := by simp [opIx, asS, atI, ixN]
      have x3 : opIx W (.d (.tup [.int (c : Int), .str o, L, d0])) (.d (.int 3)) = some (.d d0) := by simp [opIx, asS, atI, ixN]
      have notN : opIs id W (.d (.tup [.int (c : Int), .str o, L, d0])) (.d .non) = some (.d (.bl false)) := by simp [opIs]
      have eW : W ++ (cs1 ++ cs2 ++ [Cell.lst (ks.map fun e => tpD e.1)]) = V ++ [.lst (ks.map fun e => tpD e.1)] := by rw [← hV]; simp
      rw [eW]
      refine runB_rt (r := .d (.tup [.int (c : Int), .str o, .hdl V.length, d'])) (W' := V ++ [.lst (ks.map fun e => tpD e.1)]) ?_ fin_true
      generalize hTp : D.tup [.int (c : Int), .str o, L, d0] = Tq at e2 e3 x2 x3 y0 y1 notN ⊢
      refine fSeq_nx (ρ' := [some Tq, none, none, none, none, none, none, none]) (W' := W) (fIf_f (W1 := W) (by simp [runB, startE, fSeq, fNil, fIf, fRet, fRetN, fDrop, fPass, fAsg, fTg, toD, fName, fC, fVal, fNotT, fAndT, fOrT, fBin, fCons, fNilA, fTup, fLst, fBlt, fIsi, fCall, fIte, fNeg, fNotV, fOrV, fAndV, fMth, fStore, fAug, fSl, fON, fOS, fSrc, fRng, fFor, fLc, wipeE, Ev.setN, notN]) rfl)
        (fSeq_nx (ρ' := [some Tq, some d', none, none, none, none, none, none]) (W' := W ++ cs1) (by simp [runB, startE, fSeq, fNil, fIf, fRet, fRetN, fDrop, fPass, fAsg, fTg, toD, fName, fC, fVal, fNotT, fAndT, fOrT, fBin, fCons, fNilA, fTup, fLst, fBlt, fIsi, fCall, fIte, fNeg, fNotV, fOrV, fAndV, fMth, fStore, fAug, fSl, fON, fOS, fSrc, fRng, fFor, fLc, wipeE, Ev.setN, x3, e1])
        (fSeq_nx (ρ' := [some Tq, some d', some (.lst (es.map fun e => tpD e.1)), none, none, none, none, none]) (W' := V) ?_
        (fSeq_nx (ρ' := [some Tq, some d', some (.lst (es.map fun e => tpD e.1)), some (.hdl V.length), none, none, none, none]) (W' := V ++ [.lst []]) rfl
        (fSeq_nx (fFor_nx (src := ⟨es.map fun e => tpD e.1, yes⟩) (W1 := V ++ [.lst []]) rfl e3) ?_))))
      · refine (fAsg_one (fLc_eq (src := ⟨xs, chk⟩) (fSrc_eq (r := .d L) (W1 := W ++ cs1) (fBin_eq (a := .d Tq) (b := .d (.int 2)) (W1 := W ++ cs1) rfl rfl x2) hsrc) e2)).trans rfl
      · simp [runB, startE, fSeq, fNil, fIf, fRet, fRetN, fDrop, fPass, fAsg, fTg, toD, fName, fC, fVal, fNotT, fAndT, fOrT, fBin, fCons, fNilA, fTup, fLst, fBlt, fIsi, fCall, fIte, fNeg, fNotV, fOrV, fAndV, fMth, fStore, fAug, fSl, fON, fOS, fSrc, fRng, fFor, fLc, wipeE, Ev.setN, y0, y1, Function.comp_def]
    · have eW : W ++ (cs1 ++ cs2 ++ [Cell.lst (ks.map fun e => tpD e.1)]) = V ++ [.lst (ks.map fun e => tpD e.1)] := by rw [← hV]; simp
      rw [eW, mp_node, k3]
      exact trh_node.mpr ⟨V.length, d', ks.map fun e => tpD e.1, ks.flatMap fun e => e.2, hs1, rfl, push_at _ _, trbh_list ks fun e he => trh_mono (mono3 _) _ _ _ (r2 e (hks e he)), trh_mono (mono3 _) _ _ _ (trh_mono mono2 _ _ _ r1), rfl⟩
    · have eW : (W ++ (cs1 ++ cs2 ++ [Cell.lst (ks.map fun e => tpD e.1)])).length = V.length + 1 := by rw [← hV]; simp; omega
      rw [eW]
      have lV : (W ++ cs1).length ≤ V.length := by rw [← hV]; simp
      have lW : W.length ≤ (W ++ cs1).length := by simp
      refine ⟨List.nodup_cons.mpr ⟨fun hj => ?_, ?_⟩, fun j hj => ?_⟩
      · rcases List.mem_append.mp hj with q | q
        · have := w3.2 _ q; omega
        · have := w1.2 _ q; omega
      · refine List.nodup_append.mpr ⟨w3.1, w1.1, fun x hx y hy e => ?_⟩
        have := w3.2 x hx
        have := w1.2 y hy
        omega
      · rcases List.mem_cons.mp hj with q | q
        · omega
        · rcases List.mem_append.mp q with q | q
          · have := w3.2 _ q; omega
          · have := w1.2 _ q; omega
end
end K06

set_option Elab.async false
set_option linter.all false
set_option maxRecDepth 100000
namespace K06
open PySem L2 Ev
section
variable {n : Nat} {W : Wd} {S : List (List Str)}
/-! ### flat rules as trees -/
def flatT : List (Nat × Str) → T
  | [] => .nil
  | p :: r => .node p.1 p.2 [] (flatT r)
def stepT (t : T) (p : Nat × Str) : T := .node p.1 p.2 [] t
theorem fold_rev : ∀ fl : List (Nat × Str), fl.reverse.foldl stepT .nil = flatT fl
  | [] => rfl
  | p :: r => by
    rw [List.reverse_cons, List.foldl_append, fold_rev r]; rfl
theorem flatT_dep : ∀ fl : List (Nat × Str), (flatT fl).dep = fl.length
  | [] => by rw [flatT, T.dep]; rfl
  | p :: r => by
    rw [flatT, T.dep, T.deps, flatT_dep r, List.length_cons]
    omega
theorem mp_flatT : ∀ fl : List (Nat × Str), mp (flatT fl) = flatT fl
  | [] => by rw [flatT, mp_nil]
  | p :: r => by
    rw [flatT, mp_node, mp_flatT r, mpB, keepP]
theorem flatT_good : ∀ (fl : List (Nat × Str)) (us : List Nat), GoodFlat S fl → (∀ p ∈ fl, p.1 ∉ us) → GoodT S us (flatT fl)
  | [], us, _, _ => by rw [flatT]; exact goodT_nil
  | p :: r, us, ⟨h1, h2⟩, hu => by
    rw [List.map_cons, List.nodup_cons] at h1
    rw [flatT]
    refine goodT_node.mpr ⟨hu p List.mem_cons_self, h2 p List.mem_cons_self, by simp, by simp, by rw [GoodB]; trivial, flatT_good r _ ⟨h1.2, fun q hq => h2 q (List.mem_cons_of_mem _ hq)⟩ fun q hq hm => ?_⟩
    rcases List.mem_append.mp hm with z | z
    · exact hu q (List.mem_cons_of_mem _ hq) z
    · exact h1.1 (by rw [← List.mem_singleton.mp z]; exact List.mem_map_of_mem hq)
theorem fat_loop : ∀ (l : List (Nat × Str)) (t : T) (a0 a2 a3 : Option D), ∃ b2 b3, forL yes (.tup [2, 3]) (l_flat_as_tree_1 false (ev n)) (flatD l) [a0, some t.d, a2, a3] W = some (.nx [a0, some (l.foldl stepT t).d, b2, b3] W)
  | [], t, a0, a2, a3 => ⟨a2, a3, by simp [forL, flatD, yes]⟩
  | p :: r, t, a0, a2, a3 => by
    obtain ⟨b2, b3, ih⟩ := fat_loop r (stepT t p) a0 (some (.int (p.1 : Int))) (some (.str p.2))
    refine ⟨b2, b3, ?_⟩
    have e : flatD (p :: r) = .tup [.int (p.1 : Int), .str p.2] :: flatD r := rfl
    have b : l_flat_as_tree_1 false (ev n) [a0, some t.d, some (.int (p.1 : Int)), some (.str p.2)] W = some (.nx [a0, some (stepT t p).d, some (.int (p.1 : Int)), some (.str p.2)] W) := by
      unfold stepT
      rw [T.d, T.ds]
      simp [l_flat_as_tree_1, runB, startE, fSeq, fNil, fIf, fRet, fRetN, fDrop, fPass, fAsg, fTg, toD, fName, fC, fVal, fNotT, fAndT, fOrT, fBin, fCons, fNilA, fTup, fLst, fBlt, fIsi, fCall, fIte, fNeg, fNotV, fOrV, fAndV, fMth, fStore, fAug, fSl, fON, fOS, fSrc, fRng, fFor, fLc, wipeE, Ev.setN]
    rw [e]
    unfold forL
    rw [if_pos (show yes W = true from rfl)]
    have ft : fTg (.tup [2, 3]) (.tup [.int (p.1 : Int), .str p.2]) [a0, some t.d, a2, a3] = some [a0, some t.d, some (.int (p.1 : Int)), some (.str p.2)] := rfl
    rw [ft, Option.bind_some, b, Option.bind_some]
    exact ih
theorem flat_rev (fl : List (Nat × Str)) : (flatD fl).reverse = flatD fl.reverse := by simp [flatD]
theorem fat_false (hn : 1 ≤ n) (fl : List (Nat × Str)) : ev n i_flat_as_tree false [.lst (flatD fl)] W = some (.d (flatT fl).d, W) := by
  obtain ⟨n, rfl, ln⟩ := lv hn
  obtain ⟨b2, b3, e⟩ := fat_loop (n := n) (W := W) fl.reverse .nil (some (.lst (flatD fl))) none none
  rw [t_nil_d, fold_rev] at e
  rw [e_flat_as_tree]
  refine runB_rt (r := .d (flatT fl).d) (W' := W) ?_ (fin_same rfl)
  refine fSeq_nx (ρ' := [some (.lst (flatD fl)), some .non, none, none]) (W' := W) rfl (fSeq_nx (fFor_nx (src := ⟨flatD fl.reverse, yes⟩) (W1 := W) ?_ e) rfl)
  rw [← flat_rev]
  rfl
theorem fat_loopT : ∀ (l : List (Nat × Str)) (t : T) (d : D) (hs : List Nat) (V : Wd) (lo : Nat) (a0 a2 a3 : Option D), TrH V t d hs → Within lo V.length hs → lo ≤ V.length →
    ∃ b2 b3 d' cs hs', forL yes (.tup [2, 3]) (l_flat_as_tree_1 true (ev n)) (flatD l) [a0, some d, a2, a3] V = some (.nx [a0, some d', b2, b3] (V ++ cs)) ∧ TrH (V ++ cs) (l.foldl stepT t) d' hs' ∧ Within lo (V ++ cs).length hs'
  | [], t, d, hs, V, lo, a0, a2, a3, h, w, hl => ⟨a2, a3, d, [], hs, by simp [forL, flatD, yes], by simpa using h, by simpa using w⟩
  | p :: r, t, d, hs, V, lo, a0, a2, a3, h, w, hl => by
    have h2 : TrH (V ++ [.lst []]) (stepT t p) (.tup [.int (p.1 : Int), .str p.2, .hdl V.length, d]) (V.length :: hs) := trh_node.mpr ⟨V.length, d, [], [], hs, rfl, push_at _ _, trbh_nil.mpr ⟨rfl, rfl⟩, trh_mono (fun j c q => push_old q) _ _ _ h, rfl⟩
    have w2 : Within lo (V ++ [Cell.lst []]).length (V.length :: hs) := by
      refine ⟨List.nodup_cons.mpr ⟨fun hj => ?_, w.1⟩, fun j hj => ?_⟩
      · have := w.2 _ hj; omega
      · rw [List.length_append, List.length_singleton]
        rcases List.mem_cons.mp hj with q | q
        · omega
        · have := w.2 j q; omega
    obtain ⟨b2, b3, d', cs, hs', ih, r1, r2⟩ := fat_loopT r (stepT t p) _ _ (V ++ [.lst []]) lo a0 (some (.int (p.1 : Int))) (some (.str p.2)) h2 w2 (by rw [List.length_append]; omega)
    refine ⟨b2, b3, d', [.lst []] ++ cs, hs', ?_, by rw [← List.append_assoc]; exact r1, by rw [← List.append_assoc]; exact r2⟩
    have e : flatD (p :: r) = .tup [.int (p.1 : Int), .str p.2] :: flatD r := rfl
    have b : l_flat_as_tree_1 true (ev n) [a0, some d, some (.int (p.1 : Int)), some (.str p.2)] V = some (.nx [a0, some (.tup [.int (p.1 : Int), .str p.2, .hdl V.length, d]), some (.int (p.1 : Int)), some (.str p.2)] (V ++ [.lst []])) := by
      simp [l_flat_as_tree_1, runB, startE, fSeq, fNil, fIf, fRet, fRetN, fDrop, fPass, fAsg, fTg, toD, fName, fC, fVal, fNotT, fAndT, fOrT, fBin, fCons, fNilA, fTup, fLst, fBlt, fIsi, fCall, fIte, fNeg, fNotV, fOrV, fAndV, fMth, fStore, fAug, fSl, fON, fOS, fSrc, fRng, fFor, fLc, wipeE, Ev.setN]
    rw [e]
    unfold forL
    rw [if_pos (show yes V = true from rfl)]
    have ft : fTg (.tup [2, 3]) (.tup [.int (p.1 : Int), .str p.2]) [a0, some d, a2, a3] = some [a0, some d, some (.int (p.1 : Int)), some (.str p.2)] := rfl
    rw [ft, Option.bind_some, b, Option.bind_some, ← List.append_assoc]
    exact ih
theorem fat_true (hn : 1 ≤ n) (fl : List (Nat × Str)) : ∃ d' cs hs, ev n i_flat_as_tree true [.lst (flatD fl)] W = some (.d d', W ++ cs) ∧ TrH (W ++ cs) (flatT fl) d' hs ∧ Within W.length (W ++ cs).length hs := by
  obtain ⟨n, rfl, ln⟩ := lv hn
  obtain ⟨b2, b3, d', cs, hs, e, r1, r2⟩ := fat_loopT (n := n) fl.reverse .nil .non [] W W.length (some (.lst (flatD fl))) none none (trh_nil.mpr ⟨rfl, rfl⟩) (within_nil _ _) (Nat.le_refl _)
  rw [fold_rev] at r1
  refine ⟨d', cs, hs, ?_, r1, r2⟩
  rw [e_flat_as_tree]
  refine runB_rt (r := .d d') (W' := W ++ cs) ?_ fin_true
  refine fSeq_nx (ρ' := [some (.lst (flatD fl)), some .non, none, none]) (W' := W) rfl (fSeq_nx (fFor_nx (src := ⟨flatD fl.reverse, yes⟩) (W1 := W) ?_ e) rfl)
  rw [← flat_rev]
  rfl
theorem tree_of_false (hn : 7 ≤ n) (hS : GoodSch S) {fl : List (Nat × Str)} (hf : GoodFlat S fl) (hl : fl.length ≤ 900) : ev n i_tree_of false [.lst (S.map colD), .lst (flatD fl)] W = some (.d (flatT fl).d, W) := by
  obtain ⟨n, rfl, ln⟩ := lv hn
  rw [e_tree_of]
  simp [runB, startE, fSeq, fNil, fIf, fRet, fRetN, fDrop, fPass, fAsg, fTg, toD, fName, fC, fVal, fNotT, fAndT, fOrT, fBin, fCons, fNilA, fTup, fLst, fBlt, fIsi, fCall, fIte, fNeg, fNotV, fOrV, fAndV, fMth, fStore, fAug, fSl, fON, fOS, fSrc, fRng, fFor, fLc, wipeE, Ev.setN, g_tree_of, look_sch (h := false) (W := W) (n := n) (by omega) hS, look_flat (h := false) (W := W) (n := n) (by omega) hS hf hl, fat_false (W := W) (n := n) (by omega) fl, fin_same]
theorem tree_of_true (hn : 7 ≤ n) (hS : GoodSch S) {fl : List (Nat × Str)} (hf : GoodFlat S fl) (hl : fl.length ≤ 900) : ∃ d' cs hs, ev n i_tree_of true [.lst (S.map colD), .lst (flatD fl)] W = some (.d d', W ++ cs) ∧ TrH (W ++ cs) (flatT fl) d' hs ∧ Within W.length (W ++ cs).length hs := by
  obtain ⟨n, rfl, ln⟩ := lv hn
  obtain ⟨d', cs, hs, e, r1, r2⟩ := fat_true (W := W) (n := n) (by omega) fl
  refine ⟨d', cs, hs, ?_, r1, r2⟩
  rw [e_tree_of]
  simp [runB, startE, fSeq, fNil, fIf, fRet, fRetN, fDrop, fPass, fAsg, fTg, toD, fName, fC, fVal, fNotT, fAndT, fOrT, fBin, fCons, fNilA, fTup, fLst, fBlt, fIsi, fCall, fIte, fNeg, fNotV, fOrV, fAndV, fMth, fStore, fAug, fSl, fON, fOS, fSrc, fRng, fFor, fLc, wipeE, Ev.setN, g_tree_of, look_sch (h := false) (W := W) (n := n) (by omega) hS, look_flat (h := false) (W := W) (n := n) (by omega) hS hf hl, e, fin_true]
theorem plain_false (hS : GoodSch S) {t : T} {d : D} (hg : GoodT S [] t) (hr : Tr W t d) (hn : t.dep + 8 ≤ n) (hd : t.dep ≤ 18) : ev n i_plain false [.lst (S.map colD), d] W = some (.d (mp t).d, W) := by
  obtain ⟨n, rfl, ln⟩ := lv (c := 7) (n := n) (by omega)
  have e2 := is_tw t false n [] d hS hr hg (by omega) (by simp; omega)
  have e3 : natsD [] = [] := rfl
  rw [e3] at e2
  rw [e_plain]
  simp [runB, startE, fSeq, fNil, fIf, fRet, fRetN, fDrop, fPass, fAsg, fTg, toD, fName, fC, fVal, fNotT, fAndT, fOrT, fBin, fCons, fNilA, fTup, fLst, fBlt, fIsi, fCall, fIte, fNeg, fNotV, fOrV, fAndV, fMth, fStore, fAug, fSl, fON, fOS, fSrc, fRng, fFor, fLc, wipeE, Ev.setN, g_plain, look_sch (h := false) (W := W) (n := n) (by omega) hS, e2, mp_false hS t [] n W d hg hr (by omega) hd, fin_same]
theorem plain_true (hS : GoodSch S) {t : T} {d : D} (hg : GoodT S [] t) (hr : Tr W t d) (hn : t.dep + 8 ≤ n) (hd : t.dep ≤ 18) : ∃ d' cs hs, ev n i_plain true [.lst (S.map colD), d] W = some (.d d', W ++ cs) ∧ TrH (W ++ cs) (mp t) d' hs ∧ Within W.length (W ++ cs).length hs := by
  obtain ⟨n, rfl, ln⟩ := lv (c := 7) (n := n) (by omega)
  have e2 := is_tw t false n [] d hS hr hg (by omega) (by simp; omega)
  have e3 : natsD [] = [] := rfl
  rw [e3] at e2
  obtain ⟨d', cs, hs, e, r1, r2⟩ := mp_true hS t [] n W d hg hr (by omega) hd
  refine ⟨d', cs, hs, ?_, r1, r2⟩
  rw [e_plain]
  simp [runB, startE, fSeq, fNil, fIf, fRet, fRetN, fDrop, fPass, fAsg, fTg, toD, fName, fC, fVal, fNotT, fAndT, fOrT, fBin, fCons, fNilA, fTup, fLst, fBlt, fIsi, fCall, fIte, fNeg, fNotV, fOrV, fAndV, fMth, fStore, fAug, fSl, fON, fOS, fSrc, fRng, fFor, fLc, wipeE, Ev.setN, g_plain, look_sch (h := false) (W := W) (n := n) (by omega) hS, e2, e, fin_true]
end
end K06

set_option Elab.async false
set_option linter.all false
set_option maxRecDepth 100000
namespace K06
open PySem L2 Ev
section
variable {n : Nat} {W : Wd} {S : List (List Str)}
/-! ### the chain of a flat rule -/
theorem rng_consG {lo c : Int} {m i : Nat} {d : D} {r : List D} (h : d :: r = (rngL lo c m).drop i) : i < m ∧ d = .int (lo + (i : Int) * c) ∧ r = (rngL lo c m).drop (i + 1) := by
  have hl : (rngL lo c m).length = m := by simp [rngL]
  have hi : i < m := by
    have := congrArg List.length h
    rw [List.length_cons, List.length_drop, hl] at this
    omega
  rw [List.drop_eq_getElem_cons (by rw [hl]; exact hi)] at h
  injection h with h1 h2
  refine ⟨hi, ?_, h2⟩
  rw [h1]
  unfold rngL
  rw [List.getElem_map, List.getElem_range]
theorem rng_endG {lo c : Int} {m i : Nat} (h : ([] : List D) = (rngL lo c m).drop i) (hi : i ≤ m) : i = m := by
  have := congrArg List.length h
  simp [rngL] at this
  omega
theorem rng3_down (m : Nat) (h : m ≤ 1000) : rng3 [.int ((m : Int) - 1), .int (-1), .int (-1)] = some ⟨rngL ((m : Int) - 1) (-1) m, yes⟩ := by
  have h1 : inR ((m : Int) - 1) := by unfold inR; omega
  have h2 : inR (-1) := by unfold inR; decide
  show (if inR ((m : Int) - 1) ∧ inR (-1) ∧ (-1 : Int) = -1 then some (Src.mk (rngL ((m : Int) - 1) (-1) ((m : Int) - 1 - -1).toNat) yes) else none) = _
  rw [if_pos ⟨h1, h2, rfl⟩]
  have : ((m : Int) - 1 - -1).toNat = m := by omega
  rw [this]
theorem chain_ok {h : Bool} (hn : 1 ≤ n) (fl : List (Nat × Str)) (hl : fl.length ≤ 900) : ev n i__law_chain h [.lst (flatD fl)] W = some (.d (flatT fl).d, W) := by
  obtain ⟨n, rfl, ln⟩ := lv hn
  have lf : (flatD fl).length = fl.length := by simp [flatD]
  obtain ⟨ρ', W', e, i, hi, el, x, rfl, rfl⟩ := forL_inv (b := l__law_chain_1 h (ev n)) (t := .one 2) (chk := yes)
    (fun l ρ V => ∃ i : Nat, i ≤ fl.length ∧ l = (rngL ((fl.length : Int) - 1) (-1) fl.length).drop i ∧ ∃ x : Option D, ρ = [some (.lst (flatD fl)), some (flatT (fl.drop (fl.length - i))).d, x] ∧ V = W)
    (fun _ _ _ _ => rfl) (fun d r ρ V ⟨i, hi, el, x, eρ, eV⟩ => by
      subst eρ eV
      obtain ⟨hi, rfl, er⟩ := rng_consG el
      have hk : fl.length - (i + 1) < fl.length := by omega
      have hp := List.getElem?_eq_getElem hk
      generalize fl[fl.length - (i + 1)] = p at hp
      have ek : ((fl.length : Int) - 1) + (i : Int) * (-1) = ((fl.length - (i + 1) : Nat) : Int) := by omega
      have ed : fl.drop (fl.length - (i + 1)) = p :: fl.drop (fl.length - i) := by
        rw [List.drop_eq_getElem_cons hk]
        have h1 : fl[fl.length - (i + 1)] = p := Option.some.inj ((List.getElem?_eq_getElem hk).symm.trans hp)
        have h2 : fl.length - (i + 1) + 1 = fl.length - i := by omega
        rw [h1, h2]
      have hpd : (flatD fl)[fl.length - (i + 1)]? = some (.tup [.int (p.1 : Int), .str p.2]) := by unfold flatD; rw [List.getElem?_map, hp]; rfl
      rw [ek]
      refine ⟨_, rfl, [some (.lst (flatD fl)), some (flatT (fl.drop (fl.length - (i + 1)))).d, some (.int ((fl.length - (i + 1) : Nat) : Int))], V, .inl ?_, i + 1, hi, er, _, rfl, rfl⟩
      have x0 : opIx V (.d (.lst (flatD fl))) (.d (.int ((fl.length - (i + 1) : Nat) : Int))) = some (.d (.tup [.int (p.1 : Int), .str p.2])) := by
        simp only [opIx, asS, asL, Option.bind_some, atI_cast, hpd, Option.map_some]
      have y0 : opIx V (.d (.tup [.int (p.1 : Int), .str p.2])) (.d (.int 0)) = some (.d (.int (p.1 : Int))) := by simp [opIx, asS, atI, ixN]
      have y1 : opIx V (.d (.tup [.int (p.1 : Int), .str p.2])) (.d (.int 1)) = some (.d (.str p.2)) := by simp [opIx, asS, atI, ixN]
      rw [ed, flatT, T.d, T.ds]
      generalize ((fl.length - (i + 1) : Nat) : Int) = kk at x0
      generalize D.tup [.int (p.1 : Int), .str p.2] = Tp at x0 y0 y1
      simp [l__law_chain_1, runB, startE, fSeq, fNil, fIf, fRet, fRetN, fDrop, fPass, fAsg, fTg, toD, fName, fC, fVal, fNotT, fAndT, fOrT, fBin, fCons, fNilA, fTup, fLst, fBlt, fIsi, fCall, fIte, fNeg, fNotV, fOrV, fAndV, fMth, fStore, fAug, fSl, fON, fOS, fSrc, fRng, fFor, fLc, wipeE, Ev.setN, x0, y0, y1]) (rngL ((fl.length : Int) - 1) (-1) fl.length) [some (.lst (flatD fl)), some .non, none] W
    ⟨0, Nat.zero_le _, rfl, none, by rw [Nat.sub_zero, List.drop_length, flatT, t_nil_d], rfl⟩
  have ei := rng_endG el hi
  subst ei
  rw [Nat.sub_self, List.drop_zero] at e
  rw [e__law_chain]
  refine runB_rt (r := .d (flatT fl).d) (W' := W') ?_ (fin_same rfl)
  have bl : bLen W' [.lst (flatD fl)] = some (.d (.int fl.length)) := by simp [bLen, asS, asL, lf]
  refine fSeq_nx (ρ' := [some (.lst (flatD fl)), some .non, none]) (W' := W') rfl (fSeq_nx (fFor_nx (src := ⟨rngL ((fl.length : Int) - 1) (-1) fl.length, yes⟩) (W1 := W') ?_ e) rfl)
  have r3 := rng3_down fl.length (by omega)
  generalize rng3 = g at r3 ⊢
  simp [runB, startE, fSeq, fNil, fIf, fRet, fRetN, fDrop, fPass, fAsg, fTg, toD, fName, fC, fVal, fNotT, fAndT, fOrT, fBin, fCons, fNilA, fTup, fLst, fBlt, fIsi, fCall, fIte, fNeg, fNotV, fOrV, fAndV, fMth, fStore, fAug, fSl, fON, fOS, fSrc, fRng, fFor, fLc, wipeE, Ev.setN, bl, opSub, r3]

/-! ### all lists of a thing -/
theorem al_loop {a0 : Option D} {chk : Wd → Bool} (hc : chk W = true) : ∀ (ds : List (D × List Nat)) (acc : List Nat) (x : Option D), acc.length + (ds.flatMap fun p => p.2).length ≤ 900 → (∀ p ∈ ds, ev n i__law_all_lists false [p.1] W = some (.d (.lst (p.2.map D.hdl)), W)) →
    ∃ x', forL chk (.one 2) (l__law_all_lists_1 false (ev n)) (ds.map fun p => p.1) [a0, some (.lst (acc.map D.hdl)), x] W = some (.nx [a0, some (.lst ((acc ++ ds.flatMap fun p => p.2).map D.hdl)), x'] W)
  | [], acc, x, _, _ => ⟨x, by rw [List.map_nil]; unfold forL; rw [if_pos hc]; simp⟩
  | (d, hs) :: r, acc, x, hl, h => by
    rw [List.flatMap_cons, List.length_append] at hl
    have hl : acc.length + (hs.length + (r.flatMap fun p => p.2).length) ≤ 900 := hl
    have e := h (d, hs) List.mem_cons_self
    have e : ev n i__law_all_lists false [d] W = some (.d (.lst (hs.map D.hdl)), W) := e
    obtain ⟨x', ih⟩ := al_loop (a0 := a0) hc r (acc ++ hs) (some d) (by rw [List.length_append]; omega) fun p hp => h p (List.mem_cons_of_mem _ hp)
    refine ⟨x', ?_⟩
    have ad : opAdd W (.d (.lst (acc.map D.hdl))) (.d (.lst (hs.map D.hdl))) = some (.fr ((acc ++ hs).map D.hdl)) := by
      show (if _ then _ else _) = _
      rw [if_pos (by rw [small]; simp; omega), List.map_append]
    have b : l__law_all_lists_1 false (ev n) [a0, some (.lst (acc.map D.hdl)), some d] W = some (.nx [a0, some (.lst ((acc ++ hs).map D.hdl)), some d] W) := by
      clear ih h
      generalize acc.map D.hdl = A at ad
      generalize (acc ++ hs).map D.hdl = B at ad
      generalize hs.map D.hdl = C at ad e
      simp [l__law_all_lists_1, runB, startE, fSeq, fNil, fIf, fRet, fRetN, fDrop, fPass, fAsg, fTg, toD, fName, fC, fVal, fNotT, fAndT, fOrT, fBin, fCons, fNilA, fTup, fLst, fBlt, fIsi, fCall, fIte, fNeg, fNotV, fOrV, fAndV, fMth, fStore, fAug, fSl, fON, fOS, fSrc, fRng, fFor, fLc, wipeE, Ev.setN, e, ad]
    rw [List.map_cons, List.flatMap_cons, ← List.append_assoc]
    unfold forL
    rw [if_pos hc]
    show (l__law_all_lists_1 false (ev n) [a0, some (.lst (acc.map D.hdl)), some d] W).bind _ = _
    rw [b, Option.bind_some]
    exact ih
/-- a thing's lists, told -/
def AL (W : Wd) (m : Nat) (d : D) (hs : List Nat) : Prop := ∀ n, m ≤ n → ev n i__law_all_lists false [d] W = some (.d (.lst (hs.map D.hdl)), W)
theorem al_flat {d : D} {g : String} (ht : (R.d d).tag W = some g) (h1 : isaB g "list" = false) (h2 : isaB g "tuple" = false) : AL W 1 d [] := by
  intro n hn
  obtain ⟨n, rfl, ln⟩ := lv hn
  rw [e__law_all_lists]
  have mz : opMul W (.fr [d]) (.d (.int 0)) = some (.fr []) := by simp [opMul, asL]
  simp [runB, startE, fSeq, fNil, fIf, fRet, fRetN, fDrop, fPass, fAsg, fTg, toD, fName, fC, fVal, fNotT, fAndT, fOrT, fBin, fCons, fNilA, fTup, fLst, fBlt, fIsi, fCall, fIte, fNeg, fNotV, fOrV, fAndV, fMth, fStore, fAug, fSl, fON, fOS, fSrc, fRng, fFor, fLc, wipeE, Ev.setN, g__law_all_lists, ht, h1, h2, bInt, mz, fin_same]
theorem al_tup {m : Nat} {ds : List (D × List Nat)} (h : ∀ p ∈ ds, AL W m p.1 p.2) (hl : (ds.flatMap fun p => p.2).length ≤ 900) : AL W (m + 1) (.tup (ds.map fun p => p.1)) (ds.flatMap fun p => p.2) := by
  intro n hn
  obtain ⟨n, rfl, ln⟩ := lv hn
  obtain ⟨x', e⟩ := al_loop (n := n) (W := W) (a0 := some (.tup (ds.map fun p => p.1))) (chk := yes) rfl ds [] none (by simpa using hl) fun p hp => h p hp n ln
  have mz : opMul W (.fr [.tup (ds.map fun p => p.1)]) (.d (.int 0)) = some (.fr []) := by simp [opMul, asL]
  have ht : (R.d (.tup (ds.map fun p => p.1))).tag W = some "tuple" := rfl
  rw [e__law_all_lists]
  refine runB_rt (r := .d (.lst ((ds.flatMap fun p => p.2).map D.hdl))) (W' := W) ?_ (fin_same rfl)
  refine fSeq_nx (ρ' := [some (.tup (ds.map fun p => p.1)), some (.lst []), none]) (W' := W) ?_ (fSeq_nx (fIf_t (W1 := W) ?_ (fFor_nx (src := ⟨ds.map fun p => p.1, yes⟩) (W1 := W) rfl e)) rfl)
  · generalize D.tup (ds.map fun p => p.1) = Tp at mz ht ⊢
    simp [runB, startE, fSeq, fNil, fIf, fRet, fRetN, fDrop, fPass, fAsg, fTg, toD, fName, fC, fVal, fNotT, fAndT, fOrT, fBin, fCons, fNilA, fTup, fLst, fBlt, fIsi, fCall, fIte, fNeg, fNotV, fOrV, fAndV, fMth, fStore, fAug, fSl, fON, fOS, fSrc, fRng, fFor, fLc, wipeE, Ev.setN, ht, isaB, bInt, mz]
  · generalize D.tup (ds.map fun p => p.1) = Tp at mz ht ⊢
    simp [runB, startE, fSeq, fNil, fIf, fRet, fRetN, fDrop, fPass, fAsg, fTg, toD, fName, fC, fVal, fNotT, fAndT, fOrT, fBin, fCons, fNilA, fTup, fLst, fBlt, fIsi, fCall, fIte, fNeg, fNotV, fOrV, fAndV, fMth, fStore, fAug, fSl, fON, fOS, fSrc, fRng, fFor, fLc, wipeE, Ev.setN, ht, isaB]
theorem al_hdl {m j : Nat} {ds : List (D × List Nat)} (hj : W[j]? = some (.lst (ds.map fun p => p.1))) (h : ∀ p ∈ ds, AL W m p.1 p.2) (hl : (ds.flatMap fun p => p.2).length ≤ 800) : AL W (m + 1) (.hdl j) (j :: ds.flatMap fun p => p.2) := by
  intro n hn
  obtain ⟨n, rfl, ln⟩ := lv hn
  obtain ⟨chk, hs, hc⟩ := src_L (U := W) (L := .hdl j) (xs := ds.map fun p => p.1) (by simp [asL, hj])
  have hck := hc W fun _ _ e => e
  obtain ⟨x', e⟩ := al_loop (n := n) (W := W) (a0 := some (.hdl j)) hck ds [j] none (by show 1 + _ ≤ 900; omega) fun p hp => h p hp n ln
  have mz : opMul W (.fr [.hdl j]) (.d (.int 1)) = some (.fr [.hdl j]) := by simp [opMul, asL, small]
  have ht := tag_L (U := W) (L := .hdl j) (xs := ds.map fun p => p.1) (by simp [asL, hj])
  rw [e__law_all_lists]
  refine runB_rt (r := .d (.lst ((j :: ds.flatMap fun p => p.2).map D.hdl))) (W' := W) ?_ (fin_same rfl)
  refine fSeq_nx (ρ' := [some (.hdl j), some (.lst [.hdl j]), none]) (W' := W) ?_ (fSeq_nx (fIf_t (W1 := W) ?_ (fFor_nx (src := ⟨ds.map fun p => p.1, chk⟩) (W1 := W) (fSrc_eq rfl hs) e)) rfl)
  · simp [runB, startE, fSeq, fNil, fIf, fRet, fRetN, fDrop, fPass, fAsg, fTg, toD, fName, fC, fVal, fNotT, fAndT, fOrT, fBin, fCons, fNilA, fTup, fLst, fBlt, fIsi, fCall, fIte, fNeg, fNotV, fOrV, fAndV, fMth, fStore, fAug, fSl, fON, fOS, fSrc, fRng, fFor, fLc, wipeE, Ev.setN, ht, isaB, bInt, mz]
  · simp [runB, startE, fSeq, fNil, fIf, fRet, fRetN, fDrop, fPass, fAsg, fTg, toD, fName, fC, fVal, fNotT, fAndT, fOrT, fBin, fCons, fNilA, fTup, fLst, fBlt, fIsi, fCall, fIte, fNeg, fNotV, fOrV, fAndV, fMth, fStore, fAug, fSl, fON, fOS, fSrc, fRng, fFor, fLc, wipeE, Ev.setN, ht, isaB]
theorem al_val (v : Option Int) : AL W 1 (valD v) [] := by
  cases v with
  | none => exact al_flat (g := "NoneType") rfl (by decide) (by decide)
  | some i => exact al_flat (g := "int") rfl (by decide) (by decide)
theorem AL.mono {m m' : Nat} {d : D} {hs : List Nat} (h : AL W m d hs) (hm : m ≤ m') : AL W m' d hs := fun n hn => h n (by omega)
theorem al_tree : ∀ (t : T) (d : D) (hs : List Nat), TrH W t d hs → hs.length ≤ 700 → AL W (3 * t.dep + 1) d hs := by
  intro t
  refine T.ind (P := fun t => ∀ d hs, TrH W t d hs → hs.length ≤ 700 → AL W (3 * t.dep + 1) d hs) (fun d hs h hl => ?_) (fun c o bs t ihb iht d hs h hl => ?_) t
  · obtain ⟨rfl, rfl⟩ := trh_nil.mp h
    exact (al_flat (g := "NoneType") rfl (by decide) (by decide)).mono (by omega)
  · obtain ⟨j, d', xs, h1, h2, rfl, q1, q2, q3, rfl⟩ := trh_node.mp h
    rw [List.length_cons, List.length_append] at hl
    rw [T.dep]
    have hb : ∀ (N : Nat) (bs : List Br) (xs : List D) (hs : List Nat), 1 ≤ N → (∀ b ∈ bs, ∀ d hs, TrH W b.2 d hs → hs.length ≤ 700 → AL W N d hs) → TrBH W bs xs hs → hs.length ≤ 700 →
        ∃ ds : List (D × List Nat), ds.map (fun p => p.1) = xs ∧ (ds.flatMap fun p => p.2) = hs ∧ ∀ p ∈ ds, AL W (N + 1) p.1 p.2 := by
      intro N bs
      induction bs with
      | nil => intro xs hs _ _ q _; obtain ⟨rfl, rfl⟩ := trbh_nil.mp q; exact ⟨[], rfl, rfl, fun p hp => nomatch hp⟩
      | cons b r ih =>
        intro xs hs hN hx q hl
        obtain ⟨v, s⟩ := b
        obtain ⟨d2, ys, k1, k2, rfl, p1, p2, rfl⟩ := trbh_cons.mp q
        rw [List.length_append] at hl
        obtain ⟨ds, e1, e2, e3⟩ := ih ys k2 hN (fun b hb => hx b (List.mem_cons_of_mem _ hb)) p2 (by omega)
        have a := hx (v, s) List.mem_cons_self d2 k1 p1 (by omega)
        have at2 := al_tup (W := W) (m := N) (ds := [(valD v, []), (d2, k1)]) (fun p hp => by
          rcases List.mem_cons.mp hp with z | z
          · rw [z]; exact (al_val v).mono hN
          · rw [List.mem_singleton.mp z]; exact a) (by simp; omega)
        refine ⟨(.tup [valD v, d2], k1) :: ds, by rw [List.map_cons, e1], by rw [List.flatMap_cons, e2], fun p hp => ?_⟩
        rcases List.mem_cons.mp hp with z | z
        · rw [z]
          simpa using at2
        · exact e3 p z
    obtain ⟨ds, e1, e2, e3⟩ := hb (3 * T.deps bs + 1) bs xs h1 (by omega) (fun b hb d hs h hl => (ihb b hb d hs h hl).mono (by have := deps_mem hb; omega)) q2 (by omega)
    have a1 := al_hdl (W := W) (j := j) (ds := ds) (by rw [e1]; exact q1) e3 (by rw [e2]; omega)
    rw [e2] at a1
    have a2 := iht d' h2 q3 (by omega)
    have a3 := al_tup (W := W) (m := 3 * max (T.deps bs) t.dep + 3) (ds := [(.int (c : Int), []), (.str o, []), (.hdl j, j :: h1), (d', h2)]) (fun p hp => by
      simp only [List.mem_cons, List.not_mem_nil, or_false] at hp
      rcases hp with z | z | z | z
      · rw [z]; exact (al_flat (g := "int") rfl (by decide) (by decide)).mono (by omega)
      · rw [z]; exact (al_flat (g := "str") rfl (by decide) (by decide)).mono (by omega)
      · rw [z]; exact a1.mono (by omega)
      · rw [z]; exact a2.mono (by omega)) (by simp; omega)
    have a4 : AL W (3 * max (T.deps bs) t.dep + 3 + 1) (.tup [.int (c : Int), .str o, .hdl j, d']) (j :: (h1 ++ h2)) := by simpa using a3
    exact a4.mono (by omega)
end
end K06

set_option Elab.async false
set_option linter.all false
set_option maxRecDepth 100000
namespace K06
open PySem L2 Ev
section
variable {n : Nat} {W : Wd} {S : List (List Str)}
theorem atI_last (xs : List D) (y : D) : atI (xs ++ [y]) (-1) = some y := by
  unfold atI ixN
  rw [if_neg (by omega), if_pos (by simp; omega)]
  show (xs ++ [y])[((-1 : Int) + ((xs ++ [y]).length : Int)).toNat]? = some y
  have : ((-1 : Int) + ((xs ++ [y]).length : Int)).toNat = xs.length := by simp; omega
  rw [this, List.getElem?_append_right (Nat.le_refl _), Nat.sub_self]; rfl
theorem eq_natsF {U : Wd} {us : List Nat} : opEq id U (.fr (natsD us)) (.fr (natsD us)) = some (.d (.bl true)) := by
  have e2 := map_py U 60 (fun c : Nat => D.int (c : Int)) (fun c : Nat => PyData.int (c : Int)) (fun a => by simp [D.py]) us
  have e3 : ∀ us : List Nat, PyData.eqvAll (us.map fun c : Nat => PyData.int (c : Int)) (us.map fun c : Nat => PyData.int (c : Int)) = true := by
    intro us
    induction us with
    | nil => rfl
    | cons u us ih =>
      have := nat_eq u u
      simp [PyData.eqvAll, ih, this]
  have e5 : mapO (D.py U 60) (natsD us) = some (us.map fun c : Nat => PyData.int (c : Int)) := e2
  simp [opEq, R.py, e5, PyData.eqv, e3]
theorem hdl_at {hs : List Nat} {i j : Nat} (h : hs[i]? = some j) : (hs.map D.hdl)[i]? = some (.hdl j) := by rw [List.getElem?_map, h]; rfl
theorem numbered {m : Nat} {d : D} {hs : List Nat} (ha : AL W m d hs) (hnd : hs.Nodup) (hc : ∀ j ∈ hs, ∃ xs, W[j]? = some (.lst xs) ∧ xs.length ≤ 900) (hl : hs.length ≤ 700) (hn : m + 1 ≤ n) :
    ∃ V : Wd, ev n i__law_numbered false [d] W = some (.d (.bl true), V) ∧ V.length = W.length ∧ ∀ j, j ∉ hs → V[j]? = W[j]? := by
  obtain ⟨n, rfl, ln⟩ := lv hn
  have al := ha n ln
  have lh : (hs.map D.hdl).length = hs.length := by simp
  obtain ⟨ρ', V, e, i, hi, el, x, rfl, hV, hf, hd⟩ := forL_inv (b := l__law_numbered_2 false (ev n)) (t := .one 2) (chk := yes)
    (fun l ρ V => ∃ i : Nat, i ≤ hs.length ∧ l = (rngL 0 1 hs.length).drop i ∧ ∃ x : Option D, ρ = [some d, some (.lst (hs.map D.hdl)), x, none] ∧ V.length = W.length ∧ (∀ j, j ∉ hs.take i → V[j]? = W[j]?) ∧ ∀ p j, p < i → hs[p]? = some j → ∃ xs, V[j]? = some (.lst (xs ++ [.int (p : Int)])))
    (fun _ _ _ _ => rfl) (fun y r ρ V ⟨i, hi, el, x, eρ, hV, hf, hd⟩ => by
      subst eρ
      obtain ⟨hi, rfl, er⟩ := rng_cons el
      have hj := List.getElem?_eq_getElem hi
      generalize hjj : hs[i] = j at hj
      have hjm : j ∈ hs := List.mem_of_getElem? hj
      have hjt : j ∉ hs.take i := fun q => by
        obtain ⟨p, hp⟩ := List.mem_iff_getElem?.mp q
        have hpi : p < i := by
          have := getElem_lt hp
          rw [List.length_take] at this
          omega
        rw [List.getElem?_take_of_lt hpi] at hp
        obtain ⟨h1, q1⟩ := List.getElem?_eq_some_iff.mp hp
        have := (List.getElem_inj hnd).mp (q1.trans hjj.symm)
        omega
      obtain ⟨xs, hxs, hxl⟩ := hc j hjm
      have hVj : V[j]? = some (.lst xs) := (hf j hjt).trans hxs
      have x0 : opIx V (.d (.lst (hs.map D.hdl))) (.d (.int (i : Int))) = some (.d (.hdl j)) := by
        simp only [opIx, asS, asL, Option.bind_some, atI_cast, hdl_at hj, Option.map_some]
      have l2 : xs.length < 16777216 := by omega
      refine ⟨_, rfl, [some d, some (.lst (hs.map D.hdl)), some (.int (i : Int)), none], V.set j (.lst (xs ++ [.int (i : Int)])), .inl ?_, i + 1, hi, er, _, rfl, by rw [List.length_set, hV], fun q hq => ?_, fun p q hp hpq => ?_⟩
      · generalize hs.map D.hdl = A at x0
        simp [l__law_numbered_2, runB, startE, fSeq, fNil, fIf, fRet, fRetN, fDrop, fPass, fAsg, fTg, toD, fName, fC, fVal, fNotT, fAndT, fOrT, fBin, fCons, fNilA, fTup, fLst, fBlt, fIsi, fCall, fIte, fNeg, fNotV, fOrV, fAndV, fMth, fStore, fAug, fSl, fON, fOS, fSrc, fRng, fFor, fLc, wipeE, Ev.setN, x0, asL, hVj, mAppend, asH, small, l2]
      · have hne : j ≠ q := fun e => hq (by
          rw [← e]
          refine List.mem_iff_getElem?.mpr ⟨i, ?_⟩
          rw [List.getElem?_take_of_lt (by omega)]; exact hj)
        rw [List.getElem?_set_ne hne]
        refine hf q fun z => hq ?_
        exact (List.take_subset_take_left hs (by omega)) z
      · by_cases e : p = i
        · subst e
          rw [hj] at hpq
          cases hpq
          exact ⟨xs, set_at hVj⟩
        · obtain ⟨ys, hys⟩ := hd p q (by omega) hpq
          have hne : j ≠ q := fun ej => by
            obtain ⟨h1, q1⟩ := List.getElem?_eq_some_iff.mp hpq
            have := (List.getElem_inj hnd).mp (q1.trans (ej.symm.trans hjj.symm))
            omega
          exact ⟨ys, set_old hne hys⟩) (rngL 0 1 hs.length) [some d, some (.lst (hs.map D.hdl)), none, none] W
    ⟨0, Nat.zero_le _, rfl, none, rfl, rfl, fun _ _ => rfl, fun p j hp => by omega⟩
  have ei := rng_end el hi
  subst ei
  rw [List.take_length] at hf
  refine ⟨V, ?_, hV, hf⟩
  -- the two lists
  have bl : bLen V [.lst (hs.map D.hdl)] = some (.d (.int hs.length)) := by simp [bLen, asS, asL]
  have bl0 : bLen W [.lst (hs.map D.hdl)] = some (.d (.int hs.length)) := by simp [bLen, asS, asL]
  have c1 : fLc false [3] (fSrc (fName 1)) (.one 3) fYes (x__law_numbered_1 false (ev n)) [some d, some (.lst (hs.map D.hdl)), x, none] V = some (.fr (natsD (List.range hs.length)), V) := by
    obtain ⟨ys, V', e, p, hp, el, rfl, rfl⟩ := lcL_inv (al := false) (chk := yes) (t := .one 3) (c := fYes) (f := x__law_numbered_1 false (ev n)) (ρ := [some d, some (.lst (hs.map D.hdl)), x, none])
      (fun l V' acc => ∃ p : Nat, p ≤ hs.length ∧ l = (hs.map D.hdl).drop p ∧ acc = natsD (List.range p) ∧ V' = V) (fun _ _ _ _ => rfl)
      (fun y r V' acc ⟨p, hp, el, ea, eV⟩ => by
        subst eV
        have hp2 : p < hs.length := by
          have := congrArg List.length el
          rw [List.length_cons, List.length_drop, lh] at this
          omega
        rw [List.drop_eq_getElem_cons (by rw [lh]; exact hp2)] at el
        injection el with e1 e2
        rw [List.getElem_map] at e1
        have hj := List.getElem?_eq_getElem hp2
        obtain ⟨xs, hxs⟩ := hd p hs[p] hp2 hj
        refine ⟨by rw [ea, natsD_len, List.length_range, small]; omega, _, rfl, true, V', rfl, .inl ⟨rfl, .d (.int (p : Int)), V', ?_, p + 1, hp2, e2, by rw [List.range_succ, ea]; simp [natsD, toD], rfl⟩⟩
        rw [e1]
        have x0 : opIx V' (.d (.hdl hs[p])) (.d (.int (-1))) = some (.d (.int (p : Int))) := by
          simp only [opIx, asS, asL, hxs, Option.map_some, Option.bind_some, atI_last]
        simp [x__law_numbered_1, runB, startE, fSeq, fNil, fIf, fRet, fRetN, fDrop, fPass, fAsg, fTg, toD, fName, fC, fVal, fNotT, fAndT, fOrT, fBin, fCons, fNilA, fTup, fLst, fBlt, fIsi, fCall, fIte, fNeg, fNotV, fOrV, fAndV, fMth, fStore, fAug, fSl, fON, fOS, fSrc, fRng, fFor, fLc, wipeE, Ev.setN, x0]) (hs.map D.hdl) V [] ⟨0, Nat.zero_le _, rfl, rfl, rfl⟩
    have ep : p = hs.length := by
      have := congrArg List.length el
      rw [List.length_nil, List.length_drop, lh] at this
      omega
    subst ep
    exact fLc_eq (src := ⟨hs.map D.hdl, yes⟩) rfl e
  have c2 : fLc false [2] (fRng rng1 (fCons false (fBlt bLen (fCons false (fName 1) fNilA)) fNilA)) (.one 2) fYes (fName 2) [some d, some (.lst (hs.map D.hdl)), x, none] V = some (.fr (natsD (List.range hs.length)), V) := by
    obtain ⟨ys, V', e, p, hp, el, rfl, rfl⟩ := lcL_inv (al := false) (chk := yes) (t := .one 2) (c := fYes) (f := fName 2) (ρ := [some d, some (.lst (hs.map D.hdl)), none, none])
      (fun l V' acc => ∃ p : Nat, p ≤ hs.length ∧ l = (rngL 0 1 hs.length).drop p ∧ acc = natsD (List.range p) ∧ V' = V) (fun _ _ _ _ => rfl)
      (fun y r V' acc ⟨p, hp, el, ea, eV⟩ => by
        subst eV
        obtain ⟨hp2, rfl, er⟩ := rng_cons el
        exact ⟨by rw [ea, natsD_len, List.length_range, small]; omega, _, rfl, true, V', rfl, .inl ⟨rfl, .d (.int (p : Int)), V', rfl, p + 1, hp2, er, by rw [List.range_succ, ea]; simp [natsD, toD], rfl⟩⟩) (rngL 0 1 hs.length) V [] ⟨0, Nat.zero_le _, rfl, rfl, rfl⟩
    have ep := rng_end el hp
    subst ep
    exact fLc_eq (src := ⟨rngL 0 1 hs.length, yes⟩) (fRng1_nat (by simp [runB, startE, fSeq, fNil, fIf, fRet, fRetN, fDrop, fPass, fAsg, fTg, toD, fName, fC, fVal, fNotT, fAndT, fOrT, fBin, fCons, fNilA, fTup, fLst, fBlt, fIsi, fCall, fIte, fNeg, fNotV, fOrV, fAndV, fMth, fStore, fAug, fSl, fON, fOS, fSrc, fRng, fFor, fLc, wipeE, Ev.setN, bl]) (by omega)) e
  rw [e__law_numbered]
  refine runB_rt (r := .d (.bl true)) (W' := V) ?_ (fin_same hV)
  refine fSeq_nx (ρ' := [some d, some (.lst (hs.map D.hdl)), none, none]) (W' := W) ?_ (fSeq_nx (fFor_nx (src := ⟨rngL 0 1 hs.length, yes⟩) (W1 := W) (fRng1_nat (by simp [runB, startE, fSeq, fNil, fIf, fRet, fRetN, fDrop, fPass, fAsg, fTg, toD, fName, fC, fVal, fNotT, fAndT, fOrT, fBin, fCons, fNilA, fTup, fLst, fBlt, fIsi, fCall, fIte, fNeg, fNotV, fOrV, fAndV, fMth, fStore, fAug, fSl, fON, fOS, fSrc, fRng, fFor, fLc, wipeE, Ev.setN, bl0]) (by omega)) e) (fRet_eq (fBin_eq c1 c2 eq_natsF)))
  · generalize hs.map D.hdl = A at al
    simp [runB, startE, fSeq, fNil, fIf, fRet, fRetN, fDrop, fPass, fAsg, fTg, toD, fName, fC, fVal, fNotT, fAndT, fOrT, fBin, fCons, fNilA, fTup, fLst, fBlt, fIsi, fCall, fIte, fNeg, fNotV, fOrV, fAndV, fMth, fStore, fAug, fSl, fON, fOS, fSrc, fRng, fFor, fLc, wipeE, Ev.setN, al]
end
end K06

set_option Elab.async false
set_option linter.all false
set_option maxRecDepth 100000
namespace K06
open PySem L2 Ev
section
variable {n k : Nat} {W : Wd} {S : List (List Str)} {h : Bool}
/-! ### how two rows compare -/
def puts (o : Str) (a b : Option Int) : Bool := match a, b with
  | some i, some j => decide (i < j) == decide (o = "up first" ∨ o = "up last")
  | a, _ => decide (a = none) == decide (o = "up first" ∨ o = "down first")
theorem eq_bls {U : Wd} {a b : Bool} : opEq id U (.d (.bl a)) (.d (.bl b)) = some (.d (.bl (a == b))) := by simp [opEq, R.py, D.py, PyData.eqv]
theorem eqv_str (a b : Str) : PyData.eqv (.str a) (.str b) = decide (a = b) := by simp only [PyData.eqv]; exact Bool.beq_eq_decide_eq _ _
theorem in_two {U : Wd} {o p q : Str} (ho : o ∈ ORD) (hp : p ∈ ORD) (hq : q ∈ ORD) : opIn id U (.d (.str o)) (.fr [.str p, .str q]) = some (.d (.bl (decide (o = p ∨ o = q)))) := by
  have e1 : (R.d (.str o)).py U 60 = some (.str o) := by simp [R.py, D.py, ord_ok o ho]
  have e2 : mapO (D.py U 59) [.str p, .str q] = some [.str p, .str q] := by simp [mapO, D.py, ord_ok p hp, ord_ok q hq]
  show ((R.d (.str o)).py U 60).bind (fun x => (mapO (D.py U 59) [.str p, .str q]).map fun ps => R.d (.bl (id (ps.any fun z => PyData.eqv z x)))) = _
  rw [e1, Option.bind_some, e2, Option.map_some]
  have e3 : ([PyData.str p, .str q].any fun z => PyData.eqv z (.str o)) = decide (o = p ∨ o = q) := by
    simp only [List.any_cons, List.any_nil, Bool.or_false, eqv_str]
    rw [Bool.decide_or]
    congr 1 <;> exact decide_eq_decide.mpr ⟨fun e => e.symm, fun e => e.symm⟩
  rw [e3]; rfl
theorem puts_ok (hn : 1 ≤ n) {o : Str} (ho : o ∈ ORD) (a b : Option Int) : ev n i__law_puts h [.str o, valD a, valD b] W = some (.d (.bl (puts o a b)), W) := by
  obtain ⟨n, rfl, ln⟩ := lv hn
  have i1 := in_two (U := W) (p := "up first") (q := "down first") ho (by decide +kernel) (by decide +kernel)
  have i2 := in_two (U := W) (p := "up first") (q := "up last") ho (by decide +kernel) (by decide +kernel)
  rw [e__law_puts]
  unfold g__law_puts puts
  generalize Str.ofString "up first" = s1 at i1 i2 ⊢
  generalize Str.ofString "up last" = s2 at i1 i2 ⊢
  generalize Str.ofString "down first" = s3 at i1 i2 ⊢
  cases a with
  | none => cases b <;> simp [runB, startE, fSeq, fNil, fIf, fRet, fRetN, fDrop, fPass, fAsg, fTg, toD, fName, fC, fVal, fNotT, fAndT, fOrT, fBin, fCons, fNilA, fTup, fLst, fBlt, fIsi, fCall, fIte, fNeg, fNotV, fOrV, fAndV, fMth, fStore, fAug, fSl, fON, fOS, fSrc, fRng, fFor, fLc, wipeE, Ev.setN, valD, opIs, i1, eq_bls, fin_same]
  | some i => cases b <;> simp [runB, startE, fSeq, fNil, fIf, fRet, fRetN, fDrop, fPass, fAsg, fTg, toD, fName, fC, fVal, fNotT, fAndT, fOrT, fBin, fCons, fNilA, fTup, fLst, fBlt, fIsi, fCall, fIte, fNeg, fNotV, fOrV, fAndV, fMth, fStore, fAug, fSl, fON, fOS, fSrc, fRng, fFor, fLc, wipeE, Ev.setN, valD, opIs, i1, i2, eq_bls, opLt, opCI, fin_same]
mutual
def cmpT : T → List (Option Int) → List (Option Int) → Int
  | .nil, _, _ => 0
  | .node c o bs t, x, y => if x.getD c none = y.getD c none then (cmpB bs (x.getD c none) x y).getD (cmpT t x y) else if puts o (x.getD c none) (y.getD c none) = true then -1 else 1
def cmpB : List Br → Option Int → List (Option Int) → List (Option Int) → Option Int
  | [], _, _, _ => none
  | (v, b) :: r, a, x, y => if v = a then some (cmpT b x y) else cmpB r a x y
end
theorem cmp_nil (x y : List (Option Int)) : cmpT .nil x y = 0 := by simp only [cmpT]
theorem cmp_node (c : Nat) (o : Str) (bs : List Br) (t : T) (x y : List (Option Int)) : cmpT (.node c o bs t) x y = if x.getD c none = y.getD c none then (cmpB bs (x.getD c none) x y).getD (cmpT t x y) else if puts o (x.getD c none) (y.getD c none) = true then -1 else 1 := by simp only [cmpT]
theorem cmpB_mem {a : Option Int} {x y : List (Option Int)} : ∀ {bs : List Br}, (bs.map (·.1)).Nodup → ∀ b ∈ bs, b.1 = a → cmpB bs a x y = some (cmpT b.2 x y)
  | (v, s) :: r, hn, b, hb, e => by
    rw [List.map_cons, List.nodup_cons] at hn
    rw [cmpB]
    rcases List.mem_cons.mp hb with q | q
    · rw [q] at e ⊢
      rw [if_pos e]
    · rw [if_neg fun e2 => hn.1 (by show v ∈ _; rw [e2, ← e]; exact List.mem_map_of_mem q)]
      exact cmpB_mem hn.2 b q e
theorem cmpB_none {a : Option Int} {x y : List (Option Int)} : ∀ {bs : List Br}, (∀ b ∈ bs, b.1 ≠ a) → cmpB bs a x y = none
  | [], _ => by rw [cmpB]
  | (v, s) :: r, hb => by
    rw [cmpB, if_neg (hb (v, s) List.mem_cons_self)]
    exact cmpB_none fun b q => hb b (List.mem_cons_of_mem _ q)
/-- the plain tree compares as the tree does -/
theorem mp_cmp {x y : List (Option Int)} : ∀ (t : T) (us : List Nat), GoodT S us t → cmpT (mp t) x y = cmpT t x y := by
  intro t
  refine T.ind (P := fun t => ∀ us, GoodT S us t → cmpT (mp t) x y = cmpT t x y) (fun us _ => by rw [mp_nil]) (fun c o bs t ihb iht us h => ?_) t
  obtain ⟨h1, h2, h3, h4, h5, h6⟩ := goodT_node.mp h
  have gb := goodB_iff.mp h5
  rw [mp_node, cmp_node, cmp_node]
  split
  · have e1 : (mpB bs).map (·.1) = bs.map (·.1) := by rw [mpB_map, List.map_map]; rfl
    have nd : ((keepP (fun b : Br => b.1) (fun b : Br => b.2) (mp t) (mpB bs) []).map (·.1)).Nodup := keepP_nodup (fun b : Br => b.1) (by rw [e1]; exact h3)
    have et := iht _ h6
    by_cases hm : ∃ b ∈ bs, b.1 = x.getD c none
    · obtain ⟨b, hb, eb⟩ := hm
      have ec := ihb b hb _ (gb b hb).2
      rw [cmpB_mem h3 b hb eb]
      by_cases hv : PyData.eqv (mp b.2).py (mp t).py = true
      · have eq := (py_eq _ _).mp hv
        rw [cmpB_none fun z hz ez => ?_]
        · show cmpT (mp t) x y = cmpT b.2 x y
          rw [← eq, ec]
        · obtain ⟨hz1, hz2⟩ := keepP_mem hz
          rw [mpB_map] at hz1
          obtain ⟨b', hb', rfl⟩ := List.mem_map.mp hz1
          have ebb : b' = b := by
            have e3 : b'.1 = b.1 := ez.trans eb.symm
            have : ∀ (l : List Br), (l.map (·.1)).Nodup → b' ∈ l → b ∈ l → b' = b := by
              intro l
              induction l with
              | nil => intro _ q; cases q
              | cons a l ih =>
                intro hn p q
                rw [List.map_cons, List.nodup_cons] at hn
                rcases List.mem_cons.mp p with p | p <;> rcases List.mem_cons.mp q with q | q
                · rw [p, q]
                · exact absurd (by rw [← p, e3]; exact List.mem_map_of_mem q) hn.1
                · exact absurd (by rw [← q, ← e3]; exact List.mem_map_of_mem p) hn.1
                · exact ih hn.2 p q
            exact this bs h3 hb' hb
          rw [ebb] at hz2
          have hz2 : PyData.eqv (mp b.2).py (mp t).py = false := hz2
          rw [hv] at hz2
          cases hz2
      · have hk : ((b.1, mp b.2) : Br) ∈ keepP (fun b : Br => b.1) (fun b : Br => b.2) (mp t) (mpB bs) [] := by
          refine (keepP_perm _ _ _ _ _).mem_iff.mpr ?_
          rw [List.append_nil]
          refine List.mem_filter.mpr ⟨by rw [mpB_map]; exact List.mem_map_of_mem (f := fun b : Br => (b.1, mp b.2)) hb, ?_⟩
          have hv : PyData.eqv (mp b.2).py (mp t).py = false := by simpa using hv
          show (!PyData.eqv (mp b.2).py (mp t).py) = true
          rw [hv]; rfl
        rw [cmpB_mem nd _ hk eb]
        show cmpT (mp b.2) x y = cmpT b.2 x y
        exact ec
    · have hm : ∀ b ∈ bs, b.1 ≠ x.getD c none := fun b hb e => hm ⟨b, hb, e⟩
      rw [cmpB_none hm, cmpB_none fun z hz ez => ?_]
      · exact et
      · obtain ⟨hz1, _⟩ := keepP_mem hz
        rw [mpB_map] at hz1
        obtain ⟨b', hb', rfl⟩ := List.mem_map.mp hz1
        exact hm b' hb' ez
  · rfl
end
end K06

set_option Elab.async false
set_option linter.all false
set_option maxRecDepth 100000
namespace K06
open PySem L2 Ev
section
variable {n k : Nat} {W : Wd} {S : List (List Str)}
theorem eq_vals {g : Bool → Bool} {U : Wd} {a b : Option Int} : opEq g U (.d (valD a)) (.d (valD b)) = some (.d (.bl (g (decide (a = b))))) := by
  have e1 := py_val U 59 a
  have e2 := py_val U 59 b
  show ((valD a).py U 60).bind (fun p => ((valD b).py U 60).map fun q => R.d (.bl (g (PyData.eqv p q)))) = _
  rw [e1, Option.bind_some, e2, Option.map_some, vpy_eq]
theorem row_ix {U : Wd} {x : List (Option Int)} {c : Nat} (h : c < x.length) : opIx U (.d (rowD x)) (.d (.int (c : Int))) = some (.d (valD (x.getD c none))) := by
  have e : (x.map valD)[c]? = some (valD (x.getD c none)) := by
    rw [List.getElem?_map, List.getElem?_eq_getElem h, List.getD_eq_getElem?_getD, List.getElem?_eq_getElem h]; rfl
  unfold rowD
  simp only [opIx, asS, Option.bind_some, atI_cast, e, Option.map_some]
theorem sign_ix {U : Wd} (b : Bool) : opIx U (.fr [.int 1, .int (-1)]) (.d (.int (if b = true then 1 else 0))) = some (.d (.int (if b = true then -1 else 1))) := by
  cases b <;> simp [opIx, asS, asL, atI, ixN]
theorem cmp_loop {h : Bool} {chk : Wd → Bool} {c : Nat} {x y : List (Option Int)} {a0 a4 a5 a6 : Option D} (hc : chk W = true) (hx : c < x.length) : ∀ (bs : List Br) (xs : List D) (a7 a8 : Option D), TrB W bs xs → (∀ b ∈ bs, ∀ d, Tr W b.2 d → ev n i__law_compare false [d, rowD x, rowD y] W = some (.d (.int (cmpT b.2 x y)), W)) →
    (∃ r, cmpB bs (x.getD c none) x y = some r ∧ forL chk (.tup [7, 8]) (l__law_compare_1 h (ev n)) xs [a0, some (rowD x), some (rowD y), some (.int (c : Int)), a4, a5, a6, a7, a8] W = some (.rt (.d (.int r)) W)) ∨
    (cmpB bs (x.getD c none) x y = none ∧ ∃ b7 b8, forL chk (.tup [7, 8]) (l__law_compare_1 h (ev n)) xs [a0, some (rowD x), some (rowD y), some (.int (c : Int)), a4, a5, a6, a7, a8] W = some (.nx [a0, some (rowD x), some (rowD y), some (.int (c : Int)), a4, a5, a6, b7, b8] W))
  | [], xs, a7, a8, hB, _ => .inr ⟨by rw [cmpB], a7, a8, by rw [trb_nil.mp hB]; unfold forL; rw [if_pos hc]⟩
  | (v, s) :: r, xs, a7, a8, hB, ih => by
    obtain ⟨d, ys, rfl, h1, h2⟩ := trb_cons.mp hB
    have x0 := row_ix (U := W) hx
    have q := eq_vals (g := id) (U := W) (a := v) (b := x.getD c none)
    have e1 := ih (v, s) List.mem_cons_self d h1
    have e1 : ev n i__law_compare false [d, rowD x, rowD y] W = some (.d (.int (cmpT s x y)), W) := e1
    have ft : fTg (.tup [7, 8]) (.tup [valD v, d]) [a0, some (rowD x), some (rowD y), some (.int (c : Int)), a4, a5, a6, a7, a8] = some [a0, some (rowD x), some (rowD y), some (.int (c : Int)), a4, a5, a6, some (valD v), some d] := rfl
    rw [cmpB]
    by_cases hv : v = x.getD c none
    · left
      refine ⟨cmpT s x y, by rw [if_pos hv], ?_⟩
      unfold forL
      rw [if_pos hc, ft, Option.bind_some]
      have b : l__law_compare_1 h (ev n) [a0, some (rowD x), some (rowD y), some (.int (c : Int)), a4, a5, a6, some (valD v), some d] W = some (.rt (.d (.int (cmpT s x y))) W) := by
        rw [decide_eq_true hv] at q
        generalize valD v = vv at q
        generalize valD (x.getD c none) = xx at q x0
        generalize rowD x = rx at x0 e1 ⊢
        simp [l__law_compare_1, runB, startE, fSeq, fNil, fIf, fRet, fRetN, fDrop, fPass, fAsg, fTg, toD, fName, fC, fVal, fNotT, fAndT, fOrT, fBin, fCons, fNilA, fTup, fLst, fBlt, fIsi, fCall, fIte, fNeg, fNotV, fOrV, fAndV, fMth, fStore, fAug, fSl, fON, fOS, fSrc, fRng, fFor, fLc, wipeE, Ev.setN, x0, q, e1]
      rw [b, Option.bind_some]
    · rcases cmp_loop (h := h) (a0 := a0) (a4 := a4) (a5 := a5) (a6 := a6) hc hx r ys (some (valD v)) (some d) h2 (fun b hb => ih b (List.mem_cons_of_mem _ hb)) with ⟨z, e2, e3⟩ | ⟨e2, b7, b8, e3⟩
      · left
        refine ⟨z, by rw [if_neg hv]; exact e2, ?_⟩
        unfold forL
        rw [if_pos hc, ft, Option.bind_some]
        have b : l__law_compare_1 h (ev n) [a0, some (rowD x), some (rowD y), some (.int (c : Int)), a4, a5, a6, some (valD v), some d] W = some (.nx [a0, some (rowD x), some (rowD y), some (.int (c : Int)), a4, a5, a6, some (valD v), some d] W) := by
          rw [decide_eq_false hv] at q
          generalize valD v = vv at q
          generalize valD (x.getD c none) = xx at q x0
          generalize rowD x = rx at x0 e1 ⊢
          simp [l__law_compare_1, runB, startE, fSeq, fNil, fIf, fRet, fRetN, fDrop, fPass, fAsg, fTg, toD, fName, fC, fVal, fNotT, fAndT, fOrT, fBin, fCons, fNilA, fTup, fLst, fBlt, fIsi, fCall, fIte, fNeg, fNotV, fOrV, fAndV, fMth, fStore, fAug, fSl, fON, fOS, fSrc, fRng, fFor, fLc, wipeE, Ev.setN, x0, q]
        rw [b, Option.bind_some]
        exact e3
      · right
        refine ⟨by rw [if_neg hv]; exact e2, b7, b8, ?_⟩
        unfold forL
        rw [if_pos hc, ft, Option.bind_some]
        have b : l__law_compare_1 h (ev n) [a0, some (rowD x), some (rowD y), some (.int (c : Int)), a4, a5, a6, some (valD v), some d] W = some (.nx [a0, some (rowD x), some (rowD y), some (.int (c : Int)), a4, a5, a6, some (valD v), some d] W) := by
          rw [decide_eq_false hv] at q
          generalize valD v = vv at q
          generalize valD (x.getD c none) = xx at q x0
          generalize rowD x = rx at x0 e1 ⊢
          simp [l__law_compare_1, runB, startE, fSeq, fNil, fIf, fRet, fRetN, fDrop, fPass, fAsg, fTg, toD, fName, fC, fVal, fNotT, fAndT, fOrT, fBin, fCons, fNilA, fTup, fLst, fBlt, fIsi, fCall, fIte, fNeg, fNotV, fOrV, fAndV, fMth, fStore, fAug, fSl, fON, fOS, fSrc, fRng, fFor, fLc, wipeE, Ev.setN, x0, q]
        rw [b, Option.bind_some]
        exact e3
theorem cmp_ok (hS : GoodSch S) {x y : List (Option Int)} (hx : S.length ≤ x.length) (hy : S.length ≤ y.length) : ∀ (t : T) (h : Bool) (us : List Nat) (n : Nat) (d : D), GoodT S us t → Tr W t d → t.dep + 2 ≤ n → ev n i__law_compare h [d, rowD x, rowD y] W = some (.d (.int (cmpT t x y)), W) := by
  intro t
  refine T.ind (P := fun t => ∀ (h : Bool) (us : List Nat) (n : Nat) (d : D), GoodT S us t → Tr W t d → t.dep + 2 ≤ n → ev n i__law_compare h [d, rowD x, rowD y] W = some (.d (.int (cmpT t x y)), W)) ?_ ?_ t
  · intro h us n d hg hr hn
    obtain ⟨n, rfl, ln⟩ := lv (c := 1) (n := n) (by omega)
    obtain rfl := tr_nil.mp hr
    rw [e__law_compare, cmp_nil]
    simp [runB, startE, fSeq, fNil, fIf, fRet, fRetN, fDrop, fPass, fAsg, fTg, toD, fName, fC, fVal, fNotT, fAndT, fOrT, fBin, fCons, fNilA, fTup, fLst, fBlt, fIsi, fCall, fIte, fNeg, fNotV, fOrV, fAndV, fMth, fStore, fAug, fSl, fON, fOS, fSrc, fRng, fFor, fLc, wipeE, Ev.setN, g__law_compare, R.tag, isaB, opIs, fin_same]
  · intro c o bs t ihb iht h us n d hg hr hn
    obtain ⟨n, rfl, ln⟩ := lv (c := 1) (n := n) (by omega)
    obtain ⟨L, d', xs, rfl, hL, hB, ht⟩ := tr_node.mp hr
    obtain ⟨g1, ⟨col, hcol, ho⟩, g3, g4, g5, g6⟩ := goodT_node.mp hg
    have gb := goodB_iff.mp g5
    rw [T.dep] at hn
    have hcS := getElem_lt hcol
    have hoO := (hS.2.2 col (List.mem_of_getElem? hcol)).2.2 o ho
    obtain ⟨chk, hsrc, hchk⟩ := src_L hL
    have hck := hchk W fun _ _ e => e
    have x0 := row_ix (U := W) (x := x) (c := c) (by omega)
    have y0 := row_ix (U := W) (x := y) (c := c) (by omega)
    have q := eq_vals (g := Bool.not) (U := W) (a := x.getD c none) (b := y.getD c none)
    have pu := puts_ok (n := n) (W := W) (h := false) (by omega) hoO (x.getD c none) (y.getD c none)
    have e2 := iht false _ n d' g6 ht (by omega)
    rw [e__law_compare]
    have tg : (R.d (.tup [.int (c : Int), .str o, L, d'])).tag W = some "tuple" := rfl
    have notN : opIs id W (.d (.tup [.int (c : Int), .str o, L, d'])) (.d .non) = some (.d (.bl false)) := by simp [opIs]
    have ρs : ∀ Z : D, startE 9 [Z, rowD x, rowD y] = [some Z, some (rowD x), some (rowD y), none, none, none, none, none, none] := fun Z => rfl
    have loop := cmp_loop (n := n) (h := h) (chk := chk) (c := c) (x := x) (y := y) (a0 := some (.tup [.int (c : Int), .str o, L, d'])) (a4 := some (.str o)) (a5 := some L) (a6 := some d') hck (by omega) bs xs none none hB fun b hb d hd => ihb b hb false _ n d (gb b hb).2 hd (by have := deps_mem hb; omega)
    refine runB_rt (r := .d (.int (cmpT (.node c o bs t) x y))) (W' := W) ?_ (fin_same rfl)
    rw [ρs, cmp_node]
    have ft : ∀ Z : D, Z = .tup [.int (c : Int), .str o, L, d'] → fAsg false (.tup [3, 4, 5, 6]) (fName 0) [some Z, some (rowD x), some (rowD y), none, none, none, none, none, none] W = some (.nx [some Z, some (rowD x), some (rowD y), some (.int (c : Int)), some (.str o), some L, some d', none, none] W) := fun Z e => by rw [e]; rfl
    have ft := ft _ rfl
    generalize D.tup [.int (c : Int), .str o, L, d'] = Tq at tg notN loop ft ⊢
    refine fSeq_nx (ρ' := [some Tq, some (rowD x), some (rowD y), none, none, none, none, none, none]) (W' := W) (fIf_f (W1 := W) (by simp [runB, startE, fSeq, fNil, fIf, fRet, fRetN, fDrop, fPass, fAsg, fTg, toD, fName, fC, fVal, fNotT, fAndT, fOrT, fBin, fCons, fNilA, fTup, fLst, fBlt, fIsi, fCall, fIte, fNeg, fNotV, fOrV, fAndV, fMth, fStore, fAug, fSl, fON, fOS, fSrc, fRng, fFor, fLc, wipeE, Ev.setN, tg, isaB]) rfl)
      (fSeq_nx (ρ' := [some Tq, some (rowD x), some (rowD y), none, none, none, none, none, none]) (W' := W) (fIf_f (W1 := W) (by simp [runB, startE, fSeq, fNil, fIf, fRet, fRetN, fDrop, fPass, fAsg, fTg, toD, fName, fC, fVal, fNotT, fAndT, fOrT, fBin, fCons, fNilA, fTup, fLst, fBlt, fIsi, fCall, fIte, fNeg, fNotV, fOrV, fAndV, fMth, fStore, fAug, fSl, fON, fOS, fSrc, fRng, fFor, fLc, wipeE, Ev.setN, notN]) rfl)
      (fSeq_nx ft ?_))
    by_cases hv : x.getD c none = y.getD c none
    · rw [if_pos hv]
      rw [decide_eq_true hv] at q
      refine fSeq_nx (ρ' := [some Tq, some (rowD x), some (rowD y), some (.int (c : Int)), some (.str o), some L, some d', none, none]) (W' := W) (fIf_f (W1 := W) ?_ rfl) ?_
      · generalize valD (x.getD c none) = xx at q x0
        generalize valD (y.getD c none) = yy at q y0
        generalize rowD x = rx at x0 ⊢
        generalize rowD y = ry at y0 ⊢
        simp [runB, startE, fSeq, fNil, fIf, fRet, fRetN, fDrop, fPass, fAsg, fTg, toD, fName, fC, fVal, fNotT, fAndT, fOrT, fBin, fCons, fNilA, fTup, fLst, fBlt, fIsi, fCall, fIte, fNeg, fNotV, fOrV, fAndV, fMth, fStore, fAug, fSl, fON, fOS, fSrc, fRng, fFor, fLc, wipeE, Ev.setN, x0, y0, q]
      · rcases loop with ⟨r, e3, e4⟩ | ⟨e3, b7, b8, e4⟩
        · rw [e3]
          exact fSeq_rt (fFor_eq (src := ⟨xs, chk⟩) (W1 := W) (fSrc_eq rfl hsrc) e4)
        · rw [e3]
          refine fSeq_nx (fFor_nx (src := ⟨xs, chk⟩) (W1 := W) (fSrc_eq rfl hsrc) e4) ?_
          generalize rowD x = rx at e2 ⊢
          generalize rowD y = ry at e2 ⊢
          simp [runB, startE, fSeq, fNil, fIf, fRet, fRetN, fDrop, fPass, fAsg, fTg, toD, fName, fC, fVal, fNotT, fAndT, fOrT, fBin, fCons, fNilA, fTup, fLst, fBlt, fIsi, fCall, fIte, fNeg, fNotV, fOrV, fAndV, fMth, fStore, fAug, fSl, fON, fOS, fSrc, fRng, fFor, fLc, wipeE, Ev.setN, e2]
    · rw [if_neg hv]
      rw [decide_eq_false hv] at q
      refine fSeq_rt (fIf_t (W1 := W) ?_ ?_)
      · generalize valD (x.getD c none) = xx at q x0
        generalize valD (y.getD c none) = yy at q y0
        generalize rowD x = rx at x0 ⊢
        generalize rowD y = ry at y0 ⊢
        simp [runB, startE, fSeq, fNil, fIf, fRet, fRetN, fDrop, fPass, fAsg, fTg, toD, fName, fC, fVal, fNotT, fAndT, fOrT, fBin, fCons, fNilA, fTup, fLst, fBlt, fIsi, fCall, fIte, fNeg, fNotV, fOrV, fAndV, fMth, fStore, fAug, fSl, fON, fOS, fSrc, fRng, fFor, fLc, wipeE, Ev.setN, x0, y0, q]
      · have sg := sign_ix (U := W) (puts o (x.getD c none) (y.getD c none))
        generalize puts o (x.getD c none) (y.getD c none) = pb at pu sg ⊢
        generalize valD (x.getD c none) = xx at q x0 pu
        generalize valD (y.getD c none) = yy at q y0 pu
        generalize rowD x = rx at x0 ⊢
        generalize rowD y = ry at y0 ⊢
        simp [runB, startE, fSeq, fNil, fIf, fRet, fRetN, fDrop, fPass, fAsg, fTg, toD, fName, fC, fVal, fNotT, fAndT, fOrT, fBin, fCons, fNilA, fTup, fLst, fBlt, fIsi, fCall, fIte, fNeg, fNotV, fOrV, fAndV, fMth, fStore, fAug, fSl, fON, fOS, fSrc, fRng, fFor, fLc, wipeE, Ev.setN, x0, y0, pu, bInt, sg]
end
end K06

set_option Elab.async false
set_option linter.all false
set_option maxRecDepth 100000
namespace K06
open PySem L2 Ev
section
variable {n k : Nat} {W : Wd} {S : List (List Str)}
/-! ### a row near another; trees alike at drawn rows -/
theorem valsD_len (r : List (Option Int)) : (r.map valD).length = r.length := by simp
theorem near_body {h : Bool} {V V1 : Wd} {j : Nat} {r : List (Option Int)} {w : Int} {i : Nat} {d1 : Nat} {a1 : Option D} (hjk : j ≠ k) (hj : V[j]? = some (.lst (r.map valD))) (hi : i < r.length) (e1 : ev n i__law_take false [.hdl k, .int 3] V = some (.d (.int (d1 : Int)), V1)) (g1 : Go k V V1)
    (val : ∃ (v : Option Int) (V2 : Wd), ev n i__law_value false [.hdl k, .int w] V1 = some (.d (valD v), V2) ∧ Go k V1 V2) :
    ∃ (r' : List (Option Int)) (V' : Wd), l__law_near_1 h (ev n) [some (.hdl k), a1, some (.int w), some (.hdl j), some (.int (i : Int))] V = some (.nx [some (.hdl k), a1, some (.int w), some (.hdl j), some (.int (i : Int))] V') ∧ r'.length = r.length ∧ V'[j]? = some (.lst (r'.map valD)) ∧
      ∃ V2, Go k V V2 ∧ (V' = V2 ∨ ∃ c, V' = V2.set j c) := by
  by_cases hd : d1 = 0
  · subst hd
    obtain ⟨v, V2, e2, g2⟩ := val
    have hj2 := g2.old hjk (g1.old hjk hj)
    have ix : ixN (r.map valD).length (i : Int) = some i := by
      unfold ixN
      rw [if_pos (by omega), if_pos (by rw [valsD_len]; omega)]; simp
    have es : (r.map valD).set i (valD v) = (r.set i v).map valD := by rw [List.map_set]
    refine ⟨r.set i v, V2.set j (.lst ((r.set i v).map valD)), ?_, by simp, set_at hj2, V2, g1.trans g2, .inr ⟨_, rfl⟩⟩
    rw [← es]
    generalize r.map valD = L at hj2 ix ⊢
    simp [l__law_near_1, runB, startE, fSeq, fNil, fIf, fRet, fRetN, fDrop, fPass, fAsg, fTg, toD, fName, fC, fVal, fNotT, fAndT, fOrT, fBin, fCons, fNilA, fTup, fLst, fBlt, fIsi, fCall, fIte, fNeg, fNotV, fOrV, fAndV, fMth, fStore, fAug, fSl, fON, fOS, fSrc, fRng, fFor, fLc, wipeE, Ev.setN, e1, eq_int, e2, asH, hj2, ix]
  · refine ⟨r, V1, ?_, rfl, g1.old hjk hj, V1, g1, .inl rfl⟩
    simp [l__law_near_1, runB, startE, fSeq, fNil, fIf, fRet, fRetN, fDrop, fPass, fAsg, fTg, toD, fName, fC, fVal, fNotT, fAndT, fOrT, fBin, fCons, fNilA, fTup, fLst, fBlt, fIsi, fCall, fIte, fNeg, fNotV, fOrV, fAndV, fMth, fStore, fAug, fSl, fON, fOS, fSrc, fRng, fFor, fLc, wipeE, Ev.setN, e1, eq_int, hd]
theorem near (hn : 3 ≤ n) (hP : PileAt W k) (w : Int) {r : List (Option Int)} (hr : r.length ≤ 900) : ∃ (r' : List (Option Int)) (W' : Wd), ev n i__law_near false [.hdl k, rowD r, .int w] W = some (.d (rowD r'), W') ∧ r'.length = r.length ∧ Go k W W' := by
  obtain ⟨n, rfl, ln⟩ := lv hn
  have hE0 : Ex k W (W ++ [.lst (r.map valD)]) := hP.ex.push _
  have hk := hE0.kl
  obtain ⟨ρ', V', e3, i, r', x, rfl, el, hi, hg, hl, hE⟩ := forL_inv (b := l__law_near_1 false (ev n)) (t := .one 4) (chk := yes)
    (fun l ρ V => ∃ (i : Nat) (r' : List (Option Int)) (x : Option D), ρ = [some (.hdl k), some (rowD r), some (.int w), some (.hdl W.length), x] ∧ l = (rngL 0 1 r.length).drop i ∧ i ≤ r.length ∧ V[W.length]? = some (.lst (r'.map valD)) ∧ r'.length = r.length ∧ Ex k W V)
    (fun _ _ _ _ => rfl) (fun d l ρ V ⟨i, r', x, eρ, el, hi, hg, hl, hE⟩ => by
      subst eρ
      obtain ⟨hi, rfl, er⟩ := rng_cons el
      obtain ⟨d1, V1, e1, h1, g1⟩ := take (n := n) (h := false) (m := 3) (by omega) hE.pile (by decide) (by decide)
      obtain ⟨v, V2, e2, _, g2⟩ := value (n := n) (h := false) (by omega) g1.pile w
      obtain ⟨r2, V', b, hl2, hg2, V3, g3, hv⟩ := near_body (h := false) (a1 := some (rowD r)) (by omega) hg (by omega : i < r'.length) e1 g1 ⟨v, V2, e2, g2⟩
      refine ⟨_, rfl, _, _, .inl b, i + 1, r2, _, rfl, er, hi, hg2, hl2.trans hl, ?_⟩
      rcases hv with rfl | ⟨c, rfl⟩
      · exact hE.go g3
      · exact (hE.go g3).set (Nat.le_refl _) _) (rngL 0 1 r.length) [some (.hdl k), some (rowD r), some (.int w), some (.hdl W.length), none] (W ++ [.lst (r.map valD)])
    ⟨0, r, none, rfl, rfl, Nat.zero_le _, push_at _ _, rfl, hE0⟩
  obtain ⟨W2, e4, g2⟩ := hE.fin_d (pure_row r')
  refine ⟨r', W2, ?_, hl, g2⟩
  rw [e__law_near]
  refine runB_rt (r := .d (rowD r')) (W' := V') ?_ e4
  have bl : ∀ U, bLen U [rowD r] = some (.d (.int r.length)) := fun U => by simp [bLen, rowD, asS, valsD_len]
  refine fSeq_nx (ρ' := [some (.hdl k), some (rowD r), some (.int w), some (.hdl W.length), none]) (W' := W ++ [.lst (r.map valD)]) ?_ (fSeq_nx (fFor_nx (src := ⟨rngL 0 1 r.length, yes⟩) (W1 := W ++ [.lst (r.map valD)]) (fRng1_nat ?_ (by omega)) e3) ?_)
  · refine (fAsg_one (r := .fr (r.map valD)) (W1 := W) rfl).trans rfl
  · simp [runB, startE, fSeq, fNil, fIf, fRet, fRetN, fDrop, fPass, fAsg, fTg, toD, fName, fC, fVal, fNotT, fAndT, fOrT, fBin, fCons, fNilA, fTup, fLst, fBlt, fIsi, fCall, fIte, fNeg, fNotV, fOrV, fAndV, fMth, fStore, fAug, fSl, fON, fOS, fSrc, fRng, fFor, fLc, wipeE, Ev.setN, bl]
  · have bt : bTuple V' [.hdl W.length] = some (.d (rowD r')) := by
      show (asS V' (.d (.hdl W.length))).map (fun xs => R.d (.tup xs)) = _
      rw [asS_L (xs := r'.map valD) (by simp [asL, hg])]; rfl
    simp [runB, startE, fSeq, fNil, fIf, fRet, fRetN, fDrop, fPass, fAsg, fTg, toD, fName, fC, fVal, fNotT, fAndT, fOrT, fBin, fCons, fNilA, fTup, fLst, fBlt, fIsi, fCall, fIte, fNeg, fNotV, fOrV, fAndV, fMth, fStore, fAug, fSl, fON, fOS, fSrc, fRng, fFor, fLc, wipeE, Ev.setN, bt]
theorem alike (hn : 14 ≤ n) (hS : GoodSch S) (hP : PileAt W k) {t1 t2 : T} {d1 d2 : D} (g1 : GoodT S [] t1) (g2 : GoodT S [] t2) (r1 : ∀ V, Go k W V → Tr V t1 d1) (r2 : ∀ V, Go k W V → Tr V t2 d2) (p1 : t1.dep ≤ 10) (p2 : t2.dep ≤ 10) (hc : ∀ x y, cmpT t1 x y = cmpT t2 x y) :
    ∃ W' : Wd, ev n i__law_alike false [.hdl k, .lst (S.map colD), d1, d2] W = some (.d (.bl true), W') ∧ Go k W W' := by
  obtain ⟨n, rfl, ln⟩ := lv hn
  obtain ⟨ρ', V', e3, x4, x5, x6, x7, rfl, g⟩ := forL_inv (b := l__law_alike_1 false (ev n)) (t := .one 4) (chk := yes)
    (fun l ρ V => ∃ (x4 x5 x6 x7 : Option D), ρ = [some (.hdl k), some (.lst (S.map colD)), some d1, some d2, x4, x5, x6, x7] ∧ Go k W V)
    (fun _ _ _ _ => rfl) (fun d l ρ V ⟨x4, x5, x6, x7, eρ, g⟩ => by
      subst eρ
      obtain ⟨w, V1, e1, h1, ga⟩ := take (n := n) (h := false) (m := 2) (by omega) g.pile (by decide) (by decide)
      obtain ⟨x, V2, e2, hx, _, gb⟩ := row (n := n) (h := false) (by omega) ga.pile (w : Int) (S := S.map colD) (by simpa using hS.2.1)
      rw [List.length_map] at hx
      obtain ⟨y, V3, e4, hy, gc⟩ := near (n := n) (by omega) gb.pile (w : Int) (r := x) (by have := hS.2.1; omega)
      have gg := ((g.trans ga).trans gb).trans gc
      have c1 := cmp_ok (W := V3) hS (x := x) (y := y) (by omega) (by omega) t1 false [] n d1 g1 (r1 V3 gg) (by omega)
      have c2 := cmp_ok (W := V3) hS (x := x) (y := y) (by omega) (by omega) t2 false [] n d2 g2 (r2 V3 gg) (by omega)
      rw [hc] at c1
      refine ⟨_, rfl, [some (.hdl k), some (.lst (S.map colD)), some d1, some d2, some d, some (.int (w : Int)), some (rowD x), some (rowD y)], V3, .inl ?_, _, _, _, _, rfl, gg⟩
      generalize S.map colD = L at e2 ⊢
      have eq : opEq Bool.not V3 (.d (.int (cmpT t2 x y))) (.d (.int (cmpT t2 x y))) = some (.d (.bl false)) := by rw [eq_int]; simp
      generalize cmpT t2 x y = z at c1 c2 eq
      generalize rowD x = rx at e2 e4 c1 c2 ⊢
      generalize rowD y = ry at e4 c1 c2 ⊢
      simp [l__law_alike_1, runB, startE, fSeq, fNil, fIf, fRet, fRetN, fDrop, fPass, fAsg, fTg, toD, fName, fC, fVal, fNotT, fAndT, fOrT, fBin, fCons, fNilA, fTup, fLst, fBlt, fIsi, fCall, fIte, fNeg, fNotV, fOrV, fAndV, fMth, fStore, fAug, fSl, fON, fOS, fSrc, fRng, fFor, fLc, wipeE, Ev.setN, e1, e2, e4, c1, c2, eq]) (rngL 0 1 8) [some (.hdl k), some (.lst (S.map colD)), some d1, some d2, none, none, none, none] W
    ⟨none, none, none, none, rfl, hP.go⟩
  refine ⟨V', ?_, g⟩
  rw [e__law_alike]
  refine runB_rt (r := .d (.bl true)) (W' := V') ?_ (fin_same g.len)
  exact fSeq_nx (fFor_nx (src := ⟨rngL 0 1 8, yes⟩) (W1 := W) (fRng1_nat (m := 8) rfl (by omega)) e3) rfl
end
end K06

set_option Elab.async false
set_option linter.all false
set_option maxRecDepth 100000
namespace K06
open PySem L2 Ev
/-! ### in the order of their values -/
def slt : Option Int → Option Int → Bool
  | none, some _ => true
  | some a, some b => decide (a < b)
  | _, _ => false
theorem slt_of_vlt {a b : Option Int} (h : vlt a b = true) (hn : a ≠ b) : slt a b = true := by
  cases a with
  | none => cases b with
    | none => exact absurd rfl hn
    | some _ => rfl
  | some i => cases b with
    | none => cases h
    | some j => exact h
theorem slt_of_not {a b : Option Int} (h : ¬ vlt a b = true) (hn : a ≠ b) : slt b a = true := by
  cases a with
  | none => exact absurd rfl h
  | some i => cases b with
    | none => rfl
    | some j =>
      simp only [vlt, decide_eq_true_eq] at h
      have : i ≠ j := fun e => hn (by rw [e])
      simp only [slt, decide_eq_true_eq]
      omega
theorem slt_trans {a b c : Option Int} (h : slt a b = true) (k : slt b c = true) : slt a c = true := by
  cases a <;> cases b <;> cases c <;> simp [slt] at h k ⊢
  omega
theorem slt_irrefl (a : Option Int) : slt a a = false := by cases a <;> simp [slt]
section
variable {α : Type} (key : α → Option Int)
def Srt (fs : List α) : Prop := fs.Pairwise fun a b => slt (key a) (key b) = true
theorem pos_spec {v : Option Int} {fs : List α} (hs : Srt key fs) (hv : ∀ f ∈ fs, key f ≠ v) : ∀ q, q ≤ fs.length → (∀ i f, i < pos key v fs q → fs[i]? = some f → slt (key f) v = true) ∧ ∀ i f, pos key v fs q ≤ i → i < q → fs[i]? = some f → slt v (key f) = true
  | 0, _ => ⟨fun i f hi => by unfold pos at hi; omega, fun i f _ hi => by omega⟩
  | q + 1, hq => by
    obtain ⟨ih1, ih2⟩ := pos_spec hs hv q (by omega)
    have hf := List.getElem?_eq_getElem (l := fs) (i := q) (by omega)
    generalize hfe : fs[q]'(by omega) = f at hf
    have hfm := List.mem_of_getElem? hf
    have ep : pos key v fs (q + 1) = if vlt v (key f) = true then pos key v fs q else q + 1 := by rw [pos, hf]
    by_cases hvl : vlt v (key f) = true
    · rw [if_pos hvl] at ep
      refine ⟨fun i g hi => ih1 i g (by omega), fun i g h1 h2 hg => ?_⟩
      by_cases e : i = q
      · subst e
        rw [hf] at hg; cases hg
        exact slt_of_vlt hvl fun e => hv f hfm e.symm
      · exact ih2 i g (by omega) (by omega) hg
    · rw [if_neg hvl] at ep
      have hfv := slt_of_not hvl fun e => hv f hfm e.symm
      refine ⟨fun i g hi hg => ?_, fun i g h1 h2 => by omega⟩
      by_cases e : i = q
      · subst e
        rw [hf] at hg; cases hg
        exact hfv
      · have hi2 : i < fs.length := getElem_lt hg
        have := List.pairwise_iff_getElem.mp hs i q hi2 (by omega) (by omega)
        have e1 : fs[i] = g := Option.some.inj ((List.getElem?_eq_getElem hi2).symm.trans hg)
        rw [e1, hfe] at this
        exact slt_trans this hfv
theorem insP_srt {e : α} {fs : List α} (hs : Srt key fs) (hv : ∀ f ∈ fs, key f ≠ key e) : Srt key (insP key e fs) := by
  obtain ⟨h1, h2⟩ := pos_spec key hs hv fs.length (Nat.le_refl _)
  have pl := pos_le key (key e) fs fs.length
  have a1 : ∀ f ∈ fs.take (pos key (key e) fs fs.length), slt (key f) (key e) = true := fun f hf => by
    obtain ⟨i, hi⟩ := List.mem_iff_getElem?.mp hf
    have hlt := getElem_lt hi
    rw [List.length_take] at hlt
    rw [List.getElem?_take_of_lt (by omega)] at hi
    exact h1 i f (by omega) hi
  have a2 : ∀ f ∈ fs.drop (pos key (key e) fs fs.length), slt (key e) (key f) = true := fun f hf => by
    obtain ⟨i, hi⟩ := List.mem_iff_getElem?.mp hf
    rw [List.getElem?_drop] at hi
    have hlt := getElem_lt hi
    exact h2 _ f (by omega) (by omega) hi
  unfold insP Srt
  rw [List.append_assoc]
  refine List.pairwise_append.mpr ⟨hs.sublist (List.take_sublist _ _), List.pairwise_append.mpr ⟨List.pairwise_singleton _ _, hs.sublist (List.drop_sublist _ _), fun a ha b hb => ?_⟩, fun a ha b hb => ?_⟩
  · rw [List.mem_singleton.mp ha]; exact a2 b hb
  · rcases List.mem_append.mp hb with q | q
    · rw [List.mem_singleton.mp q]; exact a1 a ha
    · exact slt_trans (a1 a ha) (a2 b q)
theorem keepP_srt (tr : α → T) (t' : T) : ∀ es fs : List α, Srt key fs → (es.map key ++ fs.map key).Nodup → Srt key (keepP key tr t' es fs)
  | [], fs, hs, _ => hs
  | e :: r, fs, hs, hn => by
    rw [List.map_cons, List.cons_append, List.nodup_cons] at hn
    unfold keepP
    split
    · exact keepP_srt tr t' r fs hs hn.2
    · refine keepP_srt tr t' r _ (insP_srt key hs fun f hf ef => hn.1 (List.mem_append_right _ (by rw [← ef]; exact List.mem_map_of_mem hf))) ?_
      have p : (r.map key ++ (insP key e fs).map key).Perm (key e :: (r.map key ++ fs.map key)) := by
        refine (List.Perm.append_left _ ((insP_perm key e fs).map key)).trans ?_
        rw [List.map_cons]
        exact List.perm_middle
      exact p.nodup_iff.mpr (List.nodup_cons.mpr hn)
/-- in order, the same things: the same list -/
theorem srt_eq : ∀ {xs ys : List α}, Srt key xs → Srt key ys → xs.Perm ys → xs = ys
  | [], ys, _, _, p => by rw [List.nil_perm.mp p]
  | x :: xs, [], _, _, p => by have := p.length_eq; simp at this
  | x :: xs, y :: ys, hx, hy, p => by
    have hx' := List.pairwise_cons.mp hx
    have hy' := List.pairwise_cons.mp hy
    have e : x = y := by
      rcases List.mem_cons.mp (p.mem_iff.mp List.mem_cons_self) with q | q
      · exact q
      · rcases List.mem_cons.mp (p.mem_iff.mpr (List.mem_cons_self (a := y) (l := ys))) with z | z
        · exact z.symm
        · have h1 := hy'.1 x q
          have h2 := hx'.1 y z
          have := slt_trans h1 h2
          rw [slt_irrefl] at this; cases this
    subst e
    rw [srt_eq hx'.2 hy'.2 (List.perm_cons x |>.mp p)]
end
section
variable {n : Nat} {W : Wd} {S : List (List Str)}
mutual
def PlainT : T → Prop
  | .nil => True
  | .node _ _ bs t => Srt (fun b : Br => b.1) bs ∧ (∀ b ∈ bs, PyData.eqv b.2.py t.py = false) ∧ PlainB bs ∧ PlainT t
def PlainB : List Br → Prop
  | [] => True
  | (_, b) :: r => PlainT b ∧ PlainB r
end
theorem plain_nil : PlainT .nil := by simp only [PlainT]
theorem plain_node {c : Nat} {o : Str} {bs : List Br} {t : T} : PlainT (.node c o bs t) ↔ Srt (fun b : Br => b.1) bs ∧ (∀ b ∈ bs, PyData.eqv b.2.py t.py = false) ∧ PlainB bs ∧ PlainT t := by simp only [PlainT]
theorem plainB_iff : ∀ {bs : List Br}, PlainB bs ↔ ∀ b ∈ bs, PlainT b.2
  | [] => by simp [PlainB]
  | (v, b) :: r => by
    rw [PlainB, plainB_iff (bs := r)]
    simp
theorem mp_plain : ∀ (t : T) (us : List Nat), GoodT S us t → PlainT (mp t) := by
  intro t
  refine T.ind (P := fun t => ∀ us, GoodT S us t → PlainT (mp t)) (fun us _ => by rw [mp_nil]; exact plain_nil) (fun c o bs t ihb iht us h => ?_) t
  obtain ⟨h1, h2, h3, h4, h5, h6⟩ := goodT_node.mp h
  have gb := goodB_iff.mp h5
  rw [mp_node]
  have e1 : (mpB bs).map (fun b : Br => b.1) = bs.map (fun b : Br => b.1) := by rw [mpB_map, List.map_map]; rfl
  refine plain_node.mpr ⟨keepP_srt _ _ _ _ [] List.Pairwise.nil (by rw [e1]; simpa using h3), fun b hb => (keepP_mem hb).2, plainB_iff.mpr fun b hb => ?_, iht _ h6⟩
  obtain ⟨hb2, _⟩ := keepP_mem hb
  rw [mpB_map] at hb2
  obtain ⟨a, ha, rfl⟩ := List.mem_map.mp hb2
  exact ihb a ha _ (gb a ha).2

def keyD (v : Option Int) : D := .tup [.int (if v = none then 0 else 1), .int (v.getD 0)]
theorem ge_keys {U : Wd} {a b : Option Int} (h : slt a b = true) : opGe U (.d (keyD a)) (.d (keyD b)) = some (.d (.bl false)) := by
  have : ∀ i j k l : Int, opGe U (.d (.tup [.int i, .int j])) (.d (.tup [.int k, .int l])) = some (.d (.bl (geAt [i, j] [k, l]))) := fun i j k l => rfl
  unfold keyD
  rw [this]
  cases a with
  | none => cases b with
    | none => cases h
    | some j => simp [geAt, Ob.lexAt]
  | some i => cases b with
    | none => cases h
    | some j =>
      simp only [slt, decide_eq_true_eq] at h
      have h1 : ¬ i = j := by omega
      have h2 : ¬ j ≤ i := by omega
      simp [geAt, Ob.lexAt, h1, h2]
end
end K06

set_option Elab.async false
set_option linter.all false
set_option maxRecDepth 100000
namespace K06
open PySem L2 Ev
section
variable {n k : Nat} {W : Wd} {S : List (List Str)}
/-! ### a plain tree is found plain -/
theorem eq_empty {g : Bool → Bool} {U : Wd} : opEq g U (.fr []) (.fr []) = some (.d (.bl (g true))) := by simp [opEq, R.py, mapO, PyData.eqv, PyData.eqvAll]
theorem plain_keys {h : Bool} {chk : Wd → Bool} {a0 a1 a2 a3 a4 : Option D} (hc : chk W = true) : ∀ (bs : List Br) (xs acc : List D), TrB W bs xs → acc.length + bs.length ≤ 900 →
    lcL false chk (.tup [2, 3]) fYes (x__law_is_plain_3 h (ev n)) [a0, a1, a2, a3, a4] xs W acc = some (acc ++ bs.map fun b => keyD b.1, W)
  | [], xs, acc, hB, _ => by
    rw [trb_nil.mp hB]
    unfold lcL
    rw [if_pos hc]; simp
  | (v, s) :: r, xs, acc, hB, hl => by
    obtain ⟨d, ys, rfl, h1, h2⟩ := trb_cons.mp hB
    rw [List.length_cons] at hl
    have ft : fTg (.tup [2, 3]) (.tup [valD v, d]) [a0, a1, a2, a3, a4] = some [a0, a1, some (valD v), some d, a4] := rfl
    have x : x__law_is_plain_3 h (ev n) [a0, a1, some (valD v), some d, a4] W = some (.d (keyD v), W) := by
      cases v with
      | none => simp [x__law_is_plain_3, runB, startE, fSeq, fNil, fIf, fRet, fRetN, fDrop, fPass, fAsg, fTg, toD, fName, fC, fVal, fNotT, fAndT, fOrT, fBin, fCons, fNilA, fTup, fLst, fBlt, fIsi, fCall, fIte, fNeg, fNotV, fOrV, fAndV, fMth, fStore, fAug, fSl, fON, fOS, fSrc, fRng, fFor, fLc, wipeE, Ev.setN, valD, opIs, bInt, R.tru, keyD]
      | some i =>
        by_cases hi : i = 0
        · simp [x__law_is_plain_3, runB, startE, fSeq, fNil, fIf, fRet, fRetN, fDrop, fPass, fAsg, fTg, toD, fName, fC, fVal, fNotT, fAndT, fOrT, fBin, fCons, fNilA, fTup, fLst, fBlt, fIsi, fCall, fIte, fNeg, fNotV, fOrV, fAndV, fMth, fStore, fAug, fSl, fON, fOS, fSrc, fRng, fFor, fLc, wipeE, Ev.setN, valD, opIs, bInt, R.tru, keyD, hi]
        · simp [x__law_is_plain_3, runB, startE, fSeq, fNil, fIf, fRet, fRetN, fDrop, fPass, fAsg, fTg, toD, fName, fC, fVal, fNotT, fAndT, fOrT, fBin, fCons, fNilA, fTup, fLst, fBlt, fIsi, fCall, fIte, fNeg, fNotV, fOrV, fAndV, fMth, fStore, fAug, fSl, fON, fOS, fSrc, fRng, fFor, fLc, wipeE, Ev.setN, valD, opIs, bInt, R.tru, keyD, hi]
    unfold lcL
    rw [if_pos hc, ft, Option.bind_some]
    show (some (true, W)).bind _ = _
    rw [Option.bind_some, if_pos rfl, x, Option.bind_some, if_pos (by rw [small]; omega)]
    show lcL false chk (.tup [2, 3]) fYes (x__law_is_plain_3 h (ev n)) _ ys W (acc ++ [keyD v]) = _
    rw [plain_keys hc r ys _ h2 (by rw [List.length_append, List.length_singleton]; omega)]
    simp
theorem rng2_one (m : Nat) (h : m ≤ 1000) : rng2 [.int 1, .int (m : Int)] = some ⟨rngL 1 1 (m - 1), yes⟩ := by
  have h1 : inR 1 := by unfold inR; decide
  have h2 : inR (m : Int) := by unfold inR; omega
  show (if inR 1 ∧ inR (m : Int) then some (Src.mk (rngL 1 1 ((m : Int) - 1).toNat) yes) else none) = _
  rw [if_pos ⟨h1, h2⟩]
  have : ((m : Int) - 1).toNat = m - 1 := by omega
  rw [this]
theorem plain_order {h : Bool} {bs : List Br} (hs : Srt (fun b : Br => b.1) bs) {a0 a2 a3 a4 : Option D} :
    lcL false yes (.one 4) (y__law_is_plain_2 h (ev n)) (fName 4) [a0, some (.lst (bs.map fun b => keyD b.1)), a2, a3, a4] (rngL 1 1 (bs.length - 1)) W [] = some ([], W) := by
  obtain ⟨ys, W', e, i, hi, el, rfl, rfl⟩ := lcL_inv (al := false) (chk := yes) (t := .one 4) (c := y__law_is_plain_2 h (ev n)) (f := fName 4) (ρ := [a0, some (.lst (bs.map fun b => keyD b.1)), a2, a3, a4])
    (fun l V acc => ∃ i : Nat, i ≤ bs.length - 1 ∧ l = (rngL 1 1 (bs.length - 1)).drop i ∧ acc = [] ∧ V = W) (fun _ _ _ _ => rfl)
    (fun d l V acc ⟨i, hi, el, ea, eV⟩ => by
      subst eV ea
      obtain ⟨hi, rfl, er⟩ := rng_consG el
      refine ⟨by rw [small]; simp, _, rfl, false, V, ?_, .inr ⟨rfl, i + 1, hi, er, rfl, rfl⟩⟩
      have h1 := List.getElem?_eq_getElem (l := bs) (i := i) (by omega)
      have h2 := List.getElem?_eq_getElem (l := bs) (i := i + 1) (by omega)
      have hlt := List.pairwise_iff_getElem.mp hs i (i + 1) (by omega) (by omega) (by omega)
      generalize bs[i]'(by omega) = x at h1 hlt
      generalize bs[i + 1]'(by omega) = y at h2 hlt
      have e1 : (1 : Int) + (i : Int) * 1 = ((i + 1 : Nat) : Int) := by omega
      have e2 : (1 : Int) + (i : Int) * 1 - 1 = ((i : Nat) : Int) := by omega
      have x0 : opIx V (.d (.lst (bs.map fun b => keyD b.1))) (.d (.int ((i : Nat) : Int))) = some (.d (keyD x.1)) := by
        have : (bs.map fun b => keyD b.1)[i]? = some (keyD x.1) := by rw [List.getElem?_map, h1]; rfl
        simp only [opIx, asS, asL, Option.bind_some, atI_cast, this, Option.map_some]
      have y0 : opIx V (.d (.lst (bs.map fun b => keyD b.1))) (.d (.int ((1 : Int) + (i : Int) * 1))) = some (.d (keyD y.1)) := by
        have : (bs.map fun b => keyD b.1)[i + 1]? = some (keyD y.1) := by rw [List.getElem?_map, h2]; rfl
        rw [e1]
        simp only [opIx, asS, asL, Option.bind_some, atI_cast, this, Option.map_some]
      have gk := ge_keys (U := V) hlt
      have os : opSub V (.d (.int ((1 : Int) + (i : Int) * 1))) (.d (.int 1)) = some (.d (.int ((i : Nat) : Int))) := by
        show some (R.d (.int _)) = _
        rw [e2]
      generalize (1 : Int) + (i : Int) * 1 = zz at y0 os ⊢
      generalize keyD x.1 = kx at x0 gk
      generalize keyD y.1 = ky at y0 gk
      generalize (bs.map fun b => keyD b.1) = L at x0 y0 ⊢
      simp [y__law_is_plain_2, runB, startE, fSeq, fNil, fIf, fRet, fRetN, fDrop, fPass, fAsg, fTg, toD, fName, fC, fVal, fNotT, fAndT, fOrT, fBin, fCons, fNilA, fTup, fLst, fBlt, fIsi, fCall, fIte, fNeg, fNotV, fOrV, fAndV, fMth, fStore, fAug, fSl, fON, fOS, fSrc, fRng, fFor, fLc, wipeE, Ev.setN, os, x0, y0, gk]) (rngL 1 1 (bs.length - 1)) W [] ⟨0, Nat.zero_le _, rfl, rfl, rfl⟩
  exact e
theorem plain_below {h : Bool} {chk : Wd → Bool} {Z d' : D} {a1 a2 a3 a4 : Option D} {p : PyData} (hc : chk W = true) (hZ : opIx W (.d Z) (.d (.int 3)) = some (.d d')) (hp : d'.py W 60 = some p) : ∀ (bs : List Br) (xs : List D), TrB W bs xs → (∀ b ∈ bs, ∀ d, Tr W b.2 d → ev n i__law_is_plain false [d] W = some (.d (.bl true), W) ∧ d.py W 60 = some b.2.py ∧ PyData.eqv b.2.py p = false) →
    lcL false chk (.tup [2, 3]) (y__law_is_plain_1 h (ev n)) (fName 3) [some Z, a1, a2, a3, a4] xs W [] = some ([], W)
  | [], xs, hB, _ => by
    rw [trb_nil.mp hB]
    unfold lcL
    rw [if_pos hc]
  | (v, s) :: r, xs, hB, hx => by
    obtain ⟨d, ys, rfl, h1, h2⟩ := trb_cons.mp hB
    obtain ⟨e1, e2, e3⟩ := hx (v, s) List.mem_cons_self d h1
    have e2 : d.py W 60 = some s.py := e2
    have e3 : PyData.eqv s.py p = false := e3
    have ft : fTg (.tup [2, 3]) (.tup [valD v, d]) [some Z, a1, a2, a3, a4] = some [some Z, a1, some (valD v), some d, a4] := rfl
    have q : opEq id W (.d d) (.d d') = some (.d (.bl false)) := by
      show (d.py W 60).bind (fun x => (d'.py W 60).map fun q => R.d (.bl (id (PyData.eqv x q)))) = _
      rw [e2, Option.bind_some, hp, Option.map_some, e3]; rfl
    have y : y__law_is_plain_1 h (ev n) [some Z, a1, some (valD v), some d, a4] W = some (false, W) := by
      simp [y__law_is_plain_1, runB, startE, fSeq, fNil, fIf, fRet, fRetN, fDrop, fPass, fAsg, fTg, toD, fName, fC, fVal, fNotT, fAndT, fOrT, fBin, fCons, fNilA, fTup, fLst, fBlt, fIsi, fCall, fIte, fNeg, fNotV, fOrV, fAndV, fMth, fStore, fAug, fSl, fON, fOS, fSrc, fRng, fFor, fLc, wipeE, Ev.setN, hZ, q, e1]
    unfold lcL
    rw [if_pos hc, ft, Option.bind_some, y, Option.bind_some, if_neg Bool.false_ne_true]
    exact plain_below hc hZ hp r ys h2 fun b hb => hx b (List.mem_cons_of_mem _ hb)
theorem is_plain_ok (hS : GoodSch S) : ∀ (t : T) (h : Bool) (us : List Nat) (n : Nat) (d : D), GoodT S us t → PlainT t → Tr W t d → t.dep + 1 ≤ n → t.dep ≤ 18 → ev n i__law_is_plain h [d] W = some (.d (.bl true), W) := by
  intro t
  refine T.ind (P := fun t => ∀ (h : Bool) (us : List Nat) (n : Nat) (d : D), GoodT S us t → PlainT t → Tr W t d → t.dep + 1 ≤ n → t.dep ≤ 18 → ev n i__law_is_plain h [d] W = some (.d (.bl true), W)) ?_ ?_ t
  · intro h us n d hg hp hr hn hd
    obtain ⟨n, rfl, ln⟩ := lv (c := 0) (n := n) (by omega)
    obtain rfl := tr_nil.mp hr
    rw [e__law_is_plain]
    simp [runB, startE, fSeq, fNil, fIf, fRet, fRetN, fDrop, fPass, fAsg, fTg, toD, fName, fC, fVal, fNotT, fAndT, fOrT, fBin, fCons, fNilA, fTup, fLst, fBlt, fIsi, fCall, fIte, fNeg, fNotV, fOrV, fAndV, fMth, fStore, fAug, fSl, fON, fOS, fSrc, fRng, fFor, fLc, wipeE, Ev.setN, g__law_is_plain, opIs, fin_same]
  · intro c o bs t ihb iht h us n d hg hp hr hn hd
    obtain ⟨n, rfl, ln⟩ := lv (c := 0) (n := n) (by omega)
    obtain ⟨L, d', xs, rfl, hL, hB, ht⟩ := tr_node.mp hr
    obtain ⟨g1, g2, g3, g4, g5, g6⟩ := goodT_node.mp hg
    obtain ⟨p1, p2, p3, p4⟩ := plain_node.mp hp
    have gb := goodB_iff.mp g5
    have pb := plainB_iff.mp p3
    rw [T.dep] at hn hd
    obtain ⟨chk, hsrc, hchk⟩ := src_L hL
    have hck := hchk W fun _ _ e => e
    have x2 : opIx W (.d (.tup [.int (c : Int), .str o, L, d'])) (.d (.int 2)) = some (.d L) := by simp [opIx, asS, atI, ixN]
    have x3 : opIx W (.d (.tup [.int (c : Int), .str o, L, d'])) (.d (.int 3)) = some (.d d') := by simp [opIx, asS, atI, ixN]
    have notN : opIs id W (.d (.tup [.int (c : Int), .str o, L, d'])) (.d .non) = some (.d (.bl false)) := by simp [opIs]
    have hpy := py_tr hS t _ d' 60 g6 ht (by omega)
    have k1 := plain_keys (n := n) (h := h) (a0 := some (.tup [.int (c : Int), .str o, L, d'])) (a1 := none) (a2 := none) (a3 := none) (a4 := none) hck bs xs [] hB (by simp; omega)
    have k2 := plain_order (n := n) (W := W) (h := h) p1 (a0 := some (.tup [.int (c : Int), .str o, L, d'])) (a2 := none) (a3 := none) (a4 := none)
    have k3 := plain_below (n := n) (h := h) (Z := .tup [.int (c : Int), .str o, L, d']) (a1 := some (.lst (bs.map fun b => keyD b.1))) (a2 := none) (a3 := none) (a4 := none) hck x3 hpy bs xs hB fun b hb d hd2 => by
      have := deps_mem hb
      exact ⟨ihb b hb false _ n d (gb b hb).2 (pb b hb) hd2 (by omega) (by omega), py_tr hS _ _ d 60 (gb b hb).2 hd2 (by omega), p2 b hb⟩
    have last := iht false _ n d' g6 p4 ht (by omega) (by omega)
    rw [List.nil_append] at k1
    rw [e__law_is_plain]
    refine runB_rt (r := .d (.bl true)) (W' := W) ?_ (fin_same rfl)
    generalize D.tup [.int (c : Int), .str o, L, d'] = Tq at x2 x3 notN k1 k2 k3 ⊢
    have sr : ∀ ρ : En, ρ[0]? = some (some Tq) → fSrc (fBin opIx (fName 0) (fC (.int 2))) ρ W = some (⟨xs, chk⟩, W) := fun ρ hρ => by
      refine fSrc_eq (r := .d L) (W1 := W) (fBin_eq (a := .d Tq) (b := .d (.int 2)) (W1 := W) ?_ rfl x2) hsrc
      unfold fName; rw [hρ]; rfl
    have bl : bLen W [.lst (bs.map fun b => keyD b.1)] = some (.d (.int bs.length)) := by simp [bLen, asS, asL]
    have r2 := rng2_one bs.length (by omega)
    have c2 : fLc false [4] (fRng rng2 (fCons false (fC (.int 1)) (fCons false (fBlt bLen (fCons false (fName 1) fNilA)) fNilA))) (.one 4) (y__law_is_plain_2 h (ev n)) (fName 4) [some Tq, some (.lst (bs.map fun b => keyD b.1)), none, none, none] W = some (.fr [], W) := by
      refine fLc_eq (src := ⟨rngL 1 1 (bs.length - 1), yes⟩) ?_ k2
      generalize rng2 = g at r2 ⊢
      generalize (bs.map fun b => keyD b.1) = KL at bl ⊢
      simp [runB, startE, fSeq, fNil, fIf, fRet, fRetN, fDrop, fPass, fAsg, fTg, toD, fName, fC, fVal, fNotT, fAndT, fOrT, fBin, fCons, fNilA, fTup, fLst, fBlt, fIsi, fCall, fIte, fNeg, fNotV, fOrV, fAndV, fMth, fStore, fAug, fSl, fON, fOS, fSrc, fRng, fFor, fLc, wipeE, Ev.setN, bl, r2]
    have c3 : fLc false [2, 3] (fSrc (fBin opIx (fName 0) (fC (.int 2)))) (.tup [2, 3]) (y__law_is_plain_1 h (ev n)) (fName 3) [some Tq, some (.lst (bs.map fun b => keyD b.1)), none, none, none] W = some (.fr [], W) :=
      fLc_eq (src := ⟨xs, chk⟩) (sr _ rfl) k3
    refine fSeq_nx (ρ' := [some Tq, none, none, none, none]) (W' := W) (fIf_f (W1 := W) (by simp [runB, startE, fSeq, fNil, fIf, fRet, fRetN, fDrop, fPass, fAsg, fTg, toD, fName, fC, fVal, fNotT, fAndT, fOrT, fBin, fCons, fNilA, fTup, fLst, fBlt, fIsi, fCall, fIte, fNeg, fNotV, fOrV, fAndV, fMth, fStore, fAug, fSl, fON, fOS, fSrc, fRng, fFor, fLc, wipeE, Ev.setN, notN]) rfl)
      (fSeq_nx (ρ' := [some Tq, some (.lst (bs.map fun b => keyD b.1)), none, none, none]) (W' := W) ((fAsg_one (fLc_eq (src := ⟨xs, chk⟩) (sr _ rfl) k1)).trans rfl)
      (fSeq_nx (ρ' := [some Tq, some (.lst (bs.map fun b => keyD b.1)), none, none, none]) (W' := W) (fIf_f (W1 := W) (fVal_eq (fBin_eq c2 (b := .fr []) (W2 := W) rfl eq_empty)) rfl)
      (fSeq_nx (ρ' := [some Tq, some (.lst (bs.map fun b => keyD b.1)), none, none, none]) (W' := W) (fIf_f (W1 := W) (fVal_eq (fBin_eq c3 (b := .fr []) (W2 := W) rfl eq_empty)) rfl) ?_)))
    simp [runB, startE, fSeq, fNil, fIf, fRet, fRetN, fDrop, fPass, fAsg, fTg, toD, fName, fC, fVal, fNotT, fAndT, fOrT, fBin, fCons, fNilA, fTup, fLst, fBlt, fIsi, fCall, fIte, fNeg, fNotV, fOrV, fAndV, fMth, fStore, fAug, fSl, fON, fOS, fSrc, fRng, fFor, fLc, wipeE, Ev.setN, x3, last]
end
end K06

set_option Elab.async false
set_option linter.all false
set_option maxRecDepth 100000
namespace K06
open PySem L2 Ev
section
variable {n k : Nat} {W : Wd} {S : List (List Str)}
/-! ### a tree like another -/
theorem py_refl (t : T) : PyData.eqv t.py t.py = true := (py_eq t t).mpr rfl
/-- the same branches, or one more like the rest: the same plain tree -/
theorem mp_like {c : Nat} {o : Str} {bs bs1 bs3 : List Br} {t t1 : T} (h1 : mpB bs1 = mpB bs) (ht : mp t1 = mp t) (hn : (bs.map (·.1)).Nodup) (hn3 : (bs3.map (·.1)).Nodup) (hp : bs3.Perm bs1 ∨ bs3.Perm ((some 77, t) :: bs1)) : mp (.node c o bs3 t1) = mp (.node c o bs t) := by
  have e1 : ∀ bs : List Br, (mpB bs).map (fun b : Br => b.1) = bs.map (fun b : Br => b.1) := fun bs => by rw [mpB_map, List.map_map]; rfl
  rw [mp_node, mp_node, ht]
  congr 1
  have s1 := keepP_srt (fun b : Br => b.1) (fun b : Br => b.2) (mp t) (mpB bs3) [] List.Pairwise.nil (by rw [e1]; simpa using hn3)
  have s2 := keepP_srt (fun b : Br => b.1) (fun b : Br => b.2) (mp t) (mpB bs) [] List.Pairwise.nil (by rw [e1]; simpa using hn)
  refine srt_eq _ s1 s2 ?_
  have p1 := keepP_perm (fun b : Br => b.1) (fun b : Br => b.2) (mp t) (mpB bs3) []
  have p2 := keepP_perm (fun b : Br => b.1) (fun b : Br => b.2) (mp t) (mpB bs) []
  rw [List.append_nil] at p1 p2
  refine p1.trans (List.Perm.trans ?_ p2.symm)
  rw [← h1, mpB_map, mpB_map]
  rcases hp with hp | hp
  · exact (hp.map _).filter _
  · refine ((hp.map _).filter _).trans ?_
    rw [List.map_cons, List.filter_cons_of_neg (by simp [py_refl])]
theorem loose_lc {us : List Nat} {m : Nat} {a1 a2 a3 a4 a5 a6 a7 a8 : Option D} : ∀ (bs : List Br) (V : Wd) (acc : List D), Go k W V → acc.length + bs.length ≤ 900 →
      (∀ b ∈ bs, ∀ V, PileAt V k → ∃ (t' : T) (V' : Wd), ev n i__law_loose false [.hdl k, b.2.d] V = some (.d t'.d, V') ∧ GoodT S us t' ∧ t'.dep ≤ m ∧ mp t' = mp b.2 ∧ Go k V V') →
    ∃ (bs1 : List Br) (V' : Wd), lcL false yes (.tup [7, 8]) fYes (x__law_loose_1 false (ev n)) [some (.hdl k), a1, a2, a3, a4, a5, a6, a7, a8] (T.ds bs) V acc = some (acc ++ T.ds bs1, V') ∧ bs1.map (·.1) = bs.map (·.1) ∧ mpB bs1 = mpB bs ∧ (∀ b ∈ bs1, GoodT S us b.2 ∧ b.2.dep ≤ m) ∧ Go k W V'
  | [], V, acc, g, _, _ => ⟨[], V, by rw [T.ds]; unfold lcL; rw [if_pos (show yes V = true from rfl)]; simp, rfl, rfl, (fun b hb => nomatch hb), g⟩
  | (v, b) :: r, V, acc, g, hl, ih => by
    rw [List.length_cons] at hl
    obtain ⟨t', V1, e1, q1, q2, q3, g1⟩ := ih (v, b) List.mem_cons_self V g.pile
    have e1 : ev n i__law_loose false [.hdl k, b.d] V = some (.d t'.d, V1) := e1
    obtain ⟨bs1, V', e2, r1, r2, r3, g2⟩ := loose_lc (a1 := a1) (a2 := a2) (a3 := a3) (a4 := a4) (a5 := a5) (a6 := a6) (a7 := a7) (a8 := a8) r V1 (acc ++ [.tup [valD v, t'.d]]) (g.trans g1) (by rw [List.length_append, List.length_singleton]; omega) fun b hb => ih b (List.mem_cons_of_mem _ hb)
    refine ⟨(v, t') :: bs1, V', ?_, by rw [List.map_cons, List.map_cons, r1], by rw [mpB, mpB, r2, q3], fun z hz => ?_, g2⟩
    · rw [T.ds, T.ds]
      have ft : fTg (.tup [7, 8]) (.tup [valD v, b.d]) [some (.hdl k), a1, a2, a3, a4, a5, a6, a7, a8] = some [some (.hdl k), a1, a2, a3, a4, a5, a6, some (valD v), some b.d] := rfl
      have x : x__law_loose_1 false (ev n) [some (.hdl k), a1, a2, a3, a4, a5, a6, some (valD v), some b.d] V = some (.d (.tup [valD v, t'.d]), V1) := by
        simp [x__law_loose_1, runB, startE, fSeq, fNil, fIf, fRet, fRetN, fDrop, fPass, fAsg, fTg, toD, fName, fC, fVal, fNotT, fAndT, fOrT, fBin, fCons, fNilA, fTup, fLst, fBlt, fIsi, fCall, fIte, fNeg, fNotV, fOrV, fAndV, fMth, fStore, fAug, fSl, fON, fOS, fSrc, fRng, fFor, fLc, wipeE, Ev.setN, e1]
      unfold lcL
      rw [if_pos (show yes V = true from rfl), ft, Option.bind_some]
      show (some (true, V)).bind _ = _
      rw [Option.bind_some, if_pos rfl, x, Option.bind_some, if_pos (by rw [small]; omega)]
      show lcL false yes (.tup [7, 8]) fYes (x__law_loose_1 false (ev n)) _ (T.ds r) V1 (acc ++ [.tup [valD v, t'.d]]) = _
      rw [e2]; simp
    · rcases List.mem_cons.mp hz with q | q
      · rw [q]; exact ⟨q1, q2⟩
      · exact r3 z q
theorem keys_lc {chk : Wd → Bool} {a0 a1 a2 a3 a4 a5 a6 a7 a8 : Option D} (hc : chk W = true) : ∀ (bs : List Br) (acc : List D), acc.length + bs.length ≤ 900 →
    lcL false chk (.tup [7, 8]) fYes (fName 7) [a0, a1, a2, a3, a4, a5, a6, a7, a8] (T.ds bs) W acc = some (acc ++ (bs.map (·.1)).map valD, W)
  | [], acc, _ => by rw [T.ds]; unfold lcL; rw [if_pos hc]; simp
  | (v, b) :: r, acc, hl => by
    rw [List.length_cons] at hl
    rw [T.ds]
    have ft : fTg (.tup [7, 8]) (.tup [valD v, b.d]) [a0, a1, a2, a3, a4, a5, a6, a7, a8] = some [a0, a1, a2, a3, a4, a5, a6, some (valD v), some b.d] := rfl
    unfold lcL
    rw [if_pos hc, ft, Option.bind_some]
    show (some (true, W)).bind _ = _
    rw [Option.bind_some, if_pos rfl]
    show (some (R.d (valD v), W)).bind _ = _
    rw [Option.bind_some, if_pos (by rw [small]; omega)]
    show lcL false chk (.tup [7, 8]) fYes (fName 7) _ (T.ds r) W (acc ++ [valD v]) = _
    rw [keys_lc hc r _ (by rw [List.length_append, List.length_singleton]; omega)]
    simp
theorem ds_app (xs ys : List Br) : T.ds (xs ++ ys) = T.ds xs ++ T.ds ys := by rw [ds_map, ds_map, ds_map, List.map_append]
theorem ds_rev (xs : List Br) : T.ds xs.reverse = (T.ds xs).reverse := by rw [ds_map, ds_map, List.map_reverse]
theorem ds_len (xs : List Br) : (T.ds xs).length = xs.length := by rw [ds_map, List.length_map]
/-- the second step: the branches turned round, or not -/
theorem loose_turn (hn : 1 ≤ n) {V : Wd} {j : Nat} {bs : List Br} {a1 a2 a3 a4 a5 a7 a8 : Option D} (hE : Ex k W V) (hj : W.length ≤ j) (hg : V[j]? = some (.lst (T.ds bs))) :
    ∃ (bs2 : List Br) (V' : Wd) (j2 : Nat), fIf (fVal (fBin (opEq id) (fCall (ev n i__law_take false) (fCons false (fName 0) (fCons false (fC (.int 2)) (fNilA)))) (fC (.int 0)))) (fAsg true (.one 6) (fRev (fName 6))) fNil [some (.hdl k), a1, a2, a3, a4, a5, some (.hdl j), a7, a8] V = some (.nx [some (.hdl k), a1, a2, a3, a4, a5, some (.hdl j2), a7, a8] V') ∧ bs2.Perm bs ∧ Ex k W V' ∧ W.length ≤ j2 ∧ V'[j2]? = some (.lst (T.ds bs2)) := by
  obtain ⟨d1, V1, e1, h1, g1⟩ := take (n := n) (h := false) (m := 2) hn hE.pile (by decide) (by decide)
  have hk := hE.kl
  have hg1 := g1.old (j := j) (by omega) hg
  have hE1 := hE.go g1
  by_cases hd : d1 = 0
  · subst hd
    refine ⟨bs.reverse, V1 ++ [.lst (T.ds bs.reverse)], V1.length, ?_, List.reverse_perm _, hE1.push _, hE1.le, push_at _ _⟩
    rw [ds_rev]
    simp [runB, startE, fSeq, fNil, fIf, fRet, fRetN, fDrop, fPass, fAsg, fTg, toD, fName, fC, fVal, fNotT, fAndT, fOrT, fBin, fCons, fNilA, fTup, fLst, fBlt, fIsi, fCall, fIte, fNeg, fNotV, fOrV, fAndV, fMth, fStore, fAug, fSl, fON, fOS, fSrc, fRng, fFor, fLc, wipeE, Ev.setN, fRev, e1, eq_int, asL, hg1]
  · refine ⟨bs, V1, j, ?_, List.Perm.refl _, hE1, hj, hg1⟩
    simp [runB, startE, fSeq, fNil, fIf, fRet, fRetN, fDrop, fPass, fAsg, fTg, toD, fName, fC, fVal, fNotT, fAndT, fOrT, fBin, fCons, fNilA, fTup, fLst, fBlt, fIsi, fCall, fIte, fNeg, fNotV, fOrV, fAndV, fMth, fStore, fAug, fSl, fON, fOS, fSrc, fRng, fFor, fLc, wipeE, Ev.setN, e1, eq_int, hd]
/-- the third: one branch more, or not -/
theorem loose_more (hn : 1 ≤ n) {V : Wd} {j : Nat} {bs : List Br} {t : T} {a1 a2 a3 a4 a7 a8 : Option D} (hE : Ex k W V) (hj : W.length ≤ j) (hg : V[j]? = some (.lst (T.ds bs))) (hl : bs.length ≤ 100) :
    ∃ (bs3 : List Br) (V' : Wd), fIf (fAndT (fVal (fBin (opIn Bool.not) (fC (.int 77)) (fLc false [7, 8] (fSrc (fName 6)) (.tup [7, 8]) (fYes) (fName 7)))) (fVal (fBin (opEq id) (fCall (ev n i__law_take false) (fCons false (fName 0) (fCons false (fC (.int 2)) (fNilA)))) (fC (.int 0))))) (fDrop (fMth mInsert (fName 6) (fCons false (fCall (ev n i__law_take false) (fCons false (fName 0) (fCons false (fBin opAdd (fBlt bLen (fCons false (fName 6) (fNilA))) (fC (.int 1))) (fNilA)))) (fCons false (fTup (fCons false (fC (.int 77)) (fCons false (fName 5) (fNilA)))) (fNilA))))) fNil
        [some (.hdl k), a1, a2, a3, a4, some t.d, some (.hdl j), a7, a8] V = some (.nx [some (.hdl k), a1, a2, a3, a4, some t.d, some (.hdl j), a7, a8] V') ∧ (bs3.Perm bs ∨ (bs3.Perm ((some 77, t) :: bs) ∧ some 77 ∉ bs.map (·.1))) ∧ Ex k W V' ∧ V'[j]? = some (.lst (T.ds bs3)) := by
  have hk := hE.kl
  have hsrcL : asL V (.d (.hdl j)) = some (T.ds bs) := by simp [asL, hg]
  obtain ⟨chk, hs, hc⟩ := src_L hsrcL
  have hck := hc V fun _ _ e => e
  have kl := keys_lc (W := V) (chk := chk) (a0 := some (.hdl k)) (a1 := a1) (a2 := a2) (a3 := a3) (a4 := a4) (a5 := some t.d) (a6 := some (.hdl j)) (a7 := none) (a8 := none) hck bs [] (by simp; omega)
  rw [List.nil_append] at kl
  have c1 : fLc false [7, 8] (fSrc (fName 6)) (.tup [7, 8]) fYes (fName 7) [some (.hdl k), a1, a2, a3, a4, some t.d, some (.hdl j), a7, a8] V = some (.fr ((bs.map (·.1)).map valD), V) := fLc_eq (src := ⟨T.ds bs, chk⟩) (fSrc_eq rfl hs) kl
  have iv := in_vals (g := Bool.not) (V := V) (v := some 77) (vs := bs.map (·.1)) (L := .fr ((bs.map (·.1)).map valD)) rfl (fun _ q => by cases q)
  have t1 : fVal (fBin (opIn Bool.not) (fC (.int 77)) (fLc false [7, 8] (fSrc (fName 6)) (.tup [7, 8]) fYes (fName 7))) [some (.hdl k), a1, a2, a3, a4, some t.d, some (.hdl j), a7, a8] V = some (!decide (some 77 ∈ bs.map (·.1)), V) := fVal_eq (fBin_eq (a := .d (.int 77)) (W1 := V) rfl c1 iv)
  generalize fVal (fBin (opIn Bool.not) (fC (.int 77)) _) = A at t1 ⊢
  by_cases hm : (some 77 : Option Int) ∈ bs.map (·.1)
  · refine ⟨bs, V, fIf_f (W1 := V) ?_ rfl, .inl (List.Perm.refl _), hE, hg⟩
    rw [decide_eq_true hm] at t1
    simp [runB, startE, fSeq, fNil, fIf, fRet, fRetN, fDrop, fPass, fAsg, fTg, toD, fName, fC, fVal, fNotT, fAndT, fOrT, fBin, fCons, fNilA, fTup, fLst, fBlt, fIsi, fCall, fIte, fNeg, fNotV, fOrV, fAndV, fMth, fStore, fAug, fSl, fON, fOS, fSrc, fRng, fFor, fLc, wipeE, Ev.setN, t1]
  · rw [decide_eq_false hm] at t1
    obtain ⟨d1, V1, e1, h1, g1⟩ := take (n := n) (h := false) (m := 2) hn hE.pile (by decide) (by decide)
    have hg1 := g1.old (j := j) (by omega) hg
    have hE1 := hE.go g1
    by_cases hd : d1 = 0
    · subst hd
      obtain ⟨p, V2, e2, h2, g2⟩ := take (n := n) (h := false) (m := (bs.length : Int) + 1) hn hE1.pile (by omega) (by omega)
      have hg2 := g2.old (j := j) (by omega) hg1
      have l1 : (p : Int) < 9223372036854775808 := by omega
      have l2 : bs.length < 16777216 := by omega
      have eins : T.ds (bs.take p ++ (some 77, t) :: bs.drop p) = (T.ds bs).take p ++ .tup [.int 77, t.d] :: (T.ds bs).drop p := by
        rw [ds_map, ds_map, List.map_append, List.map_take, List.map_cons, List.map_drop]; rfl
      refine ⟨bs.take p ++ (some 77, t) :: bs.drop p, V2.set j (.lst (T.ds (bs.take p ++ (some 77, t) :: bs.drop p))), fIf_t (W1 := V1) ?_ ?_, .inr ⟨ins_perm _ _ _, hm⟩, (hE1.go g2).set hj _, set_at hg2⟩
      · simp [runB, startE, fSeq, fNil, fIf, fRet, fRetN, fDrop, fPass, fAsg, fTg, toD, fName, fC, fVal, fNotT, fAndT, fOrT, fBin, fCons, fNilA, fTup, fLst, fBlt, fIsi, fCall, fIte, fNeg, fNotV, fOrV, fAndV, fMth, fStore, fAug, fSl, fON, fOS, fSrc, fRng, fFor, fLc, wipeE, Ev.setN, t1, e1, eq_int]
      · have bl : bLen V1 [.hdl j] = some (.d (.int bs.length)) := by
          have := len_L (U := V1) (L := .hdl j) (xs := T.ds bs) (by simp [asL, hg1])
          rw [ds_len] at this; exact this
        have ln := ds_len bs
        rw [eins]
        generalize T.ds bs = dl at hg1 hg2 ln ⊢
        simp [runB, startE, fSeq, fNil, fIf, fRet, fRetN, fDrop, fPass, fAsg, fTg, toD, fName, fC, fVal, fNotT, fAndT, fOrT, fBin, fCons, fNilA, fTup, fLst, fBlt, fIsi, fCall, fIte, fNeg, fNotV, fOrV, fAndV, fMth, fStore, fAug, fSl, fON, fOS, fSrc, fRng, fFor, fLc, wipeE, Ev.setN, asL, hg1, bl, opAdd, e2, mInsert, asH, hg2, small, l1, l2, ln]
    · refine ⟨bs, V1, fIf_f (W1 := V1) ?_ rfl, .inl (List.Perm.refl _), hE1, hg1⟩
      simp [runB, startE, fSeq, fNil, fIf, fRet, fRetN, fDrop, fPass, fAsg, fTg, toD, fName, fC, fVal, fNotT, fAndT, fOrT, fBin, fCons, fNilA, fTup, fLst, fBlt, fIsi, fCall, fIte, fNeg, fNotV, fOrV, fAndV, fMth, fStore, fAug, fSl, fON, fOS, fSrc, fRng, fFor, fLc, wipeE, Ev.setN, t1, e1, eq_int, hd]
end
end K06

set_option Elab.async false
set_option linter.all false
set_option maxRecDepth 100000
set_option maxHeartbeats 400000
namespace K06
open PySem L2 Ev
section
variable {n k : Nat} {W : Wd} {S : List (List Str)}
theorem nodup_two {bs bs3 : List Br} {t : T} (hn : (bs.map (·.1)).Nodup) (hp : bs3.Perm bs ∨ (bs3.Perm ((some 77, t) :: bs) ∧ some 77 ∉ bs.map (·.1))) : (bs3.map (·.1)).Nodup := by
  rcases hp with hp | ⟨hp, hm⟩
  · exact (hp.map _).nodup_iff.mpr hn
  · refine (hp.map _).nodup_iff.mpr ?_
    rw [List.map_cons]
    exact List.nodup_cons.mpr ⟨hm, hn⟩
theorem loose_ok : ∀ (t : T) (us : List Nat) (n : Nat) (W : Wd), GoodT S us t → B3 t → PileAt W k → t.dep + 2 ≤ n →
    ∃ (t' : T) (W' : Wd), ev n i__law_loose false [.hdl k, t.d] W = some (.d t'.d, W') ∧ GoodT S us t' ∧ t'.dep ≤ t.dep ∧ mp t' = mp t ∧ Go k W W' := by
  intro t
  refine T.ind (P := fun t => ∀ (us : List Nat) (n : Nat) (W : Wd), GoodT S us t → B3 t → PileAt W k → t.dep + 2 ≤ n →
    ∃ (t' : T) (W' : Wd), ev n i__law_loose false [.hdl k, t.d] W = some (.d t'.d, W') ∧ GoodT S us t' ∧ t'.dep ≤ t.dep ∧ mp t' = mp t ∧ Go k W W') ?_ ?_ t
  · intro us n W hg hb hP hn
    obtain ⟨n, rfl, ln⟩ := lv (c := 1) (n := n) (by omega)
    refine ⟨.nil, W, ?_, goodT_nil, Nat.le_refl _, rfl, hP.go⟩
    rw [e__law_loose, t_nil_d]
    simp [runB, startE, fSeq, fNil, fIf, fRet, fRetN, fDrop, fPass, fAsg, fTg, toD, fName, fC, fVal, fNotT, fAndT, fOrT, fBin, fCons, fNilA, fTup, fLst, fBlt, fIsi, fCall, fIte, fNeg, fNotV, fOrV, fAndV, fMth, fStore, fAug, fSl, fON, fOS, fSrc, fRng, fFor, fLc, wipeE, Ev.setN, g__law_loose, opIs, fin_same]
  · intro c o bs t ihb iht us n W hg hb hP hn
    obtain ⟨n, rfl, ln⟩ := lv (c := 1) (n := n) (by omega)
    obtain ⟨g1, g2, g3, g4, g5, g6⟩ := goodT_node.mp hg
    obtain ⟨b1, b2, b3⟩ := b3_node.mp hb
    have gb := goodB_iff.mp g5
    have bb := b3s_iff.mp b2
    rw [T.dep] at hn
    obtain ⟨bs1, V1, e1, k1, m1, q1, go1⟩ := loose_lc (n := n) (k := k) (S := S) (us := us ++ [c]) (m := T.deps bs) (W := W) (a1 := some (T.node c o bs t).d) (a2 := some (.int (c : Int))) (a3 := some (.str o)) (a4 := some (.lst (T.ds bs))) (a5 := some t.d) (a6 := none) (a7 := none) (a8 := none) bs W [] hP.go (by simp; omega) fun b hb V hV => by
      have hd := deps_mem hb
      obtain ⟨t', V', e, r1, r2, r3, r4⟩ := ihb b hb (us ++ [c]) n V (gb b hb).2 (bb b hb) hV (by omega)
      exact ⟨t', V', e, r1, by omega, r3, r4⟩
    rw [List.nil_append] at e1
    have lb1 : bs1.length = bs.length := by
      have := congrArg List.length k1
      simpa using this
    have hE1 : Ex k W (V1 ++ [.lst (T.ds bs1)]) := go1.ex.push _
    obtain ⟨bs2, V2, j2, e2, p2, hE2, hj2, hg2⟩ := loose_turn (n := n) (a1 := some (T.node c o bs t).d) (a2 := some (.int (c : Int))) (a3 := some (.str o)) (a4 := some (.lst (T.ds bs))) (a5 := some t.d) (a7 := none) (a8 := none) (by omega) hE1 (by rw [go1.len]; exact Nat.le_refl _ : W.length ≤ V1.length) (push_at _ _)
    have lb2 := p2.length_eq
    obtain ⟨bs3, V3, e3, p3, hE3, hg3⟩ := loose_more (n := n) (t := t) (a1 := some (T.node c o bs t).d) (a2 := some (.int (c : Int))) (a3 := some (.str o)) (a4 := some (.lst (T.ds bs))) (a7 := none) (a8 := none) (by omega) hE2 hj2 hg2 (by omega)
    obtain ⟨t1, V4, e4, r1, r2, r3, go4⟩ := iht (us ++ [c]) n V3 g6 b3 hE3.pile (by omega)
    have hE4 := hE3.go go4
    have hk := hE4.kl
    have hg4 := go4.old (j := j2) (by omega) hg3
    have n1 : (bs1.map (·.1)).Nodup := by rw [k1]; exact g3
    have n2 : (bs2.map (·.1)).Nodup := (p2.map _).nodup_iff.mpr n1
    have n3 := nodup_two n2 p3
    have all3 : ∀ b ∈ bs3, b = ((some 77, t) : Br) ∨ b ∈ bs1 := fun b hb => by
      rcases p3 with p | ⟨p, _⟩
      · exact .inr (p2.mem_iff.mp (p.mem_iff.mp hb))
      · rcases List.mem_cons.mp (p.mem_iff.mp hb) with q | q
        · exact .inl q
        · exact .inr (p2.mem_iff.mp q)
    have gt3 : GoodT S us (.node c o bs3 t1) := goodT_node.mpr ⟨g1, g2, n3, by
      rcases p3 with p | ⟨p, _⟩
      · rw [p.length_eq]; omega
      · rw [p.length_eq, List.length_cons]; omega, goodB_iff.mpr fun b hb => by
        rcases all3 b hb with q | q
        · rw [q]
          exact ⟨fun i e => by cases e; decide, g6⟩
        · refine ⟨?_, (q1 b q).1⟩
          have : b.1 ∈ bs.map (·.1) := by rw [← k1]; exact List.mem_map_of_mem q
          obtain ⟨b', hb', e⟩ := List.mem_map.mp this
          rw [← e]; exact (gb b' hb').1, r1⟩
    have pk : pureA (T.ds bs3) = true := pure_ds fun b _ => pure_t b.2
    obtain ⟨W', e5, go5⟩ := hE4.fin_cell (a := .int (c : Int)) (b := .str o) (c := t1.d) hj2 hg4 (by simp [pureD]) (by simp [pureD]) (pure_t _) pk
    refine ⟨.node c o bs3 t1, W', ?_, gt3, ?_, ?_, go5⟩
    · rw [e__law_loose]
      rw [show (T.node c o bs3 t1).d = .tup [.int (c : Int), .str o, .lst (T.ds bs3), t1.d] from by rw [T.d]]
      refine runB_rt (r := .d (.tup [.int (c : Int), .str o, .hdl j2, t1.d])) (W' := V4) ?_ e5
      have hT : (T.node c o bs t).d = .tup [.int (c : Int), .str o, .lst (T.ds bs), t.d] := by rw [T.d]
      have notN : opIs id W (.d (T.node c o bs t).d) (.d .non) = some (.d (.bl false)) := by rw [hT]; simp [opIs]
      have ft : fAsg false (.tup [2, 3, 4, 5]) (fName 1) [some (.hdl k), some (T.node c o bs t).d, none, none, none, none, none, none, none] W = some (.nx [some (.hdl k), some (T.node c o bs t).d, some (.int (c : Int)), some (.str o), some (.lst (T.ds bs)), some t.d, none, none, none] W) := by rw [hT]; rfl
      generalize (T.node c o bs t).d = Tq at notN ft e1 e2 e3 ⊢
      unfold g__law_loose
      refine fSeq_nx (ρ' := [some (.hdl k), some Tq, none, none, none, none, none, none, none]) (W' := W) (fIf_f (W1 := W) (by simp [runB, startE, fSeq, fNil, fIf, fRet, fRetN, fDrop, fPass, fAsg, fTg, toD, fName, fC, fVal, fNotT, fAndT, fOrT, fBin, fCons, fNilA, fTup, fLst, fBlt, fIsi, fCall, fIte, fNeg, fNotV, fOrV, fAndV, fMth, fStore, fAug, fSl, fON, fOS, fSrc, fRng, fFor, fLc, wipeE, Ev.setN, notN]) rfl) ?_
      refine fSeq_nx ft ?_
      refine fSeq_nx (ρ' := [some (.hdl k), some Tq, some (.int (c : Int)), some (.str o), some (.lst (T.ds bs)), some t.d, some (.hdl V1.length), none, none]) (W' := V1 ++ [.lst (T.ds bs1)]) ((fAsg_one (fLc_eq (src := ⟨T.ds bs, yes⟩) rfl e1)).trans rfl) ?_
      refine fSeq_nx e2 ?_
      refine fSeq_nx e3 ?_
      exact fRet_eq (fTup_eq (fCons_eq (r := .d (.int (c : Int))) rfl (fCons_eq (r := .d (.str o)) rfl (fCons_eq (r := .d (.hdl j2)) rfl (fCons_eq (fCall_eq (ds := [.hdl k, t.d]) rfl e4) rfl)))) (by show 4 ≤ 1000; omega))
    · rw [T.dep, T.dep]
      have : T.deps bs3 ≤ max (T.deps bs) t.dep := deps_le fun b hb => by
        rcases all3 b hb with q | q
        · rw [q]; exact Nat.le_max_right _ _
        · exact Nat.le_trans (q1 b q).2 (Nat.le_max_left _ _)
      omega
    · refine mp_like (bs1 := bs1) m1 r3 g3 n3 ?_
      rcases p3 with p | ⟨p, _⟩
      · exact .inl (p.trans p2)
      · exact .inr (p.trans (p2.cons _))
end
end K06

set_option Elab.async false
set_option linter.all false
set_option maxRecDepth 100000
namespace K06
open PySem L2 Ev
/-! ### how long a repr gets -/
mutual
def wt : PyData → Nat
  | .none => 4
  | .bool _ => 5
  | .int _ => 1921
  | .str x => (reprText x).length
  | .list xs => wts xs + 2
  | .tuple xs => wts xs + 4
  | .dict _ => 0
def wts : List PyData → Nat
  | [] => 0
  | x :: r => wt x + 2 + wts r
end
theorem textFrom_le : ∀ (ts : List Str) (k : Nat) (acc : Str), (textFrom k acc ts).length ≤ acc.length + piled ts
  | [], k, acc => by show acc.length ≤ _; rw [piled_nil]; exact Nat.le_refl _
  | t :: r, k, acc => by
    show (textFrom (k + 1) (acc ++ (if k > 0 then ", " else "" : String) ++ t) r).length ≤ _
    have h := textFrom_le r (k + 1) (acc ++ (if k > 0 then ", " else "" : String) ++ t)
    have e : (acc ++ (if k > 0 then ", " else "" : String) ++ t : Str).length = acc.length + (if k > 0 then 2 else 0) + t.length := by
      rw [strLen_append, strLen_append]
      split <;> rfl
    rw [e] at h
    rw [piled_cons]
    have e0 : (if k > 0 then 2 else 0) ≤ 2 := by split <;> omega
    omega
theorem listText_le (ts : List Str) : (listText ts).length ≤ piled ts + 2 := by
  unfold listText
  rw [strLen_append]
  have h := textFrom_le ts 0 "["
  have e1 : (("[" : String) : Str).length = 1 := rfl
  have e2 : (("]" : String) : Str).length = 1 := rfl
  rw [e1] at h
  rw [e2]
  omega
theorem tupleText_le (ts : List Str) : (tupleText ts).length ≤ piled ts + 4 := by
  unfold tupleText
  rw [strLen_append, strLen_append]
  have e1 : (("(" : String) : Str).length = 1 := rfl
  have e2 : ((if ts.length == 1 then ",)" else ")" : String) : Str).length ≤ 2 := by
    split
    · exact Nat.le_refl 2
    · show 1 ≤ 2; omega
  have e3 : (Str.join ", " ts).length ≤ piled ts := by
    by_cases h : ts = []
    · subst h; exact Nat.le_refl _
    · have := join_length_add ts h; omega
  rw [e1]
  omega
theorem shown_le : ∀ p : PyData, p.showable = true → p.hasDict = false → p.shown.length ≤ wt p := by
  intro p
  refine PyData.rec (motive_1 := fun p => p.showable = true → p.hasDict = false → p.shown.length ≤ wt p) (motive_2 := fun ps => PyData.showableAll ps = true → PyData.hasDictAll ps = false → piled (PyData.shownAll ps) ≤ wts ps) (motive_3 := fun _ => True) (motive_4 := fun _ => True) ?_ ?_ ?_ ?_ ?_ ?_ ?_ ?_ ?_ ?_ ?_ ?_ p
  · intro _ _; simp only [PyData.shown, wt]; exact Nat.le_refl 4
  · intro b _ _
    simp only [PyData.shown, wt]
    cases b
    · exact Nat.le_refl 5
    · show 4 ≤ 5; omega
  · intro i h _
    simp only [PyData.showable, decide_eq_true_eq] at h
    simp only [PyData.shown, wt]
    exact PyProof.Rows.int_text_len_1921 h
  · intro x _ _
    simp only [PyData.shown, wt]
    exact Nat.le_refl _
  · intro xs ih h1 h2
    simp only [PyData.showable] at h1
    simp only [PyData.hasDict] at h2
    simp only [PyData.shown, wt]
    exact Nat.le_trans (listText_le _) (Nat.add_le_add_right (ih h1 h2) 2)
  · intro xs ih h1 h2
    simp only [PyData.showable] at h1
    simp only [PyData.hasDict] at h2
    simp only [PyData.shown, wt]
    exact Nat.le_trans (tupleText_le _) (Nat.add_le_add_right (ih h1 h2) 4)
  · intro kvs _ _ h2
    simp [PyData.hasDict] at h2
  · intro _ _
    simp only [PyData.shownAll, wts]
    exact Nat.le_refl _
  · intro x xs ih1 ih2 h1 h2
    simp only [PyData.showableAll, Bool.and_eq_true] at h1
    simp only [PyData.hasDictAll, Bool.or_eq_false_iff] at h2
    simp only [PyData.shownAll, wts]
    rw [piled_cons]
    have := ih1 h1.1 h2.1
    have := ih2 h1.2 h2.2
    omega
  · trivial
  · intros; trivial
  · intros; trivial
/-! its signs are right ones -/
theorem ok_app (x y : Str) : PyData.strOk (x ++ y) = (PyData.strOk x && PyData.strOk y) := by
  show (x.cps ++ y.cps).all _ = _
  rw [Array.all_append]; rfl
theorem ok_of (s : String) : PyData.strOk (Str.ofString s) = true := by
  rw [Str.ofString_eq_toList]
  unfold PyData.strOk
  simp only [List.all_toArray, List.all_map]
  refine List.all_eq_true.mpr fun c _ => ?_
  have : c.toNat < 0x110000 := by
    have := c.valid
    rcases this with h | h
    · exact Nat.lt_trans h (by decide)
    · exact h.2
  simpa using this
mutual
def aOrd : PyData → Bool
  | .str x => decide (x ∈ ORD)
  | .list xs => aOrds xs
  | .tuple xs => aOrds xs
  | .dict _ => false
  | _ => true
def aOrds : List PyData → Bool
  | [] => true
  | x :: r => aOrd x && aOrds r
end
theorem ok_from : ∀ (ts : List Str) (k : Nat) (acc : Str), PyData.strOk acc = true → (∀ t ∈ ts, PyData.strOk t = true) → PyData.strOk (textFrom k acc ts) = true
  | [], k, acc, h, _ => h
  | t :: r, k, acc, h, ht => ok_from r (k + 1) _ (by
      rw [ok_app, ok_app, h, ht t List.mem_cons_self, ok_of]; rfl) fun x hx => ht x (List.mem_cons_of_mem _ hx)
theorem ok_join : ∀ (ts : List Str), (∀ t ∈ ts, PyData.strOk t = true) → PyData.strOk (Str.join ", " ts) = true
  | [], _ => by decide +kernel
  | [x], h => h x List.mem_cons_self
  | x :: y :: r, h => by
    show PyData.strOk (x ++ ", " ++ Str.join ", " (y :: r)) = true
    rw [ok_app, ok_app, h x List.mem_cons_self, ok_of, ok_join (y :: r) fun z hz => h z (List.mem_cons_of_mem _ hz)]; rfl
theorem ok_repr : ∀ o ∈ ORD, PyData.strOk (reprText o) = true := by decide +kernel
theorem shown_ok : ∀ p : PyData, aOrd p = true → PyData.strOk p.shown = true := by
  intro p
  refine PyData.rec (motive_1 := fun p => aOrd p = true → PyData.strOk p.shown = true) (motive_2 := fun ps => aOrds ps = true → ∀ t ∈ PyData.shownAll ps, PyData.strOk t = true) (motive_3 := fun _ => True) (motive_4 := fun _ => True) ?_ ?_ ?_ ?_ ?_ ?_ ?_ ?_ ?_ ?_ ?_ ?_ p
  · intro _; simp only [PyData.shown]; exact ok_of _
  · intro b _
    simp only [PyData.shown]
    cases b
    · exact ok_of _
    · exact ok_of _
  · intro i _; simp only [PyData.shown]; exact ok_of _
  · intro x h
    simp only [aOrd, decide_eq_true_eq] at h
    simp only [PyData.shown]
    exact ok_repr x h
  · intro xs ih h
    simp only [aOrd] at h
    simp only [PyData.shown, listText]
    rw [ok_app, ok_from _ _ _ (ok_of _) (ih h), ok_of]; rfl
  · intro xs ih h
    simp only [aOrd] at h
    simp only [PyData.shown, tupleText]
    rw [ok_app, ok_app, ok_of, ok_of, ok_join _ (ih h)]; rfl
  · intro kvs _ h; simp only [aOrd] at h; cases h
  · intro _ t ht; simp [PyData.shownAll] at ht
  · intro x xs ih1 ih2 h t ht
    simp only [aOrds, Bool.and_eq_true] at h
    simp only [PyData.shownAll] at ht
    rcases List.mem_cons.mp ht with q | q
    · rw [q]; exact ih1 h.1
    · exact ih2 h.2 t q
  · trivial
  · intros; trivial
  · intros; trivial
section
variable {n k : Nat} {W : Wd} {S : List (List Str)}
theorem ord_wt : ∀ o ∈ ORD, (reprText o).length ≤ 20 := by decide +kernel
theorem log2_le {i : Int} (h : i.natAbs < 2 ^ 100) : i.natAbs.log2 < 1920 := by
  by_cases h0 : i.natAbs = 0
  · rw [h0]; decide
  · exact Nat.lt_of_lt_of_le ((Nat.log2_lt h0).mpr h) (by omega)
/-- fit to be told -/
def Tell (p : PyData) (b : Nat) : Prop := p.showable = true ∧ p.hasDict = false ∧ wt p ≤ b ∧ aOrd p = true
theorem tell_val {v : Option Int} (h : VB v) : Tell (vpy v) 1921 := by
  cases v with
  | none => exact ⟨rfl, rfl, by simp only [vpy, wt]; omega, rfl⟩
  | some i => exact ⟨decide_eq_true (log2_le (h i rfl)), rfl, by simp only [vpy, wt]; omega, rfl⟩
theorem tell_tree (hS : GoodSch S) : ∀ (t : T) (us : List Nat) (D : Nat), GoodT S us t → t.dep ≤ D → Tell t.py (10000 * 6 ^ D) := by
  intro t
  refine T.ind (P := fun t => ∀ (us : List Nat) (D : Nat), GoodT S us t → t.dep ≤ D → Tell t.py (10000 * 6 ^ D)) (fun us D _ _ => ?_) (fun c o bs t ihb iht us D hg hd => ?_) t
  · rw [T.py]
    refine ⟨rfl, rfl, ?_, rfl⟩
    have : 1 ≤ 6 ^ D := Nat.one_le_pow _ _ (by omega)
    simp only [wt]; omega
  · obtain ⟨g1, ⟨col, hc, ho⟩, g3, g4, g5, g6⟩ := goodT_node.mp hg
    have gb := goodB_iff.mp g5
    have hoO := (hS.2.2 col (List.mem_of_getElem? hc)).2.2 o ho
    rw [T.dep] at hd
    obtain ⟨D, rfl⟩ : ∃ q, D = q + 1 := ⟨D - 1, by omega⟩
    have ht := iht _ D g6 (by omega)
    have hb : ∀ bs : List Br, (∀ b ∈ bs, VB b.1 ∧ Tell b.2.py (10000 * 6 ^ D)) → PyData.showableAll (T.pys bs) = true ∧ PyData.hasDictAll (T.pys bs) = false ∧ wts (T.pys bs) ≤ bs.length * (1940 + 10000 * 6 ^ D) ∧ aOrds (T.pys bs) = true := by
      intro bs
      induction bs with
      | nil => intro _; rw [T.pys]; exact ⟨rfl, rfl, by simp [wts], rfl⟩
      | cons b r ih =>
        intro h
        obtain ⟨v, s⟩ := b
        obtain ⟨h1, h2⟩ := h (v, s) List.mem_cons_self
        obtain ⟨i1, i2, i3, i4⟩ := ih fun b hb => h b (List.mem_cons_of_mem _ hb)
        obtain ⟨v1, v2, v3, v4⟩ := tell_val h1
        obtain ⟨s1, s2, s3, s4⟩ := h2
        have s4 : aOrd s.py = true := s4
        have v4 : aOrd (vpy v) = true := v4
        have s1 : s.py.showable = true := s1
        have s2 : s.py.hasDict = false := s2
        have s3 : wt s.py ≤ 10000 * 6 ^ D := s3
        have v1 : (vpy v).showable = true := v1
        have v2 : (vpy v).hasDict = false := v2
        have v3 : wt (vpy v) ≤ 1921 := v3
        rw [pys_cons]
        refine ⟨by simp [PyData.showableAll, PyData.showable, v1, s1, i1], by simp [PyData.hasDictAll, PyData.hasDict, v2, s2, i2], ?_, by simp [aOrds, aOrd, v4, s4, i4]⟩
        simp only [wts, wt, List.length_cons]
        rw [Nat.add_mul]
        omega
    obtain ⟨b1, b2, b3, b4'⟩ := hb bs fun b hbm => ⟨(gb b hbm).1, ihb b hbm _ D (gb b hbm).2 (by have := deps_mem hbm; omega)⟩
    have cI : ((c : Int)).natAbs.log2 < 1920 := log2_le (by
      have hcS := getElem_lt hc
      have := hS.2.1
      have : ((c : Int)).natAbs = c := Int.natAbs_natCast c
      rw [this]
      exact Nat.lt_trans (by omega : c < 6) (by decide))
    have cI2 : c.log2 < 1920 := by rwa [Int.natAbs_natCast] at cI
    have ow := ord_wt o hoO
    obtain ⟨t1, t2, t3, t4⟩ := ht
    rw [T.py]
    refine ⟨?_, ?_, ?_, by simp [aOrd, aOrds, b4', t4, hoO]⟩
    · simp [PyData.showable, PyData.showableAll, b1, t1, cI2]
    · simp [PyData.hasDict, PyData.hasDictAll, b2, t2]
    · simp only [wt, wts]
      have p1 : 1 ≤ 6 ^ D := Nat.one_le_pow _ _ (by omega)
      have p2 : 6 ^ (D + 1) = 6 ^ D * 6 := Nat.pow_succ ..
      have b4 : bs.length * (1940 + 10000 * 6 ^ D) ≤ 4 * (1940 + 10000 * 6 ^ D) := Nat.mul_le_mul_right _ g4
      rw [p2]
      omega
theorem tell_schema (hS : GoodSch S) : Tell (.list (S.map fun c => .tuple (c.map PyData.str))) 2000 := by
  have hc : ∀ c : List Str, (∀ o ∈ c, o ∈ ORD) → PyData.showableAll (c.map PyData.str) = true ∧ PyData.hasDictAll (c.map PyData.str) = false ∧ wts (c.map PyData.str) ≤ c.length * 22 ∧ aOrds (c.map PyData.str) = true := by
    intro c
    induction c with
    | nil => intro _; exact ⟨rfl, rfl, by simp [wts], rfl⟩
    | cons o r ih =>
      intro h
      obtain ⟨i1, i2, i3, i4⟩ := ih fun x hx => h x (List.mem_cons_of_mem _ hx)
      have := ord_wt o (h o List.mem_cons_self)
      refine ⟨by simp [PyData.showableAll, PyData.showable, i1], by simp [PyData.hasDictAll, PyData.hasDict, i2], ?_, by simp [aOrds, aOrd, h o List.mem_cons_self]; exact i4⟩
      simp only [List.map_cons, wts, wt, List.length_cons]
      omega
  have hl : ∀ S : List (List Str), (∀ c ∈ S, GoodCol c) → PyData.showableAll (S.map fun c => PyData.tuple (c.map PyData.str)) = true ∧ PyData.hasDictAll (S.map fun c => PyData.tuple (c.map PyData.str)) = false ∧ wts (S.map fun c => PyData.tuple (c.map PyData.str)) ≤ S.length * 100 ∧ aOrds (S.map fun c => PyData.tuple (c.map PyData.str)) = true := by
    intro S
    induction S with
    | nil => intro _; exact ⟨rfl, rfl, by simp [wts], rfl⟩
    | cons c r ih =>
      intro h
      obtain ⟨i1, i2, i3, i4⟩ := ih fun x hx => h x (List.mem_cons_of_mem _ hx)
      obtain ⟨g1, g2, g3⟩ := h c List.mem_cons_self
      obtain ⟨c1, c2, c3, c4⟩ := hc c g3
      have := col_len g2 g3
      refine ⟨by simp [PyData.showableAll, PyData.showable, c1, i1], by simp [PyData.hasDictAll, PyData.hasDict, c2, i2], ?_, by simp only [List.map_cons, aOrds, aOrd, c4, i4]; rfl⟩
      simp only [List.map_cons, wts, wt, List.length_cons]
      omega
  obtain ⟨l1, l2, l3, l4⟩ := hl S hS.2.2
  have := hS.2.1
  refine ⟨by simp only [PyData.showable]; exact l1, by simp only [PyData.hasDict]; exact l2, ?_, by simp only [aOrd]; exact l4⟩
  simp only [wt]; omega
/-- repr of what is fit to be told -/
theorem repr_ok {U : Wd} {d : D} {p : PyData} {b : Nat} (h : d.py U 60 = some p) (ht : Tell p b) (hb : b ≤ sizeLine) (hi : ∀ i, d ≠ .int i) : bRepr U [d] = some (.d (.str p.shown)) := by
  obtain ⟨t1, t2, t3, _⟩ := ht
  have hl := Nat.le_trans (Nat.le_trans (shown_le p t1 t2) t3) hb
  unfold bRepr
  split
  · rename_i i e
    cases e
    exact absurd rfl (hi i)
  · rename_i d' _ e
    cases e
    rw [h, Option.bind_some, if_pos ⟨t1, hl⟩]
  · rename_i h1 h2
    exact absurd rfl (h2 d)
end
end K06

set_option Elab.async false
set_option linter.all false
set_option maxRecDepth 100000
namespace K06
open PySem L2 Ev
section
variable {n k : Nat} {W : Wd} {S : List (List Str)}
theorem trbh_agree {V : Wd} : ∀ {bs : List Br} {xs : List D} {hs : List Nat}, (∀ b ∈ bs, ∀ d hs, TrH W b.2 d hs → (∀ j ∈ hs, V[j]? = W[j]?) → TrH V b.2 d hs) → TrBH W bs xs hs → (∀ j ∈ hs, V[j]? = W[j]?) → TrBH V bs xs hs
  | [], xs, hs, _, h, _ => trbh_nil.mpr (trbh_nil.mp h)
  | (v, b) :: r, xs, hs, hb, h, ha => by
    obtain ⟨d, ys, h1, h2, e, q1, q2, rfl⟩ := trbh_cons.mp h
    exact trbh_cons.mpr ⟨d, ys, h1, h2, e, hb (v, b) List.mem_cons_self d h1 q1 fun j hj => ha j (List.mem_append_left _ hj), trbh_agree (fun x hx => hb x (List.mem_cons_of_mem _ hx)) q2 fun j hj => ha j (List.mem_append_right _ hj), rfl⟩
theorem trh_agree {V : Wd} : ∀ (t : T) (d : D) (hs : List Nat), TrH W t d hs → (∀ j ∈ hs, V[j]? = W[j]?) → TrH V t d hs := by
  intro t
  refine T.ind (P := fun t => ∀ d hs, TrH W t d hs → (∀ j ∈ hs, V[j]? = W[j]?) → TrH V t d hs) (fun d hs h _ => trh_nil.mpr (trh_nil.mp h)) (fun c o bs t ihb iht d hs h ha => ?_) t
  obtain ⟨j, d', xs, h1, h2, e, q1, q2, q3, rfl⟩ := trh_node.mp h
  exact trh_node.mpr ⟨j, d', xs, h1, h2, e, (ha j List.mem_cons_self).trans q1, trbh_agree ihb q2 fun i hi => ha i (List.mem_cons_of_mem _ (List.mem_append_left _ hi)), iht d' h2 q3 fun i hi => ha i (List.mem_cons_of_mem _ (List.mem_append_right _ hi)), rfl⟩
theorem trbh_len : ∀ {bs : List Br} {xs : List D} {hs : List Nat}, TrBH W bs xs hs → xs.length = bs.length
  | [], xs, hs, h => by rw [(trbh_nil.mp h).1]; rfl
  | (v, b) :: r, xs, hs, h => by
    obtain ⟨d, ys, h1, h2, rfl, q1, q2, e2⟩ := trbh_cons.mp h
    rw [List.length_cons, List.length_cons, trbh_len q2]
theorem trh_cells : ∀ (t : T) (us : List Nat) (d : D) (hs : List Nat), GoodT S us t → TrH W t d hs → ∀ j ∈ hs, ∃ xs, W[j]? = some (.lst xs) ∧ xs.length ≤ 900 := by
  intro t
  refine T.ind (P := fun t => ∀ us d hs, GoodT S us t → TrH W t d hs → ∀ j ∈ hs, ∃ xs, W[j]? = some (.lst xs) ∧ xs.length ≤ 900) (fun us d hs _ h j hj => by rw [(trh_nil.mp h).2] at hj; cases hj) (fun c o bs t ihb iht us d hs hg h j hj => ?_) t
  obtain ⟨g1, g2, g3, g4, g5, g6⟩ := goodT_node.mp hg
  have gb := goodB_iff.mp g5
  obtain ⟨i, d', xs, h1, h2, e, q1, q2, q3, rfl⟩ := trh_node.mp h
  rcases List.mem_cons.mp hj with z | z
  · rw [z]
    exact ⟨xs, q1, by rw [trbh_len q2]; omega⟩
  · rcases List.mem_append.mp z with z | z
    · have go : ∀ (bs : List Br) (xs : List D) (hs : List Nat), (∀ b ∈ bs, ∀ d hs, TrH W b.2 d hs → ∀ j ∈ hs, ∃ xs, W[j]? = some (.lst xs) ∧ xs.length ≤ 900) → TrBH W bs xs hs → ∀ j ∈ hs, ∃ xs, W[j]? = some (.lst xs) ∧ xs.length ≤ 900 := by
        intro bs
        induction bs with
        | nil => intro xs hs _ q j hj; rw [(trbh_nil.mp q).2] at hj; cases hj
        | cons b r ih =>
          intro xs hs hb q j hj
          obtain ⟨v, s⟩ := b
          obtain ⟨d2, ys, k1, k2, _, p1, p2, rfl⟩ := trbh_cons.mp q
          rcases List.mem_append.mp hj with y | y
          · exact hb (v, s) List.mem_cons_self d2 k1 p1 j y
          · exact ih ys k2 (fun b hb2 => hb b (List.mem_cons_of_mem _ hb2)) p2 j y
      exact go bs xs h1 (fun b hb d hs h => ihb b hb _ d hs (gb b hb).2 h) q2 j z
    · exact iht _ d' h2 g6 q3 j z
theorem trh_size : ∀ (t : T) (us : List Nat) (d : D) (hs : List Nat) (D' : Nat), GoodT S us t → TrH W t d hs → t.dep ≤ D' → 4 * hs.length + 1 ≤ 5 ^ D' := by
  intro t
  refine T.ind (P := fun t => ∀ us d hs D', GoodT S us t → TrH W t d hs → t.dep ≤ D' → 4 * hs.length + 1 ≤ 5 ^ D') (fun us d hs D' _ h _ => ?_) (fun c o bs t ihb iht us d hs D' hg h hd => ?_) t
  · rw [(trh_nil.mp h).2]
    exact Nat.one_le_pow _ _ (by omega)
  · obtain ⟨g1, g2, g3, g4, g5, g6⟩ := goodT_node.mp hg
    have gb := goodB_iff.mp g5
    obtain ⟨i, d', xs, h1, h2, e, q1, q2, q3, rfl⟩ := trh_node.mp h
    rw [T.dep] at hd
    obtain ⟨D', rfl⟩ : ∃ q, D' = q + 1 := ⟨D' - 1, by omega⟩
    have a2 := iht _ d' h2 D' g6 q3 (by omega)
    have go : ∀ (bs : List Br) (xs : List D) (hs : List Nat), (∀ b ∈ bs, ∀ d hs, TrH W b.2 d hs → 4 * hs.length + 1 ≤ 5 ^ D') → TrBH W bs xs hs → 4 * hs.length + bs.length ≤ bs.length * 5 ^ D' := by
      intro bs
      induction bs with
      | nil => intro xs hs _ q; rw [(trbh_nil.mp q).2]; simp
      | cons b r ih =>
        intro xs hs hb q
        obtain ⟨v, s⟩ := b
        obtain ⟨d2, ys, k1, k2, _, p1, p2, rfl⟩ := trbh_cons.mp q
        have i1 := hb (v, s) List.mem_cons_self d2 k1 p1
        have i2 := ih ys k2 (fun b hb2 => hb b (List.mem_cons_of_mem _ hb2)) p2
        rw [List.length_append, List.length_cons, Nat.add_mul]
        omega
    have a1 := go bs xs h1 (fun b hb d hs h => ihb b hb _ d hs D' (gb b hb).2 h (by have := deps_mem hb; omega)) q2
    have p1 : 1 ≤ 5 ^ D' := Nat.one_le_pow _ _ (by omega)
    have p2 : 5 ^ (D' + 1) = 5 ^ D' * 5 := Nat.pow_succ ..
    have b4 : bs.length * 5 ^ D' - bs.length ≤ 4 * 5 ^ D' - 4 := by
      have : bs.length * (5 ^ D' - 1) ≤ 4 * (5 ^ D' - 1) := Nat.mul_le_mul_right _ g4
      rw [Nat.mul_sub, Nat.mul_sub, Nat.mul_one, Nat.mul_one] at this
      exact this
    rw [List.length_cons, List.length_append, p2]
    omega
/-- what is plain stays -/
theorem plain_fix : ∀ (t : T) (us : List Nat), GoodT S us t → PlainT t → mp t = t := by
  intro t
  refine T.ind (P := fun t => ∀ us, GoodT S us t → PlainT t → mp t = t) (fun us _ _ => mp_nil) (fun c o bs t ihb iht us hg hp => ?_) t
  obtain ⟨g1, g2, g3, g4, g5, g6⟩ := goodT_node.mp hg
  obtain ⟨p1, p2, p3, p4⟩ := plain_node.mp hp
  have gb := goodB_iff.mp g5
  have pb := plainB_iff.mp p3
  have et := iht _ g6 p4
  have eb : mpB bs = bs := by
    rw [mpB_map]
    have : bs.map (fun b => (b.1, mp b.2)) = bs.map id := List.map_congr_left fun b hb => by
      rw [ihb b hb _ (gb b hb).2 (pb b hb)]; rfl
    rw [this, List.map_id]
  rw [mp_node, et, eb]
  congr 1
  have s1 := keepP_srt (fun b : Br => b.1) (fun b : Br => b.2) t bs [] List.Pairwise.nil (by simpa using g3)
  refine srt_eq _ s1 p1 ?_
  have p := keepP_perm (fun b : Br => b.1) (fun b : Br => b.2) t bs []
  rw [List.append_nil, List.filter_eq_self.mpr fun b hb => by simp [p2 b hb]] at p
  exact p
theorem ex_agree {V V' : Wd} (h : Ex k W V) (hl : V'.length = V.length) (ha : ∀ j, j < W.length → V'[j]? = V[j]?) : Ex k W V' := by
  obtain ⟨W', cs, g, rfl⟩ := h
  refine ⟨W', V'.drop W.length, g, ?_⟩
  have e : V'.take W.length = W' := by
    refine List.ext_getElem? fun j => ?_
    by_cases hj : j < W.length
    · rw [List.getElem?_take_of_lt hj, ha j hj, List.getElem?_append_left (by rw [g.len]; exact hj)]
    · rw [List.getElem?_eq_none (by rw [List.length_take]; omega), List.getElem?_eq_none (by rw [g.len]; omega)]
  rw [← e, List.take_append_drop]
theorem eq_strs {g : Bool → Bool} {U : Wd} {x : Str} (h : PyData.strOk x = true) : opEq g U (.d (.str x)) (.d (.str x)) = some (.d (.bl (g true))) := by
  simp [opEq, R.py, D.py, h, PyData.eqv]
theorem eq_trees {g : Bool → Bool} {U : Wd} {a b : D} {t : T} (ha : a.py U 60 = some t.py) (hb : b.py U 60 = some t.py) : opEq g U (.d a) (.d b) = some (.d (.bl (g true))) := by
  show (a.py U 60).bind (fun p => (b.py U 60).map fun q => R.d (.bl (g (PyData.eqv p q)))) = _
  rw [ha, Option.bind_some, hb, Option.map_some, py_refl]
def schPy (S : List (List Str)) : PyData := .list (S.map fun c => .tuple (c.map PyData.str))
theorem py_sch {U : Wd} (hS : GoodSch S) (m : Nat) : (D.lst (S.map colD)).py U (m + 3) = some (schPy S) := by
  have : ∀ S : List (List Str), (∀ c ∈ S, GoodCol c) → mapO (D.py U (m + 2)) (S.map colD) = some (S.map fun c => .tuple (c.map PyData.str)) := by
    intro S
    induction S with
    | nil => intro _; rfl
    | cons c r ih =>
      intro h
      have e := py_strs (V := U) (m := m) (h c List.mem_cons_self).2.2
      have e2 : (colD c).py U (m + 2) = some (.tuple (c.map PyData.str)) := by
        unfold colD
        rw [D.py, e]; rfl
      rw [List.map_cons, mapO, e2, Option.bind_some, ih fun x hx => h x (List.mem_cons_of_mem _ hx)]; rfl
  rw [D.py, this S hS.2.2]; rfl
/-- repr([schema, tree]) -/
theorem repr_pair {U : Wd} (hS : GoodSch S) {t : T} {us : List Nat} {d : D} (hg : GoodT S us t) (hr : Tr U t d) (hd : t.dep ≤ 4) :
    bRepr U [.lst [.lst (S.map colD), d]] = some (.d (.str (PyData.list [schPy S, t.py]).shown)) ∧ PyData.strOk (PyData.list [schPy S, t.py]).shown = true := by
  obtain ⟨t1, t2, t3, t4⟩ := tell_tree hS t us 4 hg hd
  obtain ⟨s1, s2, s3, s4⟩ := tell_schema hS
  have e1 := py_sch (U := U) hS 56
  have e2 := py_tr (V := U) hS t us d 59 hg hr (by omega)
  have ep : (D.lst [.lst (S.map colD), d]).py U 60 = some (.list [schPy S, t.py]) := by
    rw [D.py]
    simp only [mapO, e1, e2, Option.bind_some, Option.map_some]
  have tl : Tell (.list [schPy S, t.py]) 16000000 := by
    refine ⟨?_, ?_, ?_, ?_⟩
    · simp only [PyData.showable, PyData.showableAll, t1]; rw [show (schPy S).showable = true from s1]; rfl
    · simp only [PyData.hasDict, PyData.hasDictAll, t2]; rw [show (schPy S).hasDict = false from s2]; rfl
    · simp only [wt, wts]
      have : wt (schPy S) ≤ 2000 := s3
      omega
    · simp only [aOrd, aOrds, t4]; rw [show aOrd (schPy S) = true from s4]; rfl
  exact ⟨repr_ok ep tl (by rw [small]; omega) (fun i e => by cases e), shown_ok _ tl.2.2.2⟩
theorem repr_tree {U : Wd} (hS : GoodSch S) {t : T} {us : List Nat} {d : D} (hg : GoodT S us t) (hr : Tr U t d) (hd : t.dep ≤ 4) :
    bRepr U [d] = some (.d (.str t.py.shown)) ∧ PyData.strOk t.py.shown = true := by
  have tl := tell_tree hS t us 4 hg hd
  have e2 := py_tr (V := U) hS t us d 60 hg hr (by omega)
  exact ⟨repr_ok e2 tl (by rw [small]; omega) (fun i e => by
    subst e
    cases t with
    | nil => have := tr_nil.mp hr; cases this
    | node c o bs t => obtain ⟨_, _, _, e, _⟩ := tr_node.mp hr; cases e), shown_ok _ tl.2.2.2⟩
end
end K06

set_option Elab.async false
set_option linter.all false
set_option maxRecDepth 100000
set_option maxHeartbeats 1000000
namespace K06
open PySem L2 Ev
section
variable {n k : Nat} {W : Wd} {S : List (List Str)}
theorem is_not_true {U : Wd} : opIs Bool.not U (.d (.bl true)) (.d (.bl true)) = some (.d (.bl false)) := by simp [opIs]
theorem good (hn : 30 ≤ n) (hS : GoodSch S) (hP : PileAt W k) {t : T} (hg : GoodT S [] t) (hb : B3 t) (hd : t.dep ≤ 4) :
    ∃ W' : Wd, ev n i__law_good false [.hdl k, .lst (S.map colD), t.d] W = some (.d (.bl true), W') ∧ Go k W W' := by
  obtain ⟨n, rfl, ln⟩ := lv hn
  have hk := hP.lt
  have mdep := mp_dep t
  have gm := mp_good t [] hg
  have pm := mp_plain t [] hg
  have fixm := plain_fix (mp t) [] gm pm
  -- what is told
  obtain ⟨_, ok1⟩ := repr_pair (U := W) hS hg (tr_d t) hd
  have rp : ∀ U, bRepr U [.lst [.lst (S.map colD), t.d]] = some (.d (.str (PyData.list [schPy S, t.py]).shown)) := fun U => (repr_pair (U := U) hS hg (tr_d t) hd).1
  have rq : ∀ U, opEq Bool.not U (.d (.str (PyData.list [schPy S, t.py]).shown)) (.d (.str (PyData.list [schPy S, t.py]).shown)) = some (.d (.bl false)) := fun U => eq_strs (g := Bool.not) ok1
  obtain ⟨_, ok2⟩ := repr_tree (U := W) hS gm (tr_d (mp t)) (by omega)
  -- the plain tree
  obtain ⟨d', cs, hs, e1, r1, w1⟩ := plain_true (W := W) (n := n) hS hg (tr_d t) (by omega) (by omega)
  generalize hV1 : W ++ cs = V1 at e1 r1 w1
  have hE1 : Ex k W V1 := by rw [← hV1]; exact ⟨W, cs, hP.go, rfl⟩
  have hks : k ∉ hs := fun q => by have := w1.2 k q; omega
  have tr1 := trh_tr _ _ _ r1
  have it := is_tree_ok (W := V1) (n := n) (h := false) (by omega) hS tr1 gm (by omega) (by omega)
  have ip := is_plain_ok (W := V1) hS (mp t) false [] n d' gm pm tr1 (by omega) (by omega)
  have trG : ∀ V, Go k V1 V → TrH V (mp t) d' hs := fun V g => trh_agree _ _ _ r1 fun j hj => g.get fun e => hks (e ▸ hj)
  obtain ⟨V2, e2, g2⟩ := alike (n := n) (W := V1) (by omega) hS hE1.pile hg gm (fun V _ => tr_d t) (fun V g => trh_tr _ _ _ (trG V g)) (by omega) (by omega) fun x y => (mp_cmp t [] hg).symm
  have r2 := trG V2 g2
  have tr2 := trh_tr _ _ _ r2
  have pf2 := plain_false (W := V2) (n := n) hS gm tr2 (by omega) (by omega)
  rw [fixm] at pf2
  have q2 := eq_trees (g := Bool.not) (U := V2) (py_tr hS _ _ _ 60 gm (tr_d (mp t)) (by omega)) (py_tr hS _ _ _ 60 gm tr2 (by omega))
  have hE2 := hE1.go g2
  obtain ⟨t3, V3, e3, s1, s2, s3, g3⟩ := loose_ok (k := k) (S := S) t [] n V2 hg hb hE2.pile (by omega)
  have g23 := g2.trans g3
  have r3 := trG V3 g23
  have tr3 := trh_tr _ _ _ r3
  have hE3 := hE2.go g3
  have pf3 := plain_false (W := V3) (n := n) hS s1 (tr_d t3) (by omega) (by omega)
  rw [s3] at pf3
  have q3 := eq_trees (g := Bool.not) (U := V3) (py_tr hS _ _ _ 60 gm (tr_d (mp t)) (by omega)) (py_tr hS _ _ _ 60 gm tr3 (by omega))
  have told := (repr_tree (U := V3) hS gm tr3 (by omega)).1
  have sz := trh_size (mp t) [] d' hs 4 gm r3 (by omega)
  have szl : hs.length ≤ 700 := by
    have : (5 : Nat) ^ 4 = 625 := by decide
    omega
  obtain ⟨V4, e4, l4, f4⟩ := numbered (n := n) (al_tree (mp t) d' hs r3 szl) w1.1 (trh_cells (mp t) [] d' hs gm r3) szl (by omega)
  have hE4 : Ex k W V4 := ex_agree hE3 l4 fun j hj => f4 j fun q => by have := w1.2 j q; omega
  have pf4 := plain_false (W := V4) (n := n) hS hg (tr_d t) (by omega) (by omega)
  have told4 := (repr_tree (U := V4) hS gm (tr_d (mp t)) (by omega)).1
  have q4 := eq_strs (g := id) (U := V4) ok2
  obtain ⟨W', e5, g5⟩ := hE4.fin_d (x := .bl true) (by simp [pureD])
  refine ⟨W', ?_, g5⟩
  rw [e__law_good]
  refine runB_rt (r := .d (.bl true)) (W' := V4) ?_ e5
  unfold g__law_good
  have st : startE 6 [.hdl k, .lst (S.map colD), t.d] = [some (.hdl k), some (.lst (S.map colD)), some t.d, none, none, none] := rfl
  rw [st]
  generalize S.map colD = L at rp e1 it e2 pf2 pf3 pf4 ⊢
  generalize (PyData.list [schPy S, t.py]).shown = K at rp rq
  generalize (mp t).py.shown = K2 at told told4 q4
  generalize hmd : (mp t).d = md at pf2 pf3 pf4 q2 q3 told4
  generalize htd : t.d = td at rp e1 e2 e3 pf4 ⊢
  refine fSeq_nx (ρ' := [some (.hdl k), some (.lst L), some td, some (.str K), none, none]) (W' := W) (by simp [runB, startE, fSeq, fNil, fIf, fRet, fRetN, fDrop, fPass, fAsg, fTg, toD, fName, fC, fVal, fNotT, fAndT, fOrT, fBin, fCons, fNilA, fTup, fLst, fBlt, fIsi, fCall, fIte, fNeg, fNotV, fOrV, fAndV, fMth, fStore, fAug, fSl, fON, fOS, fSrc, fRng, fFor, fLc, wipeE, Ev.setN, rp]) ?_
  refine fSeq_nx (ρ' := [some (.hdl k), some (.lst L), some td, some (.str K), some d', none]) (W' := V1) (by simp [runB, startE, fSeq, fNil, fIf, fRet, fRetN, fDrop, fPass, fAsg, fTg, toD, fName, fC, fVal, fNotT, fAndT, fOrT, fBin, fCons, fNilA, fTup, fLst, fBlt, fIsi, fCall, fIte, fNeg, fNotV, fOrV, fAndV, fMth, fStore, fAug, fSl, fON, fOS, fSrc, fRng, fFor, fLc, wipeE, Ev.setN, e1]) ?_
  refine fSeq_nx (ρ' := [some (.hdl k), some (.lst L), some td, some (.str K), some d', none]) (W' := V1) (fIf_f (W1 := V1) (by simp [runB, startE, fSeq, fNil, fIf, fRet, fRetN, fDrop, fPass, fAsg, fTg, toD, fName, fC, fVal, fNotT, fAndT, fOrT, fBin, fCons, fNilA, fTup, fLst, fBlt, fIsi, fCall, fIte, fNeg, fNotV, fOrV, fAndV, fMth, fStore, fAug, fSl, fON, fOS, fSrc, fRng, fFor, fLc, wipeE, Ev.setN, it, is_not_true, ip, rp, rq]) rfl) ?_
  refine fSeq_nx (ρ' := [some (.hdl k), some (.lst L), some td, some (.str K), some d', none]) (W' := V2) (fIf_f (W1 := V2) (by simp [runB, startE, fSeq, fNil, fIf, fRet, fRetN, fDrop, fPass, fAsg, fTg, toD, fName, fC, fVal, fNotT, fAndT, fOrT, fBin, fCons, fNilA, fTup, fLst, fBlt, fIsi, fCall, fIte, fNeg, fNotV, fOrV, fAndV, fMth, fStore, fAug, fSl, fON, fOS, fSrc, fRng, fFor, fLc, wipeE, Ev.setN, e2, pf2, q2]) rfl) ?_
  refine fSeq_nx (ρ' := [some (.hdl k), some (.lst L), some td, some (.str K), some d', none]) (W' := V3) (fIf_f (W1 := V3) (by simp [runB, startE, fSeq, fNil, fIf, fRet, fRetN, fDrop, fPass, fAsg, fTg, toD, fName, fC, fVal, fNotT, fAndT, fOrT, fBin, fCons, fNilA, fTup, fLst, fBlt, fIsi, fCall, fIte, fNeg, fNotV, fOrV, fAndV, fMth, fStore, fAug, fSl, fON, fOS, fSrc, fRng, fFor, fLc, wipeE, Ev.setN, e3, pf3, q3]) rfl) ?_
  refine fSeq_nx (ρ' := [some (.hdl k), some (.lst L), some td, some (.str K), some d', some (.str K2)]) (W' := V3) (by simp [runB, startE, fSeq, fNil, fIf, fRet, fRetN, fDrop, fPass, fAsg, fTg, toD, fName, fC, fVal, fNotT, fAndT, fOrT, fBin, fCons, fNilA, fTup, fLst, fBlt, fIsi, fCall, fIte, fNeg, fNotV, fOrV, fAndV, fMth, fStore, fAug, fSl, fON, fOS, fSrc, fRng, fFor, fLc, wipeE, Ev.setN, told]) ?_
  refine fSeq_nx (ρ' := [some (.hdl k), some (.lst L), some td, some (.str K), some d', some (.str K2)]) (W' := V4) (fIf_f (W1 := V4) (by simp [runB, startE, fSeq, fNil, fIf, fRet, fRetN, fDrop, fPass, fAsg, fTg, toD, fName, fC, fVal, fNotT, fAndT, fOrT, fBin, fCons, fNilA, fTup, fLst, fBlt, fIsi, fCall, fIte, fNeg, fNotV, fOrV, fAndV, fMth, fStore, fAug, fSl, fON, fOS, fSrc, fRng, fFor, fLc, wipeE, Ev.setN, e4, rp, rq]) rfl) ?_
  simp [runB, startE, fSeq, fNil, fIf, fRet, fRetN, fDrop, fPass, fAsg, fTg, toD, fName, fC, fVal, fNotT, fAndT, fOrT, fBin, fCons, fNilA, fTup, fLst, fBlt, fIsi, fCall, fIte, fNeg, fNotV, fOrV, fAndV, fMth, fStore, fAug, fSl, fON, fOS, fSrc, fRng, fFor, fLc, wipeE, Ev.setN, pf4, told4, q4]
end
end K06

set_option Elab.async false
set_option linter.all false
set_option maxRecDepth 100000
set_option maxHeartbeats 1000000
namespace K06
open PySem L2 Ev
section
variable {n k : Nat} {W : Wd} {S : List (List Str)}
/-! ### the digits of a cell -/
theorem mulOk_r {i j : Int} (h : -(2 ^ 64) < j ∧ j < 2 ^ 64) : mulOk i j = true := by
  unfold mulOk
  rw [decide_eq_true h]; simp
theorem mulOk_l {i j : Int} (h : -(2 ^ 64) < i ∧ i < 2 ^ 64) : mulOk i j = true := by
  unfold mulOk
  rw [decide_eq_true h]; simp
theorem small_ok {i : Nat} (h : i ≤ 1000000) : -(2 ^ 64) < (i : Int) ∧ (i : Int) < 2 ^ 64 :=
  ⟨Int.lt_of_lt_of_le (by decide) (Int.natCast_nonneg i), Int.lt_of_le_of_lt (Int.ofNat_le.mpr h) (by decide)⟩
theorem mod_ok {U : Wd} {i j : Int} (h : 0 < j) : opMod U (.d (.int i)) (.d (.int j)) = some (.d (.int (i % j))) := if_pos h
theorem mul_ok {U : Wd} {i j : Int} (h : mulOk i j = true) : opMul U (.d (.int i)) (.d (.int j)) = some (.d (.int (i * j))) := if_pos h
theorem mixed (hn : 1 ≤ n) {h : Bool} (c q : Int) : ∃ r : Int, ev n i__law_mixed h [.int c, .int q] W = some (.d (.int r), W) ∧ 0 ≤ r := by
  obtain ⟨n, rfl, ln⟩ := lv hn
  have m1 := mod_ok (U := W) (i := c) (j := 2147483647) (by decide)
  generalize hx1 : c % 2147483647 = x1 at m1
  have m2 := mul_ok (U := W) (i := x1) (j := 48271) (mulOk_r (by decide))
  have m3 := mul_ok (U := W) (i := q) (j := 69621) (mulOk_r (by decide))
  have m4 := mod_ok (U := W) (i := x1 * 48271 + q * 69621 + 1048583) (j := 2147483629) (by decide)
  have b4 : 0 ≤ (x1 * 48271 + q * 69621 + 1048583) % 2147483629 ∧ (x1 * 48271 + q * 69621 + 1048583) % 2147483629 < 2147483629 := ⟨Int.emod_nonneg _ (by decide), Int.emod_lt_of_pos _ (by decide)⟩
  generalize (x1 * 48271 + q * 69621 + 1048583) % 2147483629 = x4 at m4 b4
  have m5 := mul_ok (U := W) (i := x4) (j := x4) (mulOk_r (by omega))
  have m6 := mod_ok (U := W) (i := x4 * x4) (j := 2147483587) (by decide)
  have b6 : 0 ≤ (x4 * x4) % 2147483587 ∧ (x4 * x4) % 2147483587 < 2147483587 := ⟨Int.emod_nonneg _ (by decide), Int.emod_lt_of_pos _ (by decide)⟩
  generalize (x4 * x4) % 2147483587 = x6 at m6 b6
  have m7 := mul_ok (U := W) (i := x6) (j := x6 + 2) (mulOk_r (by omega))
  have m8 := mod_ok (U := W) (i := x6 * (x6 + 2)) (j := 2147483579) (by decide)
  have b8 : 0 ≤ (x6 * (x6 + 2)) % 2147483579 := Int.emod_nonneg _ (by decide)
  generalize (x6 * (x6 + 2)) % 2147483579 = x8 at m8 b8
  refine ⟨x8, ?_, b8⟩
  rw [e__law_mixed]
  simp [runB, startE, fSeq, fNil, fIf, fRet, fRetN, fDrop, fPass, fAsg, fTg, toD, fName, fC, fVal, fNotT, fAndT, fOrT, fBin, fCons, fNilA, fTup, fLst, fBlt, fIsi, fCall, fIte, fNeg, fNotV, fOrV, fAndV, fMth, fStore, fAug, fSl, fON, fOS, fSrc, fRng, fFor, fLc, wipeE, Ev.setN, g__law_mixed, bInt, m1, m2, m3, m4, m5, m6, m7, m8, opAdd, fin_same]
theorem pow_nat {U : Wd} {b e : Nat} (hb : b < 2 ^ 64) (he : e ≤ 1000000) : opPow U (.d (.int (b : Int))) (.d (.int (e : Int))) = some (.d (.int ((b ^ e : Nat) : Int))) := by
  show (if 0 ≤ (e : Int) ∧ (e : Int) ≤ 1000000 ∧ ((b : Int)).natAbs < 2 ^ 64 then some (R.d (.int ((b : Int) ^ ((e : Int)).toNat))) else none) = _
  rw [if_pos ⟨by omega, by omega, by rw [Int.natAbs_natCast]; exact hb⟩, Int.toNat_natCast, ← Int.natCast_pow]
theorem mul_nat {U : Wd} {a b : Nat} (h : a.log2 + b.log2 < 1000000) : opMul U (.d (.int (a : Int))) (.d (.int (b : Int))) = some (.d (.int ((a * b : Nat) : Int))) := by
  have : mulOk (a : Int) (b : Int) = true := by
    unfold mulOk
    rw [Int.natAbs_natCast, Int.natAbs_natCast, decide_eq_true h]; simp
  rw [mul_ok this, ← Int.natCast_mul]
theorem pow18 : ∃ P : Int, ∀ (ρ : En) (U : Wd), fBin opPow (fC (.int 10)) (fC (.int 18)) ρ U = some (.d (.int P), U) :=
  ⟨_, fun ρ U => fBin_eq (a := .d (.int ((10 : Nat) : Int))) (b := .d (.int ((18 : Nat) : Int))) (W1 := U) rfl rfl (pow_nat (by decide) (by decide))⟩
theorem big_mod : ∃ M : Int, 0 < M ∧ ∀ (ρ : En) (U : Wd), fBin opMul (fBin opMul (fBin opMul (fBin opPow (fC (.int 10)) (fC (.int 60))) (fBin opPow (fC (.int 10)) (fC (.int 60)))) (fBin opPow (fC (.int 10)) (fC (.int 60)))) (fBin opPow (fC (.int 10)) (fC (.int 60))) ρ U = some (.d (.int M), U) := by
  have p60 : ∃ a : Nat, 0 < a ∧ a.log2 < 300 ∧ ∀ (ρ : En) (U : Wd), fBin opPow (fC (.int 10)) (fC (.int 60)) ρ U = some (.d (.int (a : Int)), U) :=
    ⟨10 ^ 60, by decide +kernel, by decide +kernel, fun ρ U => fBin_eq (a := .d (.int ((10 : Nat) : Int))) (b := .d (.int ((60 : Nat) : Int))) (W1 := U) rfl rfl (pow_nat (by decide) (by decide))⟩
  obtain ⟨a, h0, hl, e⟩ := p60
  have ll : ∀ x y : Nat, 0 < x → 0 < y → (x * y).log2 ≤ x.log2 + y.log2 + 1 := fun x y hx hy => by
    have h1 := (Nat.log2_lt (by omega : x ≠ 0)).mp (Nat.lt_succ_self x.log2)
    have h2 := (Nat.log2_lt (by omega : y ≠ 0)).mp (Nat.lt_succ_self y.log2)
    have h3 : x * y < 2 ^ (x.log2 + 1) * 2 ^ (y.log2 + 1) := Nat.mul_lt_mul'' h1 h2
    rw [← Nat.pow_add] at h3
    have h4 := (Nat.log2_lt (by have := Nat.mul_pos hx hy; omega)).mpr h3
    omega
  have a2 := Nat.mul_pos h0 h0
  have a3 := Nat.mul_pos a2 h0
  have l2 := ll a a h0 h0
  have l3 := ll (a * a) a a2 h0
  refine ⟨((a * a * a * a : Nat) : Int), ?_, fun ρ U => fBin_eq (fBin_eq (fBin_eq (e ρ U) (e ρ U) (mul_nat (by omega))) (e ρ U) (mul_nat (by omega))) (e ρ U) (mul_nat (by omega))⟩
  have := Nat.mul_pos a3 h0
  omega
theorem pile_body {V : Wd} {h : Bool} {ns : List Int} {c p q z A B C E r0 : Int} (m1 : opMul V (.d (.int 7)) (.d (.int q)) = some (.d (.int A))) (m2 : opMul V (.d (.int 100)) (.d (.int z)) = some (.d (.int B))) (m3 : opMul V (.d (.int z)) (.d (.int z)) = some (.d (.int C))) (m4 : opMul V (.d (.int p)) (.d (.int 2147483579)) = some (.d (.int E)))
    (e1 : ev n i__law_mixed false [.int c, .int (A + B + C)] V = some (.d (.int r0), V)) : l__law_pile_1 h (ev n) [some (.rol ns), some (.int q), some (.int c), some (.int p), some (.int z)] V = some (.nx [some (.rol ns), some (.int q), some (.int c), some (.int (E + r0)), some (.int z)] V) := by
  simp [l__law_pile_1, runB, startE, fSeq, fNil, fIf, fRet, fRetN, fDrop, fPass, fAsg, fTg, toD, fName, fC, fVal, fNotT, fAndT, fOrT, fBin, fCons, fNilA, fTup, fLst, fBlt, fIsi, fCall, fIte, fNeg, fNotV, fOrV, fAndV, fMth, fStore, fAug, fSl, fON, fOS, fSrc, fRng, fFor, fLc, wipeE, Ev.setN, m1, m2, m3, m4, opAdd, e1]
theorem pile_loop (hn : 1 ≤ n) {h : Bool} {ns : List Int} {q : Nat} {c : Int} : ∃ (ρ' : En) (V' : Wd), forL yes (.one 4) (l__law_pile_1 h (ev n)) (rngL 0 1 24) [some (.rol ns), some (.int (q : Int)), some (.int c), some (.int 0), none] W = some (.nx ρ' V') ∧
    ∃ (p : Int) (x : Option D), ρ' = [some (.rol ns), some (.int (q : Int)), some (.int c), some (.int p), x] ∧ 0 ≤ p ∧ V' = W := by
  obtain ⟨ρ', V', e, i, p, x, hρ, _, _, hp, hV⟩ := forL_inv (b := l__law_pile_1 h (ev n)) (t := .one 4) (chk := yes)
    (fun l ρ V => ∃ (i : Nat) (p : Int) (x : Option D), ρ = [some (.rol ns), some (.int (q : Int)), some (.int c), some (.int p), x] ∧ l = (rngL 0 1 24).drop i ∧ i ≤ 24 ∧ 0 ≤ p ∧ V = W)
    (fun _ _ _ _ => rfl) (fun d r ρ V ⟨i, p, x, eρ, el, hi, hp, hV⟩ => by
      subst eρ hV
      obtain ⟨hi, rfl, er⟩ := rng_cons el
      obtain ⟨r0, e1, h1⟩ := mixed (W := V) hn (h := false) c (7 * (q : Int) + 100 * (i : Int) + (i : Int) * (i : Int))
      have b := pile_body (h := h) (ns := ns) (p := p) (mul_ok (mulOk_l (by decide))) (mul_ok (mulOk_l (by decide))) (mul_ok (mulOk_r (small_ok (by omega)))) (mul_ok (mulOk_r (by decide))) e1
      exact ⟨_, rfl, [some (.rol ns), some (.int (q : Int)), some (.int c), some (.int (p * 2147483579 + r0)), some (.int (i : Int))], V, .inl b, i + 1, _, _, rfl, er, hi, Int.add_nonneg (Int.mul_nonneg hp (by decide)) h1, rfl⟩) (rngL 0 1 24) [some (.rol ns), some (.int (q : Int)), some (.int c), some (.int 0), none] W
    ⟨0, 0, none, rfl, rfl, Nat.zero_le _, Int.le_refl _, rfl⟩
  exact ⟨ρ', V', e, p, x, hρ, hp, hV⟩
theorem pile (hn : 2 ≤ n) {ns : List Int} {q : Nat} (hl : ns.length ≤ 1000) : ∃ p : Int, ev n i__law_pile false [.rol ns, .int (q : Int)] W = some (.fr [.int p], W) ∧ 0 ≤ p := by
  obtain ⟨n, rfl, ln⟩ := lv hn
  have bl : bLen W [.rol ns] = some (.d (.int ns.length)) := by simp [bLen, asS]
  have st : startE 5 [.rol ns, .int (q : Int)] = [some (.rol ns), some (.int (q : Int)), none, none, none] := rfl
  -- the cell
  have cell : ∃ c : Int, fIf (fVal (fBin opLt (fName 1) (fBlt bLen (fCons false (fName 0) (fNilA))))) (fAsg false (.one 2) (fBin opIx (fName 0) (fName 1))) fNil [some (.rol ns), some (.int (q : Int)), some (.int 0), none, none] W = some (.nx [some (.rol ns), some (.int (q : Int)), some (.int c), none, none] W) := by
    by_cases hq : q < ns.length
    · refine ⟨ns[q], fIf_t (W1 := W) ?_ ?_⟩
      · have : (q : Int) < (ns.length : Int) := by omega
        simp [runB, startE, fSeq, fNil, fIf, fRet, fRetN, fDrop, fPass, fAsg, fTg, toD, fName, fC, fVal, fNotT, fAndT, fOrT, fBin, fCons, fNilA, fTup, fLst, fBlt, fIsi, fCall, fIte, fNeg, fNotV, fOrV, fAndV, fMth, fStore, fAug, fSl, fON, fOS, fSrc, fRng, fFor, fLc, wipeE, Ev.setN, bl, opLt, opCI, hq]
      · have : opIx W (.d (.rol ns)) (.d (.int (q : Int))) = some (.d (.int ns[q])) := by
          have e : (ns.map D.int)[q]? = some (.int ns[q]) := by rw [List.getElem?_map, List.getElem?_eq_getElem hq]; rfl
          simp only [opIx, asS, Option.bind_some, atI_cast, e, Option.map_some]
        simp [runB, startE, fSeq, fNil, fIf, fRet, fRetN, fDrop, fPass, fAsg, fTg, toD, fName, fC, fVal, fNotT, fAndT, fOrT, fBin, fCons, fNilA, fTup, fLst, fBlt, fIsi, fCall, fIte, fNeg, fNotV, fOrV, fAndV, fMth, fStore, fAug, fSl, fON, fOS, fSrc, fRng, fFor, fLc, wipeE, Ev.setN, this]
    · refine ⟨0, fIf_f (W1 := W) ?_ rfl⟩
      simp [runB, startE, fSeq, fNil, fIf, fRet, fRetN, fDrop, fPass, fAsg, fTg, toD, fName, fC, fVal, fNotT, fAndT, fOrT, fBin, fCons, fNilA, fTup, fLst, fBlt, fIsi, fCall, fIte, fNeg, fNotV, fOrV, fAndV, fMth, fStore, fAug, fSl, fON, fOS, fSrc, fRng, fFor, fLc, wipeE, Ev.setN, bl, opLt, opCI, hq]
  obtain ⟨c, ec⟩ := cell
  obtain ⟨P, hP⟩ := pow18
  obtain ⟨M, hM, eM⟩ := big_mod
  by_cases hc : P ≤ c
  · refine ⟨(c - P) % M, ?_, Int.emod_nonneg _ (by omega)⟩
    have md := mod_ok (U := W) (i := c - P) (j := M) hM
    rw [e__law_pile]
    refine runB_rt (r := .fr [.int ((c - P) % M)]) (W' := W) ?_ (fin_same rfl)
    rw [st]
    unfold g__law_pile
    refine fSeq_nx (ρ' := [some (.rol ns), some (.int (q : Int)), some (.int 0), none, none]) (W' := W) rfl ?_
    refine fSeq_nx ec ?_
    refine fSeq_rt (fIf_t (W1 := W) (fVal_eq (fBin_eq (a := .d (.int c)) (W1 := W) rfl (hP _ _) ?_)) (fRet_eq ?_))
    · show some (R.d (.bl (decide (P ≤ c)))) = _
      rw [decide_eq_true hc]
    · have e1 : fBin opMod (fBlt bInt (fCons false (fBin opSub (fName 2) (fBin opPow (fC (.int 10)) (fC (.int 18)))) fNilA)) (fBin opMul (fBin opMul (fBin opMul (fBin opPow (fC (.int 10)) (fC (.int 60))) (fBin opPow (fC (.int 10)) (fC (.int 60)))) (fBin opPow (fC (.int 10)) (fC (.int 60)))) (fBin opPow (fC (.int 10)) (fC (.int 60)))) [some (.rol ns), some (.int (q : Int)), some (.int c), none, none] W = some (.d (.int ((c - P) % M)), W) :=
        fBin_eq (fBlt_eq (fCons_eq (fBin_eq (a := .d (.int c)) (W1 := W) rfl (hP _ _) (r := .d (.int (c - P))) rfl) rfl) rfl) (eM _ _) md
      unfold fLst
      rw [fCons_eq e1 rfl]
      rfl
  · obtain ⟨ρ', V', e3, p, x, rfl, hp, rfl⟩ := pile_loop (n := n) (W := W) (by omega) (h := false) (ns := ns) (q := q) (c := c)
    refine ⟨p, ?_, hp⟩
    rw [e__law_pile]
    refine runB_rt (r := .fr [.int p]) (W' := V') ?_ (fin_same rfl)
    rw [st]
    unfold g__law_pile
    refine fSeq_nx (ρ' := [some (.rol ns), some (.int (q : Int)), some (.int 0), none, none]) (W' := V') rfl ?_
    refine fSeq_nx ec ?_
    refine fSeq_nx (ρ' := [some (.rol ns), some (.int (q : Int)), some (.int c), none, none]) (W' := V') (fIf_f (W1 := V') (fVal_eq (fBin_eq (a := .d (.int c)) (W1 := V') rfl (hP _ _) ?_)) rfl) ?_
    · show some (R.d (.bl (decide (P ≤ c)))) = _
      rw [decide_eq_false hc]
    refine fSeq_nx (ρ' := [some (.rol ns), some (.int (q : Int)), some (.int c), some (.int 0), none]) (W' := V') rfl ?_
    refine fSeq_nx (fFor_nx (src := ⟨rngL 0 1 24, yes⟩) (W1 := V') (fRng1_nat (m := 24) rfl (by omega)) e3) ?_
    rfl
end
end K06

set_option Elab.async false
set_option linter.all false
set_option maxRecDepth 100000
set_option maxHeartbeats 1000000
namespace K06
open PySem L2 Ev
section
variable {n k : Nat} {W : Wd} {S : List (List Str)}
def flatPy (fl : List (Nat × Str)) : PyData := .list (fl.map fun p => .tuple [.int (p.1 : Int), .str p.2])
theorem flat_len (hS : GoodSch S) {fl : List (Nat × Str)} (hf : GoodFlat S fl) : fl.length ≤ 6 := by
  have h1 := nodup_le (m := S.length) hf.1 fun c hc => by
    obtain ⟨p, hp, rfl⟩ := List.mem_map.mp hc
    obtain ⟨col, h, _⟩ := hf.2 p hp
    exact getElem_lt h
  rw [List.length_map] at h1
  have := hS.2.1
  omega
theorem flat_ord (hS : GoodSch S) {fl : List (Nat × Str)} (hf : GoodFlat S fl) : ∀ p ∈ fl, p.2 ∈ ORD ∧ p.1 < 6 := fun p hp => by
  obtain ⟨col, h, ho⟩ := hf.2 p hp
  have := getElem_lt h
  have := hS.2.1
  exact ⟨(hS.2.2 col (List.mem_of_getElem? h)).2.2 _ ho, by omega⟩
theorem py_flat {U : Wd} : ∀ {fl : List (Nat × Str)}, (∀ p ∈ fl, p.2 ∈ ORD ∧ p.1 < 6) → mapO (D.py U 59) (flatD fl) = some (fl.map fun p => .tuple [.int (p.1 : Int), .str p.2])
  | [], _ => rfl
  | p :: r, h => by
    have e := py_flat (U := U) fun q hq => h q (List.mem_cons_of_mem _ hq)
    have e2 : flatD (p :: r) = .tup [.int (p.1 : Int), .str p.2] :: flatD r := rfl
    have so := ord_ok p.2 (h p List.mem_cons_self).1
    have e3 : (D.tup [.int (p.1 : Int), .str p.2]).py U 59 = some (.tuple [.int (p.1 : Int), .str p.2]) := by
      simp [D.py, mapO, so]
    rw [e2, mapO, e3, Option.bind_some, e]; rfl
theorem tell_flat : ∀ {fl : List (Nat × Str)}, (∀ p ∈ fl, p.2 ∈ ORD ∧ p.1 < 6) → PyData.showableAll (fl.map fun p => PyData.tuple [.int (p.1 : Int), .str p.2]) = true ∧ PyData.hasDictAll (fl.map fun p => PyData.tuple [.int (p.1 : Int), .str p.2]) = false ∧ wts (fl.map fun p => PyData.tuple [.int (p.1 : Int), .str p.2]) ≤ fl.length * 2000 ∧ aOrds (fl.map fun p => PyData.tuple [.int (p.1 : Int), .str p.2]) = true
  | [], _ => ⟨rfl, rfl, by simp [wts], rfl⟩
  | p :: r, h => by
    obtain ⟨h1, h2, h3, h4⟩ := tell_flat fun q hq => h q (List.mem_cons_of_mem _ hq)
    obtain ⟨ho, hl⟩ := h p List.mem_cons_self
    have ow := ord_wt p.2 ho
    have cI2 : p.1.log2 < 1920 := Nat.lt_of_le_of_lt (Nat.log2_le_self _) (by omega)
    refine ⟨by simp [PyData.showableAll, PyData.showable, cI2]; exact h1, by simp [PyData.hasDictAll, PyData.hasDict]; exact h2, ?_, by simp [aOrds, aOrd, ho]; exact h4⟩
    simp only [List.map_cons, wts, wt, List.length_cons]
    omega
theorem repr_flat {U : Wd} (hS : GoodSch S) {fl : List (Nat × Str)} (hf : GoodFlat S fl) : bRepr U [.lst (flatD fl)] = some (.d (.str (flatPy fl).shown)) ∧ PyData.strOk (flatPy fl).shown = true := by
  have ho := flat_ord hS hf
  obtain ⟨h1, h2, h3, h4⟩ := tell_flat ho
  have hl := flat_len hS hf
  have tl : Tell (flatPy fl) 20000 := ⟨by simp only [flatPy, PyData.showable]; exact h1, by simp only [flatPy, PyData.hasDict]; exact h2, by simp only [flatPy, wt]; omega, by simp only [flatPy, aOrd]; exact h4⟩
  refine ⟨repr_ok (b := 20000) ?_ tl (by rw [small]; omega) (fun i e => by cases e), shown_ok _ tl.2.2.2⟩
  rw [D.py, py_flat ho]; rfl
theorem trh_flat : ∀ (fl : List (Nat × Str)) (d : D) (hs : List Nat), TrH W (flatT fl) d hs → hs.length = fl.length
  | [], d, hs, h => by rw [flatT] at h; rw [(trh_nil.mp h).2]; rfl
  | p :: r, d, hs, h => by
    rw [flatT] at h
    obtain ⟨j, d', xs, h1, h2, _, _, q2, q3, rfl⟩ := trh_node.mp h
    rw [(trbh_nil.mp q2).2, List.nil_append, List.length_cons, List.length_cons, trh_flat r d' h2 q3]
/-- one turn of the law -/
theorem law_turn (hn : 40 ≤ n) {ns : List Int} (hns : ns.length ≤ 63) (q : Nat) (x2 x3 x4 x5 x6 : Option D) : ∃ (y2 y3 y4 y5 y6 : Option D) (V : Wd), l_law_1 false (ev n) [some (.rol ns), some (.int (q : Int)), x2, x3, x4, x5, x6] W = some (.nx [some (.rol ns), some (.int (q : Int)), y2, y3, y4, y5, y6] V) := by
  obtain ⟨p, e1, hp⟩ := pile (n := n) (W := W) (by omega) (ns := ns) (q := q) (by omega)
  have hP0 : PileAt (W ++ [.lst [.int p]]) W.length := ⟨p, hp, push_at _ _⟩
  generalize hkk : W.length = kk at hP0
  obtain ⟨S, V1, e2, hS, g1⟩ := schema (n := n) (by omega) hP0
  obtain ⟨fl, V2, e3, hf, g2⟩ := flat (n := n) (by omega) g1.pile hS
  have lf := flat_len hS hf
  have rf : ∀ U, bRepr U [.lst (flatD fl)] = some (.d (.str (flatPy fl).shown)) := fun U => (repr_flat (U := U) hS hf).1
  have rq : ∀ U, opEq Bool.not U (.d (.str (flatPy fl).shown)) (.d (.str (flatPy fl).shown)) = some (.d (.bl false)) := fun U => eq_strs (g := Bool.not) (repr_flat (U := W) hS hf).2
  obtain ⟨d', cs, hs, e4, r1, w1⟩ := tree_of_true (W := V2) (n := n) (by omega) hS hf (by omega)
  have hk2 := g2.pile.lt
  have gT := flatT_good fl [] hf (fun _ _ => by simp)
  have dT := flatT_dep fl
  have hP3 : PileAt (V2 ++ cs) kk := g2.pile.app cs
  generalize hV3 : V2 ++ cs = V3 at e4 r1 w1 hP3
  have tr1 := trh_tr _ _ _ r1
  have ch : ∀ U, ev n i__law_chain false [.lst (flatD fl)] U = some (.d (flatT fl).d, U) := fun U => chain_ok (W := U) (n := n) (h := false) (by omega) fl (by omega)
  have pT := fun U => py_tr (V := U) hS (flatT fl) [] (flatT fl).d 60 gT (tr_d _) (by omega)
  have q1 := eq_trees (g := Bool.not) (U := V3) (py_tr hS _ [] _ 60 gT tr1 (by omega)) (pT V3)
  have q2 := eq_trees (g := Bool.not) (U := V3) (pT V3) (py_tr hS _ [] _ 60 gT tr1 (by omega))
  have pf := plain_false (W := V3) (n := n) hS gT tr1 (by omega) (by omega)
  rw [mp_flatT] at pf
  have lh := trh_flat fl d' hs r1
  obtain ⟨V4, e5, l4, f4⟩ := numbered (n := n) (al_tree (flatT fl) d' hs r1 (by omega)) w1.1 (trh_cells _ [] d' hs gT r1) (by omega) (by omega)
  have to := tree_of_false (W := V4) (n := n) (by omega) hS hf (by omega)
  have q4 := eq_trees (g := Bool.not) (U := V4) (pT V4) (pT V4)
  have hP4 : PileAt V4 kk := by
    obtain ⟨p, h0, e⟩ := hP3
    exact ⟨p, h0, by rw [f4 kk fun q => by have := w1.2 kk q; omega]; exact e⟩
  obtain ⟨t, V5, e6, gt, dt, bt, g5⟩ := tree_all (k := kk) hS 4 n (by omega) [] V4 hP4 (by simp)
  obtain ⟨V6, e7, g6⟩ := good (n := n) (by omega) hS g5.pile gt bt dt
  obtain ⟨V7, e8, g7⟩ := good (n := n) (by omega) hS g6.pile (t := .nil) goodT_nil b3_nil (by rw [T.dep]; omega)
  rw [t_nil_d] at e8
  have e6 : ev n i__law_tree false [.hdl kk, .lst (S.map colD), .lst [], .int 4] V4 = some (.d t.d, V5) := e6
  refine ⟨some (.hdl kk), some (.lst (S.map colD)), some (.lst (flatD fl)), some (.str (flatPy fl).shown), some d', V7, ?_⟩
  unfold l_law_1
  generalize S.map colD = L at e2 e3 e4 e6 e7 e8 pf to
  generalize (flatPy fl).shown = K at rf rq
  generalize flatD fl = F at e3 e4 rf ch to
  generalize (flatT fl).d = Td at ch q1 q2 q4 pf to
  generalize t.d = td at e6 e7
  refine fSeq_nx (ρ' := [some (.rol ns), some (.int (q : Int)), some (.hdl kk), x3, x4, x5, x6]) (W' := W ++ [.lst [.int p]]) (by rw [← hkk]; simp [runB, startE, fSeq, fNil, fIf, fRet, fRetN, fDrop, fPass, fAsg, fTg, toD, fName, fC, fVal, fNotT, fAndT, fOrT, fBin, fCons, fNilA, fTup, fLst, fBlt, fIsi, fCall, fIte, fNeg, fNotV, fOrV, fAndV, fMth, fStore, fAug, fSl, fON, fOS, fSrc, fRng, fFor, fLc, wipeE, Ev.setN, e1]) ?_
  refine fSeq_nx (ρ' := [some (.rol ns), some (.int (q : Int)), some (.hdl kk), some (.lst L), x4, x5, x6]) (W' := V1) (by simp [runB, startE, fSeq, fNil, fIf, fRet, fRetN, fDrop, fPass, fAsg, fTg, toD, fName, fC, fVal, fNotT, fAndT, fOrT, fBin, fCons, fNilA, fTup, fLst, fBlt, fIsi, fCall, fIte, fNeg, fNotV, fOrV, fAndV, fMth, fStore, fAug, fSl, fON, fOS, fSrc, fRng, fFor, fLc, wipeE, Ev.setN, e2]) ?_
  refine fSeq_nx (ρ' := [some (.rol ns), some (.int (q : Int)), some (.hdl kk), some (.lst L), some (.lst F), x5, x6]) (W' := V2) (by simp [runB, startE, fSeq, fNil, fIf, fRet, fRetN, fDrop, fPass, fAsg, fTg, toD, fName, fC, fVal, fNotT, fAndT, fOrT, fBin, fCons, fNilA, fTup, fLst, fBlt, fIsi, fCall, fIte, fNeg, fNotV, fOrV, fAndV, fMth, fStore, fAug, fSl, fON, fOS, fSrc, fRng, fFor, fLc, wipeE, Ev.setN, e3]) ?_
  refine fSeq_nx (ρ' := [some (.rol ns), some (.int (q : Int)), some (.hdl kk), some (.lst L), some (.lst F), some (.str K), x6]) (W' := V2) (by simp [runB, startE, fSeq, fNil, fIf, fRet, fRetN, fDrop, fPass, fAsg, fTg, toD, fName, fC, fVal, fNotT, fAndT, fOrT, fBin, fCons, fNilA, fTup, fLst, fBlt, fIsi, fCall, fIte, fNeg, fNotV, fOrV, fAndV, fMth, fStore, fAug, fSl, fON, fOS, fSrc, fRng, fFor, fLc, wipeE, Ev.setN, rf]) ?_
  refine fSeq_nx (ρ' := [some (.rol ns), some (.int (q : Int)), some (.hdl kk), some (.lst L), some (.lst F), some (.str K), some d']) (W' := V3) (by simp [runB, startE, fSeq, fNil, fIf, fRet, fRetN, fDrop, fPass, fAsg, fTg, toD, fName, fC, fVal, fNotT, fAndT, fOrT, fBin, fCons, fNilA, fTup, fLst, fBlt, fIsi, fCall, fIte, fNeg, fNotV, fOrV, fAndV, fMth, fStore, fAug, fSl, fON, fOS, fSrc, fRng, fFor, fLc, wipeE, Ev.setN, e4]) ?_
  refine fSeq_nx (ρ' := [some (.rol ns), some (.int (q : Int)), some (.hdl kk), some (.lst L), some (.lst F), some (.str K), some d']) (W' := V3) (fIf_f (W1 := V3) (by simp [runB, startE, fSeq, fNil, fIf, fRet, fRetN, fDrop, fPass, fAsg, fTg, toD, fName, fC, fVal, fNotT, fAndT, fOrT, fBin, fCons, fNilA, fTup, fLst, fBlt, fIsi, fCall, fIte, fNeg, fNotV, fOrV, fAndV, fMth, fStore, fAug, fSl, fON, fOS, fSrc, fRng, fFor, fLc, wipeE, Ev.setN, ch, q1, rf, rq, pf, q2]) rfl) ?_
  refine fSeq_nx (ρ' := [some (.rol ns), some (.int (q : Int)), some (.hdl kk), some (.lst L), some (.lst F), some (.str K), some d']) (W' := V4) (fIf_f (W1 := V4) (by simp [runB, startE, fSeq, fNil, fIf, fRet, fRetN, fDrop, fPass, fAsg, fTg, toD, fName, fC, fVal, fNotT, fAndT, fOrT, fBin, fCons, fNilA, fTup, fLst, fBlt, fIsi, fCall, fIte, fNeg, fNotV, fOrV, fAndV, fMth, fStore, fAug, fSl, fON, fOS, fSrc, fRng, fFor, fLc, wipeE, Ev.setN, e5, rf, rq, to, ch, q4]) rfl) ?_
  exact fIf_f (W1 := V7) (by simp [runB, startE, fSeq, fNil, fIf, fRet, fRetN, fDrop, fPass, fAsg, fTg, toD, fName, fC, fVal, fNotT, fAndT, fOrT, fBin, fCons, fNilA, fTup, fLst, fBlt, fIsi, fCall, fIte, fNeg, fNotV, fOrV, fAndV, fMth, fStore, fAug, fSl, fON, fOS, fSrc, fRng, fFor, fLc, wipeE, Ev.setN, e6, e7, e8]) rfl
theorem law_true (hn : 41 ≤ n) {ns : List Int} (hns : ns.length ≤ 63) : ∃ W' : Wd, ev n i_law false [.rol ns] [] = some (.d (.bl true), W') := by
  obtain ⟨n, rfl, ln⟩ := lv hn
  have hm : ∃ m : Nat, m ≤ 8 ∧ fBlt bMax (fCons false (fC (.int 2)) (fCons false (fBlt bMin (fCons false (fBlt bLen (fCons false (fName 0) (fNilA))) (fCons false (fC (.int 8)) (fNilA)))) (fNilA))) [some (.rol ns), none, none, none, none, none, none] [] = some (.d (.int (m : Int)), []) := by
    have bl : bLen [] [.rol ns] = some (.d (.int ns.length)) := by simp [bLen, asS]
    by_cases h8 : (8 : Int) < (ns.length : Int)
    · exact ⟨8, by omega, by simp [runB, startE, fSeq, fNil, fIf, fRet, fRetN, fDrop, fPass, fAsg, fTg, toD, fName, fC, fVal, fNotT, fAndT, fOrT, fBin, fCons, fNilA, fTup, fLst, fBlt, fIsi, fCall, fIte, fNeg, fNotV, fOrV, fAndV, fMth, fStore, fAug, fSl, fON, fOS, fSrc, fRng, fFor, fLc, wipeE, Ev.setN, bl, bMin, bMax, h8]⟩
    · by_cases h2 : (2 : Int) < (ns.length : Int)
      · exact ⟨ns.length, by omega, by simp [runB, startE, fSeq, fNil, fIf, fRet, fRetN, fDrop, fPass, fAsg, fTg, toD, fName, fC, fVal, fNotT, fAndT, fOrT, fBin, fCons, fNilA, fTup, fLst, fBlt, fIsi, fCall, fIte, fNeg, fNotV, fOrV, fAndV, fMth, fStore, fAug, fSl, fON, fOS, fSrc, fRng, fFor, fLc, wipeE, Ev.setN, bl, bMin, bMax, h8, h2]⟩
      · exact ⟨2, by omega, by simp [runB, startE, fSeq, fNil, fIf, fRet, fRetN, fDrop, fPass, fAsg, fTg, toD, fName, fC, fVal, fNotT, fAndT, fOrT, fBin, fCons, fNilA, fTup, fLst, fBlt, fIsi, fCall, fIte, fNeg, fNotV, fOrV, fAndV, fMth, fStore, fAug, fSl, fON, fOS, fSrc, fRng, fFor, fLc, wipeE, Ev.setN, bl, bMin, bMax, h8, h2]⟩
  obtain ⟨m, hm8, em⟩ := hm
  obtain ⟨ρ', V', e3, i, y1, y2, y3, y4, y5, y6, hρ, _, _⟩ := forL_inv (b := l_law_1 false (ev n)) (t := .one 1) (chk := yes)
    (fun l ρ V => ∃ (i : Nat) (y1 y2 y3 y4 y5 y6 : Option D), ρ = [some (.rol ns), y1, y2, y3, y4, y5, y6] ∧ l = (rngL 0 1 m).drop i ∧ i ≤ m)
    (fun _ _ _ _ => rfl) (fun d r ρ V ⟨i, y1, y2, y3, y4, y5, y6, eρ, el, hi⟩ => by
      subst eρ
      obtain ⟨hi, rfl, er⟩ := rng_cons el
      obtain ⟨z2, z3, z4, z5, z6, V2, e⟩ := law_turn (n := n) (W := V) ln hns i y2 y3 y4 y5 y6
      exact ⟨_, rfl, _, V2, .inl e, i + 1, _, _, _, _, _, _, rfl, er, hi⟩) (rngL 0 1 m) [some (.rol ns), none, none, none, none, none, none] []
    ⟨0, none, none, none, none, none, none, rfl, rfl, Nat.zero_le _⟩
  refine ⟨[], ?_⟩
  rw [e_law]
  refine runB_rt (r := .d (.bl true)) (W' := V') ?_ ?_
  · unfold g_law
    exact fSeq_nx (fFor_nx (src := ⟨rngL 0 1 m, yes⟩) (W1 := []) (fRng1_nat em (by omega)) e3) rfl
  · exact fin_d (W := []) (W1 := []) (cs := V') rfl rfl (by simp [pureD])
theorem yes : ∀ ns : List Int, ns.length ≤ 63 → ∃ W', ev 60 i_law false [.rol ns] [] = some (.d (.bl true), W') := fun ns h => law_true (by omega) h
end
end K06

set_option maxHeartbeats 0
namespace K06
open PySem PySem.Spec L2 Ev
/-! ### what the top has left -/
def fn0 : List He.DefD := [⟨("is_whole", none), "is_whole", "is_whole", defArgs s_is_whole, defBody s_is_whole, defScope s_is_whole, [], []⟩,
  ⟨("is_below", none), "is_below", "is_below", defArgs s_is_below, defBody s_is_below, defScope s_is_below, [], []⟩,
  ⟨("is_value", none), "is_value", "is_value", defArgs s_is_value, defBody s_is_value, defScope s_is_value, [], []⟩,
  ⟨("is_order", none), "is_order", "is_order", defArgs s_is_order, defBody s_is_order, defScope s_is_order, [], []⟩,
  ⟨("is_column", none), "is_column", "is_column", defArgs s_is_column, defBody s_is_column, defScope s_is_column, [], []⟩,
  ⟨("is_schema", none), "is_schema", "is_schema", defArgs s_is_schema, defBody s_is_schema, defScope s_is_schema, [], []⟩,
  ⟨("look_at_schema", none), "look_at_schema", "look_at_schema", defArgs s_look_at_schema, defBody s_look_at_schema, defScope s_look_at_schema, [], []⟩,
  ⟨("is_step", none), "is_step", "is_step", defArgs s_is_step, defBody s_is_step, defScope s_is_step, [], []⟩,
  ⟨("is_right_flat", none), "is_right_flat", "is_right_flat", defArgs s_is_right_flat, defBody s_is_right_flat, defScope s_is_right_flat, [], []⟩,
  ⟨("is_branch", none), "is_branch", "is_branch", defArgs s_is_branch, defBody s_is_branch, defScope s_is_branch, [], []⟩,
  ⟨("is_tree_without", none), "is_tree_without", "is_tree_without", defArgs s_is_tree_without, defBody s_is_tree_without, defScope s_is_tree_without, [], []⟩,
  ⟨("is_tree", none), "is_tree", "is_tree", defArgs s_is_tree, defBody s_is_tree, defScope s_is_tree, [], []⟩,
  ⟨("look_at_flat", none), "look_at_flat", "look_at_flat", defArgs s_look_at_flat, defBody s_look_at_flat, defScope s_look_at_flat, [], []⟩,
  ⟨("flat_as_tree", none), "flat_as_tree", "flat_as_tree", defArgs s_flat_as_tree, defBody s_flat_as_tree, defScope s_flat_as_tree, [], []⟩,
  ⟨("tree_of", none), "tree_of", "tree_of", defArgs s_tree_of, defBody s_tree_of, defScope s_tree_of, [], []⟩,
  ⟨("is_value_before", none), "is_value_before", "is_value_before", defArgs s_is_value_before, defBody s_is_value_before, defScope s_is_value_before, [], []⟩,
  ⟨("made_plain", none), "made_plain", "made_plain", defArgs s_made_plain, defBody s_made_plain, defScope s_made_plain, [], []⟩,
  ⟨("plain", none), "plain", "plain", defArgs s_plain, defBody s_plain, defScope s_plain, [], []⟩,
  ⟨("_law_mixed", none), "_law_mixed", "_law_mixed", defArgs s__law_mixed, defBody s__law_mixed, defScope s__law_mixed, [], []⟩,
  ⟨("_law_pile", none), "_law_pile", "_law_pile", defArgs s__law_pile, defBody s__law_pile, defScope s__law_pile, [], []⟩,
  ⟨("_law_take", none), "_law_take", "_law_take", defArgs s__law_take, defBody s__law_take, defScope s__law_take, [], []⟩,
  ⟨("_law_schema", none), "_law_schema", "_law_schema", defArgs s__law_schema, defBody s__law_schema, defScope s__law_schema, [], []⟩,
  ⟨("_law_value", none), "_law_value", "_law_value", defArgs s__law_value, defBody s__law_value, defScope s__law_value, [], []⟩,
  ⟨("_law_row", none), "_law_row", "_law_row", defArgs s__law_row, defBody s__law_row, defScope s__law_row, [], []⟩,
  ⟨("_law_order_of", none), "_law_order_of", "_law_order_of", defArgs s__law_order_of, defBody s__law_order_of, defScope s__law_order_of, [], []⟩,
  ⟨("_law_flat", none), "_law_flat", "_law_flat", defArgs s__law_flat, defBody s__law_flat, defScope s__law_flat, [], []⟩,
  ⟨("_law_tree", none), "_law_tree", "_law_tree", defArgs s__law_tree, defBody s__law_tree, defScope s__law_tree, [], []⟩,
  ⟨("_law_puts", none), "_law_puts", "_law_puts", defArgs s__law_puts, defBody s__law_puts, defScope s__law_puts, [], []⟩,
  ⟨("_law_compare", none), "_law_compare", "_law_compare", defArgs s__law_compare, defBody s__law_compare, defScope s__law_compare, [], []⟩,
  ⟨("_law_near", none), "_law_near", "_law_near", defArgs s__law_near, defBody s__law_near, defScope s__law_near, [], []⟩]
def fn1 : List He.DefD := [⟨("_law_chain", none), "_law_chain", "_law_chain", defArgs s__law_chain, defBody s__law_chain, defScope s__law_chain, [], []⟩,
  ⟨("_law_is_plain", none), "_law_is_plain", "_law_is_plain", defArgs s__law_is_plain, defBody s__law_is_plain, defScope s__law_is_plain, [], []⟩,
  ⟨("_law_loose", none), "_law_loose", "_law_loose", defArgs s__law_loose, defBody s__law_loose, defScope s__law_loose, [], []⟩,
  ⟨("_law_alike", none), "_law_alike", "_law_alike", defArgs s__law_alike, defBody s__law_alike, defScope s__law_alike, [], []⟩,
  ⟨("_law_all_lists", none), "_law_all_lists", "_law_all_lists", defArgs s__law_all_lists, defBody s__law_all_lists, defScope s__law_all_lists, [], []⟩,
  ⟨("_law_numbered", none), "_law_numbered", "_law_numbered", defArgs s__law_numbered, defBody s__law_numbered, defScope s__law_numbered, [], []⟩,
  ⟨("_law_good", none), "_law_good", "_law_good", defArgs s__law_good, defBody s__law_good, defScope s__law_good, [], []⟩,
  ⟨("law", none), "law", "law", defArgs s_law, defBody s_law, defScope s_law, [], []⟩]
def fn : List He.DefD := fn0 ++ fn1
def fa0 : List He.Fa := [.glo "is_whole",
  .glo "is_below",
  .glo "is_value",
  .glo "is_order",
  .glo "is_column",
  .glo "is_schema",
  .glo "look_at_schema",
  .glo "is_step",
  .glo "is_right_flat",
  .glo "is_branch",
  .glo "is_tree_without",
  .glo "is_tree",
  .glo "look_at_flat",
  .glo "flat_as_tree",
  .glo "tree_of",
  .glo "is_value_before",
  .glo "made_plain",
  .glo "plain",
  .glo "_law_mixed",
  .glo "_law_pile",
  .glo "_law_take",
  .glo "_law_schema",
  .glo "_law_value",
  .glo "_law_row",
  .glo "_law_order_of",
  .glo "_law_flat",
  .glo "_law_tree",
  .glo "_law_puts",
  .glo "_law_compare",
  .glo "_law_near"]
def fa1 : List He.Fa := [.glo "_law_chain",
  .glo "_law_is_plain",
  .glo "_law_loose",
  .glo "_law_alike",
  .glo "_law_all_lists",
  .glo "_law_numbered",
  .glo "_law_good",
  .glo "law",
  .free "all",
  .free "bool",
  .free "int",
  .free "isinstance",
  .free "len",
  .free "list",
  .free "max",
  .free "min",
  .free "range",
  .free "repr",
  .free "set",
  .free "str",
  .free "tuple",
  .int "MOST_COLUMNS" 6,
  .glo "ORDERS"]
def fa : List He.Fa := fa0 ++ fa1
def ls0 : List Str := ["SortError",
  "NoSchema",
  "NoRule",
  "MOST_COLUMNS",
  "ORDERS",
  "is_whole",
  "is_below",
  "is_value",
  "is_order",
  "is_column",
  "is_schema",
  "look_at_schema",
  "is_step",
  "is_right_flat",
  "is_branch",
  "is_tree_without",
  "is_tree",
  "look_at_flat",
  "flat_as_tree",
  "tree_of",
  "is_value_before",
  "made_plain",
  "plain",
  "_law_mixed",
  "_law_pile",
  "_law_take",
  "_law_schema",
  "_law_value",
  "_law_row",
  "_law_order_of"]
def ls1 : List Str := ["_law_flat",
  "_law_tree",
  "_law_puts",
  "_law_compare",
  "_law_near",
  "_law_chain",
  "_law_is_plain",
  "_law_loose",
  "_law_alike",
  "_law_all_lists",
  "_law_numbered",
  "_law_good"]
def ls : List Str := ls0 ++ ls1
def ex (K : PySem.W.Frag) : Bool := He.tupB K "ORDERS" ((["up first", "up last", "down first", "down last"] : List Str).map He.Dv.str) && true
abbrev R : PySem.W.OpenRow := PySem.W.OpenLaw.row PySem.Challenge.rw_sortclues_k06_trees_made_plain
abbrev hk : PySem.W.Hook := He.hookX 4 fa fn [] [] ex
def ob (s : PySem.W.SharedT) : He.AlX := He.obsX 4 fa fn [] [] ex (HandSHeadRun.getT s)
theorem ob_eq (s : PySem.W.SharedT) : ob s = hk.obs s.abs := He.obsX_eq (HandSHeadRun.getT_eq s)
theorem run (w : World) : HandSHeadRun.RunEq R (PySem.W.view R.prog [46]) hk ob 4000 ls w := by
  intro os
  kernel_rfl
theorem st0 {K : PySem.W.Frag} {mg : Str → Option Value} {h : Heap} {w : World} (X : K.In h) (G : h.Ns mainGlobals mg) (c : He.SaysX fa fn [] [] ex w h K) : St0 K mg := by
  have m := c.more
  unfold ex at m
  simp only [Bool.and_eq_true] at m
  exact ⟨cn_intD X G (c.t.d.fact 51 (f := .int "MOST_COLUMNS" 6) rfl),
    cn_strsD X G (c.t.d.fact 52 (f := .glo "ORDERS") rfl) m.1,
    He.free_ok X G (c.t.d.fact 38 (f := .free "all") rfl),
    He.free_ok X G (c.t.d.fact 39 (f := .free "bool") rfl),
    He.free_ok X G (c.t.d.fact 40 (f := .free "int") rfl),
    He.free_ok X G (c.t.d.fact 41 (f := .free "isinstance") rfl),
    He.free_ok X G (c.t.d.fact 42 (f := .free "len") rfl),
    He.free_ok X G (c.t.d.fact 43 (f := .free "list") rfl),
    He.free_ok X G (c.t.d.fact 44 (f := .free "max") rfl),
    He.free_ok X G (c.t.d.fact 45 (f := .free "min") rfl),
    He.free_ok X G (c.t.d.fact 46 (f := .free "range") rfl),
    He.free_ok X G (c.t.d.fact 47 (f := .free "repr") rfl),
    He.free_ok X G (c.t.d.fact 48 (f := .free "set") rfl),
    He.free_ok X G (c.t.d.fact 49 (f := .free "str") rfl),
    He.free_ok X G (c.t.d.fact 50 (f := .free "tuple") rfl),
    (by obtain ⟨fd, q⟩ := c.t.d.def_ 0 (d := ⟨("is_whole", none), "is_whole", "is_whole", defArgs s_is_whole, defBody s_is_whole, defScope s_is_whole, [], []⟩) rfl; exact sf_ofD X G (c.t.d.fact 0 (f := .glo "is_whole") rfl) q fun _ _ _ _ _ _ us hl => match us, hl with | [_], _ => rfl),
    (by obtain ⟨fd, q⟩ := c.t.d.def_ 1 (d := ⟨("is_below", none), "is_below", "is_below", defArgs s_is_below, defBody s_is_below, defScope s_is_below, [], []⟩) rfl; exact sf_ofD X G (c.t.d.fact 1 (f := .glo "is_below") rfl) q fun _ _ _ _ _ _ us hl => match us, hl with | [_, _], _ => rfl),
    (by obtain ⟨fd, q⟩ := c.t.d.def_ 2 (d := ⟨("is_value", none), "is_value", "is_value", defArgs s_is_value, defBody s_is_value, defScope s_is_value, [], []⟩) rfl; exact sf_ofD X G (c.t.d.fact 2 (f := .glo "is_value") rfl) q fun _ _ _ _ _ _ us hl => match us, hl with | [_], _ => rfl),
    (by obtain ⟨fd, q⟩ := c.t.d.def_ 3 (d := ⟨("is_order", none), "is_order", "is_order", defArgs s_is_order, defBody s_is_order, defScope s_is_order, [], []⟩) rfl; exact sf_ofD X G (c.t.d.fact 3 (f := .glo "is_order") rfl) q fun _ _ _ _ _ _ us hl => match us, hl with | [_], _ => rfl),
    (by obtain ⟨fd, q⟩ := c.t.d.def_ 4 (d := ⟨("is_column", none), "is_column", "is_column", defArgs s_is_column, defBody s_is_column, defScope s_is_column, [], []⟩) rfl; exact sf_ofD X G (c.t.d.fact 4 (f := .glo "is_column") rfl) q fun _ _ _ _ _ _ us hl => match us, hl with | [_], _ => rfl),
    (by obtain ⟨fd, q⟩ := c.t.d.def_ 5 (d := ⟨("is_schema", none), "is_schema", "is_schema", defArgs s_is_schema, defBody s_is_schema, defScope s_is_schema, [], []⟩) rfl; exact sf_ofD X G (c.t.d.fact 5 (f := .glo "is_schema") rfl) q fun _ _ _ _ _ _ us hl => match us, hl with | [_], _ => rfl),
    (by obtain ⟨fd, q⟩ := c.t.d.def_ 6 (d := ⟨("look_at_schema", none), "look_at_schema", "look_at_schema", defArgs s_look_at_schema, defBody s_look_at_schema, defScope s_look_at_schema, [], []⟩) rfl; exact sf_ofD X G (c.t.d.fact 6 (f := .glo "look_at_schema") rfl) q fun _ _ _ _ _ _ us hl => match us, hl with | [_], _ => rfl),
    (by obtain ⟨fd, q⟩ := c.t.d.def_ 7 (d := ⟨("is_step", none), "is_step", "is_step", defArgs s_is_step, defBody s_is_step, defScope s_is_step, [], []⟩) rfl; exact sf_ofD X G (c.t.d.fact 7 (f := .glo "is_step") rfl) q fun _ _ _ _ _ _ us hl => match us, hl with | [_, _], _ => rfl),
    (by obtain ⟨fd, q⟩ := c.t.d.def_ 8 (d := ⟨("is_right_flat", none), "is_right_flat", "is_right_flat", defArgs s_is_right_flat, defBody s_is_right_flat, defScope s_is_right_flat, [], []⟩) rfl; exact sf_ofD X G (c.t.d.fact 8 (f := .glo "is_right_flat") rfl) q fun _ _ _ _ _ _ us hl => match us, hl with | [_, _], _ => rfl),
    (by obtain ⟨fd, q⟩ := c.t.d.def_ 9 (d := ⟨("is_branch", none), "is_branch", "is_branch", defArgs s_is_branch, defBody s_is_branch, defScope s_is_branch, [], []⟩) rfl; exact sf_ofD X G (c.t.d.fact 9 (f := .glo "is_branch") rfl) q fun _ _ _ _ _ _ us hl => match us, hl with | [_], _ => rfl),
    (by obtain ⟨fd, q⟩ := c.t.d.def_ 10 (d := ⟨("is_tree_without", none), "is_tree_without", "is_tree_without", defArgs s_is_tree_without, defBody s_is_tree_without, defScope s_is_tree_without, [], []⟩) rfl; exact sf_ofD X G (c.t.d.fact 10 (f := .glo "is_tree_without") rfl) q fun _ _ _ _ _ _ us hl => match us, hl with | [_, _, _], _ => rfl),
    (by obtain ⟨fd, q⟩ := c.t.d.def_ 11 (d := ⟨("is_tree", none), "is_tree", "is_tree", defArgs s_is_tree, defBody s_is_tree, defScope s_is_tree, [], []⟩) rfl; exact sf_ofD X G (c.t.d.fact 11 (f := .glo "is_tree") rfl) q fun _ _ _ _ _ _ us hl => match us, hl with | [_, _], _ => rfl),
    (by obtain ⟨fd, q⟩ := c.t.d.def_ 12 (d := ⟨("look_at_flat", none), "look_at_flat", "look_at_flat", defArgs s_look_at_flat, defBody s_look_at_flat, defScope s_look_at_flat, [], []⟩) rfl; exact sf_ofD X G (c.t.d.fact 12 (f := .glo "look_at_flat") rfl) q fun _ _ _ _ _ _ us hl => match us, hl with | [_, _], _ => rfl),
    (by obtain ⟨fd, q⟩ := c.t.d.def_ 13 (d := ⟨("flat_as_tree", none), "flat_as_tree", "flat_as_tree", defArgs s_flat_as_tree, defBody s_flat_as_tree, defScope s_flat_as_tree, [], []⟩) rfl; exact sf_ofD X G (c.t.d.fact 13 (f := .glo "flat_as_tree") rfl) q fun _ _ _ _ _ _ us hl => match us, hl with | [_], _ => rfl),
    (by obtain ⟨fd, q⟩ := c.t.d.def_ 14 (d := ⟨("tree_of", none), "tree_of", "tree_of", defArgs s_tree_of, defBody s_tree_of, defScope s_tree_of, [], []⟩) rfl; exact sf_ofD X G (c.t.d.fact 14 (f := .glo "tree_of") rfl) q fun _ _ _ _ _ _ us hl => match us, hl with | [_, _], _ => rfl),
    (by obtain ⟨fd, q⟩ := c.t.d.def_ 15 (d := ⟨("is_value_before", none), "is_value_before", "is_value_before", defArgs s_is_value_before, defBody s_is_value_before, defScope s_is_value_before, [], []⟩) rfl; exact sf_ofD X G (c.t.d.fact 15 (f := .glo "is_value_before") rfl) q fun _ _ _ _ _ _ us hl => match us, hl with | [_, _], _ => rfl),
    (by obtain ⟨fd, q⟩ := c.t.d.def_ 16 (d := ⟨("made_plain", none), "made_plain", "made_plain", defArgs s_made_plain, defBody s_made_plain, defScope s_made_plain, [], []⟩) rfl; exact sf_ofD X G (c.t.d.fact 16 (f := .glo "made_plain") rfl) q fun _ _ _ _ _ _ us hl => match us, hl with | [_], _ => rfl),
    (by obtain ⟨fd, q⟩ := c.t.d.def_ 17 (d := ⟨("plain", none), "plain", "plain", defArgs s_plain, defBody s_plain, defScope s_plain, [], []⟩) rfl; exact sf_ofD X G (c.t.d.fact 17 (f := .glo "plain") rfl) q fun _ _ _ _ _ _ us hl => match us, hl with | [_, _], _ => rfl),
    (by obtain ⟨fd, q⟩ := c.t.d.def_ 18 (d := ⟨("_law_mixed", none), "_law_mixed", "_law_mixed", defArgs s__law_mixed, defBody s__law_mixed, defScope s__law_mixed, [], []⟩) rfl; exact sf_ofD X G (c.t.d.fact 18 (f := .glo "_law_mixed") rfl) q fun _ _ _ _ _ _ us hl => match us, hl with | [_, _], _ => rfl),
    (by obtain ⟨fd, q⟩ := c.t.d.def_ 19 (d := ⟨("_law_pile", none), "_law_pile", "_law_pile", defArgs s__law_pile, defBody s__law_pile, defScope s__law_pile, [], []⟩) rfl; exact sf_ofD X G (c.t.d.fact 19 (f := .glo "_law_pile") rfl) q fun _ _ _ _ _ _ us hl => match us, hl with | [_, _], _ => rfl),
    (by obtain ⟨fd, q⟩ := c.t.d.def_ 20 (d := ⟨("_law_take", none), "_law_take", "_law_take", defArgs s__law_take, defBody s__law_take, defScope s__law_take, [], []⟩) rfl; exact sf_ofD X G (c.t.d.fact 20 (f := .glo "_law_take") rfl) q fun _ _ _ _ _ _ us hl => match us, hl with | [_, _], _ => rfl),
    (by obtain ⟨fd, q⟩ := c.t.d.def_ 21 (d := ⟨("_law_schema", none), "_law_schema", "_law_schema", defArgs s__law_schema, defBody s__law_schema, defScope s__law_schema, [], []⟩) rfl; exact sf_ofD X G (c.t.d.fact 21 (f := .glo "_law_schema") rfl) q fun _ _ _ _ _ _ us hl => match us, hl with | [_], _ => rfl),
    (by obtain ⟨fd, q⟩ := c.t.d.def_ 22 (d := ⟨("_law_value", none), "_law_value", "_law_value", defArgs s__law_value, defBody s__law_value, defScope s__law_value, [], []⟩) rfl; exact sf_ofD X G (c.t.d.fact 22 (f := .glo "_law_value") rfl) q fun _ _ _ _ _ _ us hl => match us, hl with | [_, _], _ => rfl),
    (by obtain ⟨fd, q⟩ := c.t.d.def_ 23 (d := ⟨("_law_row", none), "_law_row", "_law_row", defArgs s__law_row, defBody s__law_row, defScope s__law_row, [], []⟩) rfl; exact sf_ofD X G (c.t.d.fact 23 (f := .glo "_law_row") rfl) q fun _ _ _ _ _ _ us hl => match us, hl with | [_, _, _], _ => rfl),
    (by obtain ⟨fd, q⟩ := c.t.d.def_ 24 (d := ⟨("_law_order_of", none), "_law_order_of", "_law_order_of", defArgs s__law_order_of, defBody s__law_order_of, defScope s__law_order_of, [], []⟩) rfl; exact sf_ofD X G (c.t.d.fact 24 (f := .glo "_law_order_of") rfl) q fun _ _ _ _ _ _ us hl => match us, hl with | [_, _], _ => rfl),
    (by obtain ⟨fd, q⟩ := c.t.d.def_ 25 (d := ⟨("_law_flat", none), "_law_flat", "_law_flat", defArgs s__law_flat, defBody s__law_flat, defScope s__law_flat, [], []⟩) rfl; exact sf_ofD X G (c.t.d.fact 25 (f := .glo "_law_flat") rfl) q fun _ _ _ _ _ _ us hl => match us, hl with | [_, _], _ => rfl),
    (by obtain ⟨fd, q⟩ := c.t.d.def_ 26 (d := ⟨("_law_tree", none), "_law_tree", "_law_tree", defArgs s__law_tree, defBody s__law_tree, defScope s__law_tree, [], []⟩) rfl; exact sf_ofD X G (c.t.d.fact 26 (f := .glo "_law_tree") rfl) q fun _ _ _ _ _ _ us hl => match us, hl with | [_, _, _, _], _ => rfl),
    (by obtain ⟨fd, q⟩ := c.t.d.def_ 27 (d := ⟨("_law_puts", none), "_law_puts", "_law_puts", defArgs s__law_puts, defBody s__law_puts, defScope s__law_puts, [], []⟩) rfl; exact sf_ofD X G (c.t.d.fact 27 (f := .glo "_law_puts") rfl) q fun _ _ _ _ _ _ us hl => match us, hl with | [_, _, _], _ => rfl),
    (by obtain ⟨fd, q⟩ := c.t.d.def_ 28 (d := ⟨("_law_compare", none), "_law_compare", "_law_compare", defArgs s__law_compare, defBody s__law_compare, defScope s__law_compare, [], []⟩) rfl; exact sf_ofD X G (c.t.d.fact 28 (f := .glo "_law_compare") rfl) q fun _ _ _ _ _ _ us hl => match us, hl with | [_, _, _], _ => rfl),
    (by obtain ⟨fd, q⟩ := c.t.d.def_ 29 (d := ⟨("_law_near", none), "_law_near", "_law_near", defArgs s__law_near, defBody s__law_near, defScope s__law_near, [], []⟩) rfl; exact sf_ofD X G (c.t.d.fact 29 (f := .glo "_law_near") rfl) q fun _ _ _ _ _ _ us hl => match us, hl with | [_, _, _], _ => rfl),
    (by obtain ⟨fd, q⟩ := c.t.d.def_ 30 (d := ⟨("_law_chain", none), "_law_chain", "_law_chain", defArgs s__law_chain, defBody s__law_chain, defScope s__law_chain, [], []⟩) rfl; exact sf_ofD X G (c.t.d.fact 30 (f := .glo "_law_chain") rfl) q fun _ _ _ _ _ _ us hl => match us, hl with | [_], _ => rfl),
    (by obtain ⟨fd, q⟩ := c.t.d.def_ 31 (d := ⟨("_law_is_plain", none), "_law_is_plain", "_law_is_plain", defArgs s__law_is_plain, defBody s__law_is_plain, defScope s__law_is_plain, [], []⟩) rfl; exact sf_ofD X G (c.t.d.fact 31 (f := .glo "_law_is_plain") rfl) q fun _ _ _ _ _ _ us hl => match us, hl with | [_], _ => rfl),
    (by obtain ⟨fd, q⟩ := c.t.d.def_ 32 (d := ⟨("_law_loose", none), "_law_loose", "_law_loose", defArgs s__law_loose, defBody s__law_loose, defScope s__law_loose, [], []⟩) rfl; exact sf_ofD X G (c.t.d.fact 32 (f := .glo "_law_loose") rfl) q fun _ _ _ _ _ _ us hl => match us, hl with | [_, _], _ => rfl),
    (by obtain ⟨fd, q⟩ := c.t.d.def_ 33 (d := ⟨("_law_alike", none), "_law_alike", "_law_alike", defArgs s__law_alike, defBody s__law_alike, defScope s__law_alike, [], []⟩) rfl; exact sf_ofD X G (c.t.d.fact 33 (f := .glo "_law_alike") rfl) q fun _ _ _ _ _ _ us hl => match us, hl with | [_, _, _, _], _ => rfl),
    (by obtain ⟨fd, q⟩ := c.t.d.def_ 34 (d := ⟨("_law_all_lists", none), "_law_all_lists", "_law_all_lists", defArgs s__law_all_lists, defBody s__law_all_lists, defScope s__law_all_lists, [], []⟩) rfl; exact sf_ofD X G (c.t.d.fact 34 (f := .glo "_law_all_lists") rfl) q fun _ _ _ _ _ _ us hl => match us, hl with | [_], _ => rfl),
    (by obtain ⟨fd, q⟩ := c.t.d.def_ 35 (d := ⟨("_law_numbered", none), "_law_numbered", "_law_numbered", defArgs s__law_numbered, defBody s__law_numbered, defScope s__law_numbered, [], []⟩) rfl; exact sf_ofD X G (c.t.d.fact 35 (f := .glo "_law_numbered") rfl) q fun _ _ _ _ _ _ us hl => match us, hl with | [_], _ => rfl),
    (by obtain ⟨fd, q⟩ := c.t.d.def_ 36 (d := ⟨("_law_good", none), "_law_good", "_law_good", defArgs s__law_good, defBody s__law_good, defScope s__law_good, [], []⟩) rfl; exact sf_ofD X G (c.t.d.fact 36 (f := .glo "_law_good") rfl) q fun _ _ _ _ _ _ us hl => match us, hl with | [_, _, _], _ => rfl),
    (by obtain ⟨fd, q⟩ := c.t.d.def_ 37 (d := ⟨("law", none), "law", "law", defArgs s_law, defBody s_law, defScope s_law, [], []⟩) rfl; exact sf_ofD X G (c.t.d.fact 37 (f := .glo "law") rfl) q fun _ _ _ _ _ _ us hl => match us, hl with | [_], _ => rfl)⟩
theorem go {l : PySem.W.OpenLaw} {w : World} {K : PySem.W.Frag} {mg : Str → Option Value} {fa : Addr} (S : St0 K mg) (hfa : mg "law" = some (.ref fa)) :
    ∃ fd : FuncData, (∀ (s : Shared) (u : Value), BindsTo s fd ⟨[u], []⟩ [("_law_script", u)]) ∧ ∀ base : Heap, K.In base → base.Ns mainGlobals mg → FnG l.prog w K mg base 60 fa fd ["_law_script"] (spR K 1 (ev 60 i_law false)) := by
  obtain ⟨f, fd, e, F, b⟩ := S.f_law.ex
  cases hfa.symm.trans e
  obtain ⟨oc, od, kV, doc, pm, an, cdv, ct, osl, rfl, lk, hcd⟩ := F.ex
  refine ⟨PySem.W.fnOf "law" "law" (defArgs s_law) (defBody s_law) (defScope s_law) .none kV doc pm an cdv ct, fun s u => .of_eq rfl, fun base _ _ => ?_⟩
  exact def_ok false F sc_law rfl rfl (r_law (ts S 59) false fa)
end K06
open PySem PySem.W PySem.Calls PyProof.Rows
set_option maxRecDepth 100000 in
set_option maxHeartbeats 0 in
theorem PySem.Challenge.cw_sortclues_k06_trees_made_plain_holds : PySem.Challenge.rw_sortclues_k06_trees_made_plain.Holds := by
  w_on; o_law
  refine HandSHeadRun.head_any (r := OpenLaw.row PySem.Challenge.rw_sortclues_k06_trees_made_plain) (q := view (OpenLaw.row PySem.Challenge.rw_sortclues_k06_trees_made_plain).prog [46]) (H := K06.hk) (ob := K06.ob) (M := 4000) (loose := K06.ls) (d := HandSHeadRun.topDef (OpenLaw.row PySem.Challenge.rw_sortclues_k06_trees_made_plain).prog 46) (kwd := []) K06.ob_eq
    (by kernel_rfl) (fun s => by kernel_rfl) K06.run (by kernel_rfl) (by kernel_rfl) (by kernel_rfl) (by rfl) (by first | assumption | decide +kernel) (by decide +kernel) ⟨rfl, rfl, rfl, rfl, rfl, by decide +kernel⟩ ?hw ?hc
  case hw => w_witness2
  case hc =>
    refine Ev.law_endE (l := PySem.Challenge.rw_sortclues_k06_trees_made_plain) (n := 63) (k := 60) (φ := K06.ev 60 K06.i_law false) (x := "_law_script") rfl (by decide) (by kernel_rfl) ⟨rfl, by decide, by decide⟩ ?F K06.yes
    intro w mg fa h Y G hmg0
    obtain ⟨K, KX, c⟩ := Y
    have hmg : mg ("law" : PySem.Str) = some (.ref fa) := by
      have e : (HandSHeadRun.topDef (OpenLaw.row PySem.Challenge.rw_sortclues_k06_trees_made_plain).prog 46).name = ("law" : PySem.Str) := by kernel_rfl
      rw [← e]
      exact hmg0
    obtain ⟨fd, hb, hF⟩ := K06.go (l := PySem.Challenge.rw_sortclues_k06_trees_made_plain) (w := w) (K06.st0 KX G c) hmg
    exact ⟨K, fd, KX, hb, hF⟩
