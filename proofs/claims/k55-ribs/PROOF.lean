import PyProof.Rows.All
import Wide.All
import OpenK.AllK
import Wide.FinOn
import HandS.ForMost
import HandS.Walk
import HandS.Wide
import HandS.Zip
import HandS.Style
import HandS.Flow
import HandS.Conv
import HandS.SortInts
import HandS.TupAny
import HandS.EndBits
import HandS.IsInst
import HandS.TupMul
import PyProof.Rows.SetFrom
import PyProof.Rows.RuleB_pow
import PyProof.SumWalkG
import KE.DataMinMax
import KE.DataAny
import HandS.SetFor
import HandS.Strs
import HandS.Deep
import HandS.Star
import HandS.Zip0
import PyProof.Draws
import PyProof.EnumMake
import PyProof.MinMaxWalk
import HandS.TupLe
import HandS.Iter
import PySem.Challenge.RW_comesouteven_k55_whole_ribs_round_and_ro
set_option Elab.async false
set_option linter.all false
set_option maxRecDepth 100000
/-! Pu1: values as trees, what stands for them in the heap, the relation of slots and heap, steps, the judgements. -/
namespace Pu
open PySem PySem.Spec PyProof.Rows L2

inductive D where
  | non | bl (b : Bool) | int (i : Int) | str (s : Str)
  | tup (xs : List D) | lst (xs : List D) | dic (ks : List Key) (vs : List D) | scr (ns : List Int)
  deriving Inhabited

mutual
def Rep (K : PySem.W.Frag) (F : Hp) : D → V → Prop
  | .non, v => v = .non
  | .bl b, v => v = .bl b
  | .int i, v => v = .int i
  | .str s, v => v = .str s
  | .tup ds, v => ∃ a xs, v = .ref a ∧ SqT K F a xs ∧ RepL K F ds xs
  | .lst ds, v => ∃ a xs, v = .ref a ∧ F a = some (.lst xs) ∧ RepL K F ds xs
  | .dic ks vs, v => ∃ (a : Addr) (kvs : List (Key × V)), v = .ref a ∧ F a = some (.dK kvs) ∧ kvs.map (·.1) = ks ∧ RepL K F vs (kvs.map (·.2))
  | .scr ns, v => ∃ a, v = .ref a ∧ SqL K F a (ns.map V.int)
def RepL (K : PySem.W.Frag) (F : Hp) : List D → List V → Prop
  | [], xs => xs = []
  | d :: ds, xs => ∃ x r, xs = x :: r ∧ Rep K F d x ∧ RepL K F ds r
end

mutual
/-- no list or dict anywhere within -/
def solid : D → Bool
  | .non => true
  | .bl _ => true
  | .int _ => true
  | .str _ => true
  | .tup ds => solidL ds
  | .lst _ => false
  | .dic _ _ => false
  | .scr _ => false
def solidL : List D → Bool
  | [] => true
  | d :: ds => solid d && solidL ds
end

theorem Same.rd {F F' : Hp} {a : Addr} {u : HO} (e : Same F F') (h : Rd F a u) : Rd F' a u := by
  rcases h with h | ⟨o, h⟩
  · exact .inl (e _ _ h)
  · exact .inr ⟨o, e _ _ h⟩
theorem Same.sqT {K : PySem.W.Frag} {F F' : Hp} {a : Addr} {xs : List V} (e : Same F F') (h : SqT K F a xs) : SqT K F' a xs := by
  rcases h with h | h
  · exact .inl (Same.rd e h)
  · exact .inr h

mutual
theorem Rep.mono {K : PySem.W.Frag} {F F' : Hp} (e : Same F F') : ∀ (d : D) (v : V), Rep K F d v → Rep K F' d v
  | .non, v, h => h
  | .bl _, v, h => h
  | .int _, v, h => h
  | .str _, v, h => h
  | .tup ds, v, h => by
    obtain ⟨a, xs, e1, h1, h2⟩ := h
    exact ⟨a, xs, e1, Same.sqT e h1, RepL.mono e ds xs h2⟩
  | .lst ds, v, h => by
    obtain ⟨a, xs, e1, h1, h2⟩ := h
    exact ⟨a, xs, e1, e _ _ h1, RepL.mono e ds xs h2⟩
  | .dic ks vs, v, h => by
    obtain ⟨a, kvs, e1, h1, h2, h3⟩ := h
    exact ⟨a, kvs, e1, e _ _ h1, h2, RepL.mono e vs _ h3⟩
  | .scr ns, v, h => by
    obtain ⟨a, e1, h1⟩ := h
    exact ⟨a, e1, Same.seq e h1⟩
theorem RepL.mono {K : PySem.W.Frag} {F F' : Hp} (e : Same F F') : ∀ (ds : List D) (xs : List V), RepL K F ds xs → RepL K F' ds xs
  | [], _, h => h
  | d :: ds, _, h => by
    obtain ⟨x, r, e1, h1, h2⟩ := h
    exact ⟨x, r, e1, Rep.mono e d x h1, RepL.mono e ds r h2⟩
end
/-- solid values lean on tuples alone -/
theorem sqT_tup {K : PySem.W.Frag} {F F' : Hp} {a : Addr} {xs : List V} (e : ∀ b xs, Rd F b (.tup xs) → Rd F' b (.tup xs)) (h : SqT K F a xs) : SqT K F' a xs := by
  rcases h with h | h
  · exact .inl (e _ _ h)
  · exact .inr h
mutual
theorem Rep.solid {K : PySem.W.Frag} {F F' : Hp} (e : ∀ b xs, Rd F b (.tup xs) → Rd F' b (.tup xs)) : ∀ (d : D) (v : V), solid d = true → Rep K F d v → Rep K F' d v
  | .non, v, _, h => h
  | .bl _, v, _, h => h
  | .int _, v, _, h => h
  | .str _, v, _, h => h
  | .tup ds, v, s, h => by
    obtain ⟨a, xs, e1, h1, h2⟩ := h
    exact ⟨a, xs, e1, sqT_tup e h1, RepL.solid e ds xs s h2⟩
  | .lst ds, v, s, h => by cases s
  | .dic ks vs, v, s, h => by cases s
  | .scr ns, v, s, h => by cases s
theorem RepL.solid {K : PySem.W.Frag} {F F' : Hp} (e : ∀ b xs, Rd F b (.tup xs) → Rd F' b (.tup xs)) : ∀ (ds : List D) (xs : List V), solidL ds = true → RepL K F ds xs → RepL K F' ds xs
  | [], _, _, h => h
  | d :: ds, _, s, h => by
    obtain ⟨x, r, e1, h1, h2⟩ := h
    have s2 : Pu.solid d = true ∧ solidL ds = true := by
      have : (Pu.solid d && solidL ds) = true := s
      simpa using this
    exact ⟨x, r, e1, Rep.solid e d x s2.1 h1, RepL.solid e ds r s2.2 h2⟩
end
theorem RepL.length {K : PySem.W.Frag} {F : Hp} : ∀ {ds : List D} {xs : List V}, RepL K F ds xs → xs.length = ds.length
  | [], _, h => by
    have e : _ = [] := h
    subst e
    rfl
  | d :: ds, _, h => by
    obtain ⟨x, r, rfl, _, h2⟩ := h
    simp [RepL.length h2]
theorem RepL.get {K : PySem.W.Frag} {F : Hp} : ∀ {ds : List D} {xs : List V} {i : Nat} {d : D}, RepL K F ds xs → ds[i]? = some d → ∃ x, xs[i]? = some x ∧ Rep K F d x
  | [], _, _, _, _, e => by simp at e
  | d :: ds, _, 0, d', h, e => by
    obtain ⟨x, r, rfl, h1, h2⟩ := h
    simp at e
    subst e
    exact ⟨x, rfl, h1⟩
  | d :: ds, _, i + 1, d', h, e => by
    obtain ⟨x, r, rfl, h1, h2⟩ := h
    obtain ⟨y, e1, e2⟩ := RepL.get (i := i) h2 (by simpa using e)
    exact ⟨y, by simpa using e1, e2⟩
theorem RepL.getV {K : PySem.W.Frag} {F : Hp} {ds : List D} {xs : List V} {i : Nat} {x : V} (h : RepL K F ds xs) (e : xs[i]? = some x) : ∃ d, ds[i]? = some d ∧ Rep K F d x := by
  have hl := h.length
  have hi : i < ds.length := by
    rw [← hl]
    exact (List.getElem?_eq_some_iff.mp e).1
  obtain ⟨y, e1, e2⟩ := RepL.get h (List.getElem?_eq_getElem hi)
  rw [e] at e1
  cases e1
  exact ⟨_, List.getElem?_eq_getElem hi, e2⟩
theorem RepL.append {K : PySem.W.Frag} {F : Hp} : ∀ {ds es : List D} {xs ys : List V}, RepL K F ds xs → RepL K F es ys → RepL K F (ds ++ es) (xs ++ ys)
  | [], _, _, _, h, q => by
    have e : _ = [] := h
    subst e
    exact q
  | d :: ds, _, _, _, h, q => by
    obtain ⟨x, r, rfl, h1, h2⟩ := h
    exact ⟨x, _, rfl, h1, RepL.append h2 q⟩
theorem RepL.take {K : PySem.W.Frag} {F : Hp} : ∀ {ds : List D} {xs : List V} (n : Nat), RepL K F ds xs → RepL K F (ds.take n) (xs.take n)
  | [], _, n, h => by
    have e : _ = [] := h
    subst e
    simp [RepL]
  | d :: ds, _, 0, h => by simp [RepL]
  | d :: ds, _, n + 1, h => by
    obtain ⟨x, r, rfl, h1, h2⟩ := h
    exact ⟨x, _, rfl, h1, RepL.take n h2⟩
theorem RepL.drop {K : PySem.W.Frag} {F : Hp} : ∀ {ds : List D} {xs : List V} (n : Nat), RepL K F ds xs → RepL K F (ds.drop n) (xs.drop n)
  | [], _, n, h => by
    have e : _ = [] := h
    subst e
    simp [RepL]
  | d :: ds, _, 0, h => h
  | d :: ds, _, n + 1, h => by
    obtain ⟨x, r, rfl, h1, h2⟩ := h
    exact RepL.drop n h2
theorem RepL.set {K : PySem.W.Frag} {F : Hp} {d : D} {v : V} (q : Rep K F d v) : ∀ {ds : List D} {xs : List V} (n : Nat), RepL K F ds xs → RepL K F (ds.set n d) (xs.set n v)
  | [], _, n, h => by
    have e : _ = [] := h
    subst e
    simp [RepL]
  | d :: ds, _, 0, h => by
    obtain ⟨x, r, rfl, h1, h2⟩ := h
    exact ⟨_, _, rfl, q, h2⟩
  | d :: ds, _, n + 1, h => by
    obtain ⟨x, r, rfl, h1, h2⟩ := h
    exact ⟨x, _, rfl, h1, RepL.set q n h2⟩
theorem RepL.eraseIdx {K : PySem.W.Frag} {F : Hp} : ∀ {ds : List D} {xs : List V} (n : Nat), RepL K F ds xs → RepL K F (ds.eraseIdx n) (xs.eraseIdx n)
  | [], _, n, h => by
    have e : _ = [] := h
    subst e
    simp [RepL]
  | d :: ds, _, 0, h => by
    obtain ⟨x, r, rfl, h1, h2⟩ := h
    exact h2
  | d :: ds, _, n + 1, h => by
    obtain ⟨x, r, rfl, h1, h2⟩ := h
    exact ⟨x, _, rfl, h1, RepL.eraseIdx n h2⟩
theorem RepL.reverse {K : PySem.W.Frag} {F : Hp} : ∀ {ds : List D} {xs : List V}, RepL K F ds xs → RepL K F ds.reverse xs.reverse
  | [], _, h => by
    have e : _ = [] := h
    subst e
    simp [RepL]
  | d :: ds, _, h => by
    obtain ⟨x, r, rfl, h1, h2⟩ := h
    simp only [List.reverse_cons]
    exact RepL.append (RepL.reverse h2) ⟨x, [], rfl, h1, rfl⟩
theorem RepL.ints {K : PySem.W.Frag} {F : Hp} : ∀ (ns : List Int), RepL K F (ns.map D.int) (ns.map V.int)
  | [] => rfl
  | n :: ns => ⟨_, _, rfl, rfl, RepL.ints ns⟩
theorem RepL.of_ints {K : PySem.W.Frag} {F : Hp} : ∀ {ns : List Int} {xs : List V}, RepL K F (ns.map D.int) xs → xs = ns.map V.int
  | [], _, h => h
  | n :: ns, _, h => by
    obtain ⟨x, r, rfl, h1, h2⟩ := h
    have e : x = .int n := h1
    rw [e, RepL.of_ints h2]
    rfl
theorem RepL.of_bools {K : PySem.W.Frag} {F : Hp} : ∀ {ns : List Bool} {xs : List V}, RepL K F (ns.map D.bl) xs → xs = ns.map V.bl
  | [], _, h => h
  | n :: ns, _, h => by
    obtain ⟨x, r, rfl, h1, h2⟩ := h
    have e : x = .bl n := h1
    rw [e, RepL.of_bools h2]
    rfl

/-- what can be read off the heap H now, its parts within F -/
def Vw (K : PySem.W.Frag) (F H : Hp) : D → V → Prop
  | .lst ds, v => ∃ a xs, v = .ref a ∧ H a = some (.lst xs) ∧ RepL K F ds xs
  | .dic ks vs, v => ∃ (a : Addr) (kvs : List (Key × V)), v = .ref a ∧ H a = some (.dK kvs) ∧ kvs.map (·.1) = ks ∧ RepL K F vs (kvs.map (·.2))
  | d, v => Rep K F d v
theorem Rep.vw {K : PySem.W.Frag} {F H : Hp} {d : D} {v : V} (e : Same F H) (h : Rep K F d v) : Vw K F H d v := by
  cases d with
  | lst ds =>
    obtain ⟨a, xs, e1, h1, h2⟩ := h
    exact ⟨a, xs, e1, e _ _ h1, h2⟩
  | dic ks vs =>
    obtain ⟨a, xs, e1, h1, h2⟩ := h
    exact ⟨a, xs, e1, e _ _ h1, h2⟩
  | _ => exact h
/-- an object of the body's own: a list or dict, tracked in H, its parts within F -/
def Own (K : PySem.W.Frag) (F H : Hp) (a : Addr) : D → Prop
  | .lst ds => ∃ xs, H a = some (.lst xs) ∧ RepL K F ds xs
  | .dic ks vs => ∃ kvs : List (Key × V), H a = some (.dK kvs) ∧ kvs.map (·.1) = ks ∧ RepL K F vs (kvs.map (·.2))
  | _ => False
theorem Own.vw {K : PySem.W.Frag} {F H : Hp} {a : Addr} {d : D} (h : Own K F H a d) : Vw K F H d (.ref a) := by
  cases d with
  | lst ds =>
    obtain ⟨xs, h1, h2⟩ := h
    exact ⟨a, xs, rfl, h1, h2⟩
  | dic ks vs =>
    obtain ⟨xs, h1, h2⟩ := h
    exact ⟨a, xs, rfl, h1, h2⟩
  | _ => exact h.elim
theorem Own.there {K : PySem.W.Frag} {F H : Hp} {a : Addr} {d : D} (h : Own K F H a d) : ∃ o, H a = some o ∧ ∀ xs o', o ≠ .tup xs ∧ o ≠ .frz o' (.tup xs) := by
  cases d with
  | lst ds =>
    obtain ⟨xs, h1, h2⟩ := h
    exact ⟨_, h1, fun _ _ => ⟨(nomatch ·), (nomatch ·)⟩⟩
  | dic ks vs =>
    obtain ⟨xs, h1, h2⟩ := h
    exact ⟨_, h1, fun _ _ => ⟨(nomatch ·), (nomatch ·)⟩⟩
  | _ => exact h.elim
theorem Own.mono {K : PySem.W.Frag} {F F' H H' : Hp} {a : Addr} {d : D} (e : Same F F') (he : ∀ o, H a = some o → H' a = some o) (h : Own K F H a d) : Own K F' H' a d := by
  cases d with
  | lst ds =>
    obtain ⟨xs, h1, h2⟩ := h
    exact ⟨xs, he _ h1, RepL.mono e _ _ h2⟩
  | dic ks vs =>
    obtain ⟨xs, h1, h2, h3⟩ := h
    exact ⟨xs, he _ h1, h2, RepL.mono e _ _ h3⟩
  | _ => exact h.elim
theorem same_upd {H : Hp} {p : Addr} {o : HO} (h : H p = none) : Same H (upd H p o) := fun b x e => by
  rw [upd_ne (ne_of_none e h)]
  exact e
/-- the object is no longer changed: it is one of F -/
theorem Own.freeze {K : PySem.W.Frag} {F H : Hp} {a : Addr} {d : D} (hn : F a = none) (h : Own K F H a d) : ∃ o, H a = some o ∧ Rep K (upd F a o) d (.ref a) := by
  cases d with
  | lst ds =>
    obtain ⟨xs, h1, h2⟩ := h
    exact ⟨_, h1, a, xs, rfl, upd_same, RepL.mono (same_upd hn) _ _ h2⟩
  | dic ks vs =>
    obtain ⟨xs, h1, h2, h3⟩ := h
    exact ⟨_, h1, a, xs, rfl, upd_same, h2, RepL.mono (same_upd hn) _ _ h3⟩
  | _ => exact h.elim

/-! ### slots -/
inductive Slot where
  | no | fz (d : D) | ow (d : D) | pm (d : D)
  deriving Inhabited
abbrev En := List Slot
def Slot.own : Slot → Option D
  | .ow d => some d
  | .pm d => some d
  | _ => none
/-- a is the object of an own slot -/
def Owned (ρ : En) (σ : L2.St) (a : Addr) : Prop := ∃ (i : Nat) (s : Slot) (d : D), ρ[i]? = some s ∧ s.own = some d ∧ σ[i]? = some (some (.ref a))

structure Rel (K : PySem.W.Frag) (ρ : En) (σ : L2.St) (F H : Hp) : Prop where
  fh : Same F H
  len : σ.length = ρ.length
  fz : ∀ (i : Nat) (d : D), ρ[i]? = some (.fz d) → ∃ v, σ[i]? = some (some v) ∧ Rep K F d v
  ow : ∀ (i : Nat) (s : Slot) (d : D), ρ[i]? = some s → s.own = some d → ∃ a, σ[i]? = some (some (.ref a)) ∧ F a = none ∧ Own K F H a d
  dist : ∀ (i j : Nat) (s t : Slot) (d e : D) (a : Addr), ρ[i]? = some s → s.own = some d → ρ[j]? = some t → t.own = some e → σ[i]? = some (some (.ref a)) → σ[j]? = some (some (.ref a)) → i = j

/-- a step: what it leaves -/
structure Stp (ρ : En) (σ : L2.St) (F H : Hp) (ρ' : En) (σ' : L2.St) (F' H' : Hp) : Prop where
  ff : Same F F'
  kp : ∀ a o, H a = some o → F a = none → ¬ Owned ρ σ a → H' a = some o ∧ F' a = none
  th : ∀ a, H' a = none → H a = none
  ow : ∀ (i : Nat) (d : D) (a : Addr), ρ'[i]? = some (.ow d) → σ'[i]? = some (some (.ref a)) → (∃ (j : Nat) (e : D), ρ[j]? = some (.ow e) ∧ σ[j]? = some (some (.ref a))) ∨ H a = none
  pm : ∀ (i : Nat) (d : D), ρ'[i]? = some (.pm d) → σ'[i]? = σ[i]? ∧ ∃ e : D, ρ[i]? = some (.pm e)

theorem Stp.owned {ρ ρ' : En} {σ σ' : L2.St} {F F' H H' : Hp} (s : Stp ρ σ F H ρ' σ' F' H') {a : Addr} (h : Owned ρ' σ' a) : Owned ρ σ a ∨ H a = none := by
  obtain ⟨i, t, d, h1, h2, h3⟩ := h
  cases t with
  | no => cases h2
  | fz d => cases h2
  | ow d =>
    rcases s.ow i d a h1 h3 with ⟨j, e, q1, q2⟩ | q
    · exact .inl ⟨j, _, e, q1, rfl, q2⟩
    · exact .inr q
  | pm d =>
    obtain ⟨q1, e, q2⟩ := s.pm i d h1
    exact .inl ⟨i, _, e, q2, rfl, by rw [← q1]; exact h3⟩
theorem Stp.refl {ρ : En} {σ : L2.St} {F H : Hp} : Stp ρ σ F H ρ σ F H :=
  ⟨Same.refl _, fun _ _ h q _ => ⟨h, q⟩, fun _ h => h, fun i d a h q => .inl ⟨i, d, h, q⟩, fun i d h => ⟨rfl, d, h⟩⟩
theorem Stp.trans {ρ ρ1 ρ2 : En} {σ σ1 σ2 : L2.St} {F F1 F2 H H1 H2 : Hp} (x : Stp ρ σ F H ρ1 σ1 F1 H1) (y : Stp ρ1 σ1 F1 H1 ρ2 σ2 F2 H2) : Stp ρ σ F H ρ2 σ2 F2 H2 where
  ff := x.ff.trans y.ff
  kp := fun a o h q n => by
    obtain ⟨h1, q1⟩ := x.kp a o h q n
    refine y.kp a o h1 q1 fun w => ?_
    rcases x.owned w with z | z
    · exact n z
    · rw [h] at z; cases z
  th := fun a h => x.th a (y.th a h)
  ow := fun i d a h q => by
    rcases y.ow i d a h q with ⟨j, e, q1, q2⟩ | z
    · exact x.ow j e a q1 q2
    · exact .inr (x.th a z)
  pm := fun i d h => by
    obtain ⟨q1, e, q2⟩ := y.pm i d h
    obtain ⟨q3, f, q4⟩ := x.pm i e q2
    exact ⟨q1.trans q3, f, q4⟩

/-- a pure extension of the heap: new objects alone -/
structure Ext (F H F' H' : Hp) : Prop where
  ff : Same F F'
  hh : Same H H'
  fh : Same F' H'
  nw : ∀ a, F a = none → H a ≠ none → F' a = none
theorem Ext.refl {F H : Hp} (h : Same F H) : Ext F H F H := ⟨Same.refl _, Same.refl _, h, fun _ h _ => h⟩
theorem Ext.trans {F H F1 H1 F2 H2 : Hp} (x : Ext F H F1 H1) (y : Ext F1 H1 F2 H2) : Ext F H F2 H2 :=
  ⟨x.ff.trans y.ff, x.hh.trans y.hh, y.fh, fun a h q => y.nw a (x.nw a h q) fun z => by
    cases e : H a with
    | none => exact q e
    | some o => rw [x.hh a o e] at z; cases z⟩
section
variable {K : PySem.W.Frag} {ρ ρ' : En} {σ σ' : L2.St} {F F' H H' : Hp}
theorem none_of_none {H H' : Hp} {a : Addr} (e : Same H H') (h : H' a = none) : H a = none := e.free h
theorem Ext.stp (x : Ext F H F' H') : Stp ρ σ F H ρ σ F' H' :=
  ⟨x.ff, fun a o h q n => ⟨x.hh a o h, x.nw a q (by rw [h]; intro z; cases z)⟩, fun a h => x.hh.free h, fun i d a h q => .inl ⟨i, d, h, q⟩, fun i d h => ⟨rfl, d, h⟩⟩
theorem Rel.ext (r : Rel K ρ σ F H) (x : Ext F H F' H') : Rel K ρ σ F' H' where
  fh := x.fh
  len := r.len
  fz := fun i d h => by
    obtain ⟨v, e, q⟩ := r.fz i d h
    exact ⟨v, e, q.mono x.ff⟩
  ow := fun i s d h q => by
    obtain ⟨a, e, n, o⟩ := r.ow i s d h q
    obtain ⟨u, hu, _⟩ := o.there
    exact ⟨a, e, x.nw a n (by rw [hu]; intro z; cases z), o.mono x.ff fun u hu => x.hh a u hu⟩
  dist := r.dist
theorem Ext.fresh_fz {p : Addr} {o : HO} (fh : Same F H) (hp : H p = none) : Ext F H (upd F p o) (upd H p o) := by
  have fp : F p = none := fh.free hp
  refine ⟨same_upd fp, same_upd hp, fun b u e => ?_, fun a h q => ?_⟩
  · by_cases hb : b = p
    · subst hb
      rw [upd_same] at e ⊢
      exact e
    · rw [upd_ne hb] at e ⊢
      exact fh b u e
  · have : a ≠ p := fun z => by subst z; exact q hp
    rw [upd_ne this]
    exact h
theorem Ext.fresh_ow {p : Addr} {o : HO} (fh : Same F H) (hp : H p = none) : Ext F H F (upd H p o) := by
  refine ⟨Same.refl _, same_upd hp, fh.trans (same_upd hp), fun a h q => h⟩
end

/-! ### results -/
inductive Res where
  | fz (d : D) | ow (d : D) | br (i : Nat)
  deriving Inhabited
/-- behind an expression that began at heap H -/
def RR (K : PySem.W.Frag) (H : Hp) (ρ' : En) (σ : L2.St) (F' H' : Hp) : Res → V → Prop
  | .fz d, v => Rep K F' d v
  | .ow d, v => ∃ a, v = .ref a ∧ F' a = none ∧ H a = none ∧ ¬ Owned ρ' σ a ∧ Own K F' H' a d
  | .br i, v => σ[i]? = some (some v)
abbrev DE := En → Option (Res × En)
def TD (K : PySem.W.Frag) (f : DE) : TE := fun σ H Q => ∃ (ρ : En) (F : Hp) (r : Res) (ρ' : En), Rel K ρ σ F H ∧ f ρ = some (r, ρ') ∧
  ∀ (v : V) (F' H' : Hp), Rel K ρ' σ F' H' → Stp ρ σ F H ρ' σ F' H' → RR K H ρ' σ F' H' r v → Q v H'
abbrev DT := En → Option (Bool × En)
def TTD (K : PySem.W.Frag) (f : DT) : TT := fun σ H Q => ∃ (ρ : En) (F : Hp) (b : Bool) (ρ' : En), Rel K ρ σ F H ∧ f ρ = some (b, ρ') ∧
  ∀ (F' H' : Hp), Rel K ρ' σ F' H' → Stp ρ σ F H ρ' σ F' H' → Q b H'
inductive Out where
  | nx | bk | ct | rt (r : Res)
  deriving Inhabited
/-- what is handed back by a statement that began at ρ, σ, H -/
def RT (K : PySem.W.Frag) (ρ : En) (σ : L2.St) (H : Hp) (ρ' : En) (σ' : L2.St) (F' H' : Hp) : Res → V → Prop
  | .fz d, v => Rep K F' d v
  | .ow d, v => ∃ a, v = .ref a ∧ F' a = none ∧ ((∃ (j : Nat) (e : D), ρ[j]? = some (.ow e) ∧ σ[j]? = some (some (.ref a))) ∨ H a = none) ∧ Own K F' H' a d
  | .br _, _ => False
abbrev DS := En → Option (Out × En)
def SE (K : PySem.W.Frag) (Dn : Ends) (ρ : En) (σ : L2.St) (H : Hp) (ρ' : En) (σ' : L2.St) (F' H' : Hp) : Out → Prop
  | .nx => Dn.nx σ' H'
  | .bk => Dn.bk σ' H'
  | .ct => Dn.ct σ' H'
  | .rt r => ∀ v, RT K ρ σ H ρ' σ' F' H' r v → Dn.rt v H'
def TSD (K : PySem.W.Frag) (f : DS) : TS := fun Dn σ H => ∃ (ρ : En) (F : Hp) (o : Out) (ρ' : En), Rel K ρ σ F H ∧ f ρ = some (o, ρ') ∧
  ∀ (σ' : L2.St) (F' H' : Hp), Rel K ρ' σ' F' H' → Stp ρ σ F H ρ' σ' F' H' → SE K Dn ρ σ H ρ' σ' F' H' o
/-- slots beside sl stand as they were -/
def Only (sl : List Nat) (σ σ' : L2.St) : Prop := σ'.length = σ.length ∧ ∀ i, i ∉ sl → σ'[i]? = σ[i]?
abbrev DTg := D → En → Option En
def TGD (K : PySem.W.Frag) (sl : List Nat) (f : DTg) : TG := fun v σ H Q => ∃ (ρ : En) (F : Hp) (d : D) (ρ' : En), Rel K ρ σ F H ∧ Rep K F d v ∧ f d ρ = some ρ' ∧
  ∀ (σ' : L2.St) (F' H' : Hp), Rel K ρ' σ' F' H' → Stp ρ σ F H ρ' σ' F' H' → Only sl σ σ' → Q σ' H'
abbrev DTgs := List D → En → Option En
def TGDs (K : PySem.W.Frag) (sl : List Nat) (f : DTgs) : TGs := fun vs σ H Q => ∃ (ρ : En) (F : Hp) (ds : List D) (ρ' : En), Rel K ρ σ F H ∧ RepL K F ds vs ∧ f ds ρ = some ρ' ∧
  ∀ (σ' : L2.St) (F' H' : Hp), Rel K ρ' σ' F' H' → Stp ρ σ F H ρ' σ' F' H' → Only sl σ σ' → Q σ' H'
/-- what is walked: an iterator that gives ds while F stands -/
structure WalkD (K : PySem.W.Frag) (J : It) (ds : List D) (F : Hp) : Prop where
  goes : ∀ i H, i < ds.length → Same F H → J.go i H
  stops : ∀ H, Same F H → J.stop ds.length H
  yields : ∀ i d H x H' F1, ds[i]? = some d → Same F F1 → Same F1 H → J.yld i H x H' → ∃ F1', Ext F1 H F1' H' ∧ Rep K F1' d x
abbrev DI := En → Option (List D × En)
def TID (K : PySem.W.Frag) (f : DI) : TI := fun σ H R => ∃ (ρ : En) (F : Hp) (ds : List D) (ρ' : En), Rel K ρ σ F H ∧ f ρ = some (ds, ρ') ∧
  ∀ (J : It) (F' H' : Hp), Rel K ρ' σ F' H' → Stp ρ σ F H ρ' σ F' H' → WalkD K J ds F' → R J H'

/-! ### consequence -/
section
variable {X : Cx}
theorem pe_imp {e : Expr} {t t' : TE} (h : PE X e t) (w : ∀ σ H Q, t' σ H Q → t σ H Q) : PE X e t' := ⟨fun pins s σ H Q I q => h.run pins s σ H Q I (w _ _ _ q)⟩
theorem pt_imp {e : Expr} {t t' : TT} (h : PT X e t) (w : ∀ σ H Q, t' σ H Q → t σ H Q) : PT X e t' := ⟨fun pins s σ H Q I q => h.run pins s σ H Q I (w _ _ _ q)⟩
theorem pw_imp {e : Expr} {t t' : TT} (h : PW X e t) (w : ∀ σ H Q, t' σ H Q → t σ H Q) : PW X e t' := ⟨fun wh pins s σ H Q I q => h.run wh pins s σ H Q I (w _ _ _ q)⟩
theorem ps_imp {e : Stmt} {t t' : TS} (h : PS X e t) (w : ∀ σ H Q, t' σ H Q → t σ H Q) : PS X e t' := ⟨fun pins s σ H Q I q => h.run pins s σ H Q I (w _ _ _ q)⟩
theorem pss_imp {e : List Stmt} {t t' : TS} (h : PSs X e t) (w : ∀ D σ H, t' D σ H → t D σ H) : PSs X e t' := ⟨fun pins s σ H Q I q => h.run pins s σ H Q I (w _ _ _ q)⟩
theorem pg_imp {e : Expr} {t t' : TG} (h : PG X e t) (w : ∀ v σ H Q, t' v σ H Q → t v σ H Q) : PG X e t' := ⟨fun pins s σ H v u Q I r q => h.run pins s σ H v u Q I r (w _ _ _ _ q)⟩
theorem pgs_imp {e : List Expr} {t t' : TGs} (h : PGs X e t) (w : ∀ v σ H Q, t' v σ H Q → t v σ H Q) : PGs X e t' := ⟨fun pins s σ H v u Q I r q => h.run pins s σ H v u Q I r (w _ _ _ _ q)⟩
theorem pi_imp {tg e : Expr} {t t' : TI} (h : PI X tg e t) (w : ∀ σ H Q, t' σ H Q → t σ H Q) : PI X tg e t' := ⟨fun pins s σ H Q I q => h.run pins s σ H Q I (w _ _ _ q)⟩
theorem pa_imp {e : List Expr} {t t' : TA} (h : PA X e t) (w : ∀ σ H Q, t' σ H Q → t σ H Q) : PA X e t' := ⟨fun pos pins s σ H Q I q => h.run pos pins s σ H Q I (w _ _ _ q)⟩
theorem opR_imp {f : Value → Value → Sem Value} {r r' : R2} (h : OpR X f r) (w : ∀ x y H Q, r' x y H Q → r x y H Q) : OpR X f r' := fun pins s σ H x y v u Q I rx ry q => h pins s σ H x y v u Q I rx ry (w _ _ _ _ q)
theorem callR_imp {f : Value} {r r' : List V → Hp → VK → Prop} (h : CallR X f r) (w : ∀ x H Q, r' x H Q → r x H Q) : CallR X f r' := fun pins s σ H x v Q I rx q => h pins s σ H x v Q I rx (w _ _ _ q)
end
end Pu

/-! Pu2: expressions. -/
namespace Pu
open PySem PySem.Spec PyProof.Rows L2

/-- what a result holds now -/
def slotC : Option Slot → Option D
  | some (.fz d) => some d
  | some (.ow d) => some d
  | some (.pm d) => some d
  | _ => none
def cont : Res → En → Option D
  | .fz d, _ => some d
  | .ow d, _ => some d
  | .br i, ρ => slotC ρ[i]?
def conts : List Res → En → Option (List D)
  | [], _ => some []
  | r :: rs, ρ => (cont r ρ).bind fun d => (conts rs ρ).bind fun ds => some (d :: ds)
def RRL (K : PySem.W.Frag) (H0 : Hp) (ρ : En) (σ : L2.St) (F H : Hp) : List Res → List V → Prop
  | [], vs => vs = []
  | r :: rs, vs => ∃ v w, vs = v :: w ∧ RR K H0 ρ σ F H r v ∧ RRL K H0 ρ σ F H rs w ∧ ∀ d, r = .ow d → ∀ (k : Nat) (d' : D), rs[k]? = some (.ow d') → w[k]? ≠ some v
def VwL (K : PySem.W.Frag) (F H : Hp) : List D → List V → Prop
  | [], vs => vs = []
  | d :: ds, vs => ∃ v w, vs = v :: w ∧ Vw K F H d v ∧ VwL K F H ds w
section
variable {K : PySem.W.Frag} {ρ ρ' : En} {σ σ' : L2.St} {F F' H H' H0 H1 : Hp} {r : Res} {v : V}
theorem RR.earlier (q : RR K H ρ σ F' H' r v) (t : ∀ a, H a = none → H0 a = none) : RR K H0 ρ σ F' H' r v := by
  cases r with
  | fz d => exact q
  | ow d =>
    obtain ⟨a', q1, q2, q3, q4, q5⟩ := q
    exact ⟨a', q1, q2, t _ q3, q4, q5⟩
  | br i => exact q
theorem RRL.earlier (t : ∀ a, H a = none → H0 a = none) : ∀ {rs : List Res} {vs : List V}, RRL K H ρ σ F' H' rs vs → RRL K H0 ρ σ F' H' rs vs
  | [], _, h => h
  | r :: rs, _, h => by
    obtain ⟨v, w, rfl, h1, h2, h3⟩ := h
    exact ⟨v, w, rfl, h1.earlier t, RRL.earlier t h2, h3⟩
theorem RR.step (h : RR K H0 ρ σ F H r v) (s : Stp ρ σ F H ρ' σ F' H') : RR K H0 ρ' σ F' H' r v := by
  cases r with
  | fz d => exact Rep.mono s.ff _ _ h
  | ow d =>
    obtain ⟨a, e, n, f, o, w⟩ := h
    obtain ⟨u, hu, _⟩ := w.there
    obtain ⟨h1, h2⟩ := s.kp a u hu n o
    refine ⟨a, e, h2, f, fun q => ?_, w.mono s.ff fun u' hu' => by rw [hu] at hu'; cases hu'; exact h1⟩
    rcases s.owned q with q | q
    · exact o q
    · rw [hu] at q; cases q
  | br i => exact h
theorem RRL.step : ∀ {rs : List Res} {vs : List V}, RRL K H0 ρ σ F H rs vs → Stp ρ σ F H ρ' σ F' H' → RRL K H0 ρ' σ F' H' rs vs
  | [], _, h, _ => h
  | r :: rs, _, h, s => by
    obtain ⟨v, w, rfl, h1, h2, h3⟩ := h
    exact ⟨v, w, rfl, h1.step s, RRL.step h2 s, h3⟩
theorem RRL.ow : ∀ {rs : List Res} {vs : List V} {k : Nat} {d : D} {v : V}, RRL K H0 ρ σ F H rs vs → rs[k]? = some (.ow d) → vs[k]? = some v → ∃ a, v = .ref a ∧ H0 a = none
  | [], _, _, _, _, _, e, _ => by simp at e
  | r :: rs, _, 0, d, v, h, e, q => by
    obtain ⟨v', w, rfl, h1, h2, _⟩ := h
    simp at e q
    subst e q
    obtain ⟨a, q1, q2, q3, q4⟩ := h1
    exact ⟨a, q1, q3⟩
  | r :: rs, _, k + 1, d, v, h, e, q => by
    obtain ⟨v', w, rfl, h1, h2, _⟩ := h
    exact RRL.ow (k := k) h2 (by simpa using e) (by simpa using q)
theorem Rel.slot (R : Rel K ρ σ F H) {i : Nat} {d : D} (h : σ[i]? = some (some v)) (e : slotC ρ[i]? = some d) : Rep K F d v ∨ ∃ a s, v = .ref a ∧ ρ[i]? = some s ∧ s.own = some d ∧ F a = none ∧ Own K F H a d := by
  cases hs : ρ[i]? with
  | none => rw [hs] at e; cases e
  | some s =>
    rw [hs] at e
    cases s with
    | no => cases e
    | fz d' =>
      cases e
      obtain ⟨u, h1, h2⟩ := R.fz i _ hs
      rw [h] at h1
      cases h1
      exact .inl h2
    | ow d' =>
      cases e
      obtain ⟨a, h1, h2, h3⟩ := R.ow i _ _ hs rfl
      rw [h] at h1
      cases h1
      exact .inr ⟨a, _, rfl, rfl, rfl, h2, h3⟩
    | pm d' =>
      cases e
      obtain ⟨a, h1, h2, h3⟩ := R.ow i _ _ hs rfl
      rw [h] at h1
      cases h1
      exact .inr ⟨a, _, rfl, rfl, rfl, h2, h3⟩
theorem RR.vw (R : Rel K ρ σ F H) (h : RR K H0 ρ σ F H r v) {d : D} (e : cont r ρ = some d) : Vw K F H d v := by
  cases r with
  | fz d =>
    cases e
    exact Rep.vw R.fh h
  | ow d =>
    cases e
    obtain ⟨a, rfl, n, f, o, w⟩ := h
    exact w.vw
  | br i =>
    rcases R.slot h e with q | ⟨a, s, rfl, _, _, _, w⟩
    · exact Rep.vw R.fh q
    · exact w.vw
theorem RRL.vw (R : Rel K ρ σ F H) : ∀ {rs : List Res} {vs : List V} {ds : List D}, RRL K H0 ρ σ F H rs vs → conts rs ρ = some ds → VwL K F H ds vs
  | [], _, _, h, e => by
    cases e
    exact h
  | r :: rs, _, ds, h, e => by
    obtain ⟨v, w, rfl, h1, h2, _⟩ := h
    unfold conts at e
    obtain ⟨d, e1, e⟩ := Option.bind_eq_some_iff.mp e
    obtain ⟨ds', e2, e⟩ := Option.bind_eq_some_iff.mp e
    cases e
    exact ⟨v, w, rfl, h1.vw R e1, RRL.vw R h2 e2⟩
end

/-- what a pure operation gives -/
def R1 (K : PySem.W.Frag) (H F' H' : Hp) : Res → V → Prop
  | .fz d, v => Rep K F' d v
  | .ow d, v => ∃ a, v = .ref a ∧ F' a = none ∧ H a = none ∧ Own K F' H' a d
  | .br _, _ => False
def PR (K : PySem.W.Frag) (F H : Hp) (r : Res) (Q : VK) : Prop := ∀ (v : V) (F' H' : Hp), Ext F H F' H' → R1 K H F' H' r v → Q v H'
theorem R1.rr {K : PySem.W.Frag} {ρ : En} {σ : L2.St} {F F' H H' H0 : Hp} {r : Res} {v : V} (R : Rel K ρ σ F H) (h : R1 K H F' H' r v) (t : ∀ a, H a = none → H0 a = none) : RR K H0 ρ σ F' H' r v := by
  cases r with
  | fz d => exact h
  | ow d =>
    obtain ⟨a, e, n, o, w⟩ := h
    refine ⟨a, e, n, t a o, fun ⟨i, s, d', q1, q2, q3⟩ => ?_, w⟩
    obtain ⟨b, h1, h2, h3⟩ := R.ow i s d' q1 q2
    rw [q3] at h1
    cases h1
    obtain ⟨u, hu, _⟩ := h3.there
    rw [o] at hu
    cases hu
  | br i => exact h.elim
/-- scalar results -/
theorem PR.sc {K : PySem.W.Frag} {F H : Hp} {d : D} {v : V} {Q : VK} (hd : ∀ u F', Rep K F' d u → u = v) (fh : Same F H) (hv : Rep K F d v) (h : PR K F H (.fz d) Q) : Q v H := h v F H (Ext.refl fh) hv
theorem PR.at {K : PySem.W.Frag} {F H : Hp} {d : D} {v : V} {Q : VK} (fh : Same F H) (hv : Rep K F d v) (h : PR K F H (.fz d) Q) : Q v H := h v F H (Ext.refl fh) hv
theorem PR.any {K : PySem.W.Frag} {F H : Hp} {d : D} {v : V} {Q : VK} (h : PR K F H (.fz d) Q) (fh : Same F H) (hv : Rep K F d v) : Q v H := h v F H (Ext.refl fh) hv
theorem PR.int {K : PySem.W.Frag} {F H : Hp} {i : Int} {Q : VK} (h : PR K F H (.fz (.int i)) Q) (fh : Same F H) : Q (.int i) H := h.any fh rfl
theorem PR.bl {K : PySem.W.Frag} {F H : Hp} {i : Bool} {Q : VK} (h : PR K F H (.fz (.bl i)) Q) (fh : Same F H) : Q (.bl i) H := h.any fh rfl
theorem PR.str {K : PySem.W.Frag} {F H : Hp} {i : Str} {Q : VK} (h : PR K F H (.fz (.str i)) Q) (fh : Same F H) : Q (.str i) H := h.any fh rfl
theorem PR.non {K : PySem.W.Frag} {F H : Hp} {Q : VK} (h : PR K F H (.fz .non) Q) (fh : Same F H) : Q .non H := h.any fh rfl
theorem PR.tup {K : PySem.W.Frag} {F H : Hp} {ds : List D} {xs : List V} {Q : VK} (fh : Same F H) (hv : RepL K F ds xs) (h : PR K F H (.fz (.tup ds)) Q) {p : Addr} (hp : H p = none) : Q (.ref p) (upd H p (.tup xs)) :=
  h _ _ _ (Ext.fresh_fz fh hp) ⟨p, xs, rfl, .inl (.inl upd_same), RepL.mono (same_upd (fh.free hp)) _ _ hv⟩
theorem PR.lst {K : PySem.W.Frag} {F H : Hp} {ds : List D} {xs : List V} {Q : VK} (fh : Same F H) (hv : RepL K F ds xs) (h : PR K F H (.ow (.lst ds)) Q) {p : Addr} (hp : H p = none) : Q (.ref p) (upd H p (.lst xs)) :=
  h _ _ _ (Ext.fresh_ow fh hp) ⟨p, rfl, fh.free hp, hp, xs, upd_same, hv⟩
theorem PR.dic {K : PySem.W.Frag} {F H : Hp} {ks : List Key} {ds : List D} {kvs : List (Key × V)} {Q : VK} (fh : Same F H) (hk : kvs.map (·.1) = ks) (hv : RepL K F ds (kvs.map (·.2))) (h : PR K F H (.ow (.dic ks ds)) Q) {p : Addr} (hp : H p = none) : Q (.ref p) (upd H p (.dK kvs)) :=
  h _ _ _ (Ext.fresh_ow fh hp) ⟨p, rfl, fh.free hp, hp, kvs, upd_same, hk, hv⟩

/-! ### pure operations by rules -/
def rD1 (K : PySem.W.Frag) (g : D → Option Res) : V → Hp → VK → Prop := fun x H Q => ∃ F da r, Same F H ∧ Vw K F H da x ∧ g da = some r ∧ PR K F H r Q
def rD2 (K : PySem.W.Frag) (g : D → D → Option Res) : R2 := fun x y H Q => ∃ F da db r, Same F H ∧ Vw K F H da x ∧ Vw K F H db y ∧ g da db = some r ∧ PR K F H r Q
def rDn (K : PySem.W.Frag) (g : List D → Option Res) : List V → Hp → VK → Prop := fun xs H Q => ∃ F ds r, Same F H ∧ VwL K F H ds xs ∧ g ds = some r ∧ PR K F H r Q

def nameR (i : Nat) : Option Slot → Option Res
  | some (.fz d) => some (.fz d)
  | some (.ow _) => some (.br i)
  | some (.pm _) => some (.br i)
  | _ => none
def dName (i : Nat) : DE := fun ρ => (nameR i ρ[i]?).bind fun r => some (r, ρ)
def dC (d : D) : DE := fun ρ => some (.fz d, ρ)
def dOp1 (g : D → Option Res) (fa : DE) : DE := fun ρ => (fa ρ).bind fun p => (cont p.1 p.2).bind fun da => (g da).bind fun r => some (r, p.2)
def dOp2 (g : D → D → Option Res) (fa fb : DE) : DE := fun ρ => (fa ρ).bind fun p => (fb p.2).bind fun q => (cont p.1 q.2).bind fun da => (cont q.1 q.2).bind fun db => (g da db).bind fun r => some (r, q.2)
abbrev DA := En → Option (List Res × En)
def dNil : DA := fun ρ => some ([], ρ)
def dCons (fa : DE) (fr : DA) : DA := fun ρ => (fa ρ).bind fun p => (fr p.2).bind fun q => some (p.1 :: q.1, q.2)
def dOpn (g : List D → Option Res) (fa : DA) : DE := fun ρ => (fa ρ).bind fun p => (conts p.1 p.2).bind fun ds => (g ds).bind fun r => some (r, p.2)
def TAD (K : PySem.W.Frag) (f : DA) : TA := fun σ H Q => ∃ (ρ : En) (F : Hp) (rs : List Res) (ρ' : En), Rel K ρ σ F H ∧ f ρ = some (rs, ρ') ∧
  ∀ (vs : List V) (F' H' : Hp), Rel K ρ' σ F' H' → Stp ρ σ F H ρ' σ F' H' → RRL K H ρ' σ F' H' rs vs → Q vs H'

/-- the truth of a result that is a bool -/
def isB : D → Option Bool
  | .bl b => some b
  | _ => none
def dTest (f : DE) : DT := fun ρ => (f ρ).bind fun p => (cont p.1 p.2).bind fun d => (isB d).bind fun b => some (b, p.2)
/-- the truth of any result -/
def truD : D → Bool
  | .non => false
  | .bl b => b
  | .int i => i != 0
  | .str s => s.length != 0
  | .tup xs => !xs.isEmpty
  | .lst xs => !xs.isEmpty
  | .dic ks _ => !ks.isEmpty
  | .scr ns => !ns.isEmpty
def dAndT (a b : DT) : DT := fun ρ => (a ρ).bind fun p => if p.1 = true then b p.2 else some (false, p.2)
def dOrT (a b : DT) : DT := fun ρ => (a ρ).bind fun p => if p.1 = true then some (true, p.2) else b p.2
def dNotT (a : DT) : DT := fun ρ => (a ρ).bind fun p => some (!p.1, p.2)
def dAnd (a b : DE) : DE := fun ρ => (dTest a ρ).bind fun p => if p.1 = true then b p.2 else some (.fz (.bl false), p.2)
def dOr (a b : DE) : DE := fun ρ => (dTest a ρ).bind fun p => if p.1 = true then some (.fz (.bl true), p.2) else b p.2
def dNot (a : DE) : DE := fun ρ => (dTest a ρ).bind fun p => some (.fz (.bl (!p.1)), p.2)
def dIf (c : DT) (a b : DE) : DE := fun ρ => (c ρ).bind fun p => if p.1 = true then a p.2 else b p.2
/-- a < b < c -/
def dChain (g g' : D → D → Option Res) (fa fb fc : DE) : DE := fun ρ => (fa ρ).bind fun p => (fb p.2).bind fun q => (cont p.1 q.2).bind fun da => (cont q.1 q.2).bind fun db => (g da db).bind fun r =>
  match r with
  | .fz (.bl true) => (fc q.2).bind fun t => (cont q.1 t.2).bind fun db => (cont t.1 t.2).bind fun dc => (g' db dc).bind fun r' => some (r', t.2)
  | .fz (.bl false) => some (.fz (.bl false), q.2)
  | _ => none

section
variable {X : Cx} {a b c e : Expr} {es : List Expr} {fa fb fc : DE} {pos : Pos}

theorem td_name (i : Nat) {x : Str} {pos : Pos} (hN : X.N[i]? = some x := by rfl) (hv : Vis X.env.scope x := by first | exact Or.inl rfl | exact Or.inr (Or.inl rfl) | exact Or.inr (Or.inr rfl)) (hd : (x == ("__debug__" : Str)) = false := by decide)
    (hcd : (x == ("__classdict__" : Str)) = false := by decide) : PE X (.Name x pos) (TD X.K (dName i)) := by
  refine pe_imp (pe_var hN hv hd hcd) fun σ H Q ⟨ρ, F, r, ρ', R, e, k⟩ => ?_
  have e : (nameR i ρ[i]?).bind (fun r => some (r, ρ)) = some (r, ρ') := e
  cases hs : ρ[i]? with
  | none => rw [hs] at e; cases e
  | some s =>
    rw [hs] at e
    cases s with
    | no => cases e
    | fz d =>
      cases e
      obtain ⟨v, h1, h2⟩ := R.fz i d hs
      exact ⟨v, h1, k v F H R Stp.refl h2⟩
    | ow d =>
      cases e
      obtain ⟨v, h1, h2, h3⟩ := R.ow i _ d hs rfl
      exact ⟨_, h1, k _ F H R Stp.refl h1⟩
    | pm d =>
      cases e
      obtain ⟨v, h1, h2, h3⟩ := R.ow i _ d hs rfl
      exact ⟨_, h1, k _ F H R Stp.refl h1⟩
theorem td_c {d : D} {v : V} (h : PE X e (tC v)) (hv : ∀ F, Rep X.K F d v) : PE X e (TD X.K (dC d)) :=
  pe_imp h fun σ H Q ⟨ρ, F, r, ρ', R, e, k⟩ => by
    cases e
    exact k v F H R Stp.refl (hv F)
theorem td_int {i j pos} : PE X (.Constant (.int i) j pos) (TD X.K (dC (.int i))) := td_c pe_int fun _ => rfl
theorem td_bl {i j pos} : PE X (.Constant (.bool i) j pos) (TD X.K (dC (.bl i))) := td_c pe_bl fun _ => rfl
theorem td_non {j pos} : PE X (.Constant .none j pos) (TD X.K (dC .non)) := td_c pe_non fun _ => rfl
theorem td_str {i j pos} : PE X (.Constant (.str i) j pos) (TD X.K (dC (.str i))) := td_c pe_str fun _ => rfl
theorem td_globI {x : Str} {i : Int} {t : Tok} {pos : Pos} (hg : Gl X x) (hm : X.mg x = some (.int i t)) (hd : (x == ("__debug__" : Str)) = false := by decide) : PE X (.Name x pos) (TD X.K (dC (.int i))) := td_c (v := .int i) (pe_glob hg hm (show RelV (.int i) (.int i t) from ⟨t, rfl⟩) hd) fun _ => rfl
theorem td_globS {x : Str} {i : Str} {t : Tok} {pos : Pos} (hg : Gl X x) (hm : X.mg x = some (.str i t)) (hd : (x == ("__debug__" : Str)) = false := by decide) : PE X (.Name x pos) (TD X.K (dC (.str i))) := td_c (v := .str i) (pe_glob hg hm (show RelV (.str i) (.str i t) from ⟨t, rfl⟩) hd) fun _ => rfl

theorem td_un1 {t : TE → TE} {g : D → Option Res} (h : PE X e (tUn (rD1 X.K g) (TD X.K fa))) : PE X e (TD X.K (dOp1 g fa)) := by
  refine pe_imp h fun σ H Q ⟨ρ, F, r, ρ', R, e, k⟩ => ?_
  obtain ⟨⟨ra, ρ1⟩, e1, e⟩ := Option.bind_eq_some_iff.mp e
  obtain ⟨da, e2, e⟩ := Option.bind_eq_some_iff.mp e
  obtain ⟨r', e3, e⟩ := Option.bind_eq_some_iff.mp e
  cases e
  refine ⟨ρ, F, ra, ρ1, R, e1, fun x F1 H1 R1' S1 q1 => ?_⟩
  exact ⟨F1, da, _, R1'.fh, q1.vw R1' e2, e3, fun v F2 H2 x2 w => k v F2 H2 (R1'.ext x2) (S1.trans x2.stp) (w.rr R1' S1.th)⟩
theorem td_un {op : UnaryOp} {g : D → Option Res} (ho : UnR X (unaryOp op) (rD1 X.K g)) (ha : PE X a (TD X.K fa)) : PE X (.UnaryOp op a pos) (TD X.K (dOp1 g fa)) := td_un1 (t := id) (pe_un ho ha)
/-- two operands -/
theorem td_two {g : D → D → Option Res} (h : PE X e (tOp (rD2 X.K g) (TD X.K fa) (TD X.K fb))) : PE X e (TD X.K (dOp2 g fa fb)) := by
  refine pe_imp h fun σ H Q ⟨ρ, F, r, ρ', R, e, k⟩ => ?_
  obtain ⟨⟨ra, ρ1⟩, e1, e⟩ := Option.bind_eq_some_iff.mp e
  obtain ⟨⟨rb, ρ2⟩, e2, e⟩ := Option.bind_eq_some_iff.mp e
  obtain ⟨da, e3, e⟩ := Option.bind_eq_some_iff.mp e
  obtain ⟨db, e4, e⟩ := Option.bind_eq_some_iff.mp e
  obtain ⟨r', e5, e⟩ := Option.bind_eq_some_iff.mp e
  cases e
  refine ⟨ρ, F, ra, ρ1, R, e1, fun x F1 H1 R1' S1 q1 => ?_⟩
  refine ⟨ρ1, F1, rb, ρ2, R1', e2, fun y F2 H2 R2' S2 q2 => ?_⟩
  exact ⟨F2, da, db, _, R2'.fh, (q1.step S2).vw R2' e3, q2.vw R2' e4, e5, fun v F3 H3 x3 w => k v F3 H3 (R2'.ext x3) ((S1.trans S2).trans x3.stp) (w.rr R2' (S1.trans S2).th)⟩
theorem td_op {op : Operator} {g : D → D → Option Res} (ho : OpR X (binaryOp op) (rD2 X.K g)) (ha : PE X a (TD X.K fa)) (hb : PE X b (TD X.K fb)) : PE X (.BinOp a op b pos) (TD X.K (dOp2 g fa fb)) := td_two (pe_op ho ha hb)
theorem td_cmp {op : CmpOp} {g : D → D → Option Res} (ho : OpR X (compareOp op) (rD2 X.K g)) (ha : PE X a (TD X.K fa)) (hb : PE X b (TD X.K fb)) (hm : behindInMarks op b = false) : PE X (.Compare a [op] [b] pos) (TD X.K (dOp2 g fa fb)) := td_two (pe_cmpR ho ha hb hm)
theorem td_ix {g : D → D → Option Res} (ho : IxR X (rD2 X.K g)) (ha : PE X a (TD X.K fa)) (hb : PE X b (TD X.K fb)) (hs : PlainIx b) : PE X (.Subscript a b pos) (TD X.K (dOp2 g fa fb)) := td_two (pe_ix ho ha hb hs)

/-! ### tests -/
theorem tt_of {t : TT} (h : PT X e t) (w : ∀ σ H Q, TTD X.K (dTest fa) σ H Q → t σ H Q) : PT X e (TTD X.K (dTest fa)) := pt_imp h w
theorem tt_B {σ : L2.St} {H : Hp} {Q : Bool → Hp → Prop} {t : TE} (w : ∀ Q', TD X.K fa σ H Q' → t σ H Q') (h : TTD X.K (dTest fa) σ H Q) : tB t σ H Q := by
  obtain ⟨ρ, F, b, ρ', R, e, k⟩ := h
  obtain ⟨⟨ra, ρ1⟩, e1, e⟩ := Option.bind_eq_some_iff.mp e
  obtain ⟨da, e2, e⟩ := Option.bind_eq_some_iff.mp e
  obtain ⟨b', e3, e⟩ := Option.bind_eq_some_iff.mp e
  cases e
  refine w _ ⟨ρ, F, ra, ρ1, R, e1, fun x F1 H1 R1' S1 q1 => ?_⟩
  have vv := q1.vw R1' e2
  cases da with
  | bl c =>
    cases e3
    exact ⟨_, vv, k F1 H1 R1' S1⟩
  | _ => cases e3
/-- a value that is a bool, as a test -/
theorem tt_val (h : PE X e (TD X.K fa)) (he : ∀ whole, isTrue e X.env whole = (do let v ← whole; standAt e.pos; holding [v] (truthy v)) := by intro _; rfl) : PT X e (TTD X.K (dTest fa)) :=
  pt_imp (pt_val h he) fun σ H Q h => tt_B (fun _ q => q) h
theorem tt_cmp {op : CmpOp} {g : D → D → Option Res} (ho : OpR X (compareOp op) (rD2 X.K g)) (ha : PE X a (TD X.K fa)) (hb : PE X b (TD X.K fb)) (hm : behindInMarks op b = false) : PT X (.Compare a [op] [b] pos) (TTD X.K (dTest (dOp2 g fa fb))) := by
  refine pt_imp (pt_cmpR ho ha hb hm) fun σ H Q h => ?_
  obtain ⟨ρ, F, bb, ρ', R, e, k⟩ := h
  obtain ⟨⟨rr, ρ9⟩, e0, e⟩ := Option.bind_eq_some_iff.mp e
  obtain ⟨⟨ra, ρ1⟩, e1, e0⟩ := Option.bind_eq_some_iff.mp e0
  obtain ⟨⟨rb, ρ2⟩, e2, e0⟩ := Option.bind_eq_some_iff.mp e0
  obtain ⟨da, e3, e0⟩ := Option.bind_eq_some_iff.mp e0
  obtain ⟨db, e4, e0⟩ := Option.bind_eq_some_iff.mp e0
  obtain ⟨r', e5, e0⟩ := Option.bind_eq_some_iff.mp e0
  cases e0
  obtain ⟨dd, e6, e⟩ := Option.bind_eq_some_iff.mp e
  obtain ⟨b', e7, e⟩ := Option.bind_eq_some_iff.mp e
  cases e
  refine ⟨ρ, F, ra, ρ1, R, e1, fun x F1 H1 R1' S1 q1 => ?_⟩
  refine ⟨ρ1, F1, rb, ρ2, R1', e2, fun y F2 H2 R2' S2 q2 => ?_⟩
  refine ⟨F2, da, db, _, R2'.fh, (q1.step S2).vw R2' e3, q2.vw R2' e4, e5, fun v F3 H3 x3 w => ?_⟩
  have R3 := R2'.ext x3
  have vv := (w.rr (H0 := H2) R2' fun _ h => h).vw R3 e6
  cases dd with
  | bl cc =>
    cases e7
    exact ⟨_, vv, k F3 H3 R3 ((S1.trans S2).trans x3.stp)⟩
  | _ => cases e7
theorem tt_and1 {f : DT} (h : PT X a (TTD X.K f)) : PW X (.BoolOp .And [a] pos) (TTD X.K f) := pw_and1 h
theorem tt_or1 {f : DT} (h : PT X a (TTD X.K f)) : PW X (.BoolOp .Or [a] pos) (TTD X.K f) := pw_or1 h
theorem tt_and {f g : DT} {rest : List Expr} (ha : PT X a (TTD X.K f)) (hb : PW X (.BoolOp .And (b :: rest) pos) (TTD X.K g)) : PW X (.BoolOp .And (a :: b :: rest) pos) (TTD X.K (dAndT f g)) := by
  refine pw_imp (pw_and ha hb) fun σ H Q ⟨ρ, F, r, ρ', R, e, k⟩ => ?_
  obtain ⟨⟨ba, ρ1⟩, e1, e⟩ := Option.bind_eq_some_iff.mp e
  refine ⟨ρ, F, ba, ρ1, R, e1, fun F1 H1 R1' S1 => ?_⟩
  cases ba with
  | true =>
    rw [if_pos rfl] at e ⊢
    exact ⟨ρ1, F1, r, ρ', R1', e, fun F2 H2 R2' S2 => k F2 H2 R2' (S1.trans S2)⟩
  | false =>
    rw [if_neg Bool.false_ne_true] at e ⊢
    cases e
    exact k F1 H1 R1' S1
theorem tt_or {f g : DT} {rest : List Expr} (ha : PT X a (TTD X.K f)) (hb : PW X (.BoolOp .Or (b :: rest) pos) (TTD X.K g)) : PW X (.BoolOp .Or (a :: b :: rest) pos) (TTD X.K (dOrT f g)) := by
  refine pw_imp (pw_or ha hb) fun σ H Q ⟨ρ, F, r, ρ', R, e, k⟩ => ?_
  obtain ⟨⟨ba, ρ1⟩, e1, e⟩ := Option.bind_eq_some_iff.mp e
  refine ⟨ρ, F, ba, ρ1, R, e1, fun F1 H1 R1' S1 => ?_⟩
  cases ba with
  | false =>
    rw [if_neg Bool.false_ne_true] at e ⊢
    exact ⟨ρ1, F1, r, ρ', R1', e, fun F2 H2 R2' S2 => k F2 H2 R2' (S1.trans S2)⟩
  | true =>
    rw [if_pos rfl] at e ⊢
    cases e
    exact k F1 H1 R1' S1
theorem tt_not {f : DT} (ha : PT X a (TTD X.K f)) : PT X (.UnaryOp .Not a pos) (TTD X.K (dNotT f)) := by
  refine pt_imp (pt_not ha) fun σ H Q ⟨ρ, F, r, ρ', R, e, k⟩ => ?_
  obtain ⟨⟨ba, ρ1⟩, e1, e⟩ := Option.bind_eq_some_iff.mp e
  cases e
  exact ⟨ρ, F, ba, ρ1, R, e1, fun F1 H1 R1' S1 => k F1 H1 R1' S1⟩
theorem td_ifE {f : DT} (hc : PT X c (TTD X.K f)) (ha : PE X a (TD X.K fa)) (hb : PE X b (TD X.K fb)) : PE X (.IfExp c a b pos) (TD X.K (dIf f fa fb)) := by
  refine pe_imp (pe_ifExp hc ha hb) fun σ H Q ⟨ρ, F, r, ρ', R, e, k⟩ => ?_
  obtain ⟨⟨ba, ρ1⟩, e1, e⟩ := Option.bind_eq_some_iff.mp e
  refine ⟨ρ, F, ba, ρ1, R, e1, fun F1 H1 R1' S1 => ?_⟩
  have fin : ∀ {fx : DE}, fx ρ1 = some (r, ρ') → TD X.K fx σ H1 Q := fun {fx} e => ⟨ρ1, F1, r, ρ', R1', e, fun v F2 H2 R2' S2 q => k v F2 H2 R2' (S1.trans S2) (by
    cases r with
    | fz d => exact q
    | ow d =>
      obtain ⟨a', q1, q2, q3, q4, q5⟩ := q
      exact ⟨a', q1, q2, S1.th _ q3, q4, q5⟩
    | br i => exact q)⟩
  cases ba with
  | true =>
    rw [if_pos rfl] at e
    exact iteT (fin e)
  | false =>
    rw [if_neg Bool.false_ne_true] at e
    exact iteF (fin e)
theorem td_one {op} (h : PE X a (TD X.K fa)) : PE X (.BoolOp op [a] pos) (TD X.K fa) := pe_one h
theorem td_and {rest : List Expr} (ha : PE X a (TD X.K fa)) (hb : PE X (.BoolOp .And (b :: rest) pos) (TD X.K fb)) : PE X (.BoolOp .And (a :: b :: rest) pos) (TD X.K (dAnd fa fb)) := by
  refine pe_imp (pe_and ha hb) fun σ H Q ⟨ρ, F, r, ρ', R, e, k⟩ => ?_
  obtain ⟨⟨bb, ρ1⟩, e0, e⟩ := Option.bind_eq_some_iff.mp e
  obtain ⟨⟨ra, ρ9⟩, e1, e0⟩ := Option.bind_eq_some_iff.mp e0
  obtain ⟨da, e2, e0⟩ := Option.bind_eq_some_iff.mp e0
  obtain ⟨b', e3, e0⟩ := Option.bind_eq_some_iff.mp e0
  cases e0
  refine ⟨ρ, F, ra, ρ9, R, e1, fun x F1 H1 R1' S1 q1 => ?_⟩
  have vv := q1.vw R1' e2
  cases da with
  | bl cc =>
    cases e3
    refine ⟨_, vv, ?_⟩
    cases bb with
    | true =>
      rw [if_pos rfl] at e ⊢
      exact ⟨ρ9, F1, r, ρ', R1', e, fun v F2 H2 R2' S2 q => k v F2 H2 R2' (S1.trans S2) (q.earlier S1.th)⟩
    | false =>
      rw [if_neg Bool.false_ne_true] at e ⊢
      cases e
      exact k _ F1 H1 R1' S1 rfl
  | _ => cases e3
theorem td_or {rest : List Expr} (ha : PE X a (TD X.K fa)) (hb : PE X (.BoolOp .Or (b :: rest) pos) (TD X.K fb)) : PE X (.BoolOp .Or (a :: b :: rest) pos) (TD X.K (dOr fa fb)) := by
  refine pe_imp (pe_or ha hb) fun σ H Q ⟨ρ, F, r, ρ', R, e, k⟩ => ?_
  obtain ⟨⟨bb, ρ1⟩, e0, e⟩ := Option.bind_eq_some_iff.mp e
  obtain ⟨⟨ra, ρ9⟩, e1, e0⟩ := Option.bind_eq_some_iff.mp e0
  obtain ⟨da, e2, e0⟩ := Option.bind_eq_some_iff.mp e0
  obtain ⟨b', e3, e0⟩ := Option.bind_eq_some_iff.mp e0
  cases e0
  refine ⟨ρ, F, ra, ρ9, R, e1, fun x F1 H1 R1' S1 q1 => ?_⟩
  have vv := q1.vw R1' e2
  cases da with
  | bl cc =>
    cases e3
    refine ⟨_, vv, ?_⟩
    cases bb with
    | false =>
      rw [if_neg Bool.false_ne_true] at e ⊢
      exact ⟨ρ9, F1, r, ρ', R1', e, fun v F2 H2 R2' S2 q => k v F2 H2 R2' (S1.trans S2) (q.earlier S1.th)⟩
    | true =>
      rw [if_pos rfl] at e ⊢
      cases e
      exact k _ F1 H1 R1' S1 rfl
  | _ => cases e3
theorem td_not (ha : PE X a (TD X.K fa)) : PE X (.UnaryOp .Not a pos) (TD X.K (dNot fa)) := by
  refine pe_imp (pe_not ha) fun σ H Q ⟨ρ, F, r, ρ', R, e, k⟩ => ?_
  obtain ⟨⟨bb, ρ1⟩, e0, e⟩ := Option.bind_eq_some_iff.mp e
  obtain ⟨⟨ra, ρ9⟩, e1, e0⟩ := Option.bind_eq_some_iff.mp e0
  obtain ⟨da, e2, e0⟩ := Option.bind_eq_some_iff.mp e0
  obtain ⟨b', e3, e0⟩ := Option.bind_eq_some_iff.mp e0
  cases e0
  cases e
  refine ⟨ρ, F, ra, ρ9, R, e1, fun x F1 H1 R1' S1 q1 => ?_⟩
  have vv := q1.vw R1' e2
  cases da with
  | bl cc =>
    cases e3
    exact ⟨_, vv, k _ F1 H1 R1' S1 rfl⟩
  | _ => cases e3
/-- a chain -/
theorem chain_ok {g g' : D → D → Option Res} {σ : L2.St} {H : Hp} {Q : VK} (h : TD X.K (dChain g g' fa fb fc) σ H Q) : tChain (rD2 X.K g) (rD2 X.K g') (TD X.K fa) (TD X.K fb) (TD X.K fc) σ H Q := by
  obtain ⟨ρ, F, r, ρ', R, e, k⟩ := h
  obtain ⟨⟨ra, ρ1⟩, e1, e⟩ := Option.bind_eq_some_iff.mp e
  obtain ⟨⟨rb, ρ2⟩, e2, e⟩ := Option.bind_eq_some_iff.mp e
  obtain ⟨da, e3, e⟩ := Option.bind_eq_some_iff.mp e
  obtain ⟨db, e4, e⟩ := Option.bind_eq_some_iff.mp e
  obtain ⟨r', e5, e⟩ := Option.bind_eq_some_iff.mp e
  refine ⟨ρ, F, ra, ρ1, R, e1, fun x F1 H1 R1' S1 q1 => ?_⟩
  refine ⟨ρ1, F1, rb, ρ2, R1', e2, fun y F2 H2 R2' S2 q2 => ?_⟩
  refine ⟨F2, da, db, _, R2'.fh, (q1.step S2).vw R2' e3, q2.vw R2' e4, e5, fun v F3 H3 x3 w => ?_⟩
  have R3 := R2'.ext x3
  have S3 := (S1.trans S2).trans x3.stp
  cases r' with
  | ow d => cases e
  | br i => exact w.elim
  | fz d =>
    cases d with
    | bl cc =>
      refine ⟨cc, w, ?_⟩
      cases cc with
      | false =>
        cases e
        exact k _ F3 H3 R3 S3 rfl
      | true =>
        obtain ⟨⟨rc, ρ4⟩, e6, e⟩ := Option.bind_eq_some_iff.mp e
        obtain ⟨db', e7, e⟩ := Option.bind_eq_some_iff.mp e
        obtain ⟨dc, e8, e⟩ := Option.bind_eq_some_iff.mp e
        obtain ⟨r9, e9, e⟩ := Option.bind_eq_some_iff.mp e
        cases e
        rw [if_pos rfl]
        refine ⟨ρ2, F3, rc, ρ4, R3, e6, fun z F4 H4 R4 S4 q4 => ?_⟩
        refine ⟨F4, db', dc, _, R4.fh, ((q2.step x3.stp).step S4).vw R4 e7, q4.vw R4 e8, e9, fun v' F5 H5 x5 w5 => ?_⟩
        exact k v' F5 H5 (R4.ext x5) ((S3.trans S4).trans x5.stp) (w5.rr R4 (S3.trans S4).th)
    | _ => cases e
theorem td_chain {op op' : CmpOp} {g g' : D → D → Option Res} (ho : OpR X (compareOp op) (rD2 X.K g)) (ho' : OpR X (compareOp op') (rD2 X.K g')) (ha : PE X a (TD X.K fa)) (hb : PE X b (TD X.K fb)) (hc : PE X c (TD X.K fc))
    (hm : lastMarks [op, op'] [b, c] = false := by with_unfolding_all rfl) : PE X (.Compare a [op, op'] [b, c] pos) (TD X.K (dChain g g' fa fb fc)) := pe_imp (pe_chain ho ho' ha hb hc hm) fun σ H Q h => chain_ok h

theorem tt_chain {op op' : CmpOp} {g g' : D → D → Option Res} (ho : OpR X (compareOp op) (rD2 X.K g)) (ho' : OpR X (compareOp op') (rD2 X.K g')) (ha : PE X a (TD X.K fa)) (hb : PE X b (TD X.K fb)) (hc : PE X c (TD X.K fc))
    (hm : lastMarks [op, op'] [b, c] = false := by with_unfolding_all rfl) : PT X (.Compare a [op, op'] [b, c] pos) (TTD X.K (dTest (dChain g g' fa fb fc))) := pt_imp (pt_chain ho ho' ha hb hc hm) fun σ H Q h => tt_B (fun _ q => chain_ok q) h

/-! ### argument lists -/
theorem ta_nil : PA X [] (TAD X.K dNil) := pa_imp pa_nil fun σ H Q ⟨ρ, F, rs, ρ', R, e, k⟩ => by
  cases e
  exact k [] F H R Stp.refl rfl
theorem ta_cons {fr : DA} (ha : PE X e (TD X.K fa)) (hr : PA X es (TAD X.K fr)) (hs : starEach (e :: es) X.env = (false, eval e X.env) :: starEach es X.env := by rfl) : PA X (e :: es) (TAD X.K (dCons fa fr)) := by
  refine pa_imp (pa_cons ha hr hs) fun σ H Q ⟨ρ, F, rs, ρ', R, e, k⟩ => ?_
  obtain ⟨⟨ra, ρ1⟩, e1, e⟩ := Option.bind_eq_some_iff.mp e
  obtain ⟨⟨rr, ρ2⟩, e2, e⟩ := Option.bind_eq_some_iff.mp e
  cases e
  refine ⟨ρ, F, ra, ρ1, R, e1, fun x F1 H1 R1' S1 q1 => ?_⟩
  exact ⟨ρ1, F1, rr, _, R1', e2, fun vs F2 H2 R2' S2 q2 => k _ F2 H2 R2' (S1.trans S2) ⟨x, vs, rfl, q1.step S2, q2.earlier S1.th, fun d z k d' hk hv => by
    subst z
    obtain ⟨a, e1, _, _, _, w⟩ := q1
    obtain ⟨u, hu, _⟩ := w.there
    obtain ⟨b, e2, hb⟩ := q2.ow hk hv
    rw [e1] at e2
    cases e2
    rw [hu] at hb
    cases hb⟩⟩
theorem td_n {g : List D → Option Res} {fr : DA} (h : PE X e (tCB (rDn X.K g) (TAD X.K fr))) : PE X e (TD X.K (dOpn g fr)) := by
  refine pe_imp h fun σ H Q ⟨ρ, F, r, ρ', R, e, k⟩ => ?_
  obtain ⟨⟨ra, ρ1⟩, e1, e⟩ := Option.bind_eq_some_iff.mp e
  obtain ⟨ds, e2, e⟩ := Option.bind_eq_some_iff.mp e
  obtain ⟨r', e3, e⟩ := Option.bind_eq_some_iff.mp e
  cases e
  refine ⟨ρ, F, ra, ρ1, R, e1, fun x F1 H1 R1' S1 q1 => ?_⟩
  exact ⟨F1, ds, _, R1'.fh, q1.vw R1' e2, e3, fun v F2 H2 x2 w => k v F2 H2 (R1'.ext x2) (S1.trans x2.stp) (w.rr R1' S1.th)⟩
theorem td_callB {id : String} {x : Str} {g : List D → Option Res} {fr : DA} {p : Pos} (hc : CallR X (.builtin id) (rDn X.K g)) (hg : Gl X x) (hm : X.mg x = none) (hv : bootBuiltins x = some (.builtin id)) (ha : PA X (e :: es) (TAD X.K fr)) (hn : x ≠ "__name__" := by decide) (hdb : (x == ("__debug__" : Str)) = false := by decide)
    (he : starEach (e :: es) X.env = (false, eval e X.env) :: starEach es X.env := by rfl) (hpl : (backTo pos (starEach es X.env)).any (·.1) = false := by rfl) : PE X (.Call (.Name x p) (e :: es) [] pos) (TD X.K (dOpn g fr)) := td_n (pe_callB hc hg hm hv ha hn hdb he hpl)
theorem td_callTy {T : String} {x : Str} {g : List D → Option Res} {fr : DA} {p : Pos} (hc : CallR X (.type T) (rDn X.K g)) (hg : Gl X x) (hm : X.mg x = none) (hv : bootBuiltins x = some (.type T)) (ha : PA X (e :: es) (TAD X.K fr)) (hn : x ≠ "__name__" := by decide) (hdb : (x == ("__debug__" : Str)) = false := by decide)
    (he : starEach (e :: es) X.env = (false, eval e X.env) :: starEach es X.env := by rfl) (hpl : (backTo pos (starEach es X.env)).any (·.1) = false := by rfl) : PE X (.Call (.Name x p) (e :: es) [] pos) (TD X.K (dOpn g fr)) := td_n (pe_callTy hc hg hm hv ha hn hdb he hpl)
end
end Pu

/-! Pu3: slots stored, statements, loops. -/
namespace Pu
open PySem PySem.Spec PyProof.Rows L2

/-- the slot i takes a result -/
def setSlot (i : Nat) : Res → En → Option En
  | .fz d, ρ => some (ρ.set i (.fz d))
  | .ow d, ρ => some (ρ.set i (.ow d))
  | .br j, ρ => match ρ[j]? with
    | some (.ow d) => some ((ρ.set j (.fz d)).set i (.fz d))
    | some (.fz d) => some (ρ.set i (.fz d))
    | _ => none
/-- a result is frozen: its datum -/
def frz : Res → En → Option (D × En)
  | .fz d, ρ => some (d, ρ)
  | .ow d, ρ => some (d, ρ)
  | .br j, ρ => match ρ[j]? with
    | some (.ow d) => some (d, ρ.set j (.fz d))
    | some (.fz d) => some (d, ρ)
    | _ => none

section
variable {K : PySem.W.Frag} {ρ ρ' ρ1 : En} {σ σ' : L2.St} {F F' F1 H H' H1 H0 : Hp} {r : Res} {v : V}
theorem get_set_some {α : Type} {l : List α} {i j : Nat} {x y : α} (h : (l.set i x)[j]? = some y) : (j = i ∧ y = x) ∨ (j ≠ i ∧ l[j]? = some y) := by
  by_cases e : i = j
  · subst e
    by_cases hl : i < l.length
    · rw [List.getElem?_set_self hl] at h
      cases h
      exact .inl ⟨rfl, rfl⟩
    · rw [List.getElem?_eq_none (by simpa using hl)] at h
      cases h
  · rw [List.getElem?_set_ne e] at h
    exact .inr ⟨fun z => e z.symm, h⟩
theorem Rel.set_fz (R : Rel K ρ σ F H) {d : D} (q : Rep K F d v) (i : Nat) : Rel K (ρ.set i (.fz d)) (σ.set i (some v)) F H where
  fh := R.fh
  len := by simp [R.len]
  fz := fun j e h => by
    rcases get_set_some h with ⟨rfl, z⟩ | ⟨hj, h⟩
    · cases z
      have hl : j < ρ.length := by
        have := (List.getElem?_eq_some_iff.mp h).1
        simpa using this
      exact ⟨v, by rw [List.getElem?_set_self (by rw [R.len]; exact hl)], q⟩
    · obtain ⟨u, h1, h2⟩ := R.fz j e h
      exact ⟨u, by rw [List.getElem?_set_ne (Ne.symm hj)]; exact h1, h2⟩
  ow := fun j s e h q => by
    rcases get_set_some h with ⟨rfl, z⟩ | ⟨hj, h⟩
    · subst z
      cases q
    · obtain ⟨u, h1, h2⟩ := R.ow j s e h q
      exact ⟨u, by rw [List.getElem?_set_ne (Ne.symm hj)]; exact h1, h2⟩
  dist := fun j k s t e f a h1 q1 h2 q2 w1 w2 => by
    rcases get_set_some h1 with ⟨rfl, z⟩ | ⟨hj, h1⟩
    · subst z
      cases q1
    · rcases get_set_some h2 with ⟨rfl, z⟩ | ⟨hk, h2⟩
      · subst z
        cases q2
      · rw [List.getElem?_set_ne (Ne.symm hj)] at w1
        rw [List.getElem?_set_ne (Ne.symm hk)] at w2
        exact R.dist j k s t e f a h1 q1 h2 q2 w1 w2
theorem Rel.set_ow (R : Rel K ρ σ F H) {d : D} {a : Addr} (n : F a = none) (o : ¬ Owned ρ σ a) (q : Own K F H a d) (i : Nat) : Rel K (ρ.set i (.ow d)) (σ.set i (some (.ref a))) F H where
  fh := R.fh
  len := by simp [R.len]
  fz := fun j e h => by
    rcases get_set_some h with ⟨rfl, z⟩ | ⟨hj, h⟩
    · cases z
    · obtain ⟨u, h1, h2⟩ := R.fz j e h
      exact ⟨u, by rw [List.getElem?_set_ne (Ne.symm hj)]; exact h1, h2⟩
  ow := fun j s e h w => by
    rcases get_set_some h with ⟨rfl, z⟩ | ⟨hj, h⟩
    · subst z
      cases w
      have hl : j < ρ.length := by
        have := (List.getElem?_eq_some_iff.mp h).1
        simpa using this
      exact ⟨a, by rw [List.getElem?_set_self (by rw [R.len]; exact hl)], n, q⟩
    · obtain ⟨u, h1, h2⟩ := R.ow j s e h w
      exact ⟨u, by rw [List.getElem?_set_ne (Ne.symm hj)]; exact h1, h2⟩
  dist := fun j k s t e f b h1 q1 h2 q2 w1 w2 => by
    rcases get_set_some h1 with ⟨ej, z1⟩ | ⟨hj, h1'⟩
    · rcases get_set_some h2 with ⟨ek, z2⟩ | ⟨hk, h2'⟩
      · exact ej.trans ek.symm
      · rcases get_set_some w1 with ⟨_, z⟩ | ⟨hz, _⟩
        · cases z
          rw [List.getElem?_set_ne (Ne.symm hk)] at w2
          exact absurd ⟨k, t, f, h2', q2, w2⟩ o
        · exact absurd ej hz
    · rcases get_set_some h2 with ⟨ek, z2⟩ | ⟨hk, h2'⟩
      · rcases get_set_some w2 with ⟨_, z⟩ | ⟨hz, _⟩
        · cases z
          rw [List.getElem?_set_ne (Ne.symm hj)] at w1
          exact absurd ⟨j, s, e, h1', q1, w1⟩ o
        · exact absurd ek hz
      · rw [List.getElem?_set_ne (Ne.symm hj)] at w1
        rw [List.getElem?_set_ne (Ne.symm hk)] at w2
        exact R.dist j k s t e f b h1' q1 h2' q2 w1 w2
theorem Rel.set_no (R : Rel K ρ σ F H) (i : Nat) (x : Option V) : Rel K (ρ.set i .no) (σ.set i x) F H where
  fh := R.fh
  len := by simp [R.len]
  fz := fun j e h => by
    rcases get_set_some h with ⟨rfl, z⟩ | ⟨hj, h⟩
    · cases z
    · obtain ⟨u, h1, h2⟩ := R.fz j e h
      exact ⟨u, by rw [List.getElem?_set_ne (Ne.symm hj)]; exact h1, h2⟩
  ow := fun j s e h w => by
    rcases get_set_some h with ⟨rfl, z⟩ | ⟨hj, h⟩
    · subst z
      cases w
    · obtain ⟨u, h1, h2⟩ := R.ow j s e h w
      exact ⟨u, by rw [List.getElem?_set_ne (Ne.symm hj)]; exact h1, h2⟩
  dist := fun j k s t e f b h1 q1 h2 q2 w1 w2 => by
    rcases get_set_some h1 with ⟨rfl, z⟩ | ⟨hj, h1⟩
    · subst z
      cases q1
    · rcases get_set_some h2 with ⟨rfl, z⟩ | ⟨hk, h2⟩
      · subst z
        cases q2
      · rw [List.getElem?_set_ne (Ne.symm hj)] at w1
        rw [List.getElem?_set_ne (Ne.symm hk)] at w2
        exact R.dist j k s t e f b h1 q1 h2 q2 w1 w2
/-- an own slot's object is no longer changed -/
theorem Rel.freeze (R : Rel K ρ σ F H) {j : Nat} {d : D} (h : ρ[j]? = some (.ow d)) : ∃ a o, σ[j]? = some (some (.ref a)) ∧ F a = none ∧ H a = some o ∧ Rep K (upd F a o) d (.ref a) ∧ Rel K (ρ.set j (.fz d)) σ (upd F a o) H := by
  obtain ⟨a, h1, h2, h3⟩ := R.ow j _ d h rfl
  obtain ⟨o, h4, h5⟩ := h3.freeze h2
  refine ⟨a, o, h1, h2, h4, h5, ?_⟩
  have sf : Same F (upd F a o) := same_upd h2
  refine ⟨fun b u e => ?_, by simp [R.len], fun k e hk => ?_, fun k s e hk q => ?_, fun k l s t e f b k1 q1 k2 q2 w1 w2 => ?_⟩
  · by_cases hb : b = a
    · subst hb
      rw [upd_same] at e
      cases e
      exact h4
    · rw [upd_ne hb] at e
      exact R.fh b u e
  · rcases get_set_some hk with ⟨rfl, z⟩ | ⟨hk', hk⟩
    · cases z
      exact ⟨_, h1, h5⟩
    · obtain ⟨u, q1, q2⟩ := R.fz k e hk
      exact ⟨u, q1, q2.mono sf⟩
  · rcases get_set_some hk with ⟨rfl, z⟩ | ⟨hk', hk⟩
    · subst z
      cases q
    · obtain ⟨b, q1, q2, q3⟩ := R.ow k s e hk q
      refine ⟨b, q1, ?_, q3.mono sf fun _ z => z⟩
      rw [upd_ne fun z => ?_]
      · exact q2
      · subst z
        exact hk' (R.dist k j s _ e d b hk q h rfl q1 h1)
  · rcases get_set_some k1 with ⟨rfl, z⟩ | ⟨hj, k1⟩
    · subst z
      cases q1
    · rcases get_set_some k2 with ⟨rfl, z⟩ | ⟨hk, k2⟩
      · subst z
        cases q2
      · exact R.dist k l s t e f b k1 q1 k2 q2 w1 w2
/-- a temporary object is no longer changed -/
theorem Rel.freezeT (R : Rel K ρ σ F H) {d : D} {a : Addr} (n : F a = none) (o : ¬ Owned ρ σ a) (q : Own K F H a d) : ∃ u, H a = some u ∧ Rep K (upd F a u) d (.ref a) ∧ Rel K ρ σ (upd F a u) H := by
  obtain ⟨u, h4, h5⟩ := q.freeze n
  have sf : Same F (upd F a u) := same_upd n
  refine ⟨u, h4, h5, fun b w e => ?_, R.len, fun k e hk => ?_, fun k s e hk hq => ?_, R.dist⟩
  · by_cases hb : b = a
    · subst hb
      rw [upd_same] at e
      cases e
      exact h4
    · rw [upd_ne hb] at e
      exact R.fh b w e
  · obtain ⟨u, q1, q2⟩ := R.fz k e hk
    exact ⟨u, q1, q2.mono sf⟩
  · obtain ⟨b, q1, q2, q3⟩ := R.ow k s e hk hq
    refine ⟨b, q1, ?_, q3.mono sf fun _ z => z⟩
    rw [upd_ne fun z => ?_]
    · exact q2
    · subst z
      exact o ⟨k, s, e, hk, hq, q1⟩
/-- frozen: from the start of a step -/
theorem frz_ok {ρ0 : En} {σ0 : L2.St} {F0 : Hp} (R : Rel K ρ σ F H) (S : Stp ρ0 σ0 F0 H0 ρ σ F H) (q : RR K H0 ρ σ F H r v) {d : D} (e : frz r ρ = some (d, ρ1)) :
    ∃ F1, Rel K ρ1 σ F1 H ∧ Stp ρ0 σ0 F0 H0 ρ1 σ F1 H ∧ Rep K F1 d v ∧ Same F F1 ∧ (∀ b, F1 b ≠ none → F b ≠ none ∨ (v = .ref b ∧ ((∃ d, r = .ow d) ∨ Owned ρ σ b))) ∧ ∀ b, Owned ρ1 σ b → Owned ρ σ b := by
  cases r with
  | fz d' =>
    cases e
    exact ⟨F, R, S, q, Same.refl _, fun b h => .inl h, fun _ h => h⟩
  | ow d' =>
    cases e
    obtain ⟨a, rfl, n, f, o, w⟩ := q
    obtain ⟨u, h4, h5, h6⟩ := R.freezeT n o w
    refine ⟨upd F a u, h6, ⟨S.ff.trans (same_upd n), fun b u hb hn ho => ?_, S.th, S.ow, S.pm⟩, h5, same_upd n, fun b h => ?_, fun _ h => h⟩
    · obtain ⟨q1, q2⟩ := S.kp b u hb hn ho
      refine ⟨q1, ?_⟩
      rw [upd_ne fun z => ?_]
      · exact q2
      · subst z
        rw [hb] at f
        cases f
    · by_cases hb : b = a
      · subst hb
        exact .inr ⟨rfl, .inl ⟨_, rfl⟩⟩
      · rw [upd_ne hb] at h
        exact .inl h
  | br j =>
    have q : σ[j]? = some (some v) := q
    cases hs : ρ[j]? with
    | none =>
      simp only [frz, hs] at e
      cases e
    | some s =>
      simp only [frz, hs] at e
      cases s with
      | no => cases e
      | pm d' => cases e
      | fz d' =>
        cases e
        obtain ⟨u, h1, h2⟩ := R.fz j _ hs
        rw [q] at h1
        cases h1
        exact ⟨F, R, S, h2, Same.refl _, fun b h => .inl h, fun _ h => h⟩
      | ow d' =>
        cases e
        obtain ⟨a, u, h1, h2, h3, h4, h5⟩ := R.freeze hs
        rw [q] at h1
        cases h1
        have oa : Owned ρ σ a := ⟨j, _, _, hs, rfl, q⟩
        refine ⟨upd F a u, h5, ⟨S.ff.trans (same_upd h2), fun b w hb hn ho => ?_, S.th, fun i e b hi hb => ?_, fun i e hi => ?_⟩, h4, same_upd h2, fun b h => ?_, fun b ⟨i, s, d'', w1, w2, w3⟩ => ?_⟩
        · obtain ⟨q1, q2⟩ := S.kp b w hb hn ho
          refine ⟨q1, ?_⟩
          rw [upd_ne fun z => ?_]
          · exact q2
          · subst z
            rcases S.owned oa with z | z
            · exact ho z
            · rw [hb] at z
              cases z
        · rcases get_set_some hi with ⟨rfl, z⟩ | ⟨_, hi⟩
          · cases z
          · exact S.ow i e b hi hb
        · rcases get_set_some hi with ⟨rfl, z⟩ | ⟨_, hi⟩
          · cases z
          · exact S.pm i e hi
        · by_cases hb : b = a
          · subst hb
            exact .inr ⟨rfl, .inr oa⟩
          · rw [upd_ne hb] at h
            exact .inl h
        · rcases get_set_some w1 with ⟨_, z⟩ | ⟨_, w1⟩
          · subst z
            cases w2
          · exact ⟨i, s, d'', w1, w2, w3⟩
theorem Stp.set_fz {ρ0 : En} {σ0 : L2.St} {F0 : Hp} (S : Stp ρ0 σ0 F0 H0 ρ σ F H) (i : Nat) (d : D) (x : Option V) : Stp ρ0 σ0 F0 H0 (ρ.set i (.fz d)) (σ.set i x) F H :=
  ⟨S.ff, S.kp, S.th, fun k e b hk hb => by
    rcases get_set_some hk with ⟨rfl, z⟩ | ⟨hj, hk⟩
    · cases z
    · rw [List.getElem?_set_ne (Ne.symm hj)] at hb
      exact S.ow k e b hk hb, fun k e hk => by
    rcases get_set_some hk with ⟨rfl, z⟩ | ⟨hj, hk⟩
    · cases z
    · rw [List.getElem?_set_ne (Ne.symm hj)]
      exact S.pm k e hk⟩
theorem set_ok {ρ0 : En} {σ0 : L2.St} {F0 : Hp} (R : Rel K ρ σ F H) (S : Stp ρ0 σ0 F0 H0 ρ σ F H) (q : RR K H0 ρ σ F H r v) {i : Nat} (e : setSlot i r ρ = some ρ1) :
    ∃ F1, Rel K ρ1 (σ.set i (some v)) F1 H ∧ Stp ρ0 σ0 F0 H0 ρ1 (σ.set i (some v)) F1 H := by
  cases r with
  | fz d =>
    cases e
    exact ⟨F, R.set_fz q i, S.set_fz i d _⟩
  | ow d =>
    cases e
    obtain ⟨a, rfl, n, f, o, w⟩ := q
    refine ⟨F, R.set_ow n o w i, S.ff, S.kp, S.th, fun k e b hk hb => ?_, fun k e hk => ?_⟩
    · rcases get_set_some hk with ⟨rfl, z⟩ | ⟨hj, hk⟩
      · rcases get_set_some hb with ⟨_, z⟩ | ⟨hz, _⟩
        · cases z
          exact .inr f
        · exact absurd rfl hz
      · rw [List.getElem?_set_ne (Ne.symm hj)] at hb
        exact S.ow k e b hk hb
    · rcases get_set_some hk with ⟨rfl, z⟩ | ⟨hj, hk⟩
      · cases z
      · rw [List.getElem?_set_ne (Ne.symm hj)]
        exact S.pm k e hk
  | br j =>
    cases hs : ρ[j]? with
    | none =>
      simp only [setSlot, hs] at e
      cases e
    | some s =>
      simp only [setSlot, hs] at e
      cases s with
      | no => cases e
      | pm d' => cases e
      | fz d' =>
        cases e
        obtain ⟨u, h1, h2⟩ := R.fz j _ hs
        have q : σ[j]? = some (some v) := q
        rw [q] at h1
        cases h1
        exact ⟨F, R.set_fz h2 i, S.set_fz i _ _⟩
      | ow d' =>
        cases e
        obtain ⟨F1, h1, h2, h3, _⟩ := frz_ok (r := .br j) (d := d') (ρ1 := ρ.set j (.fz d')) R S q (by simp only [frz, hs])
        exact ⟨F1, h1.set_fz h3 i, h2.set_fz i _ _⟩
end

/-! ### statements -/
def dNext : DS := fun ρ => some (.nx, ρ)
def dBk : DS := fun ρ => some (.bk, ρ)
def dCt : DS := fun ρ => some (.ct, ρ)
def dNever : DS := fun _ => none
def dSeq (a b : DS) : DS := fun ρ => (a ρ).bind fun p => match p.1 with
  | .nx => b p.2
  | o => some (o, p.2)
def dSet (i : Nat) (f : DE) : DS := fun ρ => (f ρ).bind fun p => (setSlot i p.1 p.2).bind fun ρ' => some (.nx, ρ')
def dDrop (f : DE) : DS := fun ρ => (f ρ).bind fun p => some (.nx, p.2)
def retR : Res → En → Option Res
  | .fz d, _ => some (.fz d)
  | .ow d, _ => some (.ow d)
  | .br i, ρ => match ρ[i]? with
    | some (.ow d) => some (.ow d)
    | some (.fz d) => some (.fz d)
    | _ => none
def dRet (f : DE) : DS := fun ρ => (f ρ).bind fun p => (retR p.1 p.2).bind fun r => some (.rt r, p.2)
def dRetN : DS := fun ρ => some (.rt (.fz .non), ρ)
def dIfS (c : DT) (a b : DS) : DS := fun ρ => (c ρ).bind fun p => if p.1 = true then a p.2 else b p.2

section
variable {X : Cx} {st : Stmt} {sts : List Stmt} {e c : Expr} {fa : DE} {f g : DS} {pos : Pos}
theorem RT.earlier {K : PySem.W.Frag} {ρ0 ρ ρ' : En} {σ0 σ σ' : L2.St} {F0 F F' H0 H H' : Hp} {r : Res} {v : V} (S : Stp ρ0 σ0 F0 H0 ρ σ F H) (q : RT K ρ σ H ρ' σ' F' H' r v) : RT K ρ0 σ0 H0 ρ' σ' F' H' r v := by
  cases r with
  | fz d => exact q
  | ow d =>
    obtain ⟨a, q1, q2, q3, q4⟩ := q
    refine ⟨a, q1, q2, ?_, q4⟩
    rcases q3 with ⟨j, e, z1, z2⟩ | z
    · exact S.ow j e a z1 z2
    · exact .inr (S.th a z)
  | br i => exact q
theorem SE.earlier {K : PySem.W.Frag} {Dn : Ends} {ρ0 ρ ρ' : En} {σ0 σ σ' : L2.St} {F0 F F' H0 H H' : Hp} {o : Out} (S : Stp ρ0 σ0 F0 H0 ρ σ F H) (q : SE K Dn ρ0 σ0 H0 ρ' σ' F' H' o) : SE K Dn ρ σ H ρ' σ' F' H' o := by
  cases o with
  | rt r => exact fun v w => q v (w.earlier S)
  | _ => exact q
theorem TSD.later {K : PySem.W.Frag} {Dn : Ends} {ρ0 ρ ρ' : En} {σ0 σ : L2.St} {F0 F H0 H : Hp} {o : Out} (S : Stp ρ0 σ0 F0 H0 ρ σ F H) (R : Rel K ρ σ F H) (e : f ρ = some (o, ρ'))
    (k : ∀ (σ' : L2.St) (F' H' : Hp), Rel K ρ' σ' F' H' → Stp ρ0 σ0 F0 H0 ρ' σ' F' H' → SE K Dn ρ0 σ0 H0 ρ' σ' F' H' o) : TSD K f Dn σ H :=
  ⟨ρ, F, o, ρ', R, e, fun σ' F' H' R' S' => (k σ' F' H' R' (S.trans S')).earlier S⟩
theorem ts_next {t : Stmt} (h : PS X t tNext) : PS X t (TSD X.K dNext) := ps_imp h fun Dn σ H ⟨ρ, F, o, ρ', R, e, k⟩ => by
  cases e
  exact k σ F H R Stp.refl
theorem ts_pass : PS X (.Pass pos) (TSD X.K dNext) := ts_next ps_pass
theorem ts_doc {x j pos pos'} : PS X (.Expr (.Constant (.str x) j pos) pos') (TSD X.K dNext) := ts_next ps_doc
theorem ts_break : PS X (.Break pos) (TSD X.K dBk) := ps_imp ps_break fun Dn σ H ⟨ρ, F, o, ρ', R, e, k⟩ => by
  cases e
  exact k σ F H R Stp.refl
theorem ts_continue : PS X (.Continue pos) (TSD X.K dCt) := ps_imp ps_continue fun Dn σ H ⟨ρ, F, o, ρ', R, e, k⟩ => by
  cases e
  exact k σ F H R Stp.refl
theorem ts_never : PS X st (TSD X.K dNever) := ps_imp ps_never fun Dn σ H ⟨ρ, F, o, ρ', R, e, k⟩ => by cases e
theorem tss_nil : PSs X [] (TSD X.K dNext) := pss_imp pss_nil fun Dn σ H ⟨ρ, F, o, ρ', R, e, k⟩ => by
  cases e
  exact k σ F H R Stp.refl
theorem tss_one (h : PS X st (TSD X.K f)) : PSs X [st] (TSD X.K f) := pss_one h
theorem seq_ok {K : PySem.W.Frag} {Dn : Ends} {σ : L2.St} {H : Hp} (h : TSD K (dSeq f g) Dn σ H) : tSeq (TSD K f) (TSD K g) Dn σ H := by
  obtain ⟨ρ, F, o, ρ', R, e, k⟩ := h
  obtain ⟨⟨o1, ρ1⟩, e1, e⟩ := Option.bind_eq_some_iff.mp e
  refine ⟨ρ, F, o1, ρ1, R, e1, fun σ1 F1 H1 R1 S1 => ?_⟩
  cases o1 with
  | nx => exact TSD.later S1 R1 e k
  | bk =>
    cases e
    exact k σ1 F1 H1 R1 S1
  | ct =>
    cases e
    exact k σ1 F1 H1 R1 S1
  | rt r =>
    cases e
    exact k σ1 F1 H1 R1 S1
theorem tss_cons (h1 : PS X st (TSD X.K f)) (h2 : PSs X sts (TSD X.K g)) : PSs X (st :: sts) (TSD X.K (dSeq f g)) := pss_imp (pss_cons h1 h2) fun Dn σ H h => seq_ok h
theorem asg_ok {K : PySem.W.Frag} {i : Nat} {te : TE} {Dn : Ends} {σ : L2.St} {H : Hp} (w : ∀ Q, TD K fa σ H Q → te σ H Q) (h : TSD K (dSet i fa) Dn σ H) : tAsg te (gName i) Dn σ H := by
  obtain ⟨ρ, F, o, ρ', R, e, k⟩ := h
  obtain ⟨⟨r, ρ1⟩, e1, e⟩ := Option.bind_eq_some_iff.mp e
  obtain ⟨ρ2, e2, e⟩ := Option.bind_eq_some_iff.mp e
  cases e
  refine w _ ⟨ρ, F, r, ρ1, R, e1, fun v F1 H1 R1 S1 q => ?_⟩
  obtain ⟨F2, R2, S2⟩ := set_ok R1 S1 q e2
  exact k _ F2 H1 R2 S2
theorem ts_set {i : Nat} {x : Str} {pos' : Pos} (hN : X.N.Nodup) (hi : X.N[i]? = some x) (hx : Loc X.env.scope x) (he : PE X e (TD X.K fa)) (hs : swapsWith e (some (.Name x pos')) pos.line X.env = pure false := by rfl) (hf : X.fn x = true ∨ X.env.scope.names.lookup x = some .local := by first | exact .inl rfl | exact .inr rfl | assumption) :
    PS X (.Assign [.Name x pos'] e pos) (TSD X.K (dSet i fa)) := ps_imp (ps_set hN hi hx he hs hf) fun Dn σ H h => asg_ok (fun _ q => q) h
theorem ts_expr (he : PE X e (TD X.K fa)) (hs : swapsWith e none pos.line X.env = pure false := by rfl) : PS X (.Expr e pos) (TSD X.K (dDrop fa)) := ps_imp (ps_expr he hs) fun Dn σ H ⟨ρ, F, o, ρ', R, e, k⟩ => by
  obtain ⟨⟨r, ρ1⟩, e1, e⟩ := Option.bind_eq_some_iff.mp e
  cases e
  exact ⟨ρ, F, r, ρ1, R, e1, fun v F1 H1 R1 S1 q => k _ F1 H1 R1 S1⟩
theorem ts_ret (he : PE X e (TD X.K fa)) : PS X (.Return (some e) pos) (TSD X.K (dRet fa)) := ps_imp (ps_ret he) fun Dn σ H ⟨ρ, F, o, ρ', R, e, k⟩ => by
  obtain ⟨⟨r, ρ1⟩, e1, e⟩ := Option.bind_eq_some_iff.mp e
  obtain ⟨r', e2, e⟩ := Option.bind_eq_some_iff.mp e
  cases e
  refine ⟨ρ, F, r, ρ1, R, e1, fun v F1 H1 R1 S1 q => k _ F1 H1 R1 S1 v ?_⟩
  cases r with
  | fz d =>
    cases e2
    exact q
  | ow d =>
    cases e2
    obtain ⟨a, q1, q2, q3, q4, q5⟩ := q
    exact ⟨a, q1, q2, .inr q3, q5⟩
  | br i =>
    have q : σ[i]? = some (some v) := q
    cases hs : ρ1[i]? with
    | none =>
      simp only [retR, hs] at e2
      cases e2
    | some s =>
      simp only [retR, hs] at e2
      cases s with
      | no => cases e2
      | pm d => cases e2
      | fz d =>
        cases e2
        obtain ⟨u, h1, h2⟩ := R1.fz i d hs
        rw [q] at h1
        cases h1
        exact h2
      | ow d =>
        cases e2
        obtain ⟨a, h1, h2, h3⟩ := R1.ow i _ d hs rfl
        rw [q] at h1
        cases h1
        exact ⟨a, rfl, h2, S1.ow i d a hs q, h3⟩
theorem ts_retN : PS X (.Return none pos) (TSD X.K dRetN) := ps_imp ps_retN fun Dn σ H ⟨ρ, F, o, ρ', R, e, k⟩ => by
  cases e
  exact k σ F H R Stp.refl _ rfl
theorem ts_if {t : DT} {a b : List Stmt} (hc : PT X c (TTD X.K t)) (ha : PSs X a (TSD X.K f)) (hb : PSs X b (TSD X.K g)) : PS X (.If c a b pos) (TSD X.K (dIfS t f g)) := ps_imp (ps_if hc ha hb) fun Dn σ H ⟨ρ, F, o, ρ', R, e, k⟩ => by
  obtain ⟨⟨ba, ρ1⟩, e1, e⟩ := Option.bind_eq_some_iff.mp e
  refine ⟨ρ, F, ba, ρ1, R, e1, fun F1 H1 R1 S1 => ?_⟩
  cases ba with
  | true =>
    rw [if_pos rfl] at e
    exact iteT (TSD.later S1 R1 e k)
  | false =>
    rw [if_neg Bool.false_ne_true] at e
    exact iteF (TSD.later S1 R1 e k)

/-! ### targets -/
def dgName (i : Nat) : DTg := fun d ρ => some (ρ.set i (.fz d))
def dgNil : DTgs := fun ds ρ => match ds with
  | [] => some ρ
  | _ => none
def dgCons (t : DTg) (u : DTgs) : DTgs := fun ds ρ => match ds with
  | d :: r => (t d ρ).bind fun ρ1 => u r ρ1
  | [] => none
def dgTup (n : Nat) (t : DTgs) : DTg := fun d ρ => match d with
  | .tup ds => if ds.length = n then t ds ρ else none
  | _ => none
theorem Only.refl {sl : List Nat} {σ : L2.St} : Only sl σ σ := ⟨rfl, fun _ _ => rfl⟩
theorem Only.trans {s1 s2 : List Nat} {σ σ1 σ2 : L2.St} (a : Only s1 σ σ1) (b : Only s2 σ1 σ2) : Only (s1 ++ s2) σ σ2 := ⟨b.1.trans a.1, fun i h => by
  simp only [List.mem_append, not_or] at h
  exact (b.2 i h.2).trans (a.2 i h.1)⟩
theorem tg_name {i : Nat} {x : Str} (hN : X.N.Nodup) (hi : X.N[i]? = some x) (hx : Loc X.env.scope x) (hf : X.fn x = true ∨ X.env.scope.names.lookup x = some .local := by first | exact .inl rfl | exact .inr rfl | assumption) : PG X (.Name x pos) (TGD X.K [i] (dgName i)) :=
  pg_imp (pg_name hN hi hx hf) fun v σ H Q ⟨ρ, F, d, ρ', R, q, e, k⟩ => by
    cases e
    exact k _ F H (R.set_fz q i) (Stp.refl.set_fz i d _) ⟨by simp, fun j hj => by rw [List.getElem?_set_ne (by simpa using fun z => hj (by simp [z]))]⟩
theorem tgs_nil : PGs X [] (TGDs X.K [] dgNil) := pgs_imp pgs_nil fun vs σ H Q ⟨ρ, F, ds, ρ', R, q, e, k⟩ => by
  cases ds with
  | nil =>
    cases e
    exact ⟨q, k σ F H R Stp.refl Only.refl⟩
  | cons d r => cases e
theorem tgs_cons {t : DTg} {u : DTgs} {tg : Expr} {es : List Expr} {s1 s2 : List Nat} (h1 : PG X tg (TGD X.K s1 t)) (h2 : PGs X es (TGDs X.K s2 u)) (hs : (assignEach (tg :: es) X.env).map (·.2) = assign tg X.env :: (assignEach es X.env).map (·.2) := by rfl) : PGs X (tg :: es) (TGDs X.K (s1 ++ s2) (dgCons t u)) :=
  pgs_imp (pgs_cons h1 h2 hs) fun vs σ H Q ⟨ρ, F, ds, ρ', R, q, e, k⟩ => by
    cases ds with
    | nil => cases e
    | cons d r =>
      obtain ⟨x, w, rfl, q1, q2⟩ := q
      obtain ⟨ρ1, e1, e⟩ := Option.bind_eq_some_iff.mp e
      refine ⟨x, w, rfl, ρ, F, d, ρ1, R, q1, e1, fun σ1 F1 H1 R1 S1 O1 => ?_⟩
      exact ⟨ρ1, F1, r, ρ', R1, q2.mono S1.ff, e, fun σ2 F2 H2 R2 S2 O2 => k σ2 F2 H2 R2 (S1.trans S2) (O1.trans O2)⟩
theorem RepL.len {K : PySem.W.Frag} {F : Hp} {ds : List D} {xs : List V} (h : RepL K F ds xs) : xs.length = ds.length := h.length
theorem tg_tup {es : List Expr} {kk : Nat} {t : DTgs} {n : Nat} {sl : List Nat} (hc : X.calm = true) (h : PGs X es (TGDs X.K sl t)) (hn : (assignEach es X.env).length = n := by rfl) (hst : (assignEach es X.env).findIdx? (·.1) = none := by rfl) : PG X (.Tuple es kk pos) (TGD X.K sl (dgTup n t)) :=
  pg_imp (pg_tup hc h hn hst) fun v σ H Q ⟨ρ, F, d, ρ', R, q, e, k⟩ => by
    cases d with
    | tup ds =>
      obtain ⟨a, xs, rfl, q1, q2⟩ := q
      by_cases hl : ds.length = n
      · have e : (if ds.length = n then t ds ρ else none) = some ρ' := e
        rw [if_pos hl] at e
        exact ⟨a, xs, rfl, Same.sqT R.fh q1, q2.length.trans hl, ρ, F, ds, ρ', R, q2, e, k⟩
      · have e : (if ds.length = n then t ds ρ else none) = some ρ' := e
        rw [if_neg hl] at e
        cases e
    | _ => cases e

/-! ### for -/
def forD (tg : DTg) (body : DS) : List D → En → Option (Out × En)
  | [], ρ => some (.nx, ρ)
  | d :: ds, ρ => (tg d ρ).bind fun ρ1 => (body ρ1).bind fun p => match p.1 with
    | .nx => forD tg body ds p.2
    | .ct => forD tg body ds p.2
    | .bk => some (.nx, p.2)
    | .rt r => some (.rt r, p.2)
def dFor (fi : DI) (tg : DTg) (body : DS) : DS := fun ρ => (fi ρ).bind fun p => forD tg body p.1 p.2
theorem ts_for {fi : DI} {tg : DTg} {tge iter : Expr} {body : List Stmt} {sl : List Nat} (hp : PassesOwn (model X.prog X.w) X.A X.env X.xe) (hc : X.calm = true) (hi : PI X tge iter (TID X.K fi)) (hg : PG X tge (TGD X.K sl tg)) (hb : PSs X body (TSD X.K f))
    (hs : ∀ x, foldedSetIterable iter X.env x = pure x := by intro _; rfl) : PS X (.For tge iter body [] pos) (TSD X.K (dFor fi tg f)) := by
  refine ps_imp (ps_for hp hc hi hg hb hs) fun Dn σ H ⟨ρ, F, o, ρ', R, e, k⟩ => ?_
  obtain ⟨⟨ds, ρ1⟩, e1, e⟩ := Option.bind_eq_some_iff.mp e
  refine ⟨ρ, F, ds, ρ1, R, e1, fun J F1 H1 R1 S1 w => ?_⟩
  refine ⟨fun i m σi Hi => m = ds.length - i ∧ i ≤ ds.length ∧ ∃ ρi Fi, Rel X.K ρi σi Fi Hi ∧ Stp ρ σ F H ρi σi Fi Hi ∧ Same F1 Fi ∧ forD tg f (ds.drop i) ρi = some (o, ρ'),
    ⟨ds.length, rfl, Nat.zero_le _, ρ1, F1, R1, S1, Same.refl _, e⟩, ?_⟩
  rintro i m σi Hi ⟨rfl, hi', ρi, Fi, Ri, Si, si, ei⟩
  by_cases hlt : i < ds.length
  · have hd : ds[i]? = some ds[i] := List.getElem?_eq_getElem hlt
    rw [List.drop_eq_getElem_cons hlt] at ei
    obtain ⟨ρa, ea, ei⟩ := Option.bind_eq_some_iff.mp ei
    obtain ⟨⟨ob, ρb⟩, eb, ei⟩ := Option.bind_eq_some_iff.mp ei
    refine .inr ⟨w.goes i Hi hlt (si.trans Ri.fh), fun σ' H' => ∃ ρi Fi, Rel X.K ρi σ' Fi H' ∧ Stp ρ σ F H ρi σ' Fi H' ∧ Same F1 Fi ∧ forD tg f (ds.drop (i + 1)) ρi = some (o, ρ'), fun σ' H' hn => ⟨ds.length - (i + 1), by omega, rfl, hlt, hn⟩, fun x H' y => ?_⟩
    obtain ⟨F2, x2, q2⟩ := w.yields i _ Hi x H' Fi hd si Ri.fh y
    refine ⟨ρi, F2, ds[i], ρa, Ri.ext x2, q2, ea, fun σ3 F3 H3 R3 S3 _ => ?_⟩
    refine ⟨ρa, F3, ob, ρb, R3, eb, fun σ4 F4 H4 R4 S4 => ?_⟩
    have S34 := (x2.stp.trans S3).trans S4
    have Sall := Si.trans S34
    cases ob with
    | nx => exact ⟨ρb, F4, R4, Sall, si.trans S34.ff, ei⟩
    | ct => exact ⟨ρb, F4, R4, Sall, si.trans S34.ff, ei⟩
    | bk =>
      cases ei
      exact k σ4 F4 H4 R4 Sall
    | rt r =>
      cases ei
      exact (SE.earlier ((Si.trans x2.stp).trans S3) (k σ4 F4 H4 R4 Sall) : SE X.K Dn _ _ _ _ _ _ _ (.rt r))
  · have hi2 : i = ds.length := by omega
    subst hi2
    rw [List.drop_length] at ei
    cases ei
    exact .inl ⟨w.stops Hi (si.trans Ri.fh), k σi Fi Hi Ri Si⟩

/-! ### while -/
def iterW (c : DT) (body : DS) : Nat → En → Option (Out × En)
  | 0, _ => none
  | n + 1, ρ => (c ρ).bind fun p => if p.1 = true then (body p.2).bind fun q => match q.1 with
      | .nx => iterW c body n q.2
      | .ct => iterW c body n q.2
      | .bk => some (.nx, q.2)
      | .rt r => some (.rt r, q.2)
    else some (.nx, p.2)
def dWhile (n : Nat) (c : DT) (body : DS) : DS := fun ρ => iterW c body n ρ
theorem ts_while {n : Nat} {t : DT} {body : List Stmt} (hp : PassesOwn (model X.prog X.w) X.A X.env X.xe) (hc : PT X c (TTD X.K t)) (hb : PSs X body (TSD X.K f)) : PS X (.While c body [] pos) (TSD X.K (dWhile n t f)) := by
  refine ps_imp (ps_while hp hc hb) fun Dn σ H ⟨ρ, F, o, ρ', R, e, k⟩ => ?_
  refine ⟨fun m σi Hi => ∃ ρi Fi, Rel X.K ρi σi Fi Hi ∧ Stp ρ σ F H ρi σi Fi Hi ∧ iterW t f m ρi = some (o, ρ'), ⟨n, ρ, F, R, Stp.refl, e⟩, ?_⟩
  rintro m σi Hi ⟨ρi, Fi, Ri, Si, ei⟩
  cases m with
  | zero => cases ei
  | succ m =>
    obtain ⟨⟨b, ρa⟩, ea, ei⟩ := Option.bind_eq_some_iff.mp ei
    refine ⟨ρi, Fi, b, ρa, Ri, ea, fun F1 H1 R1 S1 => ?_⟩
    cases b with
    | true =>
      rw [if_pos rfl] at ei
      obtain ⟨⟨ob, ρb⟩, eb, ei⟩ := Option.bind_eq_some_iff.mp ei
      refine iteT ⟨fun σ' H' => ∃ ρi Fi, Rel X.K ρi σ' Fi H' ∧ Stp ρ σ F H ρi σ' Fi H' ∧ iterW t f m ρi = some (o, ρ'), fun σ' H' hn => ⟨m, Nat.lt_succ_self m, hn⟩, ρa, F1, ob, ρb, R1, eb, fun σ4 F4 H4 R4 S4 => ?_⟩
      have Sall := (Si.trans S1).trans S4
      cases ob with
      | nx => exact ⟨ρb, F4, R4, Sall, ei⟩
      | ct => exact ⟨ρb, F4, R4, Sall, ei⟩
      | bk =>
        cases ei
        exact k σ4 F4 H4 R4 Sall
      | rt r =>
        cases ei
        exact (SE.earlier (Si.trans S1) (k σ4 F4 H4 R4 Sall) : SE X.K Dn _ _ _ _ _ _ _ (.rt r))
    | false =>
      rw [if_neg Bool.false_ne_true] at ei
      cases ei
      exact iteF (k σi F1 H1 R1 (Si.trans S1))
end
end Pu

/-! Pu4: several targets, own objects changed, comprehensions, defs and their calls. -/
namespace Pu
open PySem PySem.Spec PyProof.Rows L2

/-! ### results without a borrowed one -/
def norm : Res → En → Option (Res × En)
  | .br j, ρ => (frz (.br j) ρ).bind fun p => some (.fz p.1, p.2)
  | r, ρ => some (r, ρ)
def norms : List Res → En → Option (List Res × En)
  | [], ρ => some ([], ρ)
  | r :: rs, ρ => (norm r ρ).bind fun p => (norms rs p.2).bind fun q => some (p.1 :: q.1, q.2)
def noBr : Res → Bool
  | .br _ => false
  | _ => true
def setMany : List Nat → List Res → En → Option En
  | [], [], ρ => some ρ
  | i :: is, r :: rs, ρ => if noBr r = true then (setSlot i r ρ).bind fun ρ1 => setMany is rs ρ1 else none
  | _, _, _ => none
def setManyV : List Nat → List V → L2.St → L2.St
  | i :: is, v :: vs, σ => setManyV is vs (σ.set i (some v))
  | _, _, σ => σ
section
variable {K : PySem.W.Frag} {ρ ρ' ρ1 ρ0 : En} {σ σ' σ0 : L2.St} {F F' F1 F0 H H' H1 H0 : Hp} {r : Res} {v : V}
theorem norm_ok (R : Rel K ρ σ F H) (S : Stp ρ0 σ0 F0 H0 ρ σ F H) (q : RR K H0 ρ σ F H r v) {r1 : Res} (e : norm r ρ = some (r1, ρ1)) :
    ∃ F1, Rel K ρ1 σ F1 H ∧ Stp ρ0 σ0 F0 H0 ρ1 σ F1 H ∧ Stp ρ σ F H ρ1 σ F1 H ∧ RR K H0 ρ1 σ F1 H r1 v ∧ noBr r1 = true ∧ ∀ d, r1 = .ow d → r = .ow d := by
  cases r with
  | fz d =>
    cases e
    exact ⟨F, R, S, Stp.refl, q, rfl, fun _ z => by cases z⟩
  | ow d =>
    cases e
    exact ⟨F, R, S, Stp.refl, q, rfl, fun _ z => z⟩
  | br j =>
    obtain ⟨⟨d, ρ2⟩, e1, e⟩ := Option.bind_eq_some_iff.mp e
    cases e
    obtain ⟨F1, h1, h2, h3, _⟩ := frz_ok (r := .br j) (H0 := H) R Stp.refl q e1
    exact ⟨F1, h1, S.trans h2, h2, h3, rfl, fun _ z => by cases z⟩
theorem norms_ok : ∀ {rs rs1 : List Res} {vs : List V} {ρ ρ1 : En} {F : Hp}, Rel K ρ σ F H → Stp ρ0 σ0 F0 H0 ρ σ F H → RRL K H0 ρ σ F H rs vs → norms rs ρ = some (rs1, ρ1) →
    ∃ F1, Rel K ρ1 σ F1 H ∧ Stp ρ0 σ0 F0 H0 ρ1 σ F1 H ∧ Stp ρ σ F H ρ1 σ F1 H ∧ RRL K H0 ρ1 σ F1 H rs1 vs ∧ (∀ r ∈ rs1, noBr r = true) ∧ ∀ (k : Nat) (d : D), rs1[k]? = some (.ow d) → rs[k]? = some (.ow d)
  | [], _, _, ρ, _, F, R, S, q, e => by
    cases e
    exact ⟨F, R, S, Stp.refl, q, fun _ h => by simp at h, fun _ _ h => by simp at h⟩
  | r :: rs, _, _, ρ, _, F, R, S, q, e => by
    obtain ⟨⟨r1, ρa⟩, e1, e⟩ := Option.bind_eq_some_iff.mp e
    obtain ⟨⟨rs1, ρb⟩, e2, e⟩ := Option.bind_eq_some_iff.mp e
    cases e
    obtain ⟨v, w, rfl, q1, q2, q3⟩ := q
    obtain ⟨F1, R1, S1, T1, p1, n1, o1⟩ := norm_ok R S q1 e1
    obtain ⟨F2, R2, S2, T2, p2, n2, o2⟩ := norms_ok R1 S1 (q2.step T1) e2
    refine ⟨F2, R2, S2, T1.trans T2, ⟨v, w, rfl, p1.step T2, p2, fun d z k d' hk => q3 d (o1 d z) k d' (o2 k d' hk)⟩, fun r hr => ?_, fun k d hk => ?_⟩
    · rcases List.mem_cons.mp hr with z | z
      · rw [z]; exact n1
      · exact n2 r z
    · cases k with
      | zero =>
        simp at hk ⊢
        exact o1 d hk
      | succ k =>
        simp at hk ⊢
        exact o2 k d hk
/-- a result stands while another is stored -/
theorem RR.set {r2 : Res} {v2 : V} {i : Nat} (q : RR K H0 ρ σ F H r v) (n : noBr r = true) (h2 : RR K H0 ρ σ F H r2 v2) (n2 : noBr r2 = true) (ap : ∀ d d', r2 = .ow d → r = .ow d' → v ≠ v2) (e : setSlot i r2 ρ = some ρ1) : RR K H0 ρ1 (σ.set i (some v2)) F H r v := by
  cases r with
  | fz d => exact q
  | br j => cases n
  | ow d =>
    obtain ⟨a, e1, q2, q3, q4, q5⟩ := q
    refine ⟨a, e1, q2, q3, fun ⟨k, s, d', w1, w2, w3⟩ => ?_, q5⟩
    have fin : ∀ {s' : Slot}, ρ1 = ρ.set i s' → (∀ d', s'.own = some d' → v2 ≠ v ) → False := fun {s'} hr hv => by
      subst hr
      rcases get_set_some w1 with ⟨rfl, z⟩ | ⟨hk, w1⟩
      · subst z
        rcases get_set_some w3 with ⟨_, z⟩ | ⟨hz, _⟩
        · cases z
          exact hv d' w2 e1.symm
        · exact hz rfl
      · rw [List.getElem?_set_ne (Ne.symm hk)] at w3
        exact q4 ⟨k, s, d', w1, w2, w3⟩
    cases r2 with
    | fz d2 =>
      cases e
      exact fin rfl fun _ z => by cases z
    | ow d2 =>
      cases e
      exact fin rfl fun _ _ z => ap d2 d rfl rfl z.symm
    | br j => cases n2
theorem setMany_ok : ∀ {is : List Nat} {rs : List Res} {vs : List V} {ρ ρ1 : En} {σ : L2.St} {F : Hp}, Rel K ρ σ F H → Stp ρ0 σ0 F0 H0 ρ σ F H → RRL K H0 ρ σ F H rs vs → (∀ r ∈ rs, noBr r = true) → setMany is rs ρ = some ρ1 →
    ∃ F1, Rel K ρ1 (setManyV is vs σ) F1 H ∧ Stp ρ0 σ0 F0 H0 ρ1 (setManyV is vs σ) F1 H
  | [], [], _, ρ, _, σ, F, R, S, q, n, e => by
    cases e
    have z : _ = [] := q
    subst z
    exact ⟨F, R, S⟩
  | [], _ :: _, _, _, _, _, _, _, _, _, _, e => by cases e
  | _ :: _, [], _, _, _, _, _, _, _, _, _, e => by cases e
  | i :: is, r :: rs, _, ρ, ρ1, σ, F, R, S, q, n, e => by
    obtain ⟨v, w, rfl, q1, q2, q3⟩ := q
    have nr := n r (by simp)
    have e : (if noBr r = true then (setSlot i r ρ).bind fun ρ1 => setMany is rs ρ1 else none) = some ρ1 := e
    rw [if_pos nr] at e
    obtain ⟨ρa, e1, e⟩ := Option.bind_eq_some_iff.mp e
    obtain ⟨F1, R1, S1⟩ := set_ok R S q1 e1
    -- no borrowed one: F stays
    have R1' : Rel K ρa (σ.set i (some v)) F H ∧ Stp ρ0 σ0 F0 H0 ρa (σ.set i (some v)) F H := by
      cases r with
      | fz d =>
        cases e1
        exact ⟨R.set_fz q1 i, S.set_fz i d _⟩
      | ow d =>
        have q1' := q1
        obtain ⟨a, rfl, n', f, o, w'⟩ := q1'
        cases e1
        refine ⟨R.set_ow n' o w' i, S.ff, S.kp, S.th, fun k e b hk hb => ?_, fun k e hk => ?_⟩
        · rcases get_set_some hk with ⟨rfl, z⟩ | ⟨hj, hk⟩
          · rcases get_set_some hb with ⟨_, z⟩ | ⟨hz, _⟩
            · cases z
              exact .inr f
            · exact absurd rfl hz
          · rw [List.getElem?_set_ne (Ne.symm hj)] at hb
            exact S.ow k e b hk hb
        · rcases get_set_some hk with ⟨rfl, z⟩ | ⟨hj, hk⟩
          · cases z
          · rw [List.getElem?_set_ne (Ne.symm hj)]
            exact S.pm k e hk
      | br j => cases nr
    have stay : ∀ (rs : List Res) (w : List V), RRL K H0 ρ σ F H rs w → (∀ r ∈ rs, noBr r = true) → (∀ d, r = .ow d → ∀ (k : Nat) (d' : D), rs[k]? = some (.ow d') → w[k]? ≠ some v) → RRL K H0 ρa (σ.set i (some v)) F H rs w := by
      intro rs
      induction rs with
      | nil => intro w h _ _; exact h
      | cons r' rs ih =>
        intro w h hn hap
        obtain ⟨v', w', rfl, p1, p2, p3⟩ := h
        refine ⟨v', w', rfl, p1.set (hn r' (by simp)) q1 nr (fun d d' z1 z2 z3 => ?_) e1, ih w' p2 (fun r hr => hn r (by simp [hr])) (fun d z k d' hk => ?_), p3⟩
        · exact hap d z1 0 d' (by simp [z2]) (by simp [z3])
        · exact hap d z (k + 1) d' (by simpa using hk)
    have fin := setMany_ok R1'.1 R1'.2 (stay rs w q2 (fun r hr => n r (by simp [hr])) q3) (fun r hr => n r (by simp [hr])) e
    exact fin
end
def dMany (is : List Nat) (fa : DA) : DS := fun ρ => (fa ρ).bind fun p => (norms p.1 p.2).bind fun q => (setMany is q.1 q.2).bind fun ρ' => some (.nx, ρ')
section
variable {X : Cx} {st : Stmt} {e c a b : Expr} {fa fb : DE} {f g : DS} {fr : DA} {pos : Pos}
theorem many_ok {K : PySem.W.Frag} {is : List Nat} {Dn : Ends} {σ : L2.St} {H : Hp} (h : TSD K (dMany is fr) Dn σ H) : TAD K fr σ H fun vs H1 => vs.length = is.length ∧ Dn.nx (setManyV is vs σ) H1 := by
  obtain ⟨ρ, F, o, ρ', R, e, k⟩ := h
  obtain ⟨⟨rs, ρ1⟩, e1, e⟩ := Option.bind_eq_some_iff.mp e
  obtain ⟨⟨rs1, ρ2⟩, e2, e⟩ := Option.bind_eq_some_iff.mp e
  obtain ⟨ρ3, e3, e⟩ := Option.bind_eq_some_iff.mp e
  cases e
  refine ⟨ρ, F, rs, ρ1, R, e1, fun vs F1 H1 R1 S1 q => ?_⟩
  obtain ⟨F2, R2, S2, T2, q2, n2, _⟩ := norms_ok R1 S1 q e2
  obtain ⟨F3, R3, S3⟩ := setMany_ok R2 S2 q2 n2 e3
  refine ⟨?_, k _ F3 H1 R3 S3⟩
  have l1 : ∀ (is : List Nat) (rs : List Res) (ρ ρ' : En), setMany is rs ρ = some ρ' → is.length = rs.length := by
    intro is
    induction is with
    | nil =>
      intro rs ρ ρ' h
      cases rs with
      | nil => rfl
      | cons _ _ => cases h
    | cons i is ih =>
      intro rs ρ ρ' h
      cases rs with
      | nil => cases h
      | cons r rs =>
        have h : (if noBr r = true then (setSlot i r ρ).bind fun ρ1 => setMany is rs ρ1 else none) = some ρ' := h
        by_cases hn : noBr r = true
        · rw [if_pos hn] at h
          obtain ⟨_, _, h⟩ := Option.bind_eq_some_iff.mp h
          simp [ih _ _ _ h]
        · rw [if_neg hn] at h
          cases h
  have l2 : ∀ (rs : List Res) (vs : List V), RRL K H ρ2 σ F2 H1 rs vs → vs.length = rs.length := by
    intro rs
    induction rs with
    | nil =>
      intro vs h
      have z : vs = [] := h
      rw [z]
      rfl
    | cons r rs ih =>
      intro vs h
      obtain ⟨v, w, rfl, _, h2, _⟩ := h
      simp [ih w h2]
  rw [l2 _ _ q2, l1 _ _ _ _ e3]
theorem ts_par {i j : Nat} {x y : Str} {px py pt : Pos} {kt k2 pt2} (hc : X.calm = true) (hN : X.N.Nodup) (hi : X.N[i]? = some x) (hj : X.N[j]? = some y) (hij : i ≠ j)
    (hx : X.env.scope.names.lookup x = some .local) (hy : X.env.scope.names.lookup y = some .local) (ha : PA X [a, b] (TAD X.K fr))
    (hw : swappedStores [.Tuple [.Name x px, .Name y py] kt pt] (.Tuple [a, b] k2 pt2) X.env = pure (some [x, y]))
    (hs : swapsWithSole [.Tuple [.Name x px, .Name y py] kt pt] (.Tuple [a, b] k2 pt2) pos.line X.env = pure false := by rfl) :
    PS X (.Assign [.Tuple [.Name x px, .Name y py] kt pt] (.Tuple [a, b] k2 pt2) pos) (TSD X.K (dMany [i, j] fr)) := ps_imp (ps_par hc hN hi hj hij hx hy ha hw hs) fun Dn σ H h => by
  have h := many_ok h
  obtain ⟨ρ, F, rs, ρ', R, e, k⟩ := h
  refine ⟨ρ, F, rs, ρ', R, e, fun vs F1 H1 R1 S1 q => ?_⟩
  obtain ⟨hl, q⟩ := k vs F1 H1 R1 S1 q
  match vs, hl, q with
  | [v, w], _, q => exact ⟨v, w, rfl, q⟩
theorem ts_par3 {i j l : Nat} {x y z : Str} {c : Expr} {px py pz pt : Pos} {kt k2 pt2} (hc : X.calm = true) (hN : X.N.Nodup) (hi : X.N[i]? = some x) (hj : X.N[j]? = some y) (hl : X.N[l]? = some z) (hij : i ≠ j) (hil : i ≠ l) (hjl : j ≠ l)
    (hx : X.env.scope.names.lookup x = some .local) (hy : X.env.scope.names.lookup y = some .local) (hz : X.env.scope.names.lookup z = some .local) (ha : PA X [a, b, c] (TAD X.K fr))
    (hw : swappedStores [.Tuple [.Name x px, .Name y py, .Name z pz] kt pt] (.Tuple [a, b, c] k2 pt2) X.env = pure (some [x, y, z]))
    (hs : swapsWithSole [.Tuple [.Name x px, .Name y py, .Name z pz] kt pt] (.Tuple [a, b, c] k2 pt2) pos.line X.env = pure false := by rfl) :
    PS X (.Assign [.Tuple [.Name x px, .Name y py, .Name z pz] kt pt] (.Tuple [a, b, c] k2 pt2) pos) (TSD X.K (dMany [i, j, l] fr)) := ps_imp (ps_par3 hc hN hi hj hl hij hil hjl hx hy hz ha hw hs) fun Dn σ H h => by
  have h := many_ok h
  obtain ⟨ρ, F, rs, ρ', R, e, k⟩ := h
  refine ⟨ρ, F, rs, ρ', R, e, fun vs F1 H1 R1 S1 q => ?_⟩
  obtain ⟨hl, q⟩ := k vs F1 H1 R1 S1 q
  match vs, hl, q with
  | [u, v, w], _, q => exact ⟨u, v, w, rfl, q⟩

/-! ### a target of any form -/
def dAsg (fa : DE) (tg : DTg) : DS := fun ρ => (fa ρ).bind fun p => (frz p.1 p.2).bind fun q => (tg q.1 q.2).bind fun ρ' => some (.nx, ρ')
theorem ts_asg {tg : Expr} {t : DTg} {sl : List Nat} (he : PE X e (TD X.K fa)) (hg : PG X tg (TGD X.K sl t)) (hs : swapsWithSole [tg] e pos.line X.env = pure false := by rfl) (hw : swappedStores [tg] e X.env = pure none := by rfl)
    (h1 : (assignEach [tg] X.env).map (·.2) = [assign tg X.env] := by rfl) : PS X (.Assign [tg] e pos) (TSD X.K (dAsg fa t)) := ps_imp (ps_asg he hg hs hw h1) fun Dn σ H ⟨ρ, F, o, ρ', R, e, k⟩ => by
  obtain ⟨⟨r, ρ1⟩, e1, e⟩ := Option.bind_eq_some_iff.mp e
  obtain ⟨⟨d, ρ2⟩, e2, e⟩ := Option.bind_eq_some_iff.mp e
  obtain ⟨ρ3, e3, e⟩ := Option.bind_eq_some_iff.mp e
  cases e
  refine ⟨ρ, F, r, ρ1, R, e1, fun v F1 H1 R1 S1 q => ?_⟩
  obtain ⟨F2, R2, S2, q2, _⟩ := frz_ok R1 S1 q e2
  exact ⟨ρ2, F2, d, _, R2, q2, e3, fun σ' F' H' R' S' _ => k σ' F' H' R' (S2.trans S')⟩

/-! ### x op= e -/
def dAug (i : Nat) (g : D → D → Option Res) (fa : DE) : DS := fun ρ => match ρ[i]? with
  | some (.fz dx) => (fa ρ).bind fun p => (cont p.1 p.2).bind fun dy => (g dx dy).bind fun r => (setSlot i r p.2).bind fun ρ' => some (.nx, ρ')
  | _ => none
theorem ts_aug {i : Nat} {x : Str} {op : Operator} {gg : D → D → Option Res} {pos' : Pos} (hN : X.N.Nodup) (hi : X.N[i]? = some x) (hx : Loc X.env.scope x) (he : PE X e (TD X.K fa)) (ho : OpR X (inplaceOp op) (rD2 X.K gg)) (hf : X.fn x = true ∨ X.env.scope.names.lookup x = some .local := by first | exact .inl rfl | exact .inr rfl | assumption) :
    PS X (.AugAssign (.Name x pos') op e pos) (TSD X.K (dAug i gg fa)) := ps_imp (ps_aug hN hi hx he ho hf) fun Dn σ H ⟨ρ, F, o, ρ', R, e, k⟩ => by
  cases hs : ρ[i]? with
  | none =>
    simp only [dAug, hs] at e
    cases e
  | some s =>
    simp only [dAug, hs] at e
    cases s with
    | fz dx =>
      obtain ⟨⟨r, ρ1⟩, e1, e⟩ := Option.bind_eq_some_iff.mp e
      obtain ⟨dy, e2, e⟩ := Option.bind_eq_some_iff.mp e
      obtain ⟨r', e3, e⟩ := Option.bind_eq_some_iff.mp e
      obtain ⟨ρ2, e4, e⟩ := Option.bind_eq_some_iff.mp e
      cases e
      obtain ⟨v, h1, h2⟩ := R.fz i dx hs
      refine ⟨v, h1, ρ, F, r, ρ1, R, e1, fun y F1 H1 R1 S1 q => ?_⟩
      refine ⟨F1, dx, dy, r', R1.fh, Rep.vw R1.fh (h2.mono S1.ff), q.vw R1 e2, e3, fun z F2 H2 x2 w => ?_⟩
      obtain ⟨F3, R3, S3⟩ := set_ok (R1.ext x2) (S1.trans x2.stp) (w.rr R1 S1.th) e4
      exact k _ F3 H2 R3 S3
    | _ => cases e

/-! ### own objects changed -/
def updSlot (i : Nat) (d' : D) (ρ : En) : Option En := match ρ[i]? with
  | some (.ow _) => some (ρ.set i (.ow d'))
  | some (.pm _) => some (ρ.set i (.pm d'))
  | _ => none
def ownC (i : Nat) (ρ : En) : Option D := match ρ[i]? with
  | some (.ow d) => some d
  | some (.pm d) => some d
  | _ => none
theorem ownC_some {i : Nat} {ρ : En} {d : D} (h : ownC i ρ = some d) : ∃ s, ρ[i]? = some s ∧ s.own = some d := by
  unfold ownC at h
  split at h
  · cases h; exact ⟨_, by assumption, rfl⟩
  · cases h; exact ⟨_, by assumption, rfl⟩
  · cases h
theorem Rel.upd {K : PySem.W.Frag} {ρ ρ' : En} {σ : L2.St} {F H : Hp} (R : Rel K ρ σ F H) {i : Nat} {d d' : D} {a : Addr} {o : HO} (hs : ownC i ρ = some d) (ha : σ[i]? = some (some (.ref a))) (hd : Own K F (L2.upd H a o) a d') (e : updSlot i d' ρ = some ρ') :
    Rel K ρ' σ F (L2.upd H a o) ∧ Stp ρ σ F H ρ' σ F (L2.upd H a o) := by
  obtain ⟨s, h1, h2⟩ := ownC_some hs
  obtain ⟨b, h3, h4, h5⟩ := R.ow i s d h1 h2
  rw [ha] at h3
  cases h3
  obtain ⟨u, hu, _⟩ := h5.there
  obtain ⟨s', rfl, hs', hk⟩ : ∃ s', ρ' = ρ.set i s' ∧ s'.own = some d' ∧ ((∃ x, s' = .ow x) ↔ ∃ x, s = .ow x) := by
    unfold updSlot at e
    rw [h1] at e
    cases s with
    | no => cases e
    | fz _ => cases e
    | ow _ => cases e; exact ⟨_, rfl, rfl, ⟨fun _ => ⟨_, rfl⟩, fun _ => ⟨_, rfl⟩⟩⟩
    | pm _ => cases e; exact ⟨_, rfl, rfl, ⟨fun z => (nomatch z.choose_spec), fun z => (nomatch z.choose_spec)⟩⟩
  have oa : Owned ρ σ a := ⟨i, s, d, h1, h2, ha⟩
  have other : ∀ j t e b, ρ[j]? = some t → t.own = some e → σ[j]? = some (some (.ref b)) → j ≠ i → b ≠ a := fun j t e b q1 q2 q3 hj z => by
    subst z
    exact hj (R.dist j i t s e d b q1 q2 h1 h2 q3 ha)
  refine ⟨⟨fun b w hb => ?_, by simp [R.len], fun j e hj => ?_, fun j t e hj he => ?_, fun j k t u e' f b k1 q1 k2 q2 w1 w2 => ?_⟩, ⟨Same.refl _, fun b w hb hn ho => ?_, fun b hb => ?_, fun j e b hj hb => ?_, fun j e hj => ?_⟩⟩
  · rw [upd_ne fun z => by subst z; rw [h4] at hb; cases hb]
    exact R.fh b w hb
  · rcases get_set_some hj with ⟨rfl, z⟩ | ⟨hj', hj⟩
    · rw [← z] at hs'
      cases hs'
    · exact R.fz j e hj
  · rcases get_set_some hj with ⟨rfl, z⟩ | ⟨hj', hj⟩
    · subst z
      rw [hs'] at he
      cases he
      exact ⟨a, ha, h4, hd⟩
    · obtain ⟨b, q1, q2, q3⟩ := R.ow j t e hj he
      exact ⟨b, q1, q2, q3.mono (Same.refl _) fun w hw => by rw [upd_ne (other j t e b hj he q1 hj')]; exact hw⟩
  · rcases get_set_some k1 with ⟨ej, z1⟩ | ⟨hj, k1'⟩
    · rcases get_set_some k2 with ⟨ek, z2⟩ | ⟨hk', k2'⟩
      · exact ej.trans ek.symm
      · subst ej
        rw [ha] at w1
        cases w1
        exact absurd rfl (other k u f a k2' q2 w2 hk')
    · rcases get_set_some k2 with ⟨ek, z2⟩ | ⟨hk', k2'⟩
      · subst ek
        rw [ha] at w2
        cases w2
        exact absurd rfl (other j t e' a k1' q1 w1 hj)
      · exact R.dist j k t u e' f b k1' q1 k2' q2 w1 w2
  · have hba : b ≠ a := fun z => by subst z; exact ho oa
    rw [upd_ne hba]
    exact ⟨hb, hn⟩
  · by_cases z : b = a
    · subst z
      rw [upd_same] at hb
      cases hb
    · rw [upd_ne z] at hb
      exact hb
  · rcases get_set_some hj with ⟨rfl, z⟩ | ⟨hj', hj⟩
    · rw [ha] at hb
      cases hb
      obtain ⟨x, hx⟩ := hk.mp ⟨_, z.symm⟩
      subst hx
      exact .inl ⟨j, _, h1, ha⟩
    · exact .inl ⟨j, e, hj, hb⟩
  · rcases get_set_some hj with ⟨rfl, z⟩ | ⟨hj', hj⟩
    · cases s with
      | no => cases h2
      | fz _ => cases h2
      | ow x =>
        obtain ⟨y, hy⟩ := hk.mpr ⟨x, rfl⟩
        rw [← z] at hy
        cases hy
      | pm x => exact ⟨rfl, _, h1⟩
    · exact ⟨rfl, e, hj⟩
/-- a method that changes the own object of slot i: (new content, answer), by the content and the arguments, which are frozen -/
def frzs : List Res → En → Option (List D × En)
  | [], ρ => some ([], ρ)
  | r :: rs, ρ => (frz r ρ).bind fun p => (frzs rs p.2).bind fun q => some (p.1 :: q.1, q.2)
end
end Pu

/-! Pu5: methods of own lists, comprehensions, defs and their calls. -/
namespace Pu
open PySem PySem.Spec PyProof.Rows L2

section
variable {K : PySem.W.Frag} {ρ ρ' ρ1 ρ0 : En} {σ σ' σ0 : L2.St} {F F' F1 F0 H H' H1 H0 : Hp} {r : Res} {v : V}
/-- the others stand while the first is frozen -/
theorem RRL.frz {ρa : En} {F1 : Hp} (sf : Same F F1) (fz : ∀ b, F1 b ≠ none → F b ≠ none ∨ (v = .ref b ∧ ((∃ d, r = .ow d) ∨ Owned ρ σ b))) (ho : ∀ b, Owned ρa σ b → Owned ρ σ b) :
    ∀ {rs : List Res} {w : List V}, RRL K H0 ρ σ F H rs w → (∀ d, r = .ow d → ∀ (k : Nat) (d' : D), rs[k]? = some (.ow d') → w[k]? ≠ some v) → RRL K H0 ρa σ F1 H rs w
  | [], _, h, _ => h
  | r' :: rs, _, h, ap => by
    obtain ⟨v', w', rfl, p1, p2, p3⟩ := h
    refine ⟨v', w', rfl, ?_, RRL.frz sf fz ho p2 (fun d z k d' hk => ?_), p3⟩
    · cases r' with
      | fz d => exact Rep.mono sf _ _ p1
      | br j => exact p1
      | ow d =>
        obtain ⟨a, z1, z2, z3, z4, z5⟩ := p1
        refine ⟨a, z1, ?_, z3, fun z => z4 (ho a z), z5.mono sf fun _ z => z⟩
        cases hq : F1 a with
        | none => rfl
        | some u =>
          rcases fz a (by rw [hq]; intro z; cases z) with z | ⟨z, y⟩
          · exact absurd z2 z
          · rcases y with ⟨e, y⟩ | y
            · exact absurd (show (v' :: w')[0]? = some v by rw [z1, z]; rfl) (ap e y 0 d (by simp))
            · exact absurd y z4
    · exact ap d z (k + 1) d' (by simpa using hk)
theorem frzs_ok : ∀ {rs : List Res} {vs : List V} {ds : List D} {ρ ρ1 : En} {F : Hp}, Rel K ρ σ F H → Stp ρ0 σ0 F0 H0 ρ σ F H → RRL K H0 ρ σ F H rs vs → frzs rs ρ = some (ds, ρ1) →
    ∃ F1, Rel K ρ1 σ F1 H ∧ Stp ρ0 σ0 F0 H0 ρ1 σ F1 H ∧ RepL K F1 ds vs ∧ Same F F1
  | [], _, _, ρ, _, F, R, S, q, e => by
    cases e
    exact ⟨F, R, S, q, Same.refl _⟩
  | r :: rs, _, _, ρ, ρ1, F, R, S, q, e => by
    obtain ⟨⟨d, ρa⟩, e1, e⟩ := Option.bind_eq_some_iff.mp e
    obtain ⟨⟨ds, ρb⟩, e2, e⟩ := Option.bind_eq_some_iff.mp e
    cases e
    obtain ⟨v, w, rfl, q1, q2, q3⟩ := q
    obtain ⟨F1, R1, S1, p1, sf, fz, ho⟩ := frz_ok R S q1 e1
    obtain ⟨F2, R2, S2, p2, sf2⟩ := frzs_ok R1 S1 (RRL.frz sf fz ho q2 q3) e2
    exact ⟨F2, R2, S2, ⟨v, w, rfl, p1.mono sf2, p2⟩, sf.trans sf2⟩
end

/-! ### methods of own objects: m by the content and the frozen arguments gives the new content and the answer -/
def rMut (K : PySem.W.Frag) (m : D → List D → Option (D × D)) : V → List V → Hp → VK → Prop := fun x vs H Q => ∃ (a : Addr) (F : Hp) (d : D) (ds : List D) (d' r : D), x = .ref a ∧ Same F H ∧ F a = none ∧ Own K F H a d ∧ RepL K F ds vs ∧ m d ds = some (d', r) ∧
  ∀ (o : HO) (v : V), Own K F (L2.upd H a o) a d' → Rep K F r v → Q v (L2.upd H a o)
def isLst : D → Bool
  | .lst _ => true
  | _ => false
def isDic : D → Bool
  | .dic _ _ => true
  | _ => false
def dMeth (i : Nat) (p : D → Bool) (m : D → List D → Option (D × D)) (fa : DA) : DE := fun ρ => (ownC i ρ).bind fun c => if p c = true then (fa ρ).bind fun q => (frzs q.1 q.2).bind fun u => (ownC i u.2).bind fun d => (m d u.1).bind fun w => (updSlot i w.1 u.2).bind fun ρ' => some (.fz w.2, ρ') else none
section
variable {X : Cx} {st : Stmt} {e c a b : Expr} {es : List Expr} {fa fb : DE} {f g : DS} {fr : DA} {pos : Pos}
theorem meth_ok {K : PySem.W.Frag} {i : Nat} {T : String} {p : D → Bool} {m : D → List D → Option (D × D)} {σ : L2.St} {H : Hp} {Q : VK} (hT : ∀ F H a d, p d = true → Own K F H a d → tyV K T (.ref a) H)
    (h : TD K (dMeth i p m fr) σ H Q) : tBM K T (rMut K m) (tVar i) (TAD K fr) σ H Q := by
  obtain ⟨ρ, F, r, ρ', R, e, k⟩ := h
  obtain ⟨d0, e0, e⟩ := Option.bind_eq_some_iff.mp e
  by_cases hp : p d0 = true
  · rw [if_pos hp] at e
    obtain ⟨⟨rs, ρ1⟩, e1, e⟩ := Option.bind_eq_some_iff.mp e
    obtain ⟨⟨ds, ρ2⟩, e2, e⟩ := Option.bind_eq_some_iff.mp e
    obtain ⟨d, e3, e⟩ := Option.bind_eq_some_iff.mp e
    obtain ⟨⟨d', r'⟩, e4, e⟩ := Option.bind_eq_some_iff.mp e
    obtain ⟨ρ3, e5, e⟩ := Option.bind_eq_some_iff.mp e
    cases e
    obtain ⟨s0, h1, h2⟩ := ownC_some e0
    obtain ⟨x, h3, h4, h5⟩ := R.ow i s0 d0 h1 h2
    refine ⟨_, h3, hT F H x d0 hp h5, ρ, F, rs, ρ1, R, e1, fun vs F1 H1 R1 S1 q => ?_⟩
    obtain ⟨F2, R2, S2, q2, sf⟩ := frzs_ok R1 S1 q e2
    obtain ⟨s, g1, g2⟩ := ownC_some e3
    obtain ⟨y, g3, g4, g5⟩ := R2.ow i s d g1 g2
    rw [h3] at g3
    cases g3
    refine ⟨x, F2, d, ds, d', r', rfl, R2.fh, g4, g5, q2, e4, fun o v w1 w2 => ?_⟩
    obtain ⟨R3, S3⟩ := R2.upd e3 h3 w1 e5
    exact k v F2 _ R3 (S2.trans S3) w2
  · rw [if_neg hp] at e
    cases e
theorem isLst_ty {K : PySem.W.Frag} : ∀ F H a d, isLst d = true → Own K F H a d → tyV K "list" (.ref a) H := fun F H a d h o => by
  cases d with
  | lst ds =>
    obtain ⟨xs, h1, _⟩ := o
    exact .inl ⟨rfl, xs, SqL.of h1⟩
  | _ => cases h
theorem isDic_ty {K : PySem.W.Frag} : ∀ F H a d, isDic d = true → Own K F H a d → tyV K "dict" (.ref a) H := fun F H a d h o => by
  cases d with
  | dic ks ds =>
    obtain ⟨xs, h1, _⟩ := o
    exact .inr (.inr (.inl ⟨rfl, .inl ⟨xs, h1⟩⟩))
  | _ => cases h
theorem mtR_imp {id : String} {r r' : V → List V → Hp → VK → Prop} (h : MtR X id r) (w : ∀ x vs H Q, r' x vs H Q → r x vs H Q) : MtR X id r' := fun pins s σ H x vs v us Q I rx rv q => h pins s σ H x vs v us Q I rx rv (w _ _ _ _ q)
/-- xs.append(y) -/
def mAppend : D → List D → Option (D × D) := fun d ds => match d, ds with
  | .lst xs, [y] => if xs.length < sizeLine then some (.lst (xs ++ [y]), .non) else none
  | _, _ => none
theorem mt_appendD : MtR X "list.append" (rMut X.K mAppend) := mtR_imp mt_append fun x vs H Q h => by
  obtain ⟨a, F, d, ds, d', r, rfl, fh, fn, ow, hv, e, k⟩ := h
  unfold mAppend at e
  split at e
  · rename_i xs y
    by_cases hl : xs.length < sizeLine
    · rw [if_pos hl] at e
      cases e
      obtain ⟨vs', h1, h2⟩ := ow
      obtain ⟨v, w, rfl, h3, h4⟩ := hv
      have h4 : w = [] := h4
      subst h4
      exact ⟨a, vs', v, rfl, rfl, h1, by rw [h2.length]; exact hl, k _ _ ⟨_, upd_same, RepL.append h2 ⟨v, [], rfl, h3, rfl⟩⟩ rfl⟩
    · rw [if_neg hl] at e
      cases e
  · cases e
theorem td_append {i : Nat} {x : Str} {p apos cpos : Pos} (hN : X.N[i]? = some x) (hv : Vis X.env.scope x) (ha : PA X (e :: es) (TAD X.K fr)) (hd : (x == ("__debug__" : Str)) = false := by decide) (hcd : (x == ("__classdict__" : Str)) = false := by decide)
    (hbase : attributeBase (.Name x p) "append" X.env (eval (.Name x p) X.env) = eval (.Name x p) X.env := by rfl)
    (hfew : ((backTo cpos (starEach (e :: es) X.env)).all (fun x => !x.1) && (backToKw cpos (keywordEach [] X.env)).all (fun x => x.1.isSome)
      && decide ((e :: es).length + ([] : List Keyword).length + (if ([] : List Keyword).isEmpty then 0 else 1) < 30)) = true := by rfl)
    (hline : (apos.endLine == cpos.line) = true := by rfl) (hs : starEach (e :: es) X.env = (false, eval e X.env) :: starEach es X.env := by rfl) (hplain : (backTo cpos (starEach es X.env)).any (·.1) = false := by rfl) :
    PE X (.Call (.Attribute (.Name x p) "append" apos) (e :: es) [] cpos) (TD X.K (dMeth i isLst mAppend fr)) :=
  pe_imp (pe_bm PySem.F.plainAttrs_list PySem.F.slot_list_append PySem.F.type_list_append mt_appendD (pe_var (i := i) hN hv hd hcd) ha hbase hfew hline hs hplain) fun σ H Q h => meth_ok isLst_ty h
/-- xs.pop(i) -/
def mPopAt : D → List D → Option (D × D) := fun d ds => match d, ds with
  | .lst xs, [.int i] => if -(2 ^ 63) ≤ i ∧ i < 2 ^ 63 then (seqIndex? i xs.length).bind fun k => (xs[k]?).bind fun y => some (.lst (xs.eraseIdx k), y) else none
  | _, _ => none
theorem mt_popAtD : MtR X "list.pop" (rMut X.K mPopAt) := mtR_imp mt_popAt fun x vs H Q h => by
  obtain ⟨a, F, d, ds, d', r, rfl, fh, fn, ow, hv, e, k⟩ := h
  unfold mPopAt at e
  split at e
  · rename_i xs i
    by_cases hl : -(2 ^ 63) ≤ i ∧ i < 2 ^ 63
    · rw [if_pos hl] at e
      obtain ⟨j, e1, e⟩ := Option.bind_eq_some_iff.mp e
      obtain ⟨y, e2, e⟩ := Option.bind_eq_some_iff.mp e
      cases e
      obtain ⟨vs', h1, h2⟩ := ow
      obtain ⟨v, w, rfl, h3, h4⟩ := hv
      have h4 : w = [] := h4
      have h3 : v = .int i := h3
      subst h4 h3
      obtain ⟨y', h5, h6⟩ := h2.get e2
      exact ⟨a, vs', i, j, y', rfl, rfl, h1, hl.1, hl.2, by rw [h2.length]; exact e1, h5, k _ _ ⟨_, upd_same, RepL.eraseIdx j h2⟩ h6⟩
    · rw [if_neg hl] at e
      cases e
  · cases e
theorem td_popAt {i : Nat} {x : Str} {p apos cpos : Pos} (hN : X.N[i]? = some x) (hv : Vis X.env.scope x) (ha : PA X (e :: es) (TAD X.K fr)) (hd : (x == ("__debug__" : Str)) = false := by decide) (hcd : (x == ("__classdict__" : Str)) = false := by decide)
    (hbase : attributeBase (.Name x p) "pop" X.env (eval (.Name x p) X.env) = eval (.Name x p) X.env := by rfl)
    (hfew : ((backTo cpos (starEach (e :: es) X.env)).all (fun x => !x.1) && (backToKw cpos (keywordEach [] X.env)).all (fun x => x.1.isSome)
      && decide ((e :: es).length + ([] : List Keyword).length + (if ([] : List Keyword).isEmpty then 0 else 1) < 30)) = true := by rfl)
    (hline : (apos.endLine == cpos.line) = true := by rfl) (hs : starEach (e :: es) X.env = (false, eval e X.env) :: starEach es X.env := by rfl) (hplain : (backTo cpos (starEach es X.env)).any (·.1) = false := by rfl) :
    PE X (.Call (.Attribute (.Name x p) "pop" apos) (e :: es) [] cpos) (TD X.K (dMeth i isLst mPopAt fr)) :=
  pe_imp (pe_bm PySem.F.plainAttrs_list PySem.F.slot_list_pop PySem.F.type_list_pop mt_popAtD (pe_var (i := i) hN hv hd hcd) ha hbase hfew hline hs hplain) fun σ H Q h => meth_ok isLst_ty h
/-- xs.extend(ys), ys a temporary list -/
def dExtend (i : Nat) (fa : DE) : DE := fun ρ => (ownC i ρ).bind fun c => if isLst c = true then (fa ρ).bind fun q => match q.1 with
  | .ow (.lst ys) => (ownC i q.2).bind fun d => match d with
    | .lst xs => if xs.length + ys.length ≤ sizeLine then (updSlot i (.lst (xs ++ ys)) q.2).bind fun ρ' => some (.fz .non, ρ') else none
    | _ => none
  | _ => none else none
theorem mt_extendR : MtR X "list.extend" rExtend := mt_extend
theorem td_extend {i : Nat} {x : Str} {p apos cpos : Pos} (hN : X.N[i]? = some x) (hv : Vis X.env.scope x) (ha : PE X e (TD X.K fa)) (hd : (x == ("__debug__" : Str)) = false := by decide) (hcd : (x == ("__classdict__" : Str)) = false := by decide)
    (hbase : attributeBase (.Name x p) "extend" X.env (eval (.Name x p) X.env) = eval (.Name x p) X.env := by rfl)
    (hfew : ((backTo cpos (starEach [e] X.env)).all (fun x => !x.1) && (backToKw cpos (keywordEach [] X.env)).all (fun x => x.1.isSome)
      && decide ([e].length + ([] : List Keyword).length + (if ([] : List Keyword).isEmpty then 0 else 1) < 30)) = true := by rfl)
    (hline : (apos.endLine == cpos.line) = true := by rfl) (hs : starEach [e] X.env = (false, eval e X.env) :: starEach [] X.env := by rfl) (hplain : (backTo cpos (starEach [] X.env)).any (·.1) = false := by rfl) :
    PE X (.Call (.Attribute (.Name x p) "extend" apos) [e] [] cpos) (TD X.K (dExtend i fa)) :=
  pe_imp (pe_bm PySem.F.plainAttrs_list PySem.F.slot_list_extend PySem.F.type_list_extend mt_extendR (pe_var (i := i) hN hv hd hcd) (pa_cons ha pa_nil hs) hbase hfew hline hs hplain) fun σ H Q ⟨ρ, F, r, ρ', R, e, k⟩ => by
    obtain ⟨d0, e0, e⟩ := Option.bind_eq_some_iff.mp e
    by_cases hp : isLst d0 = true
    · rw [if_pos hp] at e
      obtain ⟨⟨rs, ρ1⟩, e1, e⟩ := Option.bind_eq_some_iff.mp e
      obtain ⟨s0, h1, h2⟩ := ownC_some e0
      obtain ⟨x, h3, h4, h5⟩ := R.ow i s0 d0 h1 h2
      refine ⟨_, h3, isLst_ty F H x d0 hp h5, ρ, F, rs, ρ1, R, e1, fun v F1 H1 R1 S1 q => ?_⟩
      cases rs with
      | fz d => cases e
      | br j => cases e
      | ow dy =>
        cases dy with
        | lst ys =>
          obtain ⟨d, e3, e⟩ := Option.bind_eq_some_iff.mp e
          cases d with
          | lst xs =>
            by_cases hl : xs.length + ys.length ≤ sizeLine
            · have e : (if xs.length + ys.length ≤ sizeLine then (updSlot i (.lst (xs ++ ys)) ρ1).bind fun ρ' => some (Res.fz .non, ρ') else none) = some (r, ρ') := e
              rw [if_pos hl] at e
              obtain ⟨ρ3, e5, e⟩ := Option.bind_eq_some_iff.mp e
              cases e
              obtain ⟨s, g1, g2⟩ := ownC_some e3
              obtain ⟨y, g3, g4, g5⟩ := R1.ow i s _ g1 g2
              rw [h3] at g3
              cases g3
              obtain ⟨b, rfl, w2, w3, w4, zs, w5, w6⟩ := q
              obtain ⟨vs, g6, g7⟩ := g5
              refine ⟨x, b, vs, zs, rfl, rfl, g6, w5, by rw [g7.length, w6.length]; exact hl, ?_⟩
              obtain ⟨R3, S3⟩ := R1.upd e3 h3 (o := .lst (vs ++ zs)) (d' := .lst (xs ++ ys)) ⟨_, upd_same, RepL.append g7 w6⟩ e5
              exact k _ F1 _ R3 (S1.trans S3) rfl
            · have e : (if xs.length + ys.length ≤ sizeLine then (updSlot i (.lst (xs ++ ys)) ρ1).bind fun ρ' => some (Res.fz .non, ρ') else none) = some (r, ρ') := e
              rw [if_neg hl] at e
              cases e
          | _ => cases e
        | _ => cases e
    · rw [if_neg hp] at e
      cases e

/-! ### xs[k] = e, of an own list -/
def dSetIx (i : Nat) (fk fv : DE) : DS := fun ρ => (fv ρ).bind fun p => (frz p.1 p.2).bind fun q => (ownC i q.2).bind fun _ => (fk q.2).bind fun u => (cont u.1 u.2).bind fun dk => (ownC i u.2).bind fun d => match d, dk with
  | .lst xs, .int k => (ixN xs.length k).bind fun j => (updSlot i (.lst (xs.set j q.1)) u.2).bind fun ρ' => some (.nx, ρ')
  | _, _ => none
theorem ts_setIx {i : Nat} {x : Str} {k v : Expr} {fk fv : DE} {p p2 : Pos} (hN : X.N[i]? = some x) (hvis : Vis X.env.scope x) (hk : PE X k (TD X.K fk)) (hv : PE X v (TD X.K fv))
    (hs : swapsWithSole [.Subscript (.Name x p) k p2] v pos.line X.env = pure false := by rfl) (hw : swappedStores [.Subscript (.Name x p) k p2] v X.env = pure none := by rfl) (h1 : (assignEach [.Subscript (.Name x p) k p2] X.env).map (·.2) = [assign (.Subscript (.Name x p) k p2) X.env] := by rfl)
    (ha : ∀ v : Value, assign (.Subscript (.Name x p) k p2) X.env v = (do
      let ov ← holding [v] (eval (.Name x p) X.env)
      let iv ← holding [v, ov] (eval k X.env)
      standAt p2
      holding [v, ov, iv] (setItem ov iv v)
      release [v, ov, iv] []) := by intro _; rfl) (hd : (x == ("__debug__" : Str)) = false := by decide) (hcd : (x == ("__classdict__" : Str)) = false := by decide) :
    PS X (.Assign [.Subscript (.Name x p) k p2] v pos) (TSD X.K (dSetIx i fk fv)) :=
  ps_imp (ps_asg hv (pg_sub (pe_var (i := i) hN hvis hd hcd) hk set_list ha) hs hw h1) fun Dn σ H ⟨ρ, F, o, ρ', R, e, kk⟩ => by
    obtain ⟨⟨r, ρ1⟩, e1, e⟩ := Option.bind_eq_some_iff.mp e
    obtain ⟨⟨dv, ρ2⟩, e2, e⟩ := Option.bind_eq_some_iff.mp e
    obtain ⟨d0, e0, e⟩ := Option.bind_eq_some_iff.mp e
    obtain ⟨⟨rk, ρ3⟩, e3, e⟩ := Option.bind_eq_some_iff.mp e
    obtain ⟨dk, e4, e⟩ := Option.bind_eq_some_iff.mp e
    obtain ⟨d, e5, e⟩ := Option.bind_eq_some_iff.mp e
    refine ⟨ρ, F, r, ρ1, R, e1, fun y F1 H1 R1 S1 q => ?_⟩
    obtain ⟨F2, R2, S2, q2, _⟩ := frz_ok R1 S1 q e2
    obtain ⟨s0, g1, g2⟩ := ownC_some e0
    obtain ⟨a, g3, _, _⟩ := R2.ow i s0 d0 g1 g2
    refine ⟨_, g3, ρ2, F2, rk, ρ3, R2, e3, fun z F3 H3 R3 S3 q3 => ?_⟩
    obtain ⟨s, w1, w2⟩ := ownC_some e5
    obtain ⟨b, w3, w4, w5⟩ := R3.ow i s d w1 w2
    rw [g3] at w3
    cases w3
    have vk := q3.vw R3 e4
    cases d with
    | lst xs =>
      cases dk with
      | int kn =>
        obtain ⟨j, e6, e⟩ := Option.bind_eq_some_iff.mp e
        obtain ⟨ρ4, e7, e⟩ := Option.bind_eq_some_iff.mp e
        cases e
        obtain ⟨vs, w6, w7⟩ := w5
        obtain ⟨R4, S4⟩ := R3.upd e5 g3 (o := .lst (vs.set j y)) (d' := .lst (xs.set j dv)) ⟨_, upd_same, RepL.set (q2.mono S3.ff) j w7⟩ e7
        exact ⟨a, vs, kn, j, rfl, vk, w6, by rw [w7.length]; exact e6, kk _ F3 _ R4 ((S2.trans S3).trans S4)⟩
      | _ => cases e
    | _ => cases e
end
end Pu

/-! Pu6: comprehensions, defs and their calls. -/
namespace Pu
open PySem PySem.Spec PyProof.Rows L2

/-! ### comprehensions -/
def wipeE (ρ : En) : List Nat → En
  | [] => ρ
  | v :: vs => (wipeE ρ vs).set v .no
/-- the slots of vs as in ρ0 -/
def restE (ρ0 ρ : En) : List Nat → En
  | [] => ρ
  | v :: vs => (restE ρ0 ρ vs).set v (ρ0[v]?.getD .no)
/-- the slots of vs hold nothing of one's own -/
def plainE (ρ : En) (vs : List Nat) : Bool := vs.all fun v => match ρ[v]? with
  | some (.ow _) => false
  | some (.pm _) => false
  | some _ => true
  | none => false
def lcD (own : List Nat) (tg : DTg) (tst : DT) (fe : DE) : List D → List D → En → Option (List D × En)
  | [], acc, ρ => some (acc, ρ)
  | d :: ds, acc, ρ => (tg d (wipeE ρ own)).bind fun ρ1 => (tst ρ1).bind fun p => if p.1 = true then
      (fe p.2).bind fun q => (frz q.1 q.2).bind fun u => lcD own tg tst fe ds (acc ++ [u.1]) u.2
    else lcD own tg tst fe ds acc p.2
def dYes : DT := fun ρ => some (true, ρ)
def dLc (own : List Nat) (fi : DI) (tg : DTg) (tst : DT) (fe : DE) : DE := fun ρ => (fi ρ).bind fun p => if plainE p.2 own = true then
    (lcD own tg tst fe p.1 [] p.2).bind fun q => if q.1.length ≤ sizeLine then some (.ow (.lst q.1), restE p.2 q.2 own) else none
  else none

section
variable {K : PySem.W.Frag} {ρ ρ' ρ1 ρ0 : En} {σ σ' σ0 : L2.St} {F F' F1 F0 H H' H1 H0 : Hp} {r : Res} {v : V}
theorem wipeE_length (ρ : En) : ∀ vs, (wipeE ρ vs).length = ρ.length
  | [] => rfl
  | v :: vs => by unfold wipeE; rw [List.length_set, wipeE_length ρ vs]
theorem Rel.wipe (R : Rel K ρ σ F H) : ∀ vs, Rel K (wipeE ρ vs) (L2.wipe σ vs) F H
  | [] => R
  | v :: vs => (R.wipe vs).set_no v none
theorem wipeE_get : ∀ {vs : List Nat} {i : Nat} {s : Slot}, (wipeE ρ vs)[i]? = some s → s ≠ .no → i ∉ vs ∧ ρ[i]? = some s
  | [], i, s, h, _ => ⟨by simp, h⟩
  | v :: vs, i, s, h, n => by
    unfold wipeE at h
    rcases get_set_some h with ⟨_, z⟩ | ⟨hi, h⟩
    · exact absurd z n
    · obtain ⟨h1, h2⟩ := wipeE_get h n
      exact ⟨by simp only [List.mem_cons, not_or]; exact ⟨hi, h1⟩, h2⟩
theorem wipe_out : ∀ {vs : List Nat} {i : Nat}, i ∉ vs → (L2.wipe σ vs)[i]? = σ[i]?
  | [], _, _ => rfl
  | v :: vs, i, h => by
    simp only [List.mem_cons, not_or] at h
    unfold L2.wipe
    rw [List.getElem?_set_ne (Ne.symm h.1)]
    exact wipe_out h.2
theorem wipe_in : ∀ {vs : List Nat} {i : Nat}, i ∈ vs → i < σ.length → (L2.wipe σ vs)[i]? = some none
  | [], _, h, _ => by simp at h
  | v :: vs, i, h, hl => by
    unfold L2.wipe
    by_cases e : v = i
    · subst e
      rw [List.getElem?_set_self (by rw [L2.wipe_length]; exact hl)]
    · rw [List.getElem?_set_ne e]
      exact wipe_in ((List.mem_cons.mp h).resolve_left fun z => e z.symm) hl
theorem wipe_only {vs : List Nat} {sl : List Nat} (hs : ∀ i ∈ sl, i ∈ vs) (h : Only sl (L2.wipe σ vs) σ') : L2.wipe σ' vs = L2.wipe σ vs := by
  have hl : σ'.length = σ.length := by rw [h.1, L2.wipe_length]
  apply List.ext_getElem?
  intro i
  by_cases hi : i ∈ vs
  · by_cases hlt : i < σ.length
    · rw [wipe_in hi hlt, wipe_in hi (by rw [hl]; exact hlt)]
    · rw [List.getElem?_eq_none (by rw [L2.wipe_length]; omega), List.getElem?_eq_none (by rw [L2.wipe_length]; omega)]
  · rw [wipe_out hi, wipe_out hi, h.2 i (fun z => hi (hs i z)), wipe_out hi]
theorem Stp.wipe (S : Stp ρ0 σ0 F0 H0 ρ σ F H) (vs : List Nat) : Stp ρ0 σ0 F0 H0 (wipeE ρ vs) (L2.wipe σ vs) F H :=
  ⟨S.ff, S.kp, S.th, fun i d a h q => by
    obtain ⟨h1, h2⟩ := wipeE_get h (by intro z; cases z)
    rw [wipe_out h1] at q
    exact S.ow i d a h2 q, fun i d h => by
    obtain ⟨h1, h2⟩ := wipeE_get h (by intro z; cases z)
    rw [wipe_out h1]
    exact S.pm i d h2⟩
theorem owned_wipe {vs : List Nat} {a : Addr} (h : Owned (wipeE ρ vs) (L2.wipe σ vs) a) : Owned ρ σ a := by
  obtain ⟨i, s, d, h1, h2, h3⟩ := h
  obtain ⟨h4, h5⟩ := wipeE_get h1 (by intro z; subst z; cases h2)
  rw [wipe_out h4] at h3
  exact ⟨i, s, d, h5, h2, h3⟩
theorem restE_get : ∀ {vs : List Nat} {i : Nat} {s : Slot}, (restE ρ0 ρ vs)[i]? = some s → (i ∈ vs ∧ s = ρ0[i]?.getD .no) ∨ (i ∉ vs ∧ ρ[i]? = some s)
  | [], i, s, h => .inr ⟨by simp, h⟩
  | v :: vs, i, s, h => by
    unfold restE at h
    rcases get_set_some h with ⟨rfl, z⟩ | ⟨hi, h⟩
    · exact .inl ⟨by simp, z⟩
    · rcases restE_get h with ⟨h1, h2⟩ | ⟨h1, h2⟩
      · exact .inl ⟨by simp [h1], h2⟩
      · exact .inr ⟨by simp only [List.mem_cons, not_or]; exact ⟨hi, h1⟩, h2⟩
theorem restE_length : ∀ vs : List Nat, (restE ρ0 ρ vs).length = ρ.length
  | [] => rfl
  | v :: vs => by unfold restE; rw [List.length_set, restE_length vs]
theorem plainE_at {vs : List Nat} (h : plainE ρ0 vs = true) {i : Nat} (hi : i ∈ vs) : (ρ0[i]?.getD .no).own = none ∧ i < ρ0.length := by
  have h1 := List.all_eq_true.mp h i hi
  cases hs : ρ0[i]? with
  | none => rw [hs] at h1; cases h1
  | some s =>
    refine ⟨?_, (List.getElem?_eq_some_iff.mp hs).1⟩
    rw [hs] at h1
    cases s with
    | no => rfl
    | fz _ => rfl
    | ow _ => cases h1
    | pm _ => cases h1
/-- behind a comprehension the block's own names are as they were -/
theorem Rel.rest {vs : List Nat} (R0 : Rel K ρ0 σ F0 H0) (sf : Same F0 F) (R : Rel K (wipeE ρ vs) (L2.wipe σ vs) F H) (hp : plainE ρ0 vs = true) : Rel K (restE ρ0 ρ vs) σ F H := by
  have hl : ρ.length = σ.length := by
    have := R.len
    rw [L2.wipe_length, wipeE_length] at this
    exact this.symm
  have look : ∀ {i s}, (restE ρ0 ρ vs)[i]? = some s → s ≠ .no → (i ∈ vs ∧ ρ0[i]? = some s ∧ s.own = none) ∨ (i ∉ vs ∧ (wipeE ρ vs)[i]? = some s) := by
    intro i s h n
    rcases restE_get h with ⟨h1, h2⟩ | ⟨h1, h2⟩
    · obtain ⟨h3, h4⟩ := plainE_at hp h1
      rw [← h2] at h3
      refine .inl ⟨h1, ?_, h3⟩
      rw [List.getElem?_eq_getElem h4] at h2 ⊢
      rw [h2]
      rfl
    · refine .inr ⟨h1, ?_⟩
      have out : ∀ (ws : List Nat), i ∉ ws → (wipeE ρ ws)[i]? = ρ[i]? := by
        intro ws
        induction ws with
        | nil => intro _; rfl
        | cons w ws ih =>
          intro hw
          simp only [List.mem_cons, not_or] at hw
          unfold wipeE
          rw [List.getElem?_set_ne (Ne.symm hw.1)]
          exact ih hw.2
      rw [out vs h1]
      exact h2
  refine ⟨R.fh, by rw [restE_length]; exact hl.symm, fun i d h => ?_, fun i s d h q => ?_, fun i j s t d e a h1 q1 h2 q2 w1 w2 => ?_⟩
  · rcases look h (by intro z; cases z) with ⟨_, h1, _⟩ | ⟨h1, h2⟩
    · obtain ⟨v, e1, e2⟩ := R0.fz i d h1
      exact ⟨v, e1, e2.mono sf⟩
    · obtain ⟨v, e1, e2⟩ := R.fz i d h2
      rw [wipe_out h1] at e1
      exact ⟨v, e1, e2⟩
  · rcases look h (by intro z; subst z; cases q) with ⟨_, _, h1⟩ | ⟨h1, h2⟩
    · rw [h1] at q
      cases q
    · obtain ⟨a, e1, e2⟩ := R.ow i s d h2 q
      rw [wipe_out h1] at e1
      exact ⟨a, e1, e2⟩
  · rcases look h1 (by intro z; subst z; cases q1) with ⟨_, _, z⟩ | ⟨i1, i2⟩
    · rw [z] at q1
      cases q1
    · rcases look h2 (by intro z; subst z; cases q2) with ⟨_, _, z⟩ | ⟨j1, j2⟩
      · rw [z] at q2
        cases q2
      · exact R.dist i j s t d e a i2 q1 j2 q2 (by rw [wipe_out i1]; exact w1) (by rw [wipe_out j1]; exact w2)
theorem Stp.rest {vs : List Nat} (S : Stp (wipeE ρ0 vs) (L2.wipe σ vs) F0 H0 (wipeE ρ vs) (L2.wipe σ vs) F H) (hp : plainE ρ0 vs = true) : Stp ρ0 σ F0 H0 (restE ρ0 ρ vs) σ F H := by
  have out : ∀ {i : Nat} (ws : List Nat), i ∉ ws → (wipeE ρ ws)[i]? = ρ[i]? := by
    intro i ws
    induction ws with
    | nil => intro _; rfl
    | cons w ws ih =>
      intro hw
      simp only [List.mem_cons, not_or] at hw
      unfold wipeE
      rw [List.getElem?_set_ne (Ne.symm hw.1)]
      exact ih hw.2
  refine ⟨S.ff, fun a o h q n => S.kp a o h q fun z => n (owned_wipe z), S.th, fun i d a h q => ?_, fun i d h => ?_⟩
  · rcases restE_get h with ⟨h1, h2⟩ | ⟨h1, h2⟩
    · obtain ⟨h3, _⟩ := plainE_at hp h1
      rw [← h2] at h3
      cases h3
    · rcases S.ow i d a (by rw [out vs h1]; exact h2) (by rw [wipe_out h1]; exact q) with ⟨j, e, z1, z2⟩ | z
      · obtain ⟨z3, z4⟩ := wipeE_get z1 (by intro z; cases z)
        rw [wipe_out z3] at z2
        exact .inl ⟨j, e, z4, z2⟩
      · exact .inr z
  · rcases restE_get h with ⟨h1, h2⟩ | ⟨h1, h2⟩
    · obtain ⟨h3, _⟩ := plainE_at hp h1
      rw [← h2] at h3
      cases h3
    · obtain ⟨_, e, z1⟩ := S.pm i d (by rw [out vs h1]; exact h2)
      obtain ⟨z3, z4⟩ := wipeE_get z1 (by intro z; cases z)
      exact ⟨rfl, e, z4⟩
/-- an object that is neither known nor owned may change -/
theorem Rel.updFree (R : Rel K ρ σ F H) {a : Addr} {o : HO} (n : F a = none) (ho : ¬ Owned ρ σ a) : Rel K ρ σ F (L2.upd H a o) where
  fh := fun b w hb => by
    rw [upd_ne fun z => by subst z; rw [n] at hb; cases hb]
    exact R.fh b w hb
  len := R.len
  fz := R.fz
  ow := fun i s d h q => by
    obtain ⟨b, e1, e2, e3⟩ := R.ow i s d h q
    have hb : b ≠ a := fun z => by subst z; exact ho ⟨i, s, d, h, q, e1⟩
    exact ⟨b, e1, e2, e3.mono (Same.refl _) fun w hw => by rw [upd_ne hb]; exact hw⟩
  dist := R.dist
theorem Stp.updFree (S : Stp ρ0 σ0 F0 H0 ρ σ F H) {a : Addr} {o : HO} (h0 : H0 a = none) : Stp ρ0 σ0 F0 H0 ρ σ F (L2.upd H a o) :=
  ⟨S.ff, fun b w hb hn ho => by
    have hba : b ≠ a := fun z => by subst z; rw [h0] at hb; cases hb
    rw [upd_ne hba]
    exact S.kp b w hb hn ho, fun b hb => by
    by_cases z : b = a
    · subst z; exact h0
    · rw [upd_ne z] at hb
      exact S.th b hb, S.ow, S.pm⟩
theorem lcD_length {own : List Nat} {tg : DTg} {tst : DT} {fe : DE} : ∀ {ds acc acc' : List D} {ρ ρ' : En}, lcD own tg tst fe ds acc ρ = some (acc', ρ') → acc.length ≤ acc'.length
  | [], acc, acc', ρ, ρ', e => by
    cases e
    exact Nat.le_refl _
  | d :: ds, acc, acc', ρ, ρ', e => by
    obtain ⟨ρ1, e1, e⟩ := Option.bind_eq_some_iff.mp e
    obtain ⟨⟨b, ρ2⟩, e2, e⟩ := Option.bind_eq_some_iff.mp e
    cases b with
    | true =>
      rw [if_pos rfl] at e
      obtain ⟨⟨r, ρ3⟩, e3, e⟩ := Option.bind_eq_some_iff.mp e
      obtain ⟨⟨u, ρ4⟩, e4, e⟩ := Option.bind_eq_some_iff.mp e
      have := lcD_length e
      rw [List.length_append] at this
      exact Nat.le_trans (Nat.le_add_right _ _) this
    | false =>
      rw [if_neg Bool.false_ne_true] at e
      exact lcD_length e
end

section
variable {X : Cx} {st : Stmt} {e c a b : Expr} {es : List Expr} {fa fb : DE} {f g : DS} {fr : DA} {pos : Pos}
theorem lc_ok {K : PySem.W.Frag} {vs sl : List Nat} {fi : DI} {tg : DTg} {tst : DT} {fe : DE} {σ : L2.St} {H : Hp} {Q : VK} (hs : ∀ i ∈ sl, i ∈ vs) (h : TD K (dLc vs fi tg tst fe) σ H Q) : tLc (TID K fi) (TGD K sl tg) (TTD K tst) (TD K fe) vs σ H Q := by
  obtain ⟨ρ, F, r, ρ', R, e, k⟩ := h
  obtain ⟨⟨ds, ρ1⟩, e1, e⟩ := Option.bind_eq_some_iff.mp e
  by_cases hp : plainE ρ1 vs = true
  · rw [if_pos hp] at e
    obtain ⟨⟨out, ρ2⟩, e2, e⟩ := Option.bind_eq_some_iff.mp e
    by_cases hz : out.length ≤ sizeLine
    · rw [if_pos hz] at e
      cases e
      refine ⟨ρ, F, ds, ρ1, R, e1, fun J F1 H1 R1 S1 w => fun Dl hD => ?_⟩
      have fD : F1 Dl = none := R1.fh.free hD
      have n0 : ¬ Owned (wipeE ρ1 vs) (L2.wipe σ vs) Dl := fun ⟨i, s, d, q1, q2, q3⟩ => by
        obtain ⟨b, z1, z2, z3⟩ := (R1.wipe vs).ow i s d q1 q2
        rw [q3] at z1
        cases z1
        obtain ⟨u, hu, _⟩ := z3.there
        rw [hD] at hu
        cases hu
      have keepO : ∀ {ρa ρb : En} {σa σb : L2.St} {Fa Fb Ha Hb : Hp} {o : HO}, Stp ρa σa Fa Ha ρb σb Fb Hb → Ha Dl = some o → ¬ Owned ρa σa Dl → ¬ Owned ρb σb Dl := fun S h n z => by
        rcases S.owned z with z | z
        · exact n z
        · rw [h] at z
          cases z
      refine ⟨fun i m Hi => m = ds.length - i ∧ i ≤ ds.length ∧ ∃ ρi Fi acc accV, Rel K (wipeE ρi vs) (L2.wipe σ vs) Fi Hi ∧ Stp (wipeE ρ1 vs) (L2.wipe σ vs) F1 H1 (wipeE ρi vs) (L2.wipe σ vs) Fi Hi ∧
        Hi Dl = some (.lst accV) ∧ Fi Dl = none ∧ ¬ Owned (wipeE ρi vs) (L2.wipe σ vs) Dl ∧ RepL K Fi acc accV ∧ lcD vs tg tst fe (ds.drop i) acc ρi = some (out, ρ2), ⟨ds.length, rfl, Nat.zero_le _, ρ1, F1, [], [], (R1.wipe vs).updFree fD n0, Stp.refl.updFree hD, upd_same, fD, n0, rfl, e2⟩, ?_⟩
      rintro i m Hi ⟨rfl, hi', ρi, Fi, acc, accV, Ri, Si, hDi, fDi, nOi, ra, ei⟩
      by_cases hlt : i < ds.length
      · have hd : ds[i]? = some ds[i] := List.getElem?_eq_getElem hlt
        rw [List.drop_eq_getElem_cons hlt] at ei
        have hlen := lcD_length ei
        obtain ⟨ρa, ea, ei⟩ := Option.bind_eq_some_iff.mp ei
        obtain ⟨⟨ob, ρb⟩, eb, ei⟩ := Option.bind_eq_some_iff.mp ei
        refine .inr ⟨w.goes i Hi hlt (Si.ff.trans Ri.fh), fun Hn => ∃ ρi Fi acc accV, Rel K (wipeE ρi vs) (L2.wipe σ vs) Fi Hn ∧ Stp (wipeE ρ1 vs) (L2.wipe σ vs) F1 H1 (wipeE ρi vs) (L2.wipe σ vs) Fi Hn ∧
          Hn Dl = some (.lst accV) ∧ Fi Dl = none ∧ ¬ Owned (wipeE ρi vs) (L2.wipe σ vs) Dl ∧ RepL K Fi acc accV ∧ lcD vs tg tst fe (ds.drop (i + 1)) acc ρi = some (out, ρ2), fun Hn hn => ⟨ds.length - (i + 1), by omega, rfl, hlt, hn⟩, fun x H' y => ?_⟩
        obtain ⟨F2, x2, q2⟩ := w.yields i _ Hi x H' Fi hd Si.ff Ri.fh y
        have D2 : H' Dl = some (.lst accV) := x2.hh _ _ hDi
        have f2 : F2 Dl = none := x2.nw _ fDi (by rw [hDi]; intro z; cases z)
        refine ⟨wipeE ρi vs, F2, ds[i], ρa, Ri.ext x2, q2, ea, fun σ3 F3 H3 R3 S3 O3 => ⟨wipe_only hs O3, ?_⟩⟩
        obtain ⟨D3, f3⟩ := S3.kp _ _ D2 f2 nOi
        have n3 := keepO S3 D2 nOi
        refine ⟨ρa, F3, ob, ρb, R3, eb, fun F4 H4 R4 S4 => ?_⟩
        obtain ⟨D4, f4⟩ := S4.kp _ _ D3 f3 n3
        have n4 := keepO S4 D3 n3
        have S24 := (x2.stp.trans S3).trans S4
        have ew : L2.wipe σ3 vs = L2.wipe σ vs := wipe_only hs O3
        cases ob with
        | false =>
          rw [if_neg Bool.false_ne_true] at ei
          refine iteF ⟨ρb, F4, acc, accV, ?_, ?_, D4, f4, fun z => ?_, RepL.mono S24.ff _ _ ra, ei⟩
          · rw [← ew]; exact R4.wipe vs
          · rw [← ew]
            have := (Si.trans S24).wipe vs
            rw [ew] at this ⊢
            exact this
          · rw [← ew] at z
            exact n4 (owned_wipe z)
        | true =>
          rw [if_pos rfl] at ei
          obtain ⟨⟨rr, ρc⟩, ec, ei⟩ := Option.bind_eq_some_iff.mp ei
          obtain ⟨⟨u, ρd⟩, ed, ei⟩ := Option.bind_eq_some_iff.mp ei
          refine iteT ⟨ρb, F4, rr, ρc, R4, ec, fun yv F5 H5 R5 S5 q5 => ?_⟩
          obtain ⟨D5, f5⟩ := S5.kp _ _ D4 f4 n4
          have n5 := keepO S5 D4 n4
          obtain ⟨F6, R6, S6, q6, sf6, fz6, ho6⟩ := frz_ok R5 S5 q5 ed
          have f6 : F6 Dl = none := by
            cases hq : F6 Dl with
            | none => rfl
            | some uu =>
              exfalso
              rcases fz6 Dl (by rw [hq]; intro z; cases z) with z | ⟨z, y⟩
              · exact z f5
              · rcases y with ⟨d, y⟩ | y
                · subst y
                  obtain ⟨a, w1, w2, w3, _⟩ := q5
                  rw [z] at w1
                  cases w1
                  rw [D4] at w3
                  cases w3
                · exact n5 y
          have n6 : ¬ Owned ρd σ3 Dl := fun z => n5 (ho6 _ z)
          refine ⟨accV, D5, ?_, ρd, F6, acc ++ [u], accV ++ [yv], ?_, ?_, upd_same, f6, fun z => ?_, ?_, ei⟩
          · have hl2 := lcD_length ei
            have hl2 : (acc ++ [u]).length ≤ out.length := hl2
            rw [List.length_append] at hl2
            have := ra.length
            have h1 : [u].length = 1 := rfl
            omega
          · rw [← ew]
            exact (R6.wipe vs).updFree f6 fun z => n6 (owned_wipe z)
          · rw [← ew]
            have := ((Si.trans (S24.trans S6)).wipe vs).updFree (a := Dl) (o := .lst (accV ++ [yv])) hD
            rw [ew] at this ⊢
            exact this
          · rw [← ew] at z
            exact n6 (owned_wipe z)
          · exact RepL.append (RepL.mono (S24.trans S6).ff _ _ ra) ⟨yv, [], rfl, q6, rfl⟩
      · have hi2 : i = ds.length := by omega
        subst hi2
        rw [List.drop_length] at ei
        cases ei
        refine .inl ⟨w.stops Hi (Si.ff.trans Ri.fh), k _ Fi Hi (R1.rest Si.ff Ri hp) (S1.trans (Si.rest hp)) ⟨Dl, rfl, fDi, S1.th _ hD, fun z => ?_, accV, hDi, ra⟩⟩
        have := Si.rest hp
        rcases this.owned z with z | z
        · obtain ⟨i, s, d, q1, q2, q3⟩ := z
          obtain ⟨b, z1, z2, z3⟩ := R1.ow i s d q1 q2
          rw [q3] at z1
          cases z1
          obtain ⟨u, hu, _⟩ := z3.there
          rw [hD] at hu
          cases hu
        · -- an own slot that is new in the block is none of the block's
          obtain ⟨i, s, d, q1, q2, q3⟩ : Owned (restE ρ1 ρ2 vs) σ Dl := by assumption
          rcases restE_get q1 with ⟨h1, h2⟩ | ⟨h1, h2⟩
          · obtain ⟨h3, _⟩ := plainE_at hp h1
            rw [← h2, q2] at h3
            cases h3
          · refine nOi ⟨i, s, d, ?_, q2, by rw [wipe_out h1]; exact q3⟩
            have out : ∀ (ws : List Nat), i ∉ ws → (wipeE ρ2 ws)[i]? = ρ2[i]? := by
              intro ws
              induction ws with
              | nil => intro _; rfl
              | cons w ws ih =>
                intro hw
                simp only [List.mem_cons, not_or] at hw
                unfold wipeE
                rw [List.getElem?_set_ne (Ne.symm hw.1)]
                exact ih hw.2
            rw [out vs h1]
            exact h2
    · rw [if_neg hz] at e
      cases e
  · rw [if_neg hp] at e
    cases e
end
end Pu

/-! Pu7: comprehensions as terms; defs and their calls. -/
namespace Pu
open PySem PySem.Spec PyProof.Rows L2

section
variable {X : Cx} {st : Stmt} {e c a b : Expr} {es : List Expr} {fa fb fe : DE} {f g : DS} {fr : DA} {pos : Pos}
/-- a clause's tests -/
theorem tts_nil : PTs X [] (TTD X.K dYes) := ⟨fun pins s σ H Q I ⟨ρ, F, r, ρ', R, e, k⟩ => by
  cases e
  exact wpAny_tests_nil ⟨H, I, k F H R Stp.refl⟩⟩
theorem tts_one {t : DT} (h : PT X c (TTD X.K t)) : PTs X [c] (TTD X.K t) := pts_one h
theorem td_lc {elt tg iter : Expr} {ifs : List Expr} {scope : Scope} {own : List (Str × Nat)} {fi : DI} {t : DTg} {tst : DT} {sl : List Nat} (hc : X.calm = true) (hN : X.N.Nodup) (hi : PI X tg iter (TID X.K fi)) (ok : BlkOk X.N X.env.scope scope own)
    (hg : ∀ (s : Shared) (H : Hp) (C : Addr) (cl : List (Str × Addr)) (fp : List Addr), PG (X.blk s H scope (compEnvC scope cl C X.env) fp) tg (TGD X.K sl t)) (ht : ∀ (s : Shared) (H : Hp) (C : Addr) (cl : List (Str × Addr)) (fp : List Addr), PTs (X.blk s H scope (compEnvC scope cl C X.env) fp) ifs (TTD X.K tst))
    (he : ∀ (s : Shared) (H : Hp) (C : Addr) (cl : List (Str × Addr)) (fp : List Addr), PE (X.blk s H scope (compEnvC scope cl C X.env) fp) elt (TD X.K fe)) (hsl : ∀ i ∈ sl, i ∈ own.map (·.2) := by decide) (hs : ∀ x, foldedSetIterable iter X.env x = pure x := by intro _; rfl) :
    PE X (.ListComp elt [⟨tg, iter, ifs, 0⟩] scope pos) (TD X.K (dLc (own.map (·.2)) fi t tst fe)) := pe_imp (pe_lc hc hN hi ok hg ht he hs) fun σ H Q h => lc_ok hsl h
theorem ts_setLc {i : Nat} {y : Str} {py : Pos} {elt tg iter : Expr} {ifs : List Expr} {scope : Scope} {own : List (Str × Nat)} {pos spos : Pos} {fi : DI} {t : DTg} {tst : DT} {sl : List Nat} (hc : X.calm = true) (hN : X.N.Nodup) (hy : X.N[i]? = some y) (hyl : X.env.scope.names.lookup y = some .local)
    (hsw : swapsWith (.ListComp elt [⟨tg, iter, ifs, 0⟩] scope pos) (some (.Name y py)) spos.line X.env = pure true) (hi : PI X tg iter (TID X.K fi)) (ok : BlkOk X.N X.env.scope scope own)
    (hg : ∀ (s : Shared) (H : Hp) (C : Addr) (cl : List (Str × Addr)) (fp : List Addr), PG (X.blk s H scope (compEnvC scope cl C X.env) fp) tg (TGD X.K sl t)) (ht : ∀ (s : Shared) (H : Hp) (C : Addr) (cl : List (Str × Addr)) (fp : List Addr), PTs (X.blk s H scope (compEnvC scope cl C X.env) fp) ifs (TTD X.K tst))
    (he : ∀ (s : Shared) (H : Hp) (C : Addr) (cl : List (Str × Addr)) (fp : List Addr), PE (X.blk s H scope (compEnvC scope cl C X.env) fp) elt (TD X.K fe)) (hsl : ∀ i ∈ sl, i ∈ own.map (·.2) := by decide) (hs : ∀ x, foldedSetIterable iter X.env x = pure x := by intro _; rfl) :
    PS X (.Assign [.Name y py] (.ListComp elt [⟨tg, iter, ifs, 0⟩] scope pos) spos) (TSD X.K (dSet i (dLc (own.map (·.2)) fi t tst fe))) := ps_imp (ps_setLc hc hN hy hyl hsw hi ok hg ht he hs) fun Dn σ H h => asg_ok (fun _ q => lc_ok hsl q) h
end

/-! ### defs -/
/-- what a def promises: by its parameters' slots it gives an answer and the slots behind it -/
abbrev Fn := En → Option (Res × En)
def spD (K : PySem.W.Frag) (n : Nat) (g : Fn) : Sp := fun vs H Q _ => ∃ (ρ0 : En) (F : Hp) (r : Res) (ρ1 : En), ρ0.length = n ∧ Rel K ρ0 (vs.map some) F H ∧ g ρ0 = some (r, ρ1) ∧
  ∀ (v : V) (F' H' : Hp), Rel K ρ1 (vs.map some) F' H' → Stp ρ0 (vs.map some) F H ρ1 (vs.map some) F' H' → RR K H ρ1 (vs.map some) F' H' r v → Q v H'
/-- the parameters' slots behind the body: what was lent stands there still -/
def outs : En → En → Option En
  | [], _ => some []
  | .pm _ :: r, .pm d :: r' => (outs r r').bind fun t => some (.pm d :: t)
  | .pm _ :: _, _ => none
  | .fz _ :: r, _ :: r' => (outs r r').bind fun t => some (.no :: t)
  | .no :: r, _ :: r' => (outs r r').bind fun t => some (.no :: t)
  | _, _ => none
def outR (ρ0 : En) : Out → En → Option (Res × En)
  | .nx, ρ' => (outs ρ0 ρ').bind fun t => some (.fz .non, t)
  | .rt (.fz d), ρ' => (outs ρ0 ρ').bind fun t => some (.fz d, t)
  | .rt (.ow d), ρ' => (outs ρ0 ρ').bind fun t => some (.ow d, t)
  | _, _ => none
/-- n parameters, m slots in all -/
def fnD (m : Nat) (body : DS) : Fn := fun ρ0 => (body (ρ0 ++ List.replicate (m - ρ0.length) .no)).bind fun p => outR ρ0 p.1 p.2

section
variable {K : PySem.W.Frag} {ρ ρ' ρ1 ρ0 : En} {σ σ' σ0 : L2.St} {F F' F1 F0 H H' H1 H0 : Hp} {r : Res} {v : V}
theorem outs_get : ∀ {ρ0 ρ' t : En} {i : Nat} {s : Slot}, outs ρ0 ρ' = some t → t[i]? = some s → s = .no ∨ ∃ d e, s = .pm d ∧ ρ0[i]? = some (.pm e) ∧ ρ'[i]? = some (.pm d)
  | [], _, t, i, s, e, h => by
    cases e
    simp at h
  | .pm d0 :: r, ρ', t, i, s, e, h => by
    cases ρ' with
    | nil => cases e
    | cons s' r' =>
      cases s' with
      | pm d =>
        obtain ⟨t', e1, e⟩ := Option.bind_eq_some_iff.mp e
        cases e
        cases i with
        | zero =>
          simp at h
          subst h
          exact .inr ⟨d, d0, rfl, rfl, rfl⟩
        | succ i =>
          rcases outs_get (i := i) e1 (by simpa using h) with q | ⟨x, y, q1, q2, q3⟩
          · exact .inl q
          · exact .inr ⟨x, y, q1, by simpa using q2, by simpa using q3⟩
      | _ => cases e
  | .fz d0 :: r, ρ', t, i, s, e, h => by
    cases ρ' with
    | nil => cases e
    | cons s' r' =>
      obtain ⟨t', e1, e⟩ := Option.bind_eq_some_iff.mp e
      cases e
      cases i with
      | zero =>
        simp at h
        exact .inl h.symm
      | succ i =>
        rcases outs_get (i := i) e1 (by simpa using h) with q | ⟨x, y, q1, q2, q3⟩
        · exact .inl q
        · exact .inr ⟨x, y, q1, by simpa using q2, by simpa using q3⟩
  | .no :: r, ρ', t, i, s, e, h => by
    cases ρ' with
    | nil => cases e
    | cons s' r' =>
      obtain ⟨t', e1, e⟩ := Option.bind_eq_some_iff.mp e
      cases e
      cases i with
      | zero =>
        simp at h
        exact .inl h.symm
      | succ i =>
        rcases outs_get (i := i) e1 (by simpa using h) with q | ⟨x, y, q1, q2, q3⟩
        · exact .inl q
        · exact .inr ⟨x, y, q1, by simpa using q2, by simpa using q3⟩
  | .ow _ :: r, ρ', t, i, s, e, h => by cases e
theorem outs_length : ∀ {ρ0 ρ' t : En}, outs ρ0 ρ' = some t → t.length = ρ0.length ∧ ∀ (i : Nat) (d : D), ρ0[i]? ≠ some (.ow d)
  | [], _, t, e => by
    cases e
    exact ⟨rfl, fun i d => by simp⟩
  | s0 :: r, ρ', t, e => by
    have fin : ∀ {s : Slot} {r' t' : En}, outs r r' = some t' → some (s :: t') = some t → (∀ d, s0 ≠ .ow d) → t.length = (s0 :: r).length ∧ ∀ (i : Nat) (d : D), (s0 :: r)[i]? ≠ some (.ow d) := fun {s r' t'} h e n => by
      cases e
      obtain ⟨h1, h2⟩ := outs_length h
      refine ⟨by simp [h1], fun i d z => ?_⟩
      cases i with
      | zero =>
        simp at z
        exact n d z
      | succ i => exact h2 i d (by simpa using z)
    cases s0 with
    | ow _ => cases ρ' <;> cases e
    | pm d0 =>
      cases ρ' with
      | nil => cases e
      | cons s' r' =>
        cases s' with
        | pm d =>
          obtain ⟨t', e1, e⟩ := Option.bind_eq_some_iff.mp e
          exact fin e1 e fun d z => by cases z
        | _ => cases e
    | fz d0 =>
      cases ρ' with
      | nil => cases e
      | cons s' r' =>
        obtain ⟨t', e1, e⟩ := Option.bind_eq_some_iff.mp e
        exact fin e1 e fun d z => by cases z
    | no =>
      cases ρ' with
      | nil => cases e
      | cons s' r' =>
        obtain ⟨t', e1, e⟩ := Option.bind_eq_some_iff.mp e
        exact fin e1 e fun d z => by cases z
/-- behind the body -/
theorem exit_ok {vs : List V} {N : Nat} {t : En} (R0 : Rel K ρ0 (vs.map some) F H) (R : Rel K ρ' σ' F' H') (S : Stp (ρ0 ++ List.replicate N .no) (vs.map some ++ List.replicate N none) F H ρ' σ' F' H') (e : outs ρ0 ρ' = some t) :
    Rel K t (vs.map some) F' H' ∧ Stp ρ0 (vs.map some) F H t (vs.map some) F' H' := by
  obtain ⟨hl, hno⟩ := outs_length e
  have hl0 : vs.length = ρ0.length := by
    have := R0.len
    rwa [List.length_map] at this
  have look : ∀ {i : Nat} {s : Slot} {d : D}, t[i]? = some s → s.own = some d → s = .pm d ∧ ρ'[i]? = some (.pm d) ∧ ∃ e, ρ0[i]? = some (.pm e) ∧ σ'[i]? = (vs.map some)[i]? := fun {i s d} h q => by
    rcases outs_get e h with z | ⟨d', e', z, h1, h2⟩
    · subst z
      cases q
    · subst z
      cases q
      refine ⟨rfl, h2, e', h1, ?_⟩
      have hi : i < (vs.map some).length := by
        rw [List.length_map, hl0]
        exact (List.getElem?_eq_some_iff.mp h1).1
      rw [(S.pm i d h2).1, List.getElem?_append_left hi]
  have own0 : ∀ a, Owned ρ0 (vs.map some) a ↔ Owned (ρ0 ++ List.replicate N .no) (vs.map some ++ List.replicate N none) a := fun a => by
    constructor
    · rintro ⟨i, s, d, h1, h2, h3⟩
      exact ⟨i, s, d, by rw [List.getElem?_append_left (List.getElem?_eq_some_iff.mp h1).1]; exact h1, h2, by rw [List.getElem?_append_left (List.getElem?_eq_some_iff.mp h3).1]; exact h3⟩
    · rintro ⟨i, s, d, h1, h2, h3⟩
      by_cases hi : i < ρ0.length
      · rw [List.getElem?_append_left hi] at h1
        rw [List.getElem?_append_left (by rw [List.length_map, hl0]; exact hi)] at h3
        exact ⟨i, s, d, h1, h2, h3⟩
      · rw [List.getElem?_append_right (by omega)] at h1
        have := List.mem_of_getElem? h1
        rw [List.eq_of_mem_replicate this] at h2
        cases h2
  refine ⟨⟨R.fh, by rw [List.length_map, hl0, hl], fun i d h => ?_, fun i s d h q => ?_, fun i j s u d e a h1 q1 h2 q2 w1 w2 => ?_⟩, ⟨S.ff, fun a o h q n => S.kp a o h q fun z => n ((own0 a).mpr z), S.th, fun i d a h q => ?_, fun i d h => ?_⟩⟩
  · rcases outs_get e h with z | ⟨d', e', z, _⟩
    · cases z
    · cases z
  · obtain ⟨rfl, h1, e', h2, h3⟩ := look h q
    obtain ⟨a, q1, q2, q3⟩ := R.ow i _ d h1 rfl
    exact ⟨a, by rw [← h3]; exact q1, q2, q3⟩
  · obtain ⟨_, z1, _, _, z2⟩ := look h1 q1
    obtain ⟨_, z3, _, _, z4⟩ := look h2 q2
    exact R.dist i j _ _ d e a z1 rfl z3 rfl (by rw [z2]; exact w1) (by rw [z4]; exact w2)
  · rcases outs_get e h with z | ⟨d', e', z, _⟩
    · cases z
    · cases z
  · obtain ⟨_, _, e', h2, _⟩ := look h rfl
    exact ⟨rfl, e', h2⟩
theorem start_ok {N : List Str} {vs : List V} (R : Rel K ρ0 (vs.map some) F H) : Rel K (ρ0 ++ List.replicate (N.length - ρ0.length) .no) (L2.start N vs) F H := by
  have hl0 : vs.length = ρ0.length := by
    have := R.len
    rwa [List.length_map] at this
  have look : ∀ {i : Nat} {s : Slot}, (ρ0 ++ List.replicate (N.length - ρ0.length) .no)[i]? = some s → s ≠ Slot.no → ρ0[i]? = some s ∧ (L2.start N vs)[i]? = (vs.map some)[i]? := fun {i s} h n => by
    by_cases hi : i < ρ0.length
    · rw [List.getElem?_append_left hi] at h
      refine ⟨h, ?_⟩
      unfold L2.start
      rw [List.getElem?_append_left (by rw [List.length_map, hl0]; exact hi)]
    · rw [List.getElem?_append_right (by omega)] at h
      have := List.mem_of_getElem? h
      exact absurd (List.eq_of_mem_replicate this) n
  refine ⟨R.fh, by unfold L2.start; simp [hl0], fun i d h => ?_, fun i s d h q => ?_, fun i j s u d e a h1 q1 h2 q2 w1 w2 => ?_⟩
  · obtain ⟨h1, h2⟩ := look h (by intro z; cases z)
    rw [h2]
    exact R.fz i d h1
  · obtain ⟨h1, h2⟩ := look h (by intro z; subst z; cases q)
    rw [h2]
    exact R.ow i s d h1 q
  · obtain ⟨h3, h4⟩ := look h1 (by intro z; subst z; cases q1)
    obtain ⟨h5, h6⟩ := look h2 (by intro z; subst z; cases q2)
    rw [h4] at w1
    rw [h6] at w2
    exact R.dist i j s u d e a h3 q1 h5 q2 w1 w2
end
section
variable {P : Program} {w : World} {K : PySem.W.Frag} {mg : Str → Option Value} {base : Heap}
/-- a def by its body -/
theorem ok_def {x qual : Str} {st : Stmt} {f : Addr} {fd : FuncData} {N ps : List Str} {k : Nat} {body : DS} (F : Fun K x qual st f fd) (S : FnScope N ps (defScope st))
    (hbody : ∀ (cdv : Value) (A : Around) (outer : List PySem.Env) (s : Shared) (H : Hp) (E : XK), Room k (A.deeper (envOfC qual (defScope st) s.heap.objs.size f cdv)) →
      PSs (cxOf CX0 P w K mg base N qual (defScope st) f cdv A outer s H E).nox (defBody st) (TSD K body)) : FnOk P w K mg base CX0 (k + 1) f fd ps (spD K ps.length (fnD N.length body)) := by
  refine F.ok S (fun vs H Q E h => ?_) (fun cdv A outer s H vs Q E hr h => ⟨_, hbody cdv A outer s H E hr, ?_⟩)
  · obtain ⟨ρ0, F0, r, ρ1, hl, R, _⟩ := h
    have := R.len
    rw [List.length_map] at this
    exact this.trans hl
  · obtain ⟨ρ0, F0, r, ρ1, hl, R, e, k⟩ := h
    obtain ⟨⟨o, ρ'⟩, e1, e⟩ := Option.bind_eq_some_iff.mp e
    have hl0 : vs.length = ρ0.length := by
      have := R.len
      rwa [List.length_map] at this
    refine ⟨_, F0, o, ρ', start_ok R, e1, fun σ' F' H' R' S' => ?_⟩
    have S' : Stp (ρ0 ++ List.replicate (N.length - ρ0.length) .no) (vs.map some ++ List.replicate (N.length - ρ0.length) none) F0 H ρ' σ' F' H' := by
      unfold L2.start at S'
      rw [hl0] at S'
      exact S'
    have fin : ∀ {t : En} {rr : Res} (hn : noBr rr = true), outs ρ0 ρ' = some t → some (rr, t) = some (r, ρ1) → ∀ v, RT K (ρ0 ++ List.replicate (N.length - ρ0.length) .no) (vs.map some ++ List.replicate (N.length - ρ0.length) none) H ρ' σ' F' H' rr v → Q v H' := by
      intro t rr hn et er v q
      cases er
      obtain ⟨R2, S2⟩ := exit_ok R R' S' et
      refine k v F' H' R2 S2 ?_
      cases r with
      | fz d => exact q
      | br j => cases hn
      | ow d =>
        obtain ⟨a, q1, q2, q3, q4⟩ := q
        have h0 : H a = none := by
          rcases q3 with ⟨j, e', z1, z2⟩ | z
          · exfalso
            by_cases hj : j < ρ0.length
            · rw [List.getElem?_append_left hj] at z1
              exact (outs_length et).2 j e' z1
            · rw [List.getElem?_append_right (by omega)] at z1
              have := List.eq_of_mem_replicate (List.mem_of_getElem? z1)
              cases this
          · exact z
        refine ⟨a, q1, q2, h0, fun ⟨i, s, d', w1, w2, w3⟩ => ?_, q4⟩
        rcases outs_get et w1 with z | ⟨d1, e1, z, z1, z2⟩
        · subst z
          cases w2
        · obtain ⟨b, y1, y2, y3⟩ := R.ow i _ e1 z1 rfl
          rw [w3] at y1
          cases y1
          obtain ⟨u, hu, _⟩ := y3.there
          rw [h0] at hu
          cases hu
    cases o with
    | nx =>
      obtain ⟨t, et, e⟩ := Option.bind_eq_some_iff.mp e
      exact fin (rr := .fz .non) rfl et e .non rfl
    | bk => cases e
    | ct => cases e
    | rt rr =>
      have hst : L2.start N vs = vs.map some ++ List.replicate (N.length - ρ0.length) none := by
        unfold L2.start
        rw [hl0]
      cases rr with
      | br j => cases e
      | fz d =>
        obtain ⟨t, et, e⟩ := Option.bind_eq_some_iff.mp e
        intro v q
        exact fin (rr := .fz d) rfl et e v q
      | ow d =>
        obtain ⟨t, et, e⟩ := Option.bind_eq_some_iff.mp e
        intro v q
        rw [hst] at q
        exact fin (rr := .ow d) rfl et e v q
end
end Pu

/-! Pu8: calls of defs. -/
namespace Pu
open PySem PySem.Spec PyProof.Rows L2

def solidC : D → Bool
  | .lst ds => solidL ds
  | .dic _ vs => solidL vs
  | _ => true
def solidR : Res → Bool
  | .fz d => solid d
  | .ow d => solidC d
  | .br _ => false
def isBr (j : Nat) : Res → Bool
  | .br i => decide (i = j)
  | _ => false
def noBrs (rs : List Res) : Bool := rs.all noBr
/-- f(args), f lends nothing -/
def dCall (g : Fn) (fa : DA) : DE := fun ρ => (fa ρ).bind fun p => (conts p.1 p.2).bind fun ds => (g (ds.map .fz)).bind fun w => if noBr w.1 = true then (if (noBrs p.1 || solidR w.1) = true then some (w.1, p.2) else (frzs p.1 p.2).bind fun u => some (w.1, u.2)) else none
/-- f(x, args), the own object of slot i lent to f -/
def headPm : En → Option D
  | .pm d :: _ => some d
  | _ => none
def dCallM (g : Fn) (i : Nat) (fa : DA) : DE := fun ρ => (ownC i ρ).bind fun _ => (fa ρ).bind fun p => (conts p.1 p.2).bind fun ds => (ownC i p.2).bind fun d0 => if p.1.any (isBr i) = true then none else
  (g (.pm d0 :: ds.map .fz)).bind fun w => (headPm w.2).bind fun d' => if (noBr w.1 && (noBrs p.1 || (solidR w.1 && solidC d'))) = true then (updSlot i d' p.2).bind fun ρ' => some (w.1, ρ') else none
/-- f(e), the new object that e makes lent to f -/
def dCallT (g : Fn) (fe : DE) : DE := fun ρ => (fe ρ).bind fun p => match p.1 with
  | .ow d => (g [.pm d]).bind fun w => if noBr w.1 = true then some (w.1, p.2) else none
  | _ => none

section
variable {K : PySem.W.Frag} {ρ ρ' ρ1 ρ0 : En} {σ σ' σ0 : L2.St} {F F' F1 F0 H H' H1 H0 : Hp} {r : Res} {v : V}
def Sb (rs : List Res) (vs : List V) (ρ : En) (b : Addr) : Prop := ∃ (k j : Nat) (s : Slot) (d : D), rs[k]? = some (.br j) ∧ vs[k]? = some (.ref b) ∧ ρ[j]? = some s ∧ s.own = some d
def St' (rs : List Res) (vs : List V) (b : Addr) : Prop := ∃ (k : Nat) (d : D), rs[k]? = some (.ow d) ∧ vs[k]? = some (.ref b)
theorem RRL.at : ∀ {rs : List Res} {vs : List V} {k : Nat} {r : Res}, RRL K H0 ρ σ F H rs vs → rs[k]? = some r → ∃ v, vs[k]? = some v ∧ RR K H0 ρ σ F H r v
  | [], _, _, _, _, e => by simp at e
  | r0 :: rs, _, 0, r, h, e => by
    obtain ⟨v, w, rfl, h1, h2, _⟩ := h
    simp at e
    subst e
    exact ⟨v, rfl, h1⟩
  | r0 :: rs, _, k + 1, r, h, e => by
    obtain ⟨v, w, rfl, h1, h2, _⟩ := h
    obtain ⟨u, q1, q2⟩ := RRL.at (k := k) h2 (by simpa using e)
    exact ⟨u, by simpa using q1, q2⟩
theorem Sb.has {rs : List Res} {vs : List V} {b : Addr} (R : Rel K ρ σ F H) (q : RRL K H0 ρ σ F H rs vs) (h : Sb rs vs ρ b) : F b = none ∧ Owned ρ σ b ∧ ∃ o, H b = some o ∧ ∀ xs o', o ≠ .tup xs ∧ o ≠ .frz o' (.tup xs) := by
  obtain ⟨k, j, s, d, h1, h2, h3, h4⟩ := h
  obtain ⟨v, h5, h6⟩ := q.at h1
  rw [h2] at h5
  cases h5
  have h6 : σ[j]? = some (some (.ref b)) := h6
  obtain ⟨a, w1, w2, w3⟩ := R.ow j s d h3 h4
  rw [h6] at w1
  cases w1
  exact ⟨w2, ⟨j, s, d, h3, h4, h6⟩, w3.there⟩
theorem St'.has {rs : List Res} {vs : List V} {b : Addr} (q : RRL K H0 ρ σ F H rs vs) (h : St' rs vs b) : F b = none ∧ ¬ Owned ρ σ b ∧ H0 b = none ∧ ∃ o, H b = some o ∧ ∀ xs o', o ≠ .tup xs ∧ o ≠ .frz o' (.tup xs) := by
  obtain ⟨k, d, h1, h2⟩ := h
  obtain ⟨v, h5, h6⟩ := q.at h1
  rw [h2] at h5
  cases h5
  obtain ⟨a, w1, w2, w3, w4, w5⟩ := h6
  cases w1
  exact ⟨w2, w4, w3, w5.there⟩
theorem Own.rep {a : Addr} {d : D} (h : Own K F H a d) (sf : Same F F1) (e : F1 a = H a) : Rep K F1 d (.ref a) := by
  cases d with
  | lst ds =>
    obtain ⟨xs, h1, h2⟩ := h
    exact ⟨a, xs, rfl, e.trans h1, RepL.mono sf _ _ h2⟩
  | dic ks vs =>
    obtain ⟨xs, h1, h2, h3⟩ := h
    exact ⟨a, xs, rfl, e.trans h1, h2, RepL.mono sf _ _ h3⟩
  | _ => exact h.elim
theorem args_rep (R : Rel K ρ σ F H) (sf : Same F F1) : ∀ {rs : List Res} {vs : List V} {ds : List D}, RRL K H0 ρ σ F H rs vs → conts rs ρ = some ds → (∀ b, Sb rs vs ρ b ∨ St' rs vs b → F1 b = H b) → RepL K F1 ds vs
  | [], _, ds, q, e, _ => by
    cases e
    exact q
  | r :: rs, _, ds, q, e, hF => by
    obtain ⟨v, w, rfl, q1, q2, _⟩ := q
    unfold conts at e
    obtain ⟨d, e1, e⟩ := Option.bind_eq_some_iff.mp e
    obtain ⟨ds', e2, e⟩ := Option.bind_eq_some_iff.mp e
    cases e
    refine ⟨v, w, rfl, ?_, args_rep R sf q2 e2 fun b hb => hF b ?_⟩
    · cases r with
      | fz d' =>
        cases e1
        exact Rep.mono sf _ _ q1
      | ow d' =>
        cases e1
        obtain ⟨a, rfl, w2, w3, w4, w5⟩ := q1
        exact w5.rep sf (hF a (.inr ⟨0, _, rfl, rfl⟩))
      | br j =>
        rcases R.slot q1 e1 with z | ⟨a, s, rfl, z1, z2, z3, z4⟩
        · exact Rep.mono sf _ _ z
        · exact z4.rep sf (hF a (.inl ⟨0, j, s, d, rfl, rfl, z1, z2⟩))
    · rcases hb with ⟨k, j, s, d, h1, h2, h3, h4⟩ | ⟨k, d, h1, h2⟩
      · exact .inl ⟨k + 1, j, s, d, by simpa using h1, by simpa using h2, h3, h4⟩
      · exact .inr ⟨k + 1, d, by simpa using h1, by simpa using h2⟩
theorem Rel.params {ds : List D} {vs : List V} (fh : Same F H) (q : RepL K F ds vs) : Rel K (ds.map .fz) (vs.map some) F H where
  fh := fh
  len := by rw [List.length_map, List.length_map, q.length]
  fz := fun i d h => by
    rw [List.getElem?_map] at h
    cases hd : ds[i]? with
    | none => rw [hd] at h; cases h
    | some e =>
      rw [hd] at h
      cases h
      obtain ⟨x, h1, h2⟩ := q.get hd
      exact ⟨x, by rw [List.getElem?_map, h1]; rfl, h2⟩
  ow := fun i s d h hs => by
    rw [List.getElem?_map] at h
    cases hd : ds[i]? with
    | none => rw [hd] at h; cases h
    | some e =>
      rw [hd] at h
      cases h
      cases hs
  dist := fun i j s t d e a h hs => by
    rw [List.getElem?_map] at h
    cases hd : ds[i]? with
    | none => rw [hd] at h; cases h
    | some e =>
      rw [hd] at h
      cases h
      cases hs
theorem owned_params {ds : List D} {τ : L2.St} {a : Addr} : ¬ Owned (ds.map .fz) τ a := fun ⟨i, s, d, h, hs, _⟩ => by
  rw [List.getElem?_map] at h
  cases hd : ds[i]? with
  | none => rw [hd] at h; cases h
  | some e =>
    rw [hd] at h
    cases h
    cases hs
theorem Rel.paramsM {ds : List D} {vs : List V} {a : Addr} {d0 : D} (fh : Same F H) (q : RepL K F ds vs) (fa : F a = none) (o : Own K F H a d0) : Rel K (.pm d0 :: ds.map .fz) ((V.ref a :: vs).map some) F H := by
  have R := Rel.params fh q
  refine ⟨fh, by simp [q.length], fun i d h => ?_, fun i s d h hs => ?_, fun i j s t d e b h hs h' ht _ _ => ?_⟩
  · cases i with
    | zero => simp at h
    | succ i => exact R.fz i d (by simpa using h)
  · cases i with
    | zero =>
      simp at h
      subst h
      cases hs
      exact ⟨a, rfl, fa, o⟩
    | succ i => exact R.ow i s d (by simpa using h) hs
  · cases i with
    | zero =>
      cases j with
      | zero => rfl
      | succ j =>
        obtain ⟨b', h1, h2, _⟩ := R.ow j t e (by simpa using h') ht
        exact absurd ⟨j, t, e, by simpa using h', ht, h1⟩ owned_params
    | succ i =>
      obtain ⟨b', h1, h2, _⟩ := R.ow i s d (by simpa using h) hs
      exact absurd ⟨i, s, d, by simpa using h, hs, h1⟩ owned_params
theorem owned_paramsM {ds : List D} {vs : List V} {a b : Addr} {d0 : D} (h : Owned (.pm d0 :: ds.map .fz) ((V.ref a :: vs).map some) b) : b = a := by
  obtain ⟨i, s, d, h, hs, h3⟩ := h
  cases i with
  | zero =>
    simp at h3
    exact h3.symm
  | succ i => exact absurd ⟨i, s, d, by simpa using h, hs, by simpa using h3⟩ (owned_params (ds := ds) (τ := vs.map some) (a := b))
/-- a result behind a call, the lent objects taken out of what is known -/
theorem RR.call {ρc ρx : En} {σc : L2.St} {F2 : Hp} (R : Rel K ρ1 σ F H) (q : RR K H ρc σc F' H' r v) (n : noBr r = true) (th : ∀ a, H a = none → H0 a = none) (hso : ∀ b, Owned ρx σ b → Owned ρ1 σ b)
    (hr : (∀ b, F2 b = F' b) ∨ (solidR r = true ∧ (∀ b, F2 b = none ∨ F2 b = F' b) ∧ ∀ b xs, Rd F' b (.tup xs) → F2 b = F' b)) : RR K H0 ρx σ F2 H' r v := by
  cases r with
  | br j => cases n
  | fz d =>
    rcases hr with hr | ⟨hs, h1, h2⟩
    · have : F2 = F' := funext hr
      rw [this]
      exact q
    · exact Rep.solid (fun b xs h => by
        have := h2 b xs h
        rcases h with h | ⟨o, h⟩
        · exact .inl (this.trans h)
        · exact .inr ⟨o, this.trans h⟩) d v hs q
  | ow d =>
    obtain ⟨a, e, n, h0, _, w⟩ := q
    have no : ¬ Owned ρx σ a := fun z => by
      obtain ⟨i, s, d', q1, q2, q3⟩ := hso a z
      obtain ⟨b, z1, z2, z3⟩ := R.ow i s d' q1 q2
      rw [q3] at z1
      cases z1
      obtain ⟨u, hu, _⟩ := z3.there
      rw [h0] at hu
      cases hu
    rcases hr with hr | ⟨hs, h1, h2⟩
    · have : F2 = F' := funext hr
      rw [this]
      exact ⟨a, e, n, th a h0, no, w⟩
    · have fa : F2 a = none := by
        rcases h1 a with z | z
        · exact z
        · rw [z]; exact n
      have tt : ∀ b xs, Rd F' b (.tup xs) → Rd F2 b (.tup xs) := fun b xs h => by
        have := h2 b xs h
        rcases h with h | ⟨o, h⟩
        · exact .inl (this.trans h)
        · exact .inr ⟨o, this.trans h⟩
      refine ⟨a, e, fa, th a h0, no, ?_⟩
      cases d with
      | lst ds =>
        obtain ⟨xs, w1, w2⟩ := w
        exact ⟨xs, w1, RepL.solid tt ds xs hs w2⟩
      | dic ks vs =>
        obtain ⟨xs, w1, w2, w3⟩ := w
        exact ⟨xs, w1, w2, RepL.solid tt vs _ hs w3⟩
      | _ => exact w.elim
theorem noBrs_Sb {rs : List Res} {vs : List V} {b : Addr} (h : noBrs rs = true) : ¬ Sb rs vs ρ b := fun ⟨k, j, s, d, h1, _⟩ => by
  have := List.all_eq_true.mp h _ (List.mem_of_getElem? h1)
  cases this
theorem frz_cont {r : Res} {d : D} (e : frz r ρ = some (d, ρ1)) : cont r ρ = some d ∧ ∀ r', cont r' ρ1 = cont r' ρ := by
  cases r with
  | fz d' =>
    cases e
    exact ⟨rfl, fun _ => rfl⟩
  | ow d' =>
    cases e
    exact ⟨rfl, fun _ => rfl⟩
  | br j =>
    cases hs : ρ[j]? with
    | none =>
      simp only [frz, hs] at e
      cases e
    | some s =>
      simp only [frz, hs] at e
      cases s with
      | no => cases e
      | pm _ => cases e
      | fz d' =>
        cases e
        exact ⟨by simp only [cont, hs, slotC], fun _ => rfl⟩
      | ow d' =>
        cases e
        refine ⟨by simp only [cont, hs, slotC], fun r' => ?_⟩
        cases r' with
        | fz _ => rfl
        | ow _ => rfl
        | br i =>
          show slotC (ρ.set j (.fz d))[i]? = slotC ρ[i]?
          by_cases hij : j = i
          · subst hij
            rw [List.getElem?_set_self (List.getElem?_eq_some_iff.mp hs).1, hs]
            rfl
          · rw [List.getElem?_set_ne hij]
theorem conts_congr {ρ1 : En} (h : ∀ r', cont r' ρ1 = cont r' ρ) : ∀ rs, conts rs ρ1 = conts rs ρ
  | [] => rfl
  | r :: rs => by
    unfold conts
    rw [h r, conts_congr h rs]
theorem frzs_conts : ∀ {rs : List Res} {ds ds' : List D} {ρ ρ1 : En}, frzs rs ρ = some (ds', ρ1) → conts rs ρ = some ds → ds' = ds
  | [], _, _, _, _, e, e' => by
    cases e
    cases e'
    rfl
  | r :: rs, _, _, ρ, _, e, e' => by
    obtain ⟨⟨d, ρa⟩, e1, e⟩ := Option.bind_eq_some_iff.mp e
    obtain ⟨⟨ds, ρb⟩, e2, e⟩ := Option.bind_eq_some_iff.mp e
    cases e
    unfold conts at e'
    obtain ⟨d1, q1, e'⟩ := Option.bind_eq_some_iff.mp e'
    obtain ⟨ds1, q2, e'⟩ := Option.bind_eq_some_iff.mp e'
    cases e'
    obtain ⟨h1, h2⟩ := frz_cont e1
    rw [h1] at q1
    cases q1
    rw [← conts_congr h2] at q2
    rw [frzs_conts e2 q2]
/-- the core of a call with nothing lent -/
theorem call_core {rs : List Res} {vs : List V} {ds : List D} {g : Fn} {w : Res × En} {n : Nat} {Q : VK} {ρs : En} {Fs Hs : Hp} (R : Rel K ρ1 σ F H) (S : Stp ρs σ Fs Hs ρ1 σ F H) (q : RRL K Hs ρ1 σ F H rs vs) (e : conts rs ρ1 = some ds) (hn : ds.length = n) (eg : g (ds.map .fz) = some w)
    (ok : (noBrs rs || solidR w.1) = true) (nb : noBr w.1 = true) (k : ∀ (v : V) (F' H' : Hp), Rel K ρ1 σ F' H' → Stp ρs σ Fs Hs ρ1 σ F' H' → RR K Hs ρ1 σ F' H' w.1 v → Q v H') : spD K n g vs H Q E0 := by
  classical
  have hSb := fun b (h : Sb rs vs ρ1 b) => h.has R q
  have hSt := fun b (h : St' rs vs b) => h.has q
  let F1 : Hp := fun b => if Sb rs vs ρ1 b ∨ St' rs vs b then H b else F b
  have f1s : ∀ b, Sb rs vs ρ1 b ∨ St' rs vs b → F1 b = H b := fun b h => if_pos h
  have f1n : ∀ b, ¬ (Sb rs vs ρ1 b ∨ St' rs vs b) → F1 b = F b := fun b h => if_neg h
  have fS : ∀ b, Sb rs vs ρ1 b ∨ St' rs vs b → F b = none ∧ ∃ o, H b = some o ∧ ∀ xs o', o ≠ .tup xs ∧ o ≠ .frz o' (.tup xs) := fun b h => by
    rcases h with h | h
    · exact ⟨(hSb b h).1, (hSb b h).2.2⟩
    · exact ⟨(hSt b h).1, (hSt b h).2.2.2⟩
  have sf : Same F F1 := fun b o h => by
    rw [f1n b fun z => by rw [(fS b z).1] at h; cases h]
    exact h
  have sh : Same F1 H := fun b o h => by
    by_cases z : Sb rs vs ρ1 b ∨ St' rs vs b
    · rw [f1s b z] at h; exact h
    · rw [f1n b z] at h; exact R.fh b o h
  have rep := args_rep R sf q e f1s
  refine ⟨ds.map .fz, F1, w.1, w.2, by simp [hn], Rel.params sh rep, eg, fun v F' H' R' S' q' => ?_⟩
  let F2 : Hp := fun b => if Sb rs vs ρ1 b then none else F' b
  have f2s : ∀ b, Sb rs vs ρ1 b → F2 b = none := fun b h => if_pos h
  have f2n : ∀ b, ¬ Sb rs vs ρ1 b → F2 b = F' b := fun b h => if_neg h
  have sf2 : Same F F2 := fun b o h => by
    rw [f2n b fun z => by rw [(fS b (.inl z)).1] at h; cases h]
    exact S'.ff b o (sf b o h)
  -- what was tracked and not known is as it was
  have kp : ∀ b o, H b = some o → F b = none → H' b = some o ∧ (St' rs vs b ∨ F2 b = none) := fun b o h1 h2 => by
    by_cases z : Sb rs vs ρ1 b ∨ St' rs vs b
    · have h3 : F1 b = some o := (f1s b z).trans h1
      refine ⟨R'.fh b o (S'.ff b o h3), ?_⟩
      rcases z with z | z
      · exact .inr (f2s b z)
      · exact .inl z
    · obtain ⟨h3, h4⟩ := S'.kp b o h1 ((f1n b z).trans h2) owned_params
      refine ⟨h3, .inr ?_⟩
      rw [f2n b fun y => z (.inl y)]
      exact h4
  have R2 : Rel K ρ1 σ F2 H' := by
    refine ⟨fun b o h => ?_, R.len, fun i d h => ?_, fun i s d h hs => ?_, R.dist⟩
    · by_cases z : Sb rs vs ρ1 b
      · rw [f2s b z] at h; cases h
      · rw [f2n b z] at h; exact R'.fh b o h
    · obtain ⟨u, h1, h2⟩ := R.fz i d h
      exact ⟨u, h1, h2.mono sf2⟩
    · obtain ⟨a, h1, h2, h3⟩ := R.ow i s d h hs
      obtain ⟨u, hu, _⟩ := h3.there
      obtain ⟨k1, k2⟩ := kp a u hu h2
      refine ⟨a, h1, ?_, h3.mono sf2 fun o ho => by rw [hu] at ho; cases ho; exact k1⟩
      rcases k2 with z | z
      · exact absurd ⟨i, s, d, h, hs, h1⟩ (hSt a z).2.1
      · exact z
  have S2 : Stp ρs σ Fs Hs ρ1 σ F2 H' := by
    refine ⟨S.ff.trans sf2, fun a o h1 h2 h3 => ?_, fun a h => S.th a (S'.th a h), S.ow, S.pm⟩
    obtain ⟨h4, h5⟩ := S.kp a o h1 h2 h3
    obtain ⟨k1, k2⟩ := kp a o h4 h5
    refine ⟨k1, ?_⟩
    rcases k2 with z | z
    · have := (hSt a z).2.2.1
      rw [h1] at this
      cases this
    · exact z
  refine k v F2 H' R2 S2 (RR.call (ρ1 := ρ1) R q' nb S.th (fun _ h => h) ?_)
  by_cases hb : noBrs rs = true
  · exact .inl fun b => f2n b (noBrs_Sb hb)
  · refine .inr ⟨?_, fun b => ?_, fun b xs h => ?_⟩
    · rcases Bool.or_eq_true_iff.mp ok with z | z
      · exact absurd z hb
      · exact z
    · by_cases z : Sb rs vs ρ1 b
      · exact .inl (f2s b z)
      · exact .inr (f2n b z)
    · refine f2n b fun z => ?_
      obtain ⟨_, o, h1, h2⟩ := fS b (.inl z)
      have h3 : F' b = some o := S'.ff b o ((f1s b (.inl z)).trans h1)
      rcases h with h | ⟨o', h⟩
      · rw [h3] at h
        cases h
        exact (h2 xs default).1 rfl
      · rw [h3] at h
        cases h
        exact (h2 xs o').2 rfl
/-- the core of a call that lends an own slot's object -/
theorem call_coreM {rs : List Res} {vs : List V} {ds : List D} {g : Fn} {w : Res × En} {n i : Nat} {Q : VK} {ρs ρ2 : En} {Fs Hs : Hp} {a : Addr} {d0 d' : D} (R : Rel K ρ1 σ F H) (S : Stp ρs σ Fs Hs ρ1 σ F H) (q : RRL K Hs ρ1 σ F H rs vs) (e : conts rs ρ1 = some ds) (hn : ds.length + 1 = n)
    (e0 : ownC i ρ1 = some d0) (ha : σ[i]? = some (some (.ref a))) (hi : rs.any (isBr i) = false) (eg : g (.pm d0 :: ds.map .fz) = some w) (ew : headPm w.2 = some d')
    (ok : (noBrs rs || (solidR w.1 && solidC d')) = true) (nb : noBr w.1 = true) (eu : updSlot i d' ρ1 = some ρ2) (k : ∀ (v : V) (F' H' : Hp), Rel K ρ2 σ F' H' → Stp ρs σ Fs Hs ρ2 σ F' H' → RR K Hs ρ2 σ F' H' w.1 v → Q v H') : spD K n g (.ref a :: vs) H Q E0 := by
  classical
  have hSb := fun b (h : Sb rs vs ρ1 b) => h.has R q
  have hSt := fun b (h : St' rs vs b) => h.has q
  obtain ⟨s0, g1, g2⟩ := ownC_some e0
  obtain ⟨a', g3, fa, oa⟩ := R.ow i s0 d0 g1 g2
  rw [ha] at g3
  cases g3
  have owA : Owned ρ1 σ a := ⟨i, s0, d0, g1, g2, ha⟩
  have sbA : ∀ b, Sb rs vs ρ1 b ∨ St' rs vs b → b ≠ a := fun b h z => by
    subst z
    rcases h with h | h
    · obtain ⟨k, j, s, d, h1, h2, h3, h4⟩ := h
      obtain ⟨v, h5, h6⟩ := q.at h1
      rw [h2] at h5
      cases h5
      have h6 : σ[j]? = some (some (.ref b)) := h6
      have hji : j = i := R.dist j i s s0 d d0 b h3 h4 g1 g2 h6 ha
      subst hji
      have := List.any_eq_false.mp hi _ (List.mem_of_getElem? h1)
      simp [isBr] at this
    · exact (hSt b h).2.1 owA
  let F1 : Hp := fun b => if Sb rs vs ρ1 b ∨ St' rs vs b then H b else F b
  have f1s : ∀ b, Sb rs vs ρ1 b ∨ St' rs vs b → F1 b = H b := fun b h => if_pos h
  have f1n : ∀ b, ¬ (Sb rs vs ρ1 b ∨ St' rs vs b) → F1 b = F b := fun b h => if_neg h
  have fS : ∀ b, Sb rs vs ρ1 b ∨ St' rs vs b → F b = none ∧ ∃ o, H b = some o ∧ ∀ xs o', o ≠ .tup xs ∧ o ≠ .frz o' (.tup xs) := fun b h => by
    rcases h with h | h
    · exact ⟨(hSb b h).1, (hSb b h).2.2⟩
    · exact ⟨(hSt b h).1, (hSt b h).2.2.2⟩
  have sf : Same F F1 := fun b o h => by
    rw [f1n b fun z => by rw [(fS b z).1] at h; cases h]
    exact h
  have sh : Same F1 H := fun b o h => by
    by_cases z : Sb rs vs ρ1 b ∨ St' rs vs b
    · rw [f1s b z] at h; exact h
    · rw [f1n b z] at h; exact R.fh b o h
  have rep := args_rep R sf q e f1s
  have fa1 : F1 a = none := by
    rw [f1n a fun z => sbA a z rfl]
    exact fa
  refine ⟨.pm d0 :: ds.map .fz, F1, w.1, w.2, by simp [hn], Rel.paramsM sh rep fa1 (oa.mono sf fun _ z => z), eg, fun v F' H' R' S' q' => ?_⟩
  -- the lent object behind the call
  obtain ⟨w1, ρw⟩ := w
  obtain ⟨rw, rfl⟩ : ∃ r, ρw = .pm d' :: r := by
    cases ρw with
    | nil => cases ew
    | cons s r =>
      cases s with
      | pm d => cases ew; exact ⟨r, rfl⟩
      | _ => cases ew
  obtain ⟨a2, y1, y2, y3⟩ := R'.ow 0 _ d' rfl rfl
  have : a2 = a := by
    simp at y1
    exact y1.symm
  subst this
  let F2 : Hp := fun b => if Sb rs vs ρ1 b then none else F' b
  have f2s : ∀ b, Sb rs vs ρ1 b → F2 b = none := fun b h => if_pos h
  have f2n : ∀ b, ¬ Sb rs vs ρ1 b → F2 b = F' b := fun b h => if_neg h
  have sf2 : Same F F2 := fun b o h => by
    rw [f2n b fun z => by rw [(fS b (.inl z)).1] at h; cases h]
    exact S'.ff b o (sf b o h)
  have kp : ∀ b o, b ≠ a2 → H b = some o → F b = none → H' b = some o ∧ (St' rs vs b ∨ F2 b = none) := fun b o hba h1 h2 => by
    by_cases z : Sb rs vs ρ1 b ∨ St' rs vs b
    · have h3 : F1 b = some o := (f1s b z).trans h1
      refine ⟨R'.fh b o (S'.ff b o h3), ?_⟩
      rcases z with z | z
      · exact .inr (f2s b z)
      · exact .inl z
    · obtain ⟨h3, h4⟩ := S'.kp b o h1 ((f1n b z).trans h2) fun y => hba (owned_paramsM y)
      refine ⟨h3, .inr ?_⟩
      rw [f2n b fun y => z (.inl y)]
      exact h4
  have tups : noBrs rs = false → ∀ b xs, Rd F' b (.tup xs) → F2 b = F' b := fun _ b xs h => by
    refine f2n b fun z => ?_
    obtain ⟨_, o, h1, h2⟩ := fS b (.inl z)
    have h3 : F' b = some o := S'.ff b o ((f1s b (.inl z)).trans h1)
    rcases h with h | ⟨o', h⟩
    · rw [h3] at h
      cases h
      exact (h2 xs default).1 rfl
    · rw [h3] at h
      cases h
      exact (h2 xs o').2 rfl
  have oaE : Own K F2 H' a2 d' := by
    by_cases hb : noBrs rs = true
    · have : F2 = F' := funext fun b => f2n b (noBrs_Sb hb)
      rw [this]
      exact y3
    · have hs : solidC d' = true := by
        rcases Bool.or_eq_true_iff.mp ok with z | z
        · exact absurd z hb
        · exact (Bool.and_eq_true_iff.mp z).2
      have tt : ∀ b xs, Rd F' b (.tup xs) → Rd F2 b (.tup xs) := fun b xs h => by
        have := tups (by simpa using hb) b xs h
        rcases h with h | ⟨o, h⟩
        · exact .inl (this.trans h)
        · exact .inr ⟨o, this.trans h⟩
      cases d' with
      | lst ds =>
        obtain ⟨xs, w1, w2⟩ := y3
        exact ⟨xs, w1, RepL.solid tt ds xs hs w2⟩
      | dic ks vs =>
        obtain ⟨xs, w1, w2, w3⟩ := y3
        exact ⟨xs, w1, w2, RepL.solid tt vs _ hs w3⟩
      | _ => exact y3.elim
  have fa2 : F2 a2 = none := by
    rw [f2n a2 fun z => sbA a2 (.inl z) rfl]
    exact y2
  -- the slots: all but i as they were
  have slot2 : ∃ s', ρ2 = ρ1.set i s' ∧ s'.own = some d' ∧ ((∃ x, s' = .ow x) → ∃ x, s0 = .ow x) ∧ ((∃ x, s' = .pm x) → ∃ x, s0 = .pm x) := by
    unfold updSlot at eu
    rw [g1] at eu
    cases s0 with
    | no => cases eu
    | fz _ => cases eu
    | ow x => cases eu; exact ⟨_, rfl, rfl, (fun _ => ⟨x, rfl⟩), (fun z => (nomatch z.choose_spec))⟩
    | pm x => cases eu; exact ⟨_, rfl, rfl, (fun z => (nomatch z.choose_spec)), (fun _ => ⟨x, rfl⟩)⟩
  obtain ⟨s', rfl, hs', k1, k2⟩ := slot2
  have own2 : ∀ b, Owned (ρ1.set i s') σ b → Owned ρ1 σ b := fun b ⟨j, t, d, h1, h2, h3⟩ => by
    rcases get_set_some h1 with ⟨rfl, _⟩ | ⟨_, h1⟩
    · rw [ha] at h3
      cases h3
      exact owA
    · exact ⟨j, t, d, h1, h2, h3⟩
  have R2 : Rel K (ρ1.set i s') σ F2 H' := by
    refine ⟨fun b o h => ?_, by simp [R.len], fun j d h => ?_, fun j s d h hs => ?_, fun j l s t d e b h1 q1 h2 q2 w1 w2 => ?_⟩
    · by_cases z : Sb rs vs ρ1 b
      · rw [f2s b z] at h; cases h
      · rw [f2n b z] at h; exact R'.fh b o h
    · rcases get_set_some h with ⟨rfl, z⟩ | ⟨_, h⟩
      · rw [← z] at hs'
        cases hs'
      · obtain ⟨u, h1, h2⟩ := R.fz j d h
        exact ⟨u, h1, h2.mono sf2⟩
    · rcases get_set_some h with ⟨rfl, z⟩ | ⟨hj, h⟩
      · subst z
        rw [hs'] at hs
        cases hs
        exact ⟨a2, ha, fa2, oaE⟩
      · obtain ⟨b, h1, h2, h3⟩ := R.ow j s d h hs
        have hba : b ≠ a2 := fun z => by
          subst z
          exact hj (R.dist j i s s0 d d0 b h hs g1 g2 h1 ha)
        obtain ⟨u, hu, _⟩ := h3.there
        obtain ⟨k1, k2⟩ := kp b u hba hu h2
        refine ⟨b, h1, ?_, h3.mono sf2 fun o ho => by rw [hu] at ho; cases ho; exact k1⟩
        rcases k2 with z | z
        · exact absurd ⟨j, s, d, h, hs, h1⟩ (hSt b z).2.1
        · exact z
    · have back : ∀ {j : Nat} {s : Slot} {d : D}, (ρ1.set i s')[j]? = some s → s.own = some d → ∃ s2 d2, ρ1[j]? = some s2 ∧ s2.own = some d2 := fun {j s d} h q => by
        rcases get_set_some h with ⟨rfl, _⟩ | ⟨_, h⟩
        · exact ⟨s0, d0, g1, g2⟩
        · exact ⟨s, d, h, q⟩
      obtain ⟨s2, d2, z1, z2⟩ := back h1 q1
      obtain ⟨s3, d3, z3, z4⟩ := back h2 q2
      exact R.dist j l s2 s3 d2 d3 b z1 z2 z3 z4 w1 w2
  have S2 : Stp ρs σ Fs Hs (ρ1.set i s') σ F2 H' := by
    refine ⟨S.ff.trans sf2, fun b o h1 h2 h3 => ?_, fun b h => S.th b (S'.th b h), fun j d b h hb => ?_, fun j d h => ?_⟩
    · obtain ⟨h4, h5⟩ := S.kp b o h1 h2 h3
      have hba : b ≠ a2 := fun z => by
        subst z
        rcases S.owned owA with z | z
        · exact h3 z
        · rw [h1] at z; cases z
      obtain ⟨k1, k2⟩ := kp b o hba h4 h5
      refine ⟨k1, ?_⟩
      rcases k2 with z | z
      · have := (hSt b z).2.2.1
        rw [h1] at this
        cases this
      · exact z
    · rcases get_set_some h with ⟨rfl, z⟩ | ⟨_, h⟩
      · obtain ⟨x, hx⟩ := k1 ⟨d, z.symm⟩
        subst hx
        exact S.ow j x b g1 hb
      · exact S.ow j d b h hb
    · rcases get_set_some h with ⟨rfl, z⟩ | ⟨_, h⟩
      · obtain ⟨x, hx⟩ := k2 ⟨d, z.symm⟩
        subst hx
        exact S.pm j x g1
      · exact S.pm j d h
  refine k v F2 H' R2 S2 (RR.call (ρ1 := ρ1) R q' nb S.th own2 ?_)
  by_cases hb : noBrs rs = true
  · exact .inl fun b => f2n b (noBrs_Sb hb)
  · refine .inr ⟨?_, fun b => ?_, tups (by simpa using hb)⟩
    · rcases Bool.or_eq_true_iff.mp ok with z | z
      · exact absurd z hb
      · exact (Bool.and_eq_true_iff.mp z).1
    · by_cases z : Sb rs vs ρ1 b
      · exact .inl (f2s b z)
      · exact .inr (f2n b z)
/-- the core of a call that lends a new object -/
theorem call_coreT {g : Fn} {w : Res × En} {Q : VK} {ρs : En} {Fs Hs : Hp} {a : Addr} {d : D} (R : Rel K ρ1 σ F H) (S : Stp ρs σ Fs Hs ρ1 σ F H) (q : RR K Hs ρ1 σ F H (.ow d) (.ref a)) (eg : g [.pm d] = some w) (nb : noBr w.1 = true)
    (k : ∀ (v : V) (F' H' : Hp), Rel K ρ1 σ F' H' → Stp ρs σ Fs Hs ρ1 σ F' H' → RR K Hs ρ1 σ F' H' w.1 v → Q v H') : spD K 1 g [.ref a] H Q E0 := by
  obtain ⟨a', e, n, h0, no, o⟩ := q
  cases e
  refine ⟨[.pm d], F, w.1, w.2, rfl, Rel.paramsM (ds := []) R.fh rfl n o, eg, fun v F' H' R' S' q' => ?_⟩
  have kp : ∀ b o, b ≠ a → H b = some o → F b = none → H' b = some o ∧ F' b = none := fun b o hba h1 h2 => S'.kp b o h1 h2 fun y => hba (owned_paramsM (ds := []) y)
  have sf : Same F F' := S'.ff
  have R2 : Rel K ρ1 σ F' H' := by
    refine ⟨R'.fh, R.len, fun i d h => ?_, fun i s d h hs => ?_, R.dist⟩
    · obtain ⟨u, h1, h2⟩ := R.fz i d h
      exact ⟨u, h1, h2.mono sf⟩
    · obtain ⟨b, h1, h2, h3⟩ := R.ow i s d h hs
      have hba : b ≠ a := fun z => by subst z; exact no ⟨i, s, d, h, hs, h1⟩
      obtain ⟨u, hu, _⟩ := h3.there
      obtain ⟨k1, k2⟩ := kp b u hba hu h2
      exact ⟨b, h1, k2, h3.mono sf fun o ho => by rw [hu] at ho; cases ho; exact k1⟩
  have S2 : Stp ρs σ Fs Hs ρ1 σ F' H' := by
    refine ⟨S.ff.trans sf, fun b o h1 h2 h3 => ?_, fun b h => S.th b (S'.th b h), S.ow, S.pm⟩
    obtain ⟨h4, h5⟩ := S.kp b o h1 h2 h3
    have hba : b ≠ a := fun z => by subst z; rw [h0] at h1; cases h1
    exact kp b o hba h4 h5
  exact k v F' H' R2 S2 (RR.call (ρ1 := ρ1) R q' nb S.th (fun _ h => h) (.inl fun _ => rfl))
end

def DAlen (fr : DA) (n : Nat) : Prop := ∀ ρ rs ρ', fr ρ = some (rs, ρ') → rs.length = n
theorem dlen_nil : DAlen dNil 0 := fun ρ rs ρ' e => by
  cases e
  rfl
theorem dlen_cons {fa : DE} {fr : DA} {n : Nat} (h : DAlen fr n) : DAlen (dCons fa fr) (n + 1) := fun ρ rs ρ' e => by
  obtain ⟨⟨r, ρ1⟩, e1, e⟩ := Option.bind_eq_some_iff.mp e
  obtain ⟨⟨rr, ρ2⟩, e2, e⟩ := Option.bind_eq_some_iff.mp e
  cases e
  show rr.length + 1 = n + 1
  rw [h _ _ _ e2]
section
variable {X : Cx} {k : Nat} {fA : Addr} {fd : FuncData} {ps : List Str} {g : Fn} {x : Str} {p pos : Pos} {e : Expr} {es : List Expr} {fr : DA} {fe : DE}
theorem td_call (F : FnOk X.prog X.w X.K X.mg X.base CX0 k fA fd ps (spD X.K ps.length g)) (hr : Room k X.A) (hg : Gl X x) (hm : X.mg x = some (.ref fA)) (hk : PySem.W.keepIn X.K (.ref fA) = true) (hb : Binds X.K fd ps [])
    (ha : PA X (e :: es) (TAD X.K fr)) (hdb : (x == ("__debug__" : Str)) = false := by decide) (he : starEach (e :: es) X.env = (false, eval e X.env) :: starEach es X.env := by rfl) (hpl : (backTo pos (starEach es X.env)).any (·.1) = false := by rfl)
    {n : Nat} (hlen' : DAlen fr n := by repeat (first | exact dlen_nil | refine dlen_cons ?_)) (hnn : n = ps.length := by rfl) : PE X (.Call (.Name x p) (e :: es) [] pos) (TD X.K (dCall g fr)) := by
  refine pe_imp (pe_call F hr hg hm hk hb .nil pass0 ha hdb he hpl) fun σ H Q ⟨ρ, F, r, ρ', R, e, k⟩ => ?_
  obtain ⟨⟨rs, ρ1⟩, e1, e⟩ := Option.bind_eq_some_iff.mp e
  obtain ⟨ds, e2, e⟩ := Option.bind_eq_some_iff.mp e
  obtain ⟨w, e3, e⟩ := Option.bind_eq_some_iff.mp e
  have hlr := hlen' _ _ _ e1
  have hcl : ∀ (rs : List Res) (ρ : En) (ds : List D), conts rs ρ = some ds → ds.length = rs.length := by
    intro rs ρ
    induction rs with
    | nil =>
      intro ds h
      cases h
      rfl
    | cons r rs ih =>
      intro ds h
      unfold conts at h
      obtain ⟨d, _, h⟩ := Option.bind_eq_some_iff.mp h
      obtain ⟨ds', h2, h⟩ := Option.bind_eq_some_iff.mp h
      cases h
      simp [ih _ h2]
  have hn : ds.length = ps.length := ((hcl _ _ _ e2).trans hlr).trans hnn
  refine ⟨ρ, F, rs, ρ1, R, e1, fun vs F1 H1 R1 S1 q => ?_⟩
  show spD X.K ps.length g (vs ++ []) H1 Q E0
  rw [List.append_nil]
  by_cases nb : noBr w.1 = true
  · rw [if_pos nb] at e
    by_cases ok : (noBrs rs || solidR w.1) = true
    · have e : (if (noBrs rs || solidR w.1) = true then some (w.1, ρ1) else (frzs rs ρ1).bind fun u => some (w.1, u.2)) = some (r, ρ') := e
      rw [if_pos ok] at e
      cases e
      exact call_core R1 S1 q e2 hn e3 ok nb k
    · have e : (if (noBrs rs || solidR w.1) = true then some (w.1, ρ1) else (frzs rs ρ1).bind fun u => some (w.1, u.2)) = some (r, ρ') := e
      rw [if_neg ok] at e
      obtain ⟨⟨ds', ρ2⟩, e4, e⟩ := Option.bind_eq_some_iff.mp e
      cases e
      obtain ⟨F2, R2, S2, q2, _⟩ := frzs_ok R1 S1 q e4
      have hd : ds' = ds := frzs_conts e4 e2
      subst hd
      have q3 : ∀ (ds : List D) (vs : List V), RepL X.K F2 ds vs → RRL X.K H ρ2 σ F2 H1 (ds.map .fz) vs := by
        intro ds
        induction ds with
        | nil => intro vs h; exact h
        | cons d ds ih =>
          intro vs h
          obtain ⟨x, r, rfl, h1, h2⟩ := h
          exact ⟨x, r, rfl, h1, ih r h2, fun _ z => by cases z⟩
      have c3 : ∀ (ds : List D), conts (ds.map .fz) ρ2 = some ds := by
        intro ds
        induction ds with
        | nil => rfl
        | cons d ds ih =>
          show (conts (ds.map .fz) ρ2).bind (fun ds' => some (d :: ds')) = some (d :: ds)
          rw [ih]
          rfl
      have b3 : noBrs (ds'.map .fz) = true := List.all_eq_true.mpr fun z hz => by
        obtain ⟨y, _, rfl⟩ := List.mem_map.mp hz
        rfl
      exact call_core R2 S2 (q3 _ _ q2) (c3 _) hn e3 (by rw [b3]; rfl) nb k
  · rw [if_neg nb] at e
    cases e
theorem td_callM {i : Nat} {y : Str} {py : Pos} (F : FnOk X.prog X.w X.K X.mg X.base CX0 k fA fd ps (spD X.K ps.length g)) (hr : Room k X.A) (hg : Gl X x) (hm : X.mg x = some (.ref fA)) (hk : PySem.W.keepIn X.K (.ref fA) = true) (hb : Binds X.K fd ps [])
    (hN : X.N[i]? = some y) (hv : Vis X.env.scope y) (ha : PA X es (TAD X.K fr)) (hyd : (y == ("__debug__" : Str)) = false := by decide) (hycd : (y == ("__classdict__" : Str)) = false := by decide) (hdb : (x == ("__debug__" : Str)) = false := by decide) (he : starEach (.Name y py :: es) X.env = (false, eval (.Name y py) X.env) :: starEach es X.env := by rfl) (hpl : (backTo pos (starEach es X.env)).any (·.1) = false := by rfl)
    {n : Nat} (hlen' : DAlen fr n := by repeat (first | exact dlen_nil | refine dlen_cons ?_)) (hnn : n + 1 = ps.length := by rfl) : PE X (.Call (.Name x p) (.Name y py :: es) [] pos) (TD X.K (dCallM g i fr)) := by
  refine pe_imp (pe_call F hr hg hm hk hb .nil pass0 (pa_cons (pe_var (i := i) hN hv hyd hycd) ha he) hdb he hpl) fun σ H Q ⟨ρ, F, r, ρ', R, e, k⟩ => ?_
  obtain ⟨d9, e0, e⟩ := Option.bind_eq_some_iff.mp e
  obtain ⟨⟨rs, ρ1⟩, e1, e⟩ := Option.bind_eq_some_iff.mp e
  obtain ⟨ds, e2, e⟩ := Option.bind_eq_some_iff.mp e
  obtain ⟨d0, e3, e⟩ := Option.bind_eq_some_iff.mp e
  have hlr := hlen' _ _ _ e1
  have hcl : ∀ (rs : List Res) (ρ : En) (ds : List D), conts rs ρ = some ds → ds.length = rs.length := by
    intro rs ρ
    induction rs with
    | nil =>
      intro ds h
      cases h
      rfl
    | cons r rs ih =>
      intro ds h
      unfold conts at h
      obtain ⟨d, _, h⟩ := Option.bind_eq_some_iff.mp h
      obtain ⟨ds', h2, h⟩ := Option.bind_eq_some_iff.mp h
      cases h
      simp [ih _ h2]
  have hn : ds.length + 1 = ps.length := by rw [hcl _ _ _ e2, ← hnn]; exact congrArg (· + 1) hlr
  obtain ⟨s0, g1, g2⟩ := ownC_some e0
  obtain ⟨a, g3, _, _⟩ := R.ow i s0 d9 g1 g2
  refine ⟨_, g3, ρ, F, rs, ρ1, R, e1, fun vs F1 H1 R1 S1 q => ?_⟩
  show spD X.K ps.length g ((.ref a :: vs) ++ []) H1 Q E0
  rw [List.append_nil]
  have e : (if rs.any (isBr i) = true then none else (g (.pm d0 :: ds.map .fz)).bind fun w => (headPm w.2).bind fun d' => if (noBr w.1 && (noBrs rs || (solidR w.1 && solidC d'))) = true then (updSlot i d' ρ1).bind fun ρ' => some (w.1, ρ') else none) = some (r, ρ') := e
  by_cases hi : rs.any (isBr i) = true
  · rw [if_pos hi] at e
    cases e
  · rw [if_neg hi] at e
    obtain ⟨w, e4, e⟩ := Option.bind_eq_some_iff.mp e
    obtain ⟨d', e5, e⟩ := Option.bind_eq_some_iff.mp e
    by_cases ok : (noBr w.1 && (noBrs rs || (solidR w.1 && solidC d'))) = true
    · rw [if_pos ok] at e
      obtain ⟨ρ2, e6, e⟩ := Option.bind_eq_some_iff.mp e
      cases e
      obtain ⟨o1, o2⟩ := Bool.and_eq_true_iff.mp ok
      exact call_coreM R1 S1 q e2 hn e3 g3 (by simpa using hi) e4 e5 o2 o1 e6 k
    · rw [if_neg ok] at e
      cases e
theorem td_callT (F : FnOk X.prog X.w X.K X.mg X.base CX0 k fA fd ps (spD X.K ps.length g)) (hr : Room k X.A) (hg : Gl X x) (hm : X.mg x = some (.ref fA)) (hk : PySem.W.keepIn X.K (.ref fA) = true) (hb : Binds X.K fd ps []) (hl : ps.length = 1)
    (ha : PE X e (TD X.K fe)) (hdb : (x == ("__debug__" : Str)) = false := by decide) (he : starEach [e] X.env = (false, eval e X.env) :: starEach [] X.env := by rfl) (hpl : (backTo pos (starEach [] X.env)).any (·.1) = false := by rfl) :
    PE X (.Call (.Name x p) [e] [] pos) (TD X.K (dCallT g fe)) := by
  refine pe_imp (pe_call F hr hg hm hk hb .nil pass0 (pa_cons ha pa_nil he) hdb he hpl) fun σ H Q ⟨ρ, F, r, ρ', R, e, k⟩ => ?_
  obtain ⟨⟨r1, ρ1⟩, e1, e⟩ := Option.bind_eq_some_iff.mp e
  cases r1 with
  | fz d => cases e
  | br j => cases e
  | ow d =>
    obtain ⟨w, e2, e⟩ := Option.bind_eq_some_iff.mp e
    by_cases nb : noBr w.1 = true
    · rw [if_pos nb] at e
      cases e
      refine ⟨ρ, F, .ow d, ρ1, R, e1, fun v F1 H1 R1 S1 q => ?_⟩
      have q' := q
      obtain ⟨a, rfl, _⟩ := q'
      show spD X.K ps.length g ([.ref a] ++ []) H1 Q E0
      rw [hl]
      exact call_coreT R1 S1 q e2 nb k
    · rw [if_neg nb] at e
      cases e
end
end Pu

/-! Pu9: operations. -/
namespace Pu
open PySem PySem.Spec PyProof.Rows L2

section
variable {K : PySem.W.Frag} {F H : Hp} {d : D} {v : V}
theorem Vw.rep (fh : Same F H) (h : Vw K F H d v) : Rep K H d v := by
  cases d with
  | lst ds =>
    obtain ⟨a, xs, e, h1, h2⟩ := h
    exact ⟨a, xs, e, h1, RepL.mono fh _ _ h2⟩
  | dic ks vs =>
    obtain ⟨a, xs, e, h1, h2, h3⟩ := h
    exact ⟨a, xs, e, h1, h2, RepL.mono fh _ _ h3⟩
  | _ => exact Rep.mono fh _ _ h
end

/-! ### ints -/
def mulOk (i j : Int) : Bool := decide (i.natAbs.log2 + j.natAbs.log2 < 1000000)
def divOk (j : Int) : Bool := decide (0 < j) && decide (j.natAbs.log2 < 9000)
def powOk (i j : Int) : Bool := decide (0 ≤ j) && decide ((Builtin.Int.intBits i : Int) * j ≤ 2 ^ 27)
def gAdd : D → D → Option Res
  | .int i, .int j => some (.fz (.int (i + j)))
  | .str s, .str t => if s.length + t.length ≤ sizeLine then some (.fz (.str (s ++ t))) else none
  | .tup xs, .tup ys => if xs.length + ys.length ≤ sizeLine then some (.fz (.tup (xs ++ ys))) else none
  | .lst xs, .lst ys => if xs.length + ys.length ≤ sizeLine then some (.ow (.lst (xs ++ ys))) else none
  | _, _ => none
def gAddI : D → D → Option Res
  | .int i, .int j => some (.fz (.int (i + j)))
  | _, _ => none
def gSub : D → D → Option Res
  | .int i, .int j => some (.fz (.int (i - j)))
  | _, _ => none
def gMul : D → D → Option Res
  | .int i, .int j => if mulOk i j = true then some (.fz (.int (i * j))) else none
  | .tup xs, .int k => if 2 ≤ k ∧ k ≤ 1000 ∧ xs.length ≤ 1000 ∧ xs ≠ [] then some (.fz (.tup (List.replicate k.toNat xs).flatten)) else if k = 1 ∨ (xs = [] ∧ -(2 ^ 63) ≤ k ∧ k < 2 ^ 63) then some (.fz (.tup xs)) else none
  | _, _ => none
def gMod : D → D → Option Res
  | .int i, .int j => if 0 < j then some (.fz (.int (i % j))) else none
  | _, _ => none
def gDiv : D → D → Option Res
  | .int i, .int j => if divOk j = true then some (.fz (.int (i / j))) else none
  | _, _ => none
def gPow : D → D → Option Res
  | .int i, .int j => if powOk i j = true then some (.fz (.int (i ^ j.toNat))) else none
  | _, _ => none
def gNeg : D → Option Res
  | .int i => some (.fz (.int (-i)))
  | _ => none
def gLt : D → D → Option Res
  | .int i, .int j => some (.fz (.bl (decide (i < j))))
  | _, _ => none
def gLe : D → D → Option Res
  | .int i, .int j => some (.fz (.bl (decide (i ≤ j))))
  | _, _ => none
def gGt : D → D → Option Res
  | .int i, .int j => some (.fz (.bl (decide (j < i))))
  | _, _ => none
def gGe : D → D → Option Res
  | .int i, .int j => some (.fz (.bl (decide (j ≤ i))))
  | _, _ => none
def isNon : D → Bool
  | .non => true
  | _ => false
def gIs : D → D → Option Res
  | d, .non => some (.fz (.bl (isNon d)))
  | .bl a, .bl b => some (.fz (.bl (decide (a = b))))
  | _, _ => none
def gIsNot : D → D → Option Res
  | d, .non => some (.fz (.bl (!isNon d)))
  | .bl a, .bl b => some (.fz (.bl (!decide (a = b))))
  | _, _ => none

/-! ### == at any depth -/
mutual
def toPy : D → PyData
  | .non => .none
  | .bl b => .bool b
  | .int i => .int i
  | .str s => .str s
  | .tup ds => .tuple (toPyL ds)
  | .lst ds => .list (toPyL ds)
  | .dic _ _ => .none
  | .scr _ => .none
def toPyL : List D → List PyData
  | [] => []
  | d :: ds => toPy d :: toPyL ds
end
mutual
/-- no dict within, of a depth at most n -/
def shp : Nat → D → Bool
  | _, .non => true
  | _, .bl _ => true
  | _, .int _ => true
  | _, .str s => PyData.canLay0 (.str s)
  | n + 1, .tup ds => shpL n ds
  | n + 1, .lst ds => shpL n ds
  | _, _ => false
def shpL : Nat → List D → Bool
  | _, [] => true
  | n, d :: ds => shp n d && shpL n ds
end
def gEq : D → D → Option Res := fun a b => if (shp 8 a && shp 8 b) = true then some (.fz (.bl (PyData.eqv (toPy a) (toPy b)))) else none
def gNe : D → D → Option Res := fun a b => if (shp 8 a && shp 8 b) = true then some (.fz (.bl (!PyData.eqv (toPy a) (toPy b)))) else none
mutual
theorem shp_dp {K : PySem.W.Frag} {H : Hp} : ∀ (n : Nat) (d : D) (v : V), shp n d = true → Rep K H d v → Dp K H v (toPy d)
  | _, .non, v, _, h => by
    have h : v = .non := h
    subst h
    exact Dp.non
  | _, .bl b, v, _, h => by
    have h : v = .bl b := h
    subst h
    exact Dp.bl b
  | _, .int b, v, _, h => by
    have h : v = .int b := h
    subst h
    exact Dp.int b
  | _, .str b, v, _, h => by
    have h : v = .str b := h
    subst h
    exact Dp.str b
  | n + 1, .tup ds, v, s, h => by
    obtain ⟨a, xs, rfl, h1, h2⟩ := h
    exact Dp.tup h1 (shpL_dp n ds xs s h2)
  | n + 1, .lst ds, v, s, h => by
    obtain ⟨a, xs, rfl, h1, h2⟩ := h
    exact Dp.lst (SqL.of h1) (shpL_dp n ds xs s h2)
  | 0, .tup ds, v, s, h => by cases s
  | 0, .lst ds, v, s, h => by cases s
  | n, .dic _ _, v, s, h => by cases n <;> cases s
  | n, .scr _, v, s, h => by cases n <;> cases s
theorem shpL_dp {K : PySem.W.Frag} {H : Hp} : ∀ (n : Nat) (ds : List D) (vs : List V), shpL n ds = true → RepL K H ds vs → DpAll K H vs (toPyL ds)
  | _, [], vs, _, h => by
    have h : vs = [] := h
    subst h
    exact DpAll.nil
  | n, d :: ds, vs, s, h => by
    obtain ⟨x, r, rfl, h1, h2⟩ := h
    have s2 : shp n d = true ∧ shpL n ds = true := by
      have : (shp n d && shpL n ds) = true := by
        cases n <;> exact s
      simpa using this
    exact DpAll.cons (shp_dp n d x s2.1 h1) (shpL_dp n ds r s2.2 h2)
end
mutual
theorem shp_depth : ∀ (n : Nat) (d : D), shp n d = true → (toPy d).depth ≤ n ∧ (toPy d).canLay0 = true
  | _, .non, _ => ⟨Nat.zero_le _, rfl⟩
  | _, .bl b, _ => ⟨Nat.zero_le _, rfl⟩
  | _, .int b, _ => ⟨Nat.zero_le _, rfl⟩
  | _, .str b, s => ⟨Nat.zero_le _, by
    rename_i n
    cases n <;> exact s⟩
  | n + 1, .tup ds, s => by
    obtain ⟨h1, h2⟩ := shpL_depth n ds s
    exact ⟨by show (PyData.depthAll (toPyL ds)) + 1 ≤ n + 1; omega, h2⟩
  | n + 1, .lst ds, s => by
    obtain ⟨h1, h2⟩ := shpL_depth n ds s
    exact ⟨by show (PyData.depthAll (toPyL ds)) + 1 ≤ n + 1; omega, h2⟩
  | 0, .tup ds, s => by cases s
  | 0, .lst ds, s => by cases s
  | n, .dic _ _, s => by cases n <;> cases s
  | n, .scr _, s => by cases n <;> cases s
theorem shpL_depth : ∀ (n : Nat) (ds : List D), shpL n ds = true → PyData.depthAll (toPyL ds) ≤ n ∧ PyData.canLayAll0 (toPyL ds) = true
  | _, [], _ => ⟨Nat.zero_le _, rfl⟩
  | n, d :: ds, s => by
    have s2 : shp n d = true ∧ shpL n ds = true := by
      have : (shp n d && shpL n ds) = true := by
        cases n <;> exact s
      simpa using this
    obtain ⟨h1, h2⟩ := shp_depth n d s2.1
    obtain ⟨h3, h4⟩ := shpL_depth n ds s2.2
    refine ⟨Nat.max_le.mpr ⟨h1, h3⟩, ?_⟩
    show (PyData.canLay0 (toPy d) && PyData.canLayAll0 (toPyL ds)) = true
    rw [h2, h4]
    rfl
end
theorem shp_shaped {d : D} (h : shp 8 d = true) : SeqAt.shaped (toPy d) = true := by
  obtain ⟨h1, h2⟩ := shp_depth 8 d h
  unfold SeqAt.shaped
  rw [h2, decide_eq_true (by omega)]
  rfl

section
variable {X : Cx}
theorem opI_ {f : Value → Value → Sem Value} {g : D → D → Option Res} {r : R2} (h : OpR X f r) (w : ∀ K F H x y da db res Q, Same F H → Vw K F H da x → Vw K F H db y → g da db = some res → K = X.K → PR K F H res Q → r x y H Q) : OpR X f (rD2 X.K g) :=
  opR_imp h fun x y H Q ⟨F, da, db, res, fh, va, vb, e, k⟩ => w _ F H x y da db res Q fh va vb e rfl k
theorem od_sub : OpR X (binaryOp .Sub) (rD2 X.K gSub) := opI_ op_sub fun K F H x y da db res Q fh va vb e _ k => by
  unfold gSub at e
  split at e
  · cases e
    exact ⟨_, _, va, vb, k.int fh⟩
  · cases e
theorem od_add : OpR X (binaryOp .Add) (rD2 X.K gAdd) := opI_ (op_add.or (op_add_str.or (op_catA.or op_cat))) fun K F H x y da db res Q fh va vb e eK k => by
  subst eK
  unfold gAdd at e
  split at e
  · cases e
    exact .inl ⟨_, _, va, vb, k.int fh⟩
  · split at e
    · cases e
      exact .inr (.inl ⟨_, _, va, vb, by assumption, k.str fh⟩)
    · cases e
  · split at e
    · rename_i xs ys hl
      cases e
      obtain ⟨a, us, rfl, h1, h2⟩ := va
      obtain ⟨b, ws, rfl, h3, h4⟩ := vb
      refine .inr (.inr (.inl ⟨a, b, us, ws, rfl, rfl, Same.sqT fh h1, Same.sqT fh h3, by rw [h2.length, h4.length]; exact hl, fun z => ?_, fun _ z => ?_, fun _ _ p hp => ?_⟩))
      · subst z
        have : xs = [] := by
          have := h2.length
          cases xs with
          | nil => rfl
          | cons _ _ => simp at this
        subst this
        exact k.any fh ⟨b, ws, rfl, h3, h4⟩
      · subst z
        have : ys = [] := by
          have := h4.length
          cases ys with
          | nil => rfl
          | cons _ _ => simp at this
        subst this
        rw [List.append_nil] at k
        exact k.any fh ⟨a, us, rfl, h1, h2⟩
      · exact k.tup fh (RepL.append h2 h4) hp
    · cases e
  · split at e
    · rename_i xs ys hl
      cases e
      obtain ⟨a, us, rfl, h1, h2⟩ := va
      obtain ⟨b, ws, rfl, h3, h4⟩ := vb
      exact .inr (.inr (.inr ⟨a, b, us, ws, rfl, rfl, h1, h3, by rw [h2.length, h4.length]; exact hl, fun p hp => k.lst fh (RepL.append h2 h4) hp⟩))
    · cases e
  · cases e
theorem od_mod : OpR X (binaryOp .Mod) (rD2 X.K gMod) := opI_ op_mod fun K F H x y da db res Q fh va vb e _ k => by
  unfold gMod at e
  split at e
  · split at e
    · cases e
      exact ⟨_, _, va, vb, by assumption, k.int fh⟩
    · cases e
  · cases e
theorem od_div : OpR X (binaryOp .FloorDiv) (rD2 X.K gDiv) := opI_ op_fdivW fun K F H x y da db res Q fh va vb e _ k => by
  unfold gDiv at e
  split at e
  · split at e
    · rename_i hd
      cases e
      unfold divOk at hd
      simp only [Bool.and_eq_true, decide_eq_true_eq] at hd
      exact ⟨_, _, va, vb, ⟨hd.1, hd.2⟩, k.int fh⟩
    · cases e
  · cases e
theorem op_powG : OpR X (binaryOp .Pow) (rI (fun i j => powOk i j = true) fun i j => .int (i ^ j.toNat)) := opI fun _ _ _ _ _ _ _ hc q => by
  unfold powOk at hc
  simp only [Bool.and_eq_true, decide_eq_true_eq] at hc
  exact pow_int hc.1 hc.2 q
theorem od_pow : OpR X (binaryOp .Pow) (rD2 X.K gPow) := opI_ op_powG fun K F H x y da db res Q fh va vb e _ k => by
  unfold gPow at e
  split at e
  · split at e
    · cases e
      exact ⟨_, _, va, vb, by assumption, k.int fh⟩
    · cases e
  · cases e
theorem RepL.flatten {K : PySem.W.Frag} {F : Hp} {ds : List D} {xs : List V} (h : RepL K F ds xs) : ∀ n, RepL K F (List.replicate n ds).flatten (List.replicate n xs).flatten
  | 0 => rfl
  | n + 1 => by
    rw [List.replicate_succ, List.replicate_succ, List.flatten_cons, List.flatten_cons]
    exact RepL.append h (RepL.flatten h n)
/-! ### a tuple, one time -/
theorem tuple_mulOne (l : Addr) (items : Array Value) (n : Nat) (dd : Option Addr) (sl : Array (Option Value)) (x : Int) (u : Tok) (c0 : (decide (x < -(2 ^ 63)) || decide (x ≥ 2 ^ 63)) = false) (c1 : (items.isEmpty || x == 1) = true) :
    Meets (Builtin.«tuple.__mul__» ⟨[.ref l, .int x u], []⟩) (fun _ R s => s.heap.get? l = some { cls := .type "tuple", dict := dd, data := .seq items n, slots := sl } ∧ R (.ok (.ret (Value.ref l))) s) :=
  .of_wp fun prog w A R s ⟨hl, h⟩ => by
    obtain ⟨hp, g, d, tk, os⟩ := s
    have f1 := AutoSeq1.idx_int
    wp_walk using wpAny_loadPart' hl
    refine wpAny_ite_false (decide_eq_false (fun z => Bool.false_ne_true (c0.symm.trans z))) ?_
    wp_walk using wpAny_loadPart' hl
    exact ⟨_, rfl, h⟩
def rRepO (K : PySem.W.Frag) : R2 := fun x y H Q => ∃ l k xs, x = .ref l ∧ y = .int k ∧ SqT K H l xs ∧ (k = 1 ∨ xs = []) ∧ -(2 ^ 63) ≤ k ∧ k < 2 ^ 63 ∧ Q (.ref l) H
theorem op_repO {X : Cx} : OpR X (binaryOp .Mult) (rRepO X.K) := by
  intro pins s σ H x y v u Q I rx ry ⟨l, k, xs, ex, ey, hT, hk, b1, b2, q⟩
  subst ex ey
  cases rx
  obtain ⟨t, rfl⟩ := ry
  obtain ⟨its, r, ⟨⟨cls, dd, data, sl⟩, ho, hc, n, hd⟩, hs⟩ := I.tuple hT
  simp only at hc hd
  subst hc hd
  have c1 : (its.toArray.isEmpty || k == 1) = true := by
    rcases hk with e | e
    · rw [e]
      simp
    · have z := r.length
      rw [e] at z
      have z : its = [] := List.eq_nil_of_length_eq_zero z.symm
      rw [z]
      rfl
  have c0 : (decide (k < -(2 ^ 63)) || decide (k ≥ 2 ^ 63)) = false := by
    rw [decide_eq_false (by omega), decide_eq_false (by omega)] <;> rfl
  refine wpAny_binaryOp_repeat_ref (T := "tuple") (U := "int") (by decide) ⟨_, ho, rfl⟩ (fun s' => typeIs_int s' k t) noFill_tuple_mul PySem.F.fills_int_mul PySem.F.slot_int_rmul repeat_tuple PySem.F.slot_int_index.lookup
    (call_meets PySem.F.slot_int_rmul (typeIs_int s k t) PySem.F.entry_int_rmul (PySem.F.args_int_rmul_2 _ _) (int_rmul_tuple k t l its.toArray n dd sl)
      ⟨ho, rfl, ⟨_, ho, rfl⟩, call_meets PySem.F.slot_tuple_mul ⟨_, ho, rfl⟩ PySem.F.entry_tuple_mul (PySem.F.args_tuple_mul_2 _ _) (tuple_mulOne l its.toArray n dd sl k t c0 c1) ⟨ho, ?_⟩⟩)
  exact ⟨.ref l, H, I, rfl, q⟩
theorem od_mul : OpR X (binaryOp .Mult) (rD2 X.K gMul) := opI_ (op_mulW.or (op_repT.or op_repO)) fun K F H x y da db res Q fh va vb e eK k => by
  subst eK
  unfold gMul at e
  split at e
  · split at e
    · rename_i hm
      cases e
      unfold mulOk at hm
      simp only [decide_eq_true_eq] at hm
      exact .inl ⟨_, _, va, vb, hm, k.int fh⟩
    · cases e
  · split at e
    · rename_i hm
      cases e
      obtain ⟨a, us, rfl, h1, h2⟩ := va
      refine .inr (.inl ⟨a, _, us, rfl, vb, Same.sqT fh h1, fun z => ?_, hm.1, hm.2.1, by rw [h2.length]; exact hm.2.2.1, fun p hp => k.tup fh (h2.flatten _) hp⟩)
      subst z
      have := h2.length
      exact hm.2.2.2 (List.eq_nil_of_length_eq_zero this.symm)
    · split at e
      · rename_i hm
        cases e
        obtain ⟨a, us, rfl, h1, h2⟩ := va
        refine .inr (.inr ⟨a, _, us, rfl, vb, Same.sqT fh h1, ?_, ?_, ?_, k.any fh ⟨a, us, rfl, h1, h2⟩⟩)
        · rcases hm with e | ⟨e, _⟩
          · exact .inl e
          · have := h2.length
            rw [e] at this
            exact .inr (List.eq_nil_of_length_eq_zero this)
        · rcases hm with e | ⟨_, e, _⟩
          · rw [e]; decide
          · exact e
        · rcases hm with e | ⟨_, _, e⟩
          · rw [e]; decide
          · exact e
      · cases e
  · cases e
theorem od_iadd : OpR X (inplaceOp .Add) (rD2 X.K gAddI) := opI_ iop_add fun K F H x y da db res Q fh va vb e _ k => by
  unfold gAddI at e
  split at e
  · cases e
    exact ⟨_, _, va, vb, k.int fh⟩
  · cases e
theorem ud_neg : UnR X (unaryOp .USub) (rD1 X.K gNeg) := fun pins s σ H x v Q I rx ⟨F, da, res, fh, va, e, k⟩ => by
  unfold gNeg at e
  split at e
  · cases e
    exact un_neg pins s σ H x v Q I rx ⟨_, va, k.int fh⟩
  · cases e
theorem od_lt : OpR X (compareOp .Lt) (rD2 X.K gLt) := opI_ op_lt fun K F H x y da db res Q fh va vb e _ k => by
  unfold gLt at e
  split at e
  · cases e
    exact ⟨_, _, va, vb, k.bl fh⟩
  · cases e
theorem od_le : OpR X (compareOp .LtE) (rD2 X.K gLe) := opI_ op_le fun K F H x y da db res Q fh va vb e _ k => by
  unfold gLe at e
  split at e
  · cases e
    exact ⟨_, _, va, vb, k.bl fh⟩
  · cases e
theorem od_gt : OpR X (compareOp .Gt) (rD2 X.K gGt) := opI_ op_gt fun K F H x y da db res Q fh va vb e _ k => by
  unfold gGt at e
  split at e
  · cases e
    exact ⟨_, _, va, vb, k.bl fh⟩
  · cases e
theorem od_ge : OpR X (compareOp .GtE) (rD2 X.K gGe) := opI_ op_ge fun K F H x y da db res Q fh va vb e _ k => by
  unfold gGe at e
  split at e
  · cases e
    exact ⟨_, _, va, vb, k.bl fh⟩
  · cases e
theorem isNon_iff {K : PySem.W.Frag} {F H : Hp} {d : D} {v : V} (h : Vw K F H d v) : decide (v = .non) = isNon d := by
  cases d with
  | non =>
    have h : v = .non := h
    subst h
    rfl
  | bl b =>
    have h : v = .bl b := h
    subst h
    rfl
  | int b =>
    have h : v = .int b := h
    subst h
    rfl
  | str b =>
    have h : v = .str b := h
    subst h
    exact decide_eq_false fun z => by cases z
  | tup ds =>
    obtain ⟨a, xs, rfl, _⟩ := h
    exact decide_eq_false fun z => by cases z
  | lst ds =>
    obtain ⟨a, xs, rfl, _⟩ := h
    exact decide_eq_false fun z => by cases z
  | dic ks vs =>
    obtain ⟨a, xs, rfl, _⟩ := h
    exact decide_eq_false fun z => by cases z
  | scr ns =>
    obtain ⟨a, rfl, _⟩ := h
    exact decide_eq_false fun z => by cases z
theorem od_is : OpR X (compareOp .Is) (rD2 X.K gIs) := opI_ (op_isN.or op_isBl) fun K F H x y da db res Q fh va vb e _ k => by
  unfold gIs at e
  split at e
  · cases e
    refine .inl ⟨vb, ?_⟩
    rw [isNon_iff va]
    exact k.bl fh
  · cases e
    exact .inr ⟨_, _, va, vb, k.bl fh⟩
  · cases e
theorem od_isNot : OpR X (compareOp .IsNot) (rD2 X.K gIsNot) := opI_ (op_notN.or op_notBl) fun K F H x y da db res Q fh va vb e _ k => by
  unfold gIsNot at e
  split at e
  · cases e
    refine .inl ⟨vb, ?_⟩
    rw [isNon_iff va]
    exact k.bl fh
  · cases e
    exact .inr ⟨_, _, va, vb, k.bl fh⟩
  · cases e
theorem od_eq (hu : X.A.units + 64 < cLine) : OpR X (compareOp .Eq) (rD2 X.K gEq) := opI_ (op_eqD hu) fun K F H x y da db res Q fh va vb e eK k => by
  subst eK
  unfold gEq at e
  split at e
  · rename_i hs
    cases e
    simp only [Bool.and_eq_true] at hs
    exact ⟨_, _, shp_dp 8 da x hs.1 (va.rep fh), shp_dp 8 db y hs.2 (vb.rep fh), shp_shaped hs.1, shp_shaped hs.2, k.bl fh⟩
  · cases e
theorem od_ne (hu : X.A.units + 64 < cLine) : OpR X (compareOp .NotEq) (rD2 X.K gNe) := opI_ (op_neD hu) fun K F H x y da db res Q fh va vb e eK k => by
  subst eK
  unfold gNe at e
  split at e
  · rename_i hs
    cases e
    simp only [Bool.and_eq_true] at hs
    exact ⟨_, _, shp_dp 8 da x hs.1 (va.rep fh), shp_dp 8 db y hs.2 (vb.rep fh), shp_shaped hs.1, shp_shaped hs.2, k.bl fh⟩
  · cases e
end
end Pu

/-! Pu10: indices, slices, displays, built-ins, what is walked. -/
namespace Pu
open PySem PySem.Spec PyProof.Rows L2

/-! ### displays -/
def dTup (fr : DA) : DE := fun ρ => (fr ρ).bind fun p => (frzs p.1 p.2).bind fun q => some (.fz (.tup q.1), q.2)
def dLst (fr : DA) : DE := fun ρ => (fr ρ).bind fun p => (frzs p.1 p.2).bind fun q => some (.ow (.lst q.1), q.2)
section
variable {X : Cx} {e a b : Expr} {es : List Expr} {fa fb : DE} {fr : DA} {pos p2 : Pos}
theorem frzs_len : ∀ {rs : List Res} {ds : List D} {ρ ρ1 : En}, frzs rs ρ = some (ds, ρ1) → ds.length = rs.length
  | [], _, _, _, e => by
    cases e
    rfl
  | r :: rs, _, _, _, e => by
    obtain ⟨⟨d, ρa⟩, e1, e⟩ := Option.bind_eq_some_iff.mp e
    obtain ⟨⟨ds, ρb⟩, e2, e⟩ := Option.bind_eq_some_iff.mp e
    cases e
    simp [frzs_len e2]
theorem td_tup {x1 n : Nat} (ha : PA X es (TAD X.K fr)) (hl : DAlen fr n := by repeat (first | exact dlen_nil | refine dlen_cons ?_)) (hz : n ≤ sizeLine := by decide) : PE X (.Tuple es x1 pos) (TD X.K (dTup fr)) :=
  pe_imp (pe_tup ha) fun σ H Q ⟨ρ, F, r, ρ', R, e, k⟩ => by
    obtain ⟨⟨rs, ρ1⟩, e1, e⟩ := Option.bind_eq_some_iff.mp e
    obtain ⟨⟨ds, ρ2⟩, e2, e⟩ := Option.bind_eq_some_iff.mp e
    cases e
    refine ⟨ρ, F, rs, ρ1, R, e1, fun vs F1 H1 R1 S1 q => ?_⟩
    obtain ⟨F2, R2, S2, q2, _⟩ := frzs_ok R1 S1 q e2
    refine ⟨by rw [q2.length, frzs_len e2, hl _ _ _ e1]; exact hz, fun p hp => ?_⟩
    have x2 : Ext F2 H1 (L2.upd F2 p (.tup vs)) (L2.upd H1 p (.tup vs)) := Ext.fresh_fz R2.fh hp
    exact k _ _ _ (R2.ext x2) (S2.trans x2.stp) ⟨p, vs, rfl, .inl (.inl upd_same), RepL.mono x2.ff _ _ q2⟩
theorem td_lst {n : Nat} (ha : PA X es (TAD X.K fr)) (hl : DAlen fr n := by repeat (first | exact dlen_nil | refine dlen_cons ?_)) (hz : n ≤ sizeLine := by decide) : PE X (.List es pos) (TD X.K (dLst fr)) :=
  pe_imp (pe_lst ha) fun σ H Q ⟨ρ, F, r, ρ', R, e, k⟩ => by
    obtain ⟨⟨rs, ρ1⟩, e1, e⟩ := Option.bind_eq_some_iff.mp e
    obtain ⟨⟨ds, ρ2⟩, e2, e⟩ := Option.bind_eq_some_iff.mp e
    cases e
    refine ⟨ρ, F, rs, ρ1, R, e1, fun vs F1 H1 R1 S1 q => ?_⟩
    obtain ⟨F2, R2, S2, q2, _⟩ := frzs_ok R1 S1 q e2
    refine ⟨by rw [q2.length, frzs_len e2, hl _ _ _ e1]; exact hz, fun p hp => ?_⟩
    have x2 : Ext F2 H1 F2 (L2.upd H1 p (.lst vs)) := Ext.fresh_ow R2.fh hp
    refine k _ _ _ (R2.ext x2) (S2.trans x2.stp) ⟨p, rfl, R2.fh.free hp, S2.th _ hp, fun ⟨i, s, d, w1, w2, w3⟩ => ?_, vs, upd_same, q2⟩
    obtain ⟨b, y1, y2, y3⟩ := R2.ow i s d w1 w2
    rw [w3] at y1
    cases y1
    obtain ⟨u, hu, _⟩ := y3.there
    rw [hp] at hu
    cases hu
end

/-! ### indices -/
def gIx : D → D → Option Res
  | .lst xs, .int i => (atI xs i).bind fun d => some (.fz d)
  | .tup xs, .int i => (atI xs i).bind fun d => some (.fz d)
  | .scr ns, .int i => (atI ns i).bind fun d => some (.fz (.int d))
  | _, _ => none
section
variable {K : PySem.W.Frag} {F H : Hp}
theorem RepL.at {ds : List D} {xs : List V} (h : RepL K F ds xs) {i : Int} {d : D} (e : atI ds i = some d) : ∃ v, atI xs i = some v ∧ Rep K F d v := by
  unfold atI at e ⊢
  obtain ⟨j, e1, e2⟩ := Option.bind_eq_some_iff.mp e
  obtain ⟨v, h1, h2⟩ := h.get e2
  exact ⟨v, by rw [h.length, e1]; exact h1, h2⟩
variable {X : Cx}
theorem ixR_imp {r r' : R2} (h : IxR X r) (w : ∀ x y H Q, r' x y H Q → r x y H Q) : IxR X r' := fun e1 e2 pins s σ H x y v u Q I rx ry q hs => h e1 e2 pins s σ H x y v u Q I rx ry (w _ _ _ _ q) hs
theorem id_ix : IxR X (rD2 X.K gIx) := ixR_imp ix_seq fun x y H Q ⟨F, da, db, res, fh, va, vb, e, k⟩ => by
  unfold gIx at e
  split at e
  · rename_i xs i
    obtain ⟨d, e1, e⟩ := Option.bind_eq_some_iff.mp e
    cases e
    obtain ⟨a, us, rfl, h1, h2⟩ := va
    obtain ⟨v, h3, h4⟩ := h2.at e1
    exact .inl ⟨a, us, i, v, rfl, vb, SqL.of h1, h3, k.any fh h4⟩
  · rename_i xs i
    obtain ⟨d, e1, e⟩ := Option.bind_eq_some_iff.mp e
    cases e
    obtain ⟨a, us, rfl, h1, h2⟩ := va
    obtain ⟨v, h3, h4⟩ := h2.at e1
    exact .inr (.inl ⟨a, us, i, v, rfl, vb, Same.sqT fh h1, h3, k.any fh h4⟩)
  · rename_i ns i
    obtain ⟨d, e1, e⟩ := Option.bind_eq_some_iff.mp e
    cases e
    obtain ⟨a, rfl, h1⟩ := va
    have h3 : atI (ns.map V.int) i = some (.int d) := by
      unfold atI at e1 ⊢
      obtain ⟨j, e2, e3⟩ := Option.bind_eq_some_iff.mp e1
      rw [List.length_map, e2]
      show (ns.map V.int)[j]? = _
      rw [List.getElem?_map, e3]
      rfl
    exact .inl ⟨a, _, i, _, rfl, vb, Same.seq fh h1, h3, k.int fh⟩
  · cases e
end

/-! ### slices -/
def cutD (xs : List D) (lo hi : Option Int) : List D := (xs.drop (HT.sIx xs.length 0 lo)).take (HT.sIx xs.length xs.length hi - HT.sIx xs.length 0 lo)
def gSl : D → Option Int → Option Int → Option Res
  | .lst xs, lo, hi => some (.ow (.lst (cutD xs lo hi)))
  | .tup xs, lo, hi => some (.fz (.tup (cutD xs lo hi)))
  | .scr ns, lo, hi => some (.ow (.lst (cutD (ns.map D.int) lo hi)))
  | _, _, _ => none
def dPart : Option DE → En → Option (Option Int × En)
  | none, ρ => some (none, ρ)
  | some f, ρ => (f ρ).bind fun p => (cont p.1 p.2).bind fun d => match d with
    | .int i => some (some i, p.2)
    | _ => none
def dSlice (fe : DE) (fl fh : Option DE) : DE := fun ρ => (fe ρ).bind fun p => (dPart fl p.2).bind fun q => (dPart fh q.2).bind fun t => (cont p.1 t.2).bind fun d => (gSl d q.1 t.1).bind fun r => some (r, t.2)
def TOD (K : PySem.W.Frag) (f : Option DE) : TO := fun σ H Q => ∃ (ρ : En) (F : Hp) (o : Option Int) (ρ' : En), Rel K ρ σ F H ∧ dPart f ρ = some (o, ρ') ∧ ∀ (F' H' : Hp), Rel K ρ' σ F' H' → Stp ρ σ F H ρ' σ F' H' → Q o H'
section
variable {X : Cx} {e a b : Expr} {es : List Expr} {fa fb : DE} {fr : DA} {pos p2 : Pos}
theorem po_imp {e : Option Expr} {t t' : TO} (h : PO X e t) (w : ∀ σ H Q, t' σ H Q → t σ H Q) : PO X e t' := ⟨fun pins s σ H Q I q => h.run pins s σ H Q I (w _ _ _ q)⟩
theorem to_none : PO X none (TOD X.K none) := po_imp po_none fun σ H Q ⟨ρ, F, o, ρ', R, e, k⟩ => by
  cases e
  exact k F H R Stp.refl
theorem to_some (h : PE X e (TD X.K fa)) : PO X (some e) (TOD X.K (some fa)) := po_imp (po_some h) fun σ H Q ⟨ρ, F, o, ρ', R, e, k⟩ => by
  obtain ⟨⟨r, ρ1⟩, e1, e⟩ := Option.bind_eq_some_iff.mp e
  obtain ⟨d, e2, e⟩ := Option.bind_eq_some_iff.mp e
  refine ⟨ρ, F, r, ρ1, R, e1, fun v F1 H1 R1 S1 q => ?_⟩
  have vv := q.vw R1 e2
  cases d with
  | int i =>
    cases e
    exact ⟨i, vv, k F1 H1 R1 S1⟩
  | _ => cases e
theorem cutD_rep {K : PySem.W.Frag} {F : Hp} {ds : List D} {xs : List V} (h : RepL K F ds xs) (lo hi : Option Int) : RepL K F (cutD ds lo hi) (cutV xs lo hi) := by
  unfold cutD cutV
  rw [h.length]
  exact RepL.take _ (RepL.drop _ h)
theorem cut_whole {xs : List V} {lo hi : Option Int} (h1 : HT.sIx xs.length 0 lo = 0) (h2 : HT.sIx xs.length xs.length hi = xs.length) : cutV xs lo hi = xs := by
  unfold cutV
  rw [h1, h2, List.drop_zero, Nat.sub_zero, List.take_length]
def rSlD (K : PySem.W.Frag) : V → Option Int → Option Int → Hp → VK → Prop := fun x lo hi H Q => ∃ F d res, Same F H ∧ Vw K F H d x ∧ gSl d lo hi = some res ∧ PR K F H res Q
theorem sd_slice : SlR X (rSlD X.K) := by
  intro pins s σ H x v vl vu lo hi sl Q I rx hs pl pu ⟨F, d, res, fh, va, e, k⟩
  unfold gSl at e
  split at e
  · cases e
    obtain ⟨a, us, rfl, h1, h2⟩ := va
    exact sl_list pins s σ H _ v vl vu lo hi sl Q I rx hs pl pu ⟨a, us, rfl, SqL.of h1, fun p hp => k.lst fh (cutD_rep h2 lo hi) hp⟩
  · cases e
    obtain ⟨a, us, rfl, h1, h2⟩ := va
    refine sl_tupA pins s σ H _ v vl vu lo hi sl Q I rx hs pl pu ⟨a, us, rfl, Same.sqT fh h1, fun z => ?_, fun _ p hp => k.tup fh (cutD_rep h2 lo hi) hp⟩
    have := cutD_rep h2 lo hi
    rw [cut_whole z.1 z.2] at this
    exact k.any fh ⟨a, us, rfl, h1, this⟩
  · cases e
    obtain ⟨a, rfl, h1⟩ := va
    exact sl_list pins s σ H _ v vl vu lo hi sl Q I rx hs pl pu ⟨a, _, rfl, Same.seq fh h1, fun p hp => k.lst fh (cutD_rep (RepL.ints _) lo hi) hp⟩
  · cases e
theorem td_slice {lo hi : Option Expr} {fl fh : Option DE} (he : PE X e (TD X.K fa)) (hl : PO X lo (TOD X.K fl)) (hu : PO X hi (TOD X.K fh)) : PE X (.Subscript e (.Slice lo hi none p2) pos) (TD X.K (dSlice fa fl fh)) :=
  pe_imp (pe_slice sd_slice he hl hu) fun σ H Q ⟨ρ, F, r, ρ', R, e, k⟩ => by
    obtain ⟨⟨ra, ρ1⟩, e1, e⟩ := Option.bind_eq_some_iff.mp e
    obtain ⟨⟨ol, ρ2⟩, e2, e⟩ := Option.bind_eq_some_iff.mp e
    obtain ⟨⟨oh, ρ3⟩, e3, e⟩ := Option.bind_eq_some_iff.mp e
    obtain ⟨d, e4, e⟩ := Option.bind_eq_some_iff.mp e
    obtain ⟨res, e5, e⟩ := Option.bind_eq_some_iff.mp e
    cases e
    refine ⟨ρ, F, ra, ρ1, R, e1, fun x F1 H1 R1 S1 q => ?_⟩
    refine ⟨ρ1, F1, ol, ρ2, R1, e2, fun F2 H2 R2 S2 => ?_⟩
    refine ⟨ρ2, F2, oh, ρ3, R2, e3, fun F3 H3 R3 S3 => ?_⟩
    have S := (S1.trans S2).trans S3
    exact ⟨F3, d, _, R3.fh, ((q.step S2).step S3).vw R3 e4, e5, fun v F4 H4 x4 w => k v F4 H4 (R3.ext x4) (S.trans x4.stp) (w.rr R3 S.th)⟩
end

/-! ### built-ins -/
def gLen : List D → Option Res
  | [.lst xs] => some (.fz (.int xs.length))
  | [.tup xs] => some (.fz (.int xs.length))
  | [.scr xs] => some (.fz (.int xs.length))
  | [.str s] => if s.length ≤ sizeLine then some (.fz (.int s.length)) else none
  | _ => none
def gAbs : List D → Option Res
  | [.int i] => some (.fz (.int (if i < 0 then -i else i)))
  | _ => none
def gInt : List D → Option Res
  | [.int i] => some (.fz (.int i))
  | [.bl b] => some (.fz (.int (if b then 1 else 0)))
  | _ => none
def gMax2 : List D → Option Res
  | [.int i, .int j] => some (.fz (.int (if j > i then j else i)))
  | _ => none
def gMin2 : List D → Option Res
  | [.int i, .int j] => some (.fz (.int (if j < i then j else i)))
  | _ => none
/-- all ints -/
def intsD : List D → Option (List Int)
  | [] => some []
  | .int i :: r => (intsD r).bind fun t => some (i :: t)
  | _ => none
def boolsD : List D → Option (List Bool)
  | [] => some []
  | .bl i :: r => (boolsD r).bind fun t => some (i :: t)
  | _ => none
def maxI : List Int → Option Int
  | [] => none
  | x :: xs => some (xs.foldl (fun a b => if b > a then b else a) x)
def minI : List Int → Option Int
  | [] => none
  | x :: xs => some (xs.foldl (fun a b => if b < a then b else a) x)
def seqD : D → Option (List D)
  | .lst xs => some xs
  | .tup xs => some xs
  | .scr ns => some (ns.map D.int)
  | _ => none
def gSum : List D → Option Res
  | [d] => (seqD d).bind fun xs => (intsD xs).bind fun ns => some (.fz (.int ns.sum))
  | _ => none
def gMax : List D → Option Res
  | [d] => (seqD d).bind fun xs => (intsD xs).bind fun ns => (maxI ns).bind fun m => some (.fz (.int m))
  | _ => none
def gMin : List D → Option Res
  | [d] => (seqD d).bind fun xs => (intsD xs).bind fun ns => (minI ns).bind fun m => some (.fz (.int m))
  | _ => none
def gAll : List D → Option Res
  | [.lst xs] => (boolsD xs).bind fun bs => some (.fz (.bl (bs.all id)))
  | _ => none
def gAny : List D → Option Res
  | [.lst xs] => (boolsD xs).bind fun bs => some (.fz (.bl (bs.any id)))
  | _ => none
def gTuple : List D → Option Res
  | [.lst xs] => some (.fz (.tup xs))
  | [.tup xs] => some (.fz (.tup xs))
  | _ => none
def gList : List D → Option Res
  | [.lst xs] => some (.ow (.lst xs))
  | [.tup xs] => some (.ow (.lst xs))
  | [.scr ns] => some (.ow (.lst (ns.map D.int)))
  | _ => none
theorem intsD_eq : ∀ {xs : List D} {ns : List Int}, intsD xs = some ns → xs = ns.map D.int
  | [], _, e => by
    cases e
    rfl
  | d :: r, ns, e => by
    cases d with
    | int i =>
      obtain ⟨t, e1, e⟩ := Option.bind_eq_some_iff.mp e
      cases e
      rw [intsD_eq e1]
      rfl
    | _ => cases e
theorem boolsD_eq : ∀ {xs : List D} {ns : List Bool}, boolsD xs = some ns → xs = ns.map D.bl
  | [], _, e => by
    cases e
    rfl
  | d :: r, ns, e => by
    cases d with
    | bl i =>
      obtain ⟨t, e1, e⟩ := Option.bind_eq_some_iff.mp e
      cases e
      rw [boolsD_eq e1]
      rfl
    | _ => cases e
theorem maxI_spec : ∀ {ns : List Int} {m : Int}, maxI ns = some m → m ∈ ns ∧ ∀ y ∈ ns, y ≤ m
  | [], _, e => by cases e
  | x :: xs, m, e => by
    have key : ∀ (xs : List Int) (x : Int), let m := xs.foldl (fun a b => if b > a then b else a) x; m ∈ x :: xs ∧ ∀ y ∈ x :: xs, y ≤ m := by
      intro xs
      induction xs with
      | nil => intro x; simp
      | cons z zs ih =>
        intro x
        obtain ⟨h1, h2⟩ := ih (if z > x then z else x)
        refine ⟨?_, fun y hy => ?_⟩
        · simp only [List.foldl_cons]
          rcases List.mem_cons.mp h1 with h | h
          · rw [h]
            split <;> simp
          · simp [h]
        · simp only [List.foldl_cons]
          have h3 := h2 (if z > x then z else x) (by simp)
          rcases List.mem_cons.mp hy with h | h
          · rw [h]
            refine Int.le_trans ?_ h3
            split <;> omega
          · rcases List.mem_cons.mp h with h | h
            · rw [h]
              refine Int.le_trans ?_ h3
              split <;> omega
            · exact h2 y (by simp [h])
    cases e
    exact key xs x
theorem minI_spec : ∀ {ns : List Int} {m : Int}, minI ns = some m → m ∈ ns ∧ ∀ y ∈ ns, m ≤ y
  | [], _, e => by cases e
  | x :: xs, m, e => by
    have key : ∀ (xs : List Int) (x : Int), let m := xs.foldl (fun a b => if b < a then b else a) x; m ∈ x :: xs ∧ ∀ y ∈ x :: xs, m ≤ y := by
      intro xs
      induction xs with
      | nil => intro x; simp
      | cons z zs ih =>
        intro x
        obtain ⟨h1, h2⟩ := ih (if z < x then z else x)
        refine ⟨?_, fun y hy => ?_⟩
        · simp only [List.foldl_cons]
          rcases List.mem_cons.mp h1 with h | h
          · rw [h]
            split <;> simp
          · simp [h]
        · simp only [List.foldl_cons]
          have h3 := h2 (if z < x then z else x) (by simp)
          rcases List.mem_cons.mp hy with h | h
          · rw [h]
            refine Int.le_trans h3 ?_
            split <;> omega
          · rcases List.mem_cons.mp h with h | h
            · rw [h]
              refine Int.le_trans h3 ?_
              split <;> omega
            · exact h2 y (by simp [h])
    cases e
    exact key xs x
section
variable {X : Cx}
theorem VwL.one {K : PySem.W.Frag} {F H : Hp} {d : D} {xs : List V} (h : VwL K F H [d] xs) : ∃ v, xs = [v] ∧ Vw K F H d v := by
  obtain ⟨v, w, rfl, h1, h2⟩ := h
  have h2 : w = [] := h2
  subst h2
  exact ⟨v, rfl, h1⟩
theorem VwL.two {K : PySem.W.Frag} {F H : Hp} {d e : D} {xs : List V} (h : VwL K F H [d, e] xs) : ∃ v u, xs = [v, u] ∧ Vw K F H d v ∧ Vw K F H e u := by
  obtain ⟨v, w, rfl, h1, h2⟩ := h
  obtain ⟨u, rfl, h3⟩ := h2.one
  exact ⟨v, u, rfl, h1, h3⟩
theorem callD {f : Value} {r : List V → Hp → VK → Prop} {g : List D → Option Res} (h : CallR X f r) (w : ∀ F H xs ds res Q, Same F H → VwL X.K F H ds xs → g ds = some res → PR X.K F H res Q → r xs H Q) : CallR X f (rDn X.K g) :=
  callR_imp h fun xs H Q ⟨F, ds, res, fh, va, e, k⟩ => w F H xs ds res Q fh va e k
theorem cd_len : CallR X (.builtin "len") (rDn X.K gLen) := callD call_len fun F H xs ds res Q fh va e k => by
  unfold gLen at e
  split at e
  · cases e
    obtain ⟨v, rfl, a, us, rfl, h1, h2⟩ := va.one
    rw [← h2.length] at k
    exact ⟨_, us.length, rfl, .inl ⟨us, SqL.of h1, rfl⟩, k.int fh⟩
  · cases e
    obtain ⟨v, rfl, a, us, rfl, h1, h2⟩ := va.one
    rw [← h2.length] at k
    exact ⟨_, us.length, rfl, .inr ⟨us, Same.sqT fh h1, rfl⟩, k.int fh⟩
  · rename_i ns
    cases e
    obtain ⟨v, rfl, a, rfl, h1⟩ := va.one
    exact ⟨_, ns.length, rfl, .inl ⟨_, Same.seq fh h1, by simp⟩, k.int fh⟩
  · split at e
    · rename_i s hl
      cases e
      obtain ⟨v, rfl, h1⟩ := va.one
      have h1 : v = .str s := h1
      subst h1
      exact ⟨_, s.length, rfl, ⟨hl, rfl⟩, k.int fh⟩
    · cases e
  · cases e
theorem cd_abs : CallR X (.builtin "abs") (rDn X.K gAbs) := callD call_abs fun F H xs ds res Q fh va e k => by
  unfold gAbs at e
  split at e
  · cases e
    obtain ⟨v, rfl, h1⟩ := va.one
    have h1 : v = _ := h1
    subst h1
    exact ⟨_, rfl, k.int fh⟩
  · cases e
theorem cd_int : CallR X (.type "int") (rDn X.K gInt) := callD call_int1 fun F H xs ds res Q fh va e k => by
  unfold gInt at e
  split at e
  · cases e
    obtain ⟨v, rfl, h1⟩ := va.one
    have h1 : v = _ := h1
    subst h1
    exact .inl ⟨_, rfl, k.int fh⟩
  · cases e
    obtain ⟨v, rfl, h1⟩ := va.one
    have h1 : v = _ := h1
    subst h1
    exact .inr ⟨_, rfl, k.int fh⟩
  · cases e
theorem cd_max2 (hc : X.calm = true) : CallR X (.builtin "max") (rDn X.K gMax2) := callD (call_max2 hc) fun F H xs ds res Q fh va e k => by
  unfold gMax2 at e
  split at e
  · cases e
    obtain ⟨v, u, rfl, h1, h2⟩ := va.two
    have h1 : v = _ := h1
    have h2 : u = _ := h2
    subst h1 h2
    exact ⟨_, _, rfl, k.int fh⟩
  · cases e
theorem cd_min2 (hc : X.calm = true) : CallR X (.builtin "min") (rDn X.K gMin2) := callD (call_min2 hc) fun F H xs ds res Q fh va e k => by
  unfold gMin2 at e
  split at e
  · cases e
    obtain ⟨v, u, rfl, h1, h2⟩ := va.two
    have h1 : v = _ := h1
    have h2 : u = _ := h2
    subst h1 h2
    exact ⟨_, _, rfl, k.int fh⟩
  · cases e
theorem cd_all (hc : X.calm = true) : CallR X (.builtin "all") (rDn X.K gAll) := callD (cr_all hc) fun F H xs ds res Q fh va e k => by
  unfold gAll at e
  split at e
  · obtain ⟨bs, e1, e⟩ := Option.bind_eq_some_iff.mp e
    cases e
    obtain ⟨v, rfl, a, us, rfl, h1, h2⟩ := va.one
    rw [boolsD_eq e1] at h2
    rw [h2.of_bools] at h1
    exact ⟨a, bs, rfl, SqL.of h1, k.bl fh⟩
  · cases e
theorem cd_any (hc : X.calm = true) : CallR X (.builtin "any") (rDn X.K gAny) := callD (cr_any hc) fun F H xs ds res Q fh va e k => by
  unfold gAny at e
  split at e
  · obtain ⟨bs, e1, e⟩ := Option.bind_eq_some_iff.mp e
    cases e
    obtain ⟨v, rfl, a, us, rfl, h1, h2⟩ := va.one
    rw [boolsD_eq e1] at h2
    rw [h2.of_bools] at h1
    exact ⟨a, bs, rfl, SqL.of h1, k.bl fh⟩
  · cases e
theorem cd_tuple : CallR X (.type "tuple") (rDn X.K gTuple) := callD call_tuple_of fun F H xs ds res Q fh va e k => by
  unfold gTuple at e
  split at e
  · cases e
    obtain ⟨v, rfl, a, us, rfl, h1, h2⟩ := va.one
    exact ⟨a, us, rfl, .inl ⟨SqL.of h1, fun p hp => k.tup fh h2 hp⟩⟩
  · cases e
    obtain ⟨v, rfl, a, us, rfl, h1, h2⟩ := va.one
    exact ⟨a, us, rfl, .inr ⟨Same.sqT fh h1, k.any fh ⟨a, us, rfl, h1, h2⟩⟩⟩
  · cases e
theorem cd_list : CallR X (.type "list") (rDn X.K gList) := callD call_list_of fun F H xs ds res Q fh va e k => by
  unfold gList at e
  split at e
  · cases e
    obtain ⟨v, rfl, a, us, rfl, h1, h2⟩ := va.one
    exact ⟨a, us, rfl, .inl (SqL.of h1), fun p hp => k.lst fh h2 hp⟩
  · cases e
    obtain ⟨v, rfl, a, us, rfl, h1, h2⟩ := va.one
    exact ⟨a, us, rfl, .inr (Same.sqT fh h1), fun p hp => k.lst fh h2 hp⟩
  · cases e
    obtain ⟨v, rfl, a, rfl, h1⟩ := va.one
    exact ⟨a, _, rfl, .inl (Same.seq fh h1), fun p hp => k.lst fh (RepL.ints _) hp⟩
  · cases e
/-- ints of a list or tuple -/
theorem seq_ints {K : PySem.W.Frag} {F H : Hp} {d : D} {v : V} {xs : List D} {ns : List Int} (fh : Same F H) (va : Vw K F H d v) (e : seqD d = some xs) (e1 : intsD xs = some ns) : ∃ a, v = .ref a ∧ (SqL K H a (ns.map V.int) ∨ SqT K H a (ns.map V.int)) := by
  have hx := intsD_eq e1
  cases d with
  | lst ys =>
    cases e
    obtain ⟨a, us, rfl, h1, h2⟩ := va
    rw [hx] at h2
    rw [h2.of_ints] at h1
    exact ⟨a, rfl, .inl (SqL.of h1)⟩
  | tup ys =>
    cases e
    obtain ⟨a, us, rfl, h1, h2⟩ := va
    rw [hx] at h2
    rw [h2.of_ints] at h1
    exact ⟨a, rfl, .inr (Same.sqT fh h1)⟩
  | scr ms =>
    cases e
    obtain ⟨a, rfl, h1⟩ := va
    have : ms = ns := by
      have key : ∀ (ms ns : List Int), ms.map D.int = ns.map D.int → ms = ns := by
        intro ms
        induction ms with
        | nil =>
          intro ns h
          cases ns with
          | nil => rfl
          | cons _ _ => cases h
        | cons m ms ih =>
          intro ns h
          cases ns with
          | nil => cases h
          | cons n ns =>
            simp only [List.map_cons, List.cons.injEq, D.int.injEq] at h
            rw [h.1, ih ns h.2]
      exact key _ _ hx
    rw [← this]
    exact ⟨a, rfl, .inl (Same.seq fh h1)⟩
  | _ => cases e
end
end Pu

/-! Pu11: sums, greatest, least of lists and tuples; isinstance; what is walked; sorted. -/
namespace Pu
open PySem PySem.Spec PyProof.Rows L2

section
variable {prog : Program} {w : World} {A : Around} {E : Value → Shared → Prop} {s : Shared} {l : Addr} {items : Array Value} {ns : List Int} {Q : Value → Shared → Prop}
theorem ints_val (hi : IntsAre items.toList ns) : ∀ (i : Nat) (v : Value), items[i]? = some v → ∃ t, v = .int (ns.getD i 0) t := fun i v hv => by
  obtain ⟨t, e⟩ := PyProof.Rows.IntsAre.int_at hi i v (by rw [Array.getElem?_toList]; exact hv)
  exact ⟨t, e⟩
theorem preSum_getD (ns : List Int) : ∀ n, preSum (fun i => ns.getD i 0) n = (ns.take n).sum
  | 0 => by simp [preSum]
  | n + 1 => by
    unfold preSum
    rw [preSum_getD ns n, List.take_add_one, List.sum_append]
    cases h : ns[n]? with
    | none => simp [h]
    | some x => simp [h]
/-- a fresh iterator over a tuple, as a walk -/
theorem tup_walk (hh : A.handled = none) (hl : s.heap.IsTuple l items) {R : Value → Shared → Prop}
    (h : ∀ s2 : Shared, s2 = { s with heap := s.heap.push { cls := .type "tuple_iterator", data := .fields #[.ref l, .int 0 0] } } → Walks prog w A s.heap.objs.size [s.heap.objs.size, l] [s.heap.objs.size] items.size (fun i v => items[i]? = some v) (fun i h => h.IsTupleIter s.heap.objs.size l i ∧ h.IsTuple l items) →
      (s2.heap.IsTupleIter s.heap.objs.size l 0 ∧ s2.heap.IsTuple l items) → (∀ b ∈ [s.heap.objs.size, l], b < s2.heap.objs.size) → (∀ h' : Heap, (∀ b o, b ∉ [s.heap.objs.size] → s2.heap.get? b = some o → h'.get? b = some o) → ∀ b o, s.heap.get? b = some o → h'.get? b = some o) → R (.ref s.heap.objs.size) s2) :
    wpAny (model prog w) A (pyIter (.ref l)) R E s := by
  have hlt : l < s.heap.objs.size := by
    obtain ⟨o, e, _⟩ := hl
    exact Heap.lt_size e
  refine wpAny_pyIter_tuple hl (h _ rfl (Walks.tuple hh _ l (Nat.ne_of_lt hlt) items) ⟨⟨_, Heap.get?_push_size _ rfl, rfl, rfl⟩, hl.push _⟩ (fun b hb => ?_) (fun h' hk b o e => ?_))
  · show b < (s.heap.push _).objs.size
    rw [Heap.size_push]
    simp only [List.mem_cons, List.not_mem_nil, or_false] at hb
    rcases hb with z | z
    · rw [z]; exact Nat.lt_succ_self _
    · rw [z]; exact Nat.lt_succ_of_lt hlt
  · refine hk b o (fun hm => ?_) (Heap.get?_push_of_some _ e)
    simp only [List.mem_cons, List.not_mem_nil, or_false] at hm
    have := Heap.lt_size e
    rw [hm] at this
    exact Nat.lt_irrefl _ this
theorem sum_tup (hh : A.handled = none) (hl : s.heap.IsTuple l items) (hi : IntsAre items.toList ns)
    (h : ∀ h' tk t', (∀ b o, s.heap.get? b = some o → h'.get? b = some o) → Q (.int ns.sum t') { s with heap := h', toks := tk }) : wpAny (model prog w) A (call (.builtin "sum") [.ref l]) Q E s := by
  have hsz : items.size = ns.length := by
    have q := IntsAre.length hi
    rwa [Array.length_toList] at q
  refine call_sum_walkG (tup_walk (A := A.in1) hh hl fun s2 e W st hfp hk => ?_)
  subst e
  refine ⟨_, _, _, _, _, _, (fun i => ns.getD i 0), rfl, W, st, hfp, ints_val hi, fun h' tk t' hk' => ?_⟩
  rw [preSum_getD, List.take_of_length_le (by omega)]
  exact h h' tk t' (hk h' hk')
theorem max_tup (hh : A.handled = none) (hl : s.heap.IsTuple l items) (hi : IntsAre items.toList ns) (hne : 0 < ns.length)
    (h : ∀ h' tk M t', (∀ b o, s.heap.get? b = some o → h'.get? b = some o) → M ∈ ns → (∀ a, a ∈ ns → a ≤ M) → Q (.int M t') { s with heap := h', toks := tk }) : wpAny (model prog w) A (call (.builtin "max") [.ref l]) Q E s := by
  have hsz : items.size = ns.length := by
    have q := IntsAre.length hi
    rwa [Array.length_toList] at q
  refine call_max_walk (tup_walk (A := A.in1) hh hl fun s2 e W st hfp hk => ?_)
  subst e
  refine ⟨_, _, _, _, _, _, _, rfl, W, st, hfp, by omega, CmpOf.ints_gt (fun i => ns.getD i 0) (ints_val hi), fun v h' tk hv hk' => ?_⟩
  obtain ⟨t, rfl⟩ := ints_val hi _ v hv
  obtain ⟨h1, h2⟩ := argBest_gt (fun i => ns.getD i 0) (items.size - 1)
  refine h h' tk _ t (hk h' hk') ?_ fun a ha => ?_
  · have hj : argBest (fun i j => decide (ns.getD i 0 > ns.getD j 0)) (items.size - 1) < ns.length := by omega
    rw [List.getD_eq_getElem?_getD, List.getElem?_eq_getElem hj]
    exact List.getElem_mem hj
  · obtain ⟨j, hj, rfl⟩ := List.getElem_of_mem ha
    have hg : ns.getD j 0 = ns[j] := by
      rw [List.getD_eq_getElem?_getD, List.getElem?_eq_getElem hj]
      rfl
    have := h2 j (by omega)
    rw [hg] at this
    exact this
theorem min_tup (hh : A.handled = none) (hl : s.heap.IsTuple l items) (hi : IntsAre items.toList ns) (hne : 0 < ns.length)
    (h : ∀ h' tk M t', (∀ b o, s.heap.get? b = some o → h'.get? b = some o) → M ∈ ns → (∀ a, a ∈ ns → M ≤ a) → Q (.int M t') { s with heap := h', toks := tk }) : wpAny (model prog w) A (call (.builtin "min") [.ref l]) Q E s := by
  have hsz : items.size = ns.length := by
    have q := IntsAre.length hi
    rwa [Array.length_toList] at q
  refine call_min_walk (tup_walk (A := A.in1) hh hl fun s2 e W st hfp hk => ?_)
  subst e
  refine ⟨_, _, _, _, _, _, _, rfl, W, st, hfp, by omega, CmpOf.ints_lt (fun i => ns.getD i 0) (ints_val hi), fun v h' tk hv hk' => ?_⟩
  obtain ⟨t, rfl⟩ := ints_val hi _ v hv
  obtain ⟨h1, h2⟩ := argBest_lt (fun i => ns.getD i 0) (items.size - 1)
  refine h h' tk _ t (hk h' hk') ?_ fun a ha => ?_
  · have hj : argBest (fun i j => decide (ns.getD i 0 < ns.getD j 0)) (items.size - 1) < ns.length := by omega
    rw [List.getD_eq_getElem?_getD, List.getElem?_eq_getElem hj]
    exact List.getElem_mem hj
  · obtain ⟨j, hj, rfl⟩ := List.getElem_of_mem ha
    have hg : ns.getD j 0 = ns[j] := by
      rw [List.getD_eq_getElem?_getD, List.getElem?_eq_getElem hj]
      rfl
    have := h2 j (by omega)
    rw [hg] at this
    exact this
end

section
variable {X : Cx} {e a b : Expr} {es : List Expr} {fa fb : DE} {fr : DA} {pos p2 : Pos}
def rSumT (K : PySem.W.Frag) : List V → Hp → VK → Prop := fun vs H Q => ∃ (a : Addr) (ns : List Int), vs = [V.ref a] ∧ SqT K H a (ns.map V.int) ∧ Q (.int ns.sum) H
theorem cr_sumT (hc : X.calm = true) : CallR X (.builtin "sum") (rSumT X.K) := by
  intro pins s σ H vs us Q I r ⟨a, ns, e, hs, q⟩
  subst e
  obtain ⟨its, rv, hl, _⟩ := I.tuple hs
  rw [Vals.ref1 r]
  exact sum_tup (I.ok.hd hc) hl rv.ints fun h' tk t' hk => ⟨.int _, H, I.kept hk, ⟨_, rfl⟩, q⟩
def rMaxT (K : PySem.W.Frag) : List V → Hp → VK → Prop := fun vs H Q => ∃ (a : Addr) (ns : List Int), vs = [V.ref a] ∧ SqT K H a (ns.map V.int) ∧ 0 < ns.length ∧ ∀ m, m ∈ ns → (∀ y, y ∈ ns → y ≤ m) → Q (.int m) H
theorem cr_maxT (hc : X.calm = true) : CallR X (.builtin "max") (rMaxT X.K) := by
  intro pins s σ H vs us Q I r ⟨a, ns, e, hs, hne, q⟩
  subst e
  obtain ⟨its, rv, hl, _⟩ := I.tuple hs
  rw [Vals.ref1 r]
  exact max_tup (I.ok.hd hc) hl rv.ints hne fun h' tk m t' hk h1 h2 => ⟨.int _, H, I.kept hk, ⟨_, rfl⟩, q m h1 h2⟩
def rMinT (K : PySem.W.Frag) : List V → Hp → VK → Prop := fun vs H Q => ∃ (a : Addr) (ns : List Int), vs = [V.ref a] ∧ SqT K H a (ns.map V.int) ∧ 0 < ns.length ∧ ∀ m, m ∈ ns → (∀ y, y ∈ ns → m ≤ y) → Q (.int m) H
theorem cr_minT (hc : X.calm = true) : CallR X (.builtin "min") (rMinT X.K) := by
  intro pins s σ H vs us Q I r ⟨a, ns, e, hs, hne, q⟩
  subst e
  obtain ⟨its, rv, hl, _⟩ := I.tuple hs
  rw [Vals.ref1 r]
  exact min_tup (I.ok.hd hc) hl rv.ints hne fun h' tk m t' hk h1 h2 => ⟨.int _, H, I.kept hk, ⟨_, rfl⟩, q m h1 h2⟩
theorem callR_or {f : Value} {r r' : List V → Hp → VK → Prop} (h : CallR X f r) (h' : CallR X f r') : CallR X f (fun xs H Q => r xs H Q ∨ r' xs H Q) := fun pins s σ H xs us Q I r q => q.elim (h pins s σ H xs us Q I r) (h' pins s σ H xs us Q I r)
theorem cd_sum (hc : X.calm = true) : CallR X (.builtin "sum") (rDn X.K gSum) := callD (callR_or (cr_sum hc) (cr_sumT hc)) fun F H xs ds res Q fh va e k => by
  unfold gSum at e
  split at e
  · obtain ⟨ys, e1, e⟩ := Option.bind_eq_some_iff.mp e
    obtain ⟨ns, e2, e⟩ := Option.bind_eq_some_iff.mp e
    cases e
    obtain ⟨v, rfl, h1⟩ := va.one
    obtain ⟨a, rfl, h | h⟩ := seq_ints fh h1 e1 e2
    · exact .inl ⟨a, ns, rfl, h, k.int fh⟩
    · exact .inr ⟨a, ns, rfl, h, k.int fh⟩
  · cases e
theorem maxI_one {ns : List Int} {m m' : Int} (e : maxI ns = some m) (h1 : m' ∈ ns) (h2 : ∀ y, y ∈ ns → y ≤ m') : m' = m := by
  obtain ⟨h3, h4⟩ := maxI_spec e
  have a := h4 m' h1
  have b := h2 m h3
  omega
theorem minI_one {ns : List Int} {m m' : Int} (e : minI ns = some m) (h1 : m' ∈ ns) (h2 : ∀ y, y ∈ ns → m' ≤ y) : m' = m := by
  obtain ⟨h3, h4⟩ := minI_spec e
  have a := h4 m' h1
  have b := h2 m h3
  omega
theorem cd_max (hc : X.calm = true) : CallR X (.builtin "max") (rDn X.K gMax) := callD (callR_or (cr_max hc) (cr_maxT hc)) fun F H xs ds res Q fh va e k => by
  unfold gMax at e
  split at e
  · obtain ⟨ys, e1, e⟩ := Option.bind_eq_some_iff.mp e
    obtain ⟨ns, e2, e⟩ := Option.bind_eq_some_iff.mp e
    obtain ⟨m, e3, e⟩ := Option.bind_eq_some_iff.mp e
    cases e
    obtain ⟨v, rfl, h1⟩ := va.one
    have hne : 0 < ns.length := by
      cases ns with
      | nil => cases e3
      | cons _ _ => simp
    obtain ⟨a, rfl, h | h⟩ := seq_ints fh h1 e1 e2
    · exact .inl ⟨a, ns, rfl, h, hne, fun m' h3 h4 => by rw [maxI_one e3 h3 h4]; exact k.int fh⟩
    · exact .inr ⟨a, ns, rfl, h, hne, fun m' h3 h4 => by rw [maxI_one e3 h3 h4]; exact k.int fh⟩
  · cases e
theorem cd_min (hc : X.calm = true) : CallR X (.builtin "min") (rDn X.K gMin) := callD (callR_or (cr_min hc) (cr_minT hc)) fun F H xs ds res Q fh va e k => by
  unfold gMin at e
  split at e
  · obtain ⟨ys, e1, e⟩ := Option.bind_eq_some_iff.mp e
    obtain ⟨ns, e2, e⟩ := Option.bind_eq_some_iff.mp e
    obtain ⟨m, e3, e⟩ := Option.bind_eq_some_iff.mp e
    cases e
    obtain ⟨v, rfl, h1⟩ := va.one
    have hne : 0 < ns.length := by
      cases ns with
      | nil => cases e3
      | cons _ _ => simp
    obtain ⟨a, rfl, h | h⟩ := seq_ints fh h1 e1 e2
    · exact .inl ⟨a, ns, rfl, h, hne, fun m' h3 h4 => by rw [minI_one e3 h3 h4]; exact k.int fh⟩
    · exact .inr ⟨a, ns, rfl, h, hne, fun m' h3 h4 => by rw [minI_one e3 h3 h4]; exact k.int fh⟩
  · cases e

/-! ### isinstance -/
inductive Ty where
  | int | bool | tuple | str | list | dict
def Ty.nm : Ty → String
  | .int => "int"
  | .bool => "bool"
  | .tuple => "tuple"
  | .str => "str"
  | .list => "list"
  | .dict => "dict"
def tyN : D → String
  | .non => "NoneType"
  | .bl _ => "bool"
  | .int _ => "int"
  | .str _ => "str"
  | .tup _ => "tuple"
  | .lst _ => "list"
  | .dic _ _ => "dict"
  | .scr _ => "list"
def isTy : Ty → D → Bool
  | .int, .int _ => true
  | .int, .bl _ => true
  | .bool, .bl _ => true
  | .tuple, .tup _ => true
  | .str, .str _ => true
  | .list, .lst _ => true
  | .list, .scr _ => true
  | .dict, .dic _ _ => true
  | _, _ => false
def gIsi (t : Ty) : D → Option Res := fun d => some (.fz (.bl (isTy t d)))
theorem isTy_kit (t : Ty) (d : D) : kitB (tyN d) t.nm = some (isTy t d) := by
  cases t <;> cases d <;> simp only [tyN, Ty.nm, isTy] <;> decide +kernel
theorem Vw.ty {K : PySem.W.Frag} {F H : Hp} {d : D} {v : V} (fh : Same F H) (h : Vw K F H d v) : TyX K H v (.type (tyN d)) := by
  have sql : ∀ {a : Addr} {xs : List V}, SqL K H a xs → TyX K H (.ref a) (.type "list") := fun {a xs} q => by
    rcases q with (q | ⟨o, q⟩) | ⟨o, its, n, q1, q2, _⟩
    · exact .base (.lst q)
    · exact .base (.frz q)
    · exact .kList q1 q2
  cases d with
  | non =>
    have h : v = .non := h
    subst h
    exact .base .non
  | bl b =>
    have h : v = .bl b := h
    subst h
    exact .base (.bl b)
  | int b =>
    have h : v = .int b := h
    subst h
    exact .base (.int b)
  | str b =>
    have h : v = .str b := h
    subst h
    exact .base (.str b)
  | tup ds =>
    obtain ⟨a, xs, rfl, q, _⟩ := h
    rcases Same.sqT fh q with (q | ⟨o, q⟩) | ⟨o, its, n, q1, q2, _⟩
    · exact .base (.tup q)
    · exact .fTuple q
    · exact .kTuple q1 q2
  | lst ds =>
    obtain ⟨a, xs, rfl, q, _⟩ := h
    exact .base (.lst q)
  | dic ks vs =>
    obtain ⟨a, xs, rfl, q, _⟩ := h
    exact .base (.dK q)
  | scr ns =>
    obtain ⟨a, rfl, q⟩ := h
    exact sql (Same.seq fh q)
theorem td_isi {t : Ty} {x : Str} {p q : Pos} (hg : Gl X "isinstance") (hm : X.mg "isinstance" = none) (ha : PE X a (TD X.K fa)) (hgt : Gl X x) (hmt : X.mg x = none) (hvt : bootBuiltins x = some (.type t.nm)) (hnt : x ≠ "__name__" := by decide) (hdt : (x == ("__debug__" : Str)) = false := by decide)
    (h1 : starEach [.Name x q] X.env = (false, eval (.Name x q) X.env) :: starEach [] X.env := by rfl) (h2 : starEach [a, .Name x q] X.env = (false, eval a X.env) :: starEach [.Name x q] X.env := by rfl) (h3 : (backTo pos (starEach [.Name x q] X.env)).any (·.1) = false := by rfl) :
    PE X (.Call (.Name "isinstance" p) [a, .Name x q] [] pos) (TD X.K (dOp1 (gIsi t) fa)) :=
  pe_imp (pe_callB call_isi hg hm (by decide +kernel) (pa_cons ha (pa_cons (pe_bltn hgt hmt hvt (show RelV (.ty t.nm) (.type t.nm) from rfl) hnt hdt) pa_nil h1) h2) (by decide) (by decide) h2 h3) fun σ H Q ⟨ρ, F, r, ρ', R, e, k⟩ => by
    obtain ⟨⟨ra, ρ1⟩, e1, e⟩ := Option.bind_eq_some_iff.mp e
    obtain ⟨d, e2, e⟩ := Option.bind_eq_some_iff.mp e
    obtain ⟨r', e3, e⟩ := Option.bind_eq_some_iff.mp e
    cases e
    cases e3
    refine ⟨ρ, F, ra, ρ1, R, e1, fun v F1 H1 R1 S1 q => ?_⟩
    exact ⟨v, .ty t.nm, .type (tyN d), .type t.nm, isTy t d, rfl, .ty _, (q.vw R1 e2).ty R1.fh, kit_ty (isTy_kit t d), k _ F1 H1 R1 S1 rfl⟩

/-! ### what is walked -/
def itemsD : D → Option (List D)
  | .lst xs => some xs
  | .tup xs => some xs
  | .scr ns => some (ns.map D.int)
  | _ => none
def dIt (fe : DE) : DI := fun ρ => (fe ρ).bind fun p => (frz p.1 p.2).bind fun q => (itemsD q.1).bind fun ds => some (ds, q.2)
theorem pi_or {tg l : Expr} {w1 w2 : TI} (h1 : PI X tg l w1) (h2 : PI X tg l w2) : PI X tg l (fun σ H R => w1 σ H R ∨ w2 σ H R) := ⟨fun pins s σ H R I q => q.elim (h1.run pins s σ H R I) (h2.run pins s σ H R I)⟩
theorem walkD_list {K : PySem.W.Frag} {a : Addr} {xs : List V} {ds : List D} {F : Hp} (h : SqL K F a xs) (q : RepL K F ds xs) : WalkD K (Itl K a) ds F where
  goes := fun i H hi s => ⟨xs, xs[i]'(by rw [q.length]; exact hi), Same.seq s h, List.getElem?_eq_getElem (by rw [q.length]; exact hi)⟩
  stops := fun H s => ⟨xs, Same.seq s h, Nat.le_of_eq q.length⟩
  yields := fun i d H x H' F1 hd sf fh y => by
    obtain ⟨e, y⟩ := y
    subst e
    obtain ⟨v, h1, h2⟩ := q.get hd
    have := y xs (Same.seq fh (Same.seq sf h))
    rw [h1] at this
    cases this
    exact ⟨F1, Ext.refl fh, h2.mono sf⟩
theorem walkD_tup {K : PySem.W.Frag} {a : Addr} {xs : List V} {ds : List D} {F : Hp} (h : SqT K F a xs) (q : RepL K F ds xs) : WalkD K (Itt K a) ds F where
  goes := fun i H hi s => ⟨xs, xs[i]'(by rw [q.length]; exact hi), Same.sqT s h, List.getElem?_eq_getElem (by rw [q.length]; exact hi)⟩
  stops := fun H s => ⟨xs, Same.sqT s h, Nat.le_of_eq q.length⟩
  yields := fun i d H x H' F1 hd sf fh y => by
    obtain ⟨e, y⟩ := y
    subst e
    obtain ⟨v, h1, h2⟩ := q.get hd
    have := y xs (Same.sqT fh (Same.sqT sf h))
    rw [h1] at this
    cases this
    exact ⟨F1, Ext.refl fh, h2.mono sf⟩
theorem ti_it {tg l : Expr} (hl : PE X l (TD X.K fa)) : PI X tg l (TID X.K (dIt fa)) :=
  pi_imp (pi_or (pi_list hl) (pi_tup hl)) fun σ H Q ⟨ρ, F, ds, ρ', R, e, k⟩ => by
    obtain ⟨⟨r, ρ1⟩, e1, e⟩ := Option.bind_eq_some_iff.mp e
    obtain ⟨⟨d, ρ2⟩, e2, e⟩ := Option.bind_eq_some_iff.mp e
    obtain ⟨ds', e3, e⟩ := Option.bind_eq_some_iff.mp e
    cases e
    cases d with
    | lst xs =>
      cases e3
      refine .inl ⟨ρ, F, r, ρ1, R, e1, fun v F1 H1 R1 S1 q => ?_⟩
      obtain ⟨F2, R2, S2, ⟨a, us, rfl, h1, h2⟩, _⟩ := frz_ok R1 S1 q e2
      exact ⟨a, rfl, ⟨us, SqL.of (R2.fh _ _ h1)⟩, k _ F2 H1 R2 S2 (walkD_list (SqL.of h1) h2)⟩
    | scr ns =>
      cases e3
      refine .inl ⟨ρ, F, r, ρ1, R, e1, fun v F1 H1 R1 S1 q => ?_⟩
      obtain ⟨F2, R2, S2, ⟨a, rfl, h1⟩, _⟩ := frz_ok R1 S1 q e2
      exact ⟨a, rfl, ⟨_, Same.seq R2.fh h1⟩, k _ F2 H1 R2 S2 (walkD_list h1 (RepL.ints _))⟩
    | tup xs =>
      cases e3
      refine .inr ⟨ρ, F, r, ρ1, R, e1, fun v F1 H1 R1 S1 q => ?_⟩
      obtain ⟨F2, R2, S2, ⟨a, us, rfl, h1, h2⟩, _⟩ := frz_ok R1 S1 q e2
      exact ⟨a, rfl, ⟨us, Same.sqT R2.fh h1⟩, k _ F2 H1 R2 S2 (walkD_tup h1 h2)⟩
    | _ => cases e3
/-- lo, lo + 1, .. -/
def rngD (lo : Int) (n : Nat) : List D := (List.range n).map fun i => D.int (lo + (i : Nat))
def smallI (i : Int) : Bool := decide (-(2 ^ 62) ≤ i) && decide (i < 2 ^ 62)
def dRng1 (fr : DA) : DI := fun ρ => (fr ρ).bind fun p => (conts p.1 p.2).bind fun ds => match ds with
  | [.int j] => if smallI j = true then some (rngD 0 j.toNat, p.2) else none
  | _ => none
def dRng2 (fr : DA) : DI := fun ρ => (fr ρ).bind fun p => (conts p.1 p.2).bind fun ds => match ds with
  | [.int i, .int j] => if (smallI i && smallI j) = true then some (rngD i (j - i).toNat, p.2) else none
  | _ => none
theorem walkD_range {K : PySem.W.Frag} {lo : Int} {n : Nat} {F : Hp} : WalkD K (Itr lo n) (rngD lo n) F where
  goes := fun i H hi _ => show i < n by simpa [rngD] using hi
  stops := fun H _ => by simp [rngD, Itr]
  yields := fun i d H x H' F1 hd sf fh y => by
    obtain ⟨e, y⟩ := y
    subst e
    unfold rngD at hd
    rw [List.getElem?_map] at hd
    by_cases hi : i < n
    · rw [List.getElem?_range hi] at hd
      cases hd
      exact ⟨F1, Ext.refl fh, y⟩
    · rw [List.getElem?_eq_none (by simpa using hi)] at hd
      cases hd
theorem ti_range1 {tg : Expr} {p : Pos} (hg : Gl X "range") (hm : X.mg "range" = none) (ha : PA X [a] (TAD X.K fr)) (hs : starEach [a] X.env = [(false, eval a X.env)] := by rfl) : PI X tg (.Call (.Name "range" p) [a] [] pos) (TID X.K (dRng1 fr)) :=
  pi_imp (pi_range1 hg hm ha hs) fun σ H Q ⟨ρ, F, ds, ρ', R, e, k⟩ => by
    obtain ⟨⟨rs, ρ1⟩, e1, e⟩ := Option.bind_eq_some_iff.mp e
    obtain ⟨cs, e2, e⟩ := Option.bind_eq_some_iff.mp e
    refine ⟨ρ, F, rs, ρ1, R, e1, fun vs F1 H1 R1 S1 q => ?_⟩
    have va := q.vw R1 e2
    split at e
    · rename_i j
      obtain ⟨v, rfl, h1⟩ := va.one
      have h1 : v = .int j := h1
      subst h1
      by_cases hj : smallI j = true
      · rw [if_pos hj] at e
        cases e
        unfold smallI at hj
        simp only [Bool.and_eq_true, decide_eq_true_eq] at hj
        exact ⟨j, rfl, hj.1, hj.2, k _ F1 H1 R1 S1 walkD_range⟩
      · rw [if_neg hj] at e
        cases e
    · cases e
theorem ti_range2 {tg : Expr} {p : Pos} (hg : Gl X "range") (hm : X.mg "range" = none) (ha : PA X [a, b] (TAD X.K fr)) (hs : starEach [a, b] X.env = [(false, eval a X.env), (false, eval b X.env)] := by rfl) (hs2 : starEach [b] X.env = [(false, eval b X.env)] := by rfl) : PI X tg (.Call (.Name "range" p) [a, b] [] pos) (TID X.K (dRng2 fr)) :=
  pi_imp (pi_range2 hg hm ha hs hs2) fun σ H Q ⟨ρ, F, ds, ρ', R, e, k⟩ => by
    obtain ⟨⟨rs, ρ1⟩, e1, e⟩ := Option.bind_eq_some_iff.mp e
    obtain ⟨cs, e2, e⟩ := Option.bind_eq_some_iff.mp e
    refine ⟨ρ, F, rs, ρ1, R, e1, fun vs F1 H1 R1 S1 q => ?_⟩
    have va := q.vw R1 e2
    split at e
    · rename_i i j
      obtain ⟨v, u, rfl, h1, h2⟩ := va.two
      have h1 : v = .int i := h1
      have h2 : u = .int j := h2
      subst h1 h2
      by_cases hj : (smallI i && smallI j) = true
      · rw [if_pos hj] at e
        cases e
        unfold smallI at hj
        simp only [Bool.and_eq_true, decide_eq_true_eq] at hj
        exact ⟨i, j, rfl, ⟨hj.1.1, hj.1.2, hj.2.1, hj.2.2⟩, k _ F1 H1 R1 S1 walkD_range⟩
      · rw [if_neg hj] at e
        cases e
    · cases e
/-- zip of two lists, or of two tuples -/
def zipDs (xs ys : List D) : List D := List.zipWith (fun x y => D.tup [x, y]) xs ys
def zipD : D → D → Option (List D)
  | .lst xs, .lst ys => some (zipDs xs ys)
  | .tup xs, .tup ys => some (zipDs xs ys)
  | _, _ => none
def dZip (fr : DA) : DI := fun ρ => (fr ρ).bind fun p => (frzs p.1 p.2).bind fun q => match q.1 with
  | [d, e] => (zipD d e).bind fun ds => some (ds, q.2)
  | _ => none
theorem zip_get {ds es : List D} {i : Nat} {d : D} (h : (zipDs ds es)[i]? = some d) : ∃ x y, ds[i]? = some x ∧ es[i]? = some y ∧ d = .tup [x, y] := by
  unfold zipDs at h
  rw [List.getElem?_zipWith] at h
  cases h1 : ds[i]? with
  | none => rw [h1] at h; cases h
  | some x =>
    cases h2 : es[i]? with
    | none => rw [h1, h2] at h; cases h
    | some y =>
      rw [h1, h2] at h
      cases h
      exact ⟨x, y, rfl, rfl, rfl⟩
theorem zip_len (ds es : List D) : (zipDs ds es).length = min ds.length es.length := by
  unfold zipDs
  rw [List.length_zipWith]
theorem pair_yield {K : PySem.W.Frag} {F1 H : Hp} {x y : V} {dx dy : D} {T : Addr} (fh : Same F1 H) (hT : H T = none) (h1 : Rep K F1 dx x) (h2 : Rep K F1 dy y) : ∃ F1', Ext F1 H F1' (L2.upd H T (.tup [x, y])) ∧ Rep K F1' (.tup [dx, dy]) (.ref T) :=
  ⟨_, Ext.fresh_fz fh hT, T, [x, y], rfl, .inl (.inl upd_same), x, [y], rfl, Rep.mono (same_upd (fh.free hT)) _ _ h1, y, [], rfl, Rep.mono (same_upd (fh.free hT)) _ _ h2, rfl⟩
theorem walkD_zipL {K : PySem.W.Frag} {a b : Addr} {xs ys : List V} {ds es : List D} {F : Hp} (h : SqL K F a xs) (h' : SqL K F b ys) (q : RepL K F ds xs) (q' : RepL K F es ys) : WalkD K (Itz K a b) (zipDs ds es) F where
  goes := fun i H hi s => by
    rw [zip_len] at hi
    exact ⟨xs, ys, xs[i]'(by rw [q.length]; omega), ys[i]'(by rw [q'.length]; omega), Same.seq s h, Same.seq s h', List.getElem?_eq_getElem _, List.getElem?_eq_getElem _⟩
  stops := fun H s => ⟨xs, ys, Same.seq s h, Same.seq s h', by rw [zip_len, q.length, q'.length]; omega⟩
  yields := fun i d H x H' F1 hd sf fh y => by
    obtain ⟨T, x1, x2, rfl, hT, rfl, f1, f2⟩ := y
    obtain ⟨dx, dy, g1, g2, rfl⟩ := zip_get hd
    obtain ⟨v1, w1, w2⟩ := q.get g1
    obtain ⟨v2, w3, w4⟩ := q'.get g2
    have e1 := f1 xs (Same.seq fh (Same.seq sf h))
    have e2 := f2 ys (Same.seq fh (Same.seq sf h'))
    rw [w1] at e1
    rw [w3] at e2
    cases e1
    cases e2
    exact pair_yield fh hT (w2.mono sf) (w4.mono sf)
theorem walkD_zipT {K : PySem.W.Frag} {a b : Addr} {xs ys : List V} {ds es : List D} {F : Hp} (h : SqT K F a xs) (h' : SqT K F b ys) (q : RepL K F ds xs) (q' : RepL K F es ys) : WalkD K (RZ.ItzT K a b) (zipDs ds es) F where
  goes := fun i H hi s => by
    rw [zip_len] at hi
    exact ⟨xs, ys, xs[i]'(by rw [q.length]; omega), ys[i]'(by rw [q'.length]; omega), Same.sqT s h, Same.sqT s h', List.getElem?_eq_getElem _, List.getElem?_eq_getElem _⟩
  stops := fun H s => ⟨xs, ys, Same.sqT s h, Same.sqT s h', by rw [zip_len, q.length, q'.length]; omega⟩
  yields := fun i d H x H' F1 hd sf fh y => by
    obtain ⟨T, x1, x2, rfl, hT, rfl, f1, f2⟩ := y
    obtain ⟨dx, dy, g1, g2, rfl⟩ := zip_get hd
    obtain ⟨v1, w1, w2⟩ := q.get g1
    obtain ⟨v2, w3, w4⟩ := q'.get g2
    have e1 := f1 xs (Same.sqT fh (Same.sqT sf h))
    have e2 := f2 ys (Same.sqT fh (Same.sqT sf h'))
    rw [w1] at e1
    rw [w3] at e2
    cases e1
    cases e2
    exact pair_yield fh hT (w2.mono sf) (w4.mono sf)
theorem ti_zip {p tpos : Pos} {elts : List Expr} {kk : Nat} (hg : Gl X "zip") (hm : X.mg "zip" = none) (ha : PA X [a, b] (TAD X.K fr))
    (hs : starEach [a, b] X.env = (false, eval a X.env) :: starEach [b] X.env := by rfl) (hpl : (backTo pos (starEach [b] X.env)).any (·.1) = false := by rfl) : PI X (.Tuple elts kk tpos) (.Call (.Name "zip" p) [a, b] [] pos) (TID X.K (dZip fr)) :=
  pi_imp (RZ.pi_zipA hg hm ha hs hpl) fun σ H Q ⟨ρ, F, ds, ρ', R, e, k⟩ => by
    obtain ⟨⟨rs, ρ1⟩, e1, e⟩ := Option.bind_eq_some_iff.mp e
    obtain ⟨⟨cs, ρ2⟩, e2, e⟩ := Option.bind_eq_some_iff.mp e
    refine ⟨ρ, F, rs, ρ1, R, e1, fun vs F1 H1 R1 S1 q => ?_⟩
    obtain ⟨F2, R2, S2, q2, _⟩ := frzs_ok R1 S1 q e2
    split at e
    · rename_i c1 c2 hc
      have hc : cs = [c1, c2] := hc
      subst hc
      obtain ⟨dz, e3, e⟩ := Option.bind_eq_some_iff.mp e
      cases e
      obtain ⟨v1, r1, rfl, p1, v2, r2, rfl, p2, p3⟩ := q2
      have p3 : r2 = [] := p3
      subst p3
      cases c1 with
      | lst xs =>
        cases c2 with
        | lst ys =>
          cases e3
          obtain ⟨a1, us, rfl, h1, h2⟩ := p1
          obtain ⟨a2, ws, rfl, h3, h4⟩ := p2
          exact ⟨a1, a2, us, ws, rfl, .inl ⟨SqL.of (R2.fh _ _ h1), SqL.of (R2.fh _ _ h3), k _ F2 H1 R2 S2 (walkD_zipL (SqL.of h1) (SqL.of h3) h2 h4)⟩⟩
        | _ => cases e3
      | tup xs =>
        cases c2 with
        | tup ys =>
          cases e3
          obtain ⟨a1, us, rfl, h1, h2⟩ := p1
          obtain ⟨a2, ws, rfl, h3, h4⟩ := p2
          exact ⟨a1, a2, us, ws, rfl, .inr ⟨Same.sqT R2.fh h1, Same.sqT R2.fh h3, k _ F2 H1 R2 S2 (walkD_zipT h1 h3 h2 h4)⟩⟩
        | _ => cases e3
      | _ => cases e3
    · cases e
end
end Pu

/-! Pu12: list(range(n)); sorted(list of ints); sorted(set(list of ints)); the end of a law. -/
namespace Pu
open PySem PySem.Spec PyProof.Rows L2

section
variable {P : Program} {w : World} {A : Around} {E : Value → Shared → Prop} {s : Shared}
/-- what set() makes at first -/
def emptyS (w : World) : Obj := { cls := .type "set", dict := none, data := .set #[] 0 (.fresh 0 0 (!w.params.followText "set-order")) }
/-- the shared state with one more object -/
def withO (s : Shared) (o : Obj) : Shared := { s with heap := s.heap.push o }
theorem init_set_list {l : Addr} {items : Array Value} (ns : List Int) {Q : Value → Shared → Prop} {A0 : Around} (hh : A0.handled = none) (hl : s.heap.IsList l items) (hit : IntsAre items.toList ns) (hb : ns.length + 1 < scanBound)
    (h : ∀ (h' : Heap) (tk c : Nat), SetR w h' s.heap.objs.size (fun j => decide (j ∈ ns)) c → c ≤ ns.length → (∀ b o, s.heap.get? b = some o → h'.get? b = some o) → Q .none { s with heap := h', toks := tk }) :
    codeAny (model P w) A0 (.call (.builtin "set.__init__") ⟨[.ref s.heap.objs.size, .ref l], []⟩) (wants Q E) (withO s (emptyS w)) := by
  have hsz : items.size = ns.length := (by simpa using IntsAre.length hit)
  have hS : (s.heap.push (emptyS w)).get? s.heap.objs.size = some (emptyS w) := Heap.get?_push_size _ rfl
  refine codeAny_call_builtin PySem.F.called_set.init.plain PySem.F.entry_set_init (check_set_init_1 ⟨_, hS, rfl⟩ ?_)
  obtain ⟨ol, e0, hc, nl, hd⟩ := hl
  obtain ⟨oc, odct, odata, osl⟩ := ol
  simp only at hc hd
  subst hc hd
  have e1 := Heap.get?_push_of_some (emptyS w) e0
  have x1 := PySem.F.sub_list_set
  have x2 := PySem.F.sub_list_frozenset
  have x3 : (Value.type "list" == Value.type "dict") = false := (by decide)
  have hl1 : (s.heap.push (emptyS w)).IsList l items := ⟨_, e1, rfl, nl, rfl⟩
  have hlt := Heap.lt_size e0
  unfold withO
  unfold Builtin.«set.__init__» noKeywords Builtin.Frozenset.updateFrom
  generalize hPI : pyIter = PI
  wp_walk
  subst hPI
  refine wpAny_pyIter_list hl1 (wpAny_bind (wpAny_runValue ?_))
  have y1 : (s.heap.push (emptyS w)).objs.size = s.heap.objs.size + 1 := Heap.size_push ..
  have y2 : l ≠ (s.heap.push (emptyS w)).objs.size := (by rw [y1]; exact Nat.ne_of_lt (Nat.lt_succ_of_lt hlt))
  have y3 : s.heap.objs.size ∉ [(s.heap.push (emptyS w)).objs.size, l] := (by
    rw [y1]
    intro m
    rcases List.mem_cons.mp m with z | z
    · exact Nat.ne_of_lt (Nat.lt_succ_self _) z
    · exact Nat.ne_of_gt hlt (List.mem_singleton.mp z))
  have y4 : ∀ (i : Nat) (v : Value), items[i]? = some v → ∃ k t, ns[i]? = some k ∧ v = .int k t := fun i v hv => (by
    have hi : i < ns.length := hsz ▸ (Array.getElem?_eq_some_iff.mp hv).1
    obtain ⟨t, e⟩ := PyProof.Rows.IntsAre.int_at hit i v (by rw [Array.getElem?_toList]; exact hv)
    exact ⟨ns[i], t, List.getElem?_eq_getElem hi, by rw [e, List.getD_eq_getElem?_getD, List.getElem?_eq_getElem hi]; rfl⟩)
  refine set_update_ints ((Walks.list (by simp [hh]) _ l y2 items).toS) s.heap.objs.size y3 ns hsz hb y4 (items.size - 0) 0 _ (by omega) (Nat.zero_le _)
    ⟨⟨_, Heap.get?_push_size _ rfl, rfl, rfl⟩, hl1.push _⟩ ⟨0, Nat.le_refl 0, setR_new_at (Heap.get?_push_of_some _ hS)⟩ fun s' c hm hc' hS' => ?_
  obtain ⟨h', g2, d', tk', os'⟩ := s'
  have z1 : g2 = s.gens := hm.gens
  have z2 : d' = s.drawn := hm.drawn
  have z3 : os' = s.os := hm.os
  subst z1 z2 z3
  show wpAny _ _ _ _ _ _
  refine wpAny_pure ?_
  show wpAny _ _ (ret Value.none) _ _ _
  refine wpAny_pure (h h' tk' c hS' (hsz ▸ hc') fun b o e => ?_)
  have q0 := Heap.lt_size e
  refine hm.heap b o (fun m => ?_) (Heap.get?_push_of_some _ (Heap.get?_push_of_some _ e))
  rw [y1] at m
  rcases List.mem_cons.mp m with z | z
  · exact absurd q0 (by rw [z]; exact Nat.lt_irrefl _)
  · exact absurd q0 (by rw [List.mem_singleton.mp z]; exact Nat.not_lt_of_lt (Nat.lt_succ_self _))
theorem call_set_listI {l : Addr} {items : Array Value} (ns : List Int) {Q : Value → Shared → Prop} (hh : A.handled = none) (hl : s.heap.IsList l items) (hit : IntsAre items.toList ns) (hb : ns.length + 1 < scanBound)
    (h : ∀ (h' : Heap) (tk c : Nat), SetR w h' s.heap.objs.size (fun j => decide (j ∈ ns)) c → c ≤ ns.length → (∀ b o, s.heap.get? b = some o → h'.get? b = some o) → Q (.ref s.heap.objs.size) { s with heap := h', toks := tk }) :
    wpAny (model P w) A (call (.type "set") [.ref l]) Q E s := by
  obtain ⟨c0, tl0, hmro⟩ := PySem.F.called_set.mro
  have k1 := PySem.F.called_set.made
  have k2 := PySem.F.called_set.sub
  have k3 := PySem.F.called_set.notType
  have k4 := PySem.F.called_set.canCreate
  have k5 := PySem.F.typeCall_set_1 (.ref l)
  refine wpAny_call (codeAny_of_tree ?_)
  show wpAny _ _ (callAny (.type "set") _) _ _ _
  refine wpAny_pure ⟨Code.quiet_builtin _ (by decide +kernel), codeAny_builtin PySem.F.entry_type_call ?_⟩
  rw [Around.under_plain (weight_type_call_type "set" [.ref l] []) rfl]
  repeat (any_goals (first | assumption | wp_step))
  refine codeAny_mono (code_set_led1 (.ref l) (E := E) (Q₁ := fun obj s₁ => obj = .ref s.heap.objs.size ∧ s₁ = withO s (emptyS w)) ⟨rfl, rfl⟩) fun r s₁ hr => ?_
  cases r with
  | error e => exact hr
  | ok fl =>
    cases fl with
    | ret obj =>
      obtain ⟨rfl, rfl⟩ := hr
      have hS : (withO s (emptyS w)).heap.get? s.heap.objs.size = some (emptyS w) := Heap.get?_push_size _ rfl
      have hT : (withO s (emptyS w)).TypeIs (.ref s.heap.objs.size) "set" := ⟨_, hS, rfl⟩
      have m1 := PySem.F.called_set.init.lookup
      have m2 := PySem.F.called_set.init.bind (.ref s.heap.objs.size)
      repeat (any_goals (first | assumption | wp_step))
      refine codeAny_mono (init_set_list (A0 := A.in1) (E := E) ns (Q := fun r s₂ => r = .none ∧ Q (.ref s.heap.objs.size) s₂) (by simp [hh]) hl hit hb fun h' tk c x1 x2 x3 => ⟨rfl, h h' tk c x1 x2 x3⟩) fun r₂ s₂ hr₂ => ?_
      cases r₂ with
      | error e => exact hr₂
      | ok fl₂ =>
        cases fl₂ with
        | ret r =>
          obtain ⟨rfl, q⟩ := hr₂
          repeat (any_goals (first | assumption | wp_step))
        | _ => exact hr₂.elim
    | _ => exact hr.elim
end

/-! ### sorted lists of ints -/
def insI (x : Int) : List Int → List Int
  | [] => [x]
  | y :: r => if x ≤ y then x :: y :: r else y :: insI x r
def sortI (ns : List Int) : List Int := ns.foldr insI []
theorem insI_perm (x : Int) : ∀ l, (insI x l).Perm (x :: l)
  | [] => List.Perm.refl _
  | y :: r => by
    unfold insI
    by_cases h : x ≤ y
    · rw [if_pos h]
    · rw [if_neg h]
      exact ((insI_perm x r).cons y).trans (List.Perm.swap x y r)
theorem sortI_perm : ∀ ns, (sortI ns).Perm ns
  | [] => List.Perm.refl _
  | x :: r => (insI_perm x (sortI r)).trans ((sortI_perm r).cons x)
theorem insI_pw (x : Int) : ∀ l, l.Pairwise (· ≤ ·) → (insI x l).Pairwise (· ≤ ·)
  | [], _ => List.pairwise_singleton _ _
  | y :: r, h => by
    unfold insI
    obtain ⟨h1, h2⟩ := List.pairwise_cons.mp h
    by_cases hx : x ≤ y
    · rw [if_pos hx]
      refine List.pairwise_cons.mpr ⟨fun z hz => ?_, h⟩
      rcases List.mem_cons.mp hz with e | e
      · rw [e]; exact hx
      · have := h1 z e
        omega
    · rw [if_neg hx]
      refine List.pairwise_cons.mpr ⟨fun z hz => ?_, insI_pw x r h2⟩
      rcases List.mem_cons.mp ((insI_perm x r).mem_iff.mp hz) with e | e
      · rw [e]; omega
      · exact h1 z e
theorem sortI_pw : ∀ ns, (sortI ns).Pairwise (· ≤ ·)
  | [] => List.Pairwise.nil
  | x :: r => insI_pw x _ (sortI_pw r)
theorem sortI_one {ns ns' : List Int} (h1 : ns'.Perm ns) (h2 : ns'.Pairwise (· ≤ ·)) : ns' = sortI ns :=
  List.Perm.eq_of_pairwise (fun a b _ _ x y => Int.le_antisymm x y) h2 (sortI_pw ns) (h1.trans (sortI_perm ns).symm)
def insS (x : Int) : List Int → List Int
  | [] => [x]
  | y :: r => if x < y then x :: y :: r else if x = y then y :: r else y :: insS x r
def setI (ns : List Int) : List Int := ns.foldr insS []
theorem insS_mem (x z : Int) : ∀ l, z ∈ insS x l ↔ z = x ∨ z ∈ l
  | [] => by simp [insS]
  | y :: r => by
    unfold insS
    by_cases h : x < y
    · rw [if_pos h]; simp
    · rw [if_neg h]
      by_cases h' : x = y
      · rw [if_pos h', h']; simp
      · rw [if_neg h', List.mem_cons, insS_mem x z r, List.mem_cons]
        constructor
        · rintro (q | q | q)
          · exact .inr (.inl q)
          · exact .inl q
          · exact .inr (.inr q)
        · rintro (q | q | q)
          · exact .inr (.inl q)
          · exact .inl q
          · exact .inr (.inr q)
theorem setI_mem (z : Int) : ∀ ns, z ∈ setI ns ↔ z ∈ ns
  | [] => Iff.rfl
  | x :: r => by
    show z ∈ insS x (setI r) ↔ _
    rw [insS_mem, setI_mem z r, List.mem_cons]
theorem insS_pw (x : Int) : ∀ l, l.Pairwise (· < ·) → (insS x l).Pairwise (· < ·)
  | [], _ => List.pairwise_singleton _ _
  | y :: r, h => by
    unfold insS
    obtain ⟨h1, h2⟩ := List.pairwise_cons.mp h
    by_cases hx : x < y
    · rw [if_pos hx]
      refine List.pairwise_cons.mpr ⟨fun z hz => ?_, h⟩
      rcases List.mem_cons.mp hz with e | e
      · rw [e]; exact hx
      · have := h1 z e
        omega
    · rw [if_neg hx]
      by_cases h' : x = y
      · rw [if_pos h']; exact h
      · rw [if_neg h']
        refine List.pairwise_cons.mpr ⟨fun z hz => ?_, insS_pw x r h2⟩
        rcases (insS_mem x z r).mp hz with e | e
        · rw [e]; omega
        · exact h1 z e
theorem setI_pw : ∀ ns, (setI ns).Pairwise (· < ·)
  | [] => List.Pairwise.nil
  | x :: r => insS_pw x _ (setI_pw r)
theorem inc_one : ∀ {xs ys : List Int}, xs.Pairwise (· < ·) → ys.Pairwise (· < ·) → (∀ z, z ∈ xs ↔ z ∈ ys) → xs = ys
  | [], [], _, _, _ => rfl
  | [], y :: r, _, _, h => absurd ((h y).mpr (by simp)) (by simp)
  | x :: r, [], _, _, h => absurd ((h x).mp (by simp)) (by simp)
  | x :: r, y :: t, h1, h2, h => by
    obtain ⟨a1, a2⟩ := List.pairwise_cons.mp h1
    obtain ⟨b1, b2⟩ := List.pairwise_cons.mp h2
    have e : x = y := by
      rcases List.mem_cons.mp ((h x).mp (by simp)) with q | q
      · exact q
      · rcases List.mem_cons.mp ((h y).mpr (by simp)) with q' | q'
        · exact q'.symm
        · have := b1 x q
          have := a1 y q'
          omega
    subst e
    refine congrArg (x :: ·) (inc_one a2 b2 fun z => ?_)
    constructor
    · intro q
      rcases List.mem_cons.mp ((h z).mp (List.mem_cons_of_mem _ q)) with q' | q'
      · have := a1 z q
        omega
      · exact q'
    · intro q
      rcases List.mem_cons.mp ((h z).mpr (List.mem_cons_of_mem _ q)) with q' | q'
      · have := b1 z q
        omega
      · exact q'
theorem setI_length (ns : List Int) : (setI ns).length ≤ ns.length := by
  induction ns with
  | nil => exact Nat.le_refl _
  | cons x r ih =>
    have h : ∀ l, (insS x l).length ≤ l.length + 1 := fun l => by
      induction l with
      | nil => simp [insS]
      | cons y t iht =>
        unfold insS
        by_cases h : x < y
        · rw [if_pos h]; simp
        · rw [if_neg h]
          by_cases h' : x = y
          · rw [if_pos h']; simp
          · rw [if_neg h']; simp only [List.length_cons]; omega
    have := h (setI r)
    show (insS x (setI r)).length ≤ _
    rw [List.length_cons]
    omega

section
variable {X : Cx} {e a b : Expr} {es : List Expr} {fa fb : DE} {fr : DA} {pos p2 : Pos}
def gSorted : List D → Option Res
  | [.lst xs] => (intsD xs).bind fun ns => some (.ow (.lst ((sortI ns).map D.int)))
  | [.scr ns] => some (.ow (.lst ((sortI ns).map D.int)))
  | _ => none
theorem cd_sorted : CallR X (.builtin "sorted") (rDn X.K gSorted) := callD cr_sortedI fun F H xs ds res Q fh va e k => by
  unfold gSorted at e
  split at e
  · obtain ⟨ns, e1, e⟩ := Option.bind_eq_some_iff.mp e
    cases e
    obtain ⟨v, rfl, a, us, rfl, h1, h2⟩ := va.one
    have e2 := intsD_eq e1
    subst e2
    have e3 := RepL.of_ints h2
    subst e3
    exact ⟨a, ns, rfl, SqL.of h1, fun ns' p q1 q2 hp => by rw [sortI_one q1 q2]; exact k.lst fh (RepL.ints _) hp⟩
  · cases e
    obtain ⟨v, rfl, a, rfl, h1⟩ := va.one
    exact ⟨a, _, rfl, Same.seq fh h1, fun ns' p q1 q2 hp => by rw [sortI_one q1 q2]; exact k.lst fh (RepL.ints _) hp⟩
  · cases e

/-! ### sorted(set(..)) -/
def rSetL (K : PySem.W.Frag) (w : World) : List V → Hp → VK → Prop := fun vs H Q => ∃ (a : Addr) (ns : List Int), vs = [V.ref a] ∧ SqL K H a (ns.map V.int) ∧ ns.length + 1 < scanBound ∧
  ∀ (p : Addr) (c : Nat), H p = none → c ≤ ns.length → Q (.ref p) (upd H p (SetO w p (fun j => decide (j ∈ ns)) c))
theorem cr_setL (hc : X.calm = true) : CallR X (.type "set") (rSetL X.K X.w) := by
  intro pins s σ H vs us Q I r ⟨a, ns, e, hs, hb, q⟩
  subst e
  obtain ⟨its, rv, hl, _⟩ := I.list hs
  rw [Vals.ref1 r]
  refine call_set_listI ns (I.ok.hd hc) hl.isList rv.ints hb fun h' tk c hS hle hk => ?_
  exact ⟨.ref _, _, I.laid (t' := tk) hk (Nat.le_refl _) (setO_new hS), rfl, q _ c (I.hok.fresh (Nat.le_refl _)) hle⟩
def dSortedSet (fa : DE) : DE := fun ρ => (fa ρ).bind fun p => (cont p.1 p.2).bind fun d => match d with
  | .lst xs => (intsD xs).bind fun ns => if ns.length < 64 then some (.ow (.lst ((setI ns).map D.int)), p.2) else none
  | _ => none
theorem td_sortedSet {p q pos2 : Pos} (hc : X.calm = true) (hg : Gl X "sorted") (hm : X.mg "sorted" = none) (hg2 : Gl X "set") (hm2 : X.mg "set" = none) (ha : PE X a (TD X.K fa))
    (n1 : starEach [a] X.env = (false, eval a X.env) :: starEach [] X.env := by rfl) (n2 : starEach [.Call (.Name "set" q) [a] [] pos2] X.env = (false, eval (.Call (.Name "set" q) [a] [] pos2) X.env) :: starEach [] X.env := by rfl) :
    PE X (.Call (.Name "sorted" p) [.Call (.Name "set" q) [a] [] pos2] [] pos) (TD X.K (dSortedSet fa)) := by
  refine pe_imp (pe_callB (cr_sortedSet hc) hg hm (by decide +kernel) (pa_cons (pe_callTy (cr_setL hc) hg2 hm2 (by decide +kernel) (pa_cons ha pa_nil n1) (by decide) (by decide) n1 (by rfl)) pa_nil n2) (by decide) (by decide) n2 (by rfl)) fun σ H Q ⟨ρ, F, r, ρ', R, e, k⟩ => ?_
  obtain ⟨⟨ra, ρ1⟩, e1, e⟩ := Option.bind_eq_some_iff.mp e
  obtain ⟨d, e2, e⟩ := Option.bind_eq_some_iff.mp e
  cases d with
  | lst xs =>
    obtain ⟨ns, e3, e⟩ := Option.bind_eq_some_iff.mp e
    by_cases h64 : ns.length < 64
    · rw [if_pos h64] at e
      cases e
      have e4 := intsD_eq e3
      subst e4
      refine ⟨ρ, F, ra, ρ1, R, e1, fun v F1 H1 R1 S1 q => ?_⟩
      obtain ⟨a, us, rfl, h1, h2⟩ := q.vw R1 e2
      have e5 := RepL.of_ints h2
      subst e5
      refine ⟨a, ns, rfl, SqL.of h1, by unfold scanBound; omega, fun p c hp hle => ?_⟩
      refine ⟨p, _, c, rfl, upd_same, by omega, fun ms p' g1 g2 g3 hp' => ?_⟩
      have hms : ms = setI ns := inc_one g1 (setI_pw ns) fun z => by rw [g2 z, setI_mem, decide_eq_true_eq]
      subst hms
      have x1 : Ext F1 H1 F1 (upd H1 p (SetO X.w p (fun j => decide (j ∈ ns)) c)) := Ext.fresh_ow R1.fh hp
      have x2 := x1.trans (Ext.fresh_ow (o := .lst ((setI ns).map V.int)) x1.fh hp')
      have R2 := R1.ext x2
      have w : Pu.R1 X.K H1 F1 (upd (upd H1 p (SetO X.w p (fun j => decide (j ∈ ns)) c)) p' (.lst ((setI ns).map V.int))) (.ow (.lst ((setI ns).map D.int))) (.ref p') := ⟨p', rfl, x1.fh.free hp', x1.hh.free hp', _, upd_same, RepL.ints _⟩
      exact k _ _ _ R2 (S1.trans x2.stp) (w.rr R1 S1.th)
    · rw [if_neg h64] at e
      cases e
  | _ => cases e

/-! ### list(range(n)) -/
def dListRg1 (fa : DE) : DE := fun ρ => (fa ρ).bind fun p => (cont p.1 p.2).bind fun d => match d with
  | .int n => if -4611686018427387904 ≤ n ∧ n ≤ 16777216 then some (.ow (.lst (rngD 0 n.toNat)), p.2) else none
  | _ => none
theorem RepL.rng {K : PySem.W.Frag} {F : Hp} (lo : Int) (n : Nat) : RepL K F (rngD lo n) ((List.range n).map fun i => V.int (lo + (i : Nat))) := by
  have h := RepL.ints (K := K) (F := F) ((List.range n).map fun i => lo + (i : Nat))
  rw [List.map_map, List.map_map] at h
  exact h
theorem td_listRg1 {p q pos2 : Pos} (hc : X.calm = true) (hg : Gl X "list") (hm : X.mg "list" = none) (hg2 : Gl X "range") (hm2 : X.mg "range" = none) (ha : PE X a (TD X.K fa))
    (n1 : starEach [a] X.env = (false, eval a X.env) :: starEach [] X.env := by rfl) (n2 : starEach [.Call (.Name "range" q) [a] [] pos2] X.env = (false, eval (.Call (.Name "range" q) [a] [] pos2) X.env) :: starEach [] X.env := by rfl) :
    PE X (.Call (.Name "list" p) [.Call (.Name "range" q) [a] [] pos2] [] pos) (TD X.K (dListRg1 fa)) := by
  refine pe_imp (pe_listRg hc hg hm (prg_1 hg2 hm2 ha n1) n2) fun σ H Q ⟨ρ, F, r, ρ', R, e, k⟩ => ?_
  obtain ⟨⟨ra, ρ1⟩, e1, e⟩ := Option.bind_eq_some_iff.mp e
  obtain ⟨d, e2, e⟩ := Option.bind_eq_some_iff.mp e
  cases d with
  | int n =>
    dsimp only at e
    by_cases hn : -4611686018427387904 ≤ n ∧ n ≤ 16777216
    · rw [if_pos hn] at e
      cases e
      refine ⟨ρ, F, ra, _, R, e1, fun v F1 H1 R1 S1 q => ?_⟩
      have hv : v = .int n := q.vw R1 e2
      subst hv
      refine ⟨n, rfl, ⟨by omega, by omega, by omega, by omega, by omega⟩, fun p hp => ?_⟩
      have x1 := Ext.fresh_ow (o := .lst (rgV 0 n)) R1.fh hp
      have R2 := R1.ext x1
      have hr := RepL.rng (K := X.K) (F := F1) 0 n.toNat
      have e5 : rgV 0 n = (List.range n.toNat).map fun i => V.int (0 + (i : Nat)) := by
        unfold rgV
        rw [Int.sub_zero]
      rw [← e5] at hr
      have w : Pu.R1 X.K H1 F1 (upd H1 p (.lst (rgV 0 n))) (.ow (.lst (rngD 0 n.toNat))) (.ref p) := ⟨p, rfl, R1.fh.free hp, hp, _, upd_same, hr⟩
      exact k _ _ _ R2 (S1.trans x1.stp) (w.rr R1 S1.th)
    · rw [if_neg hn] at e
      cases e
  | _ => cases e
end

/-! ### the law's own call -/
theorem law_end {K : PySem.W.Frag} {H : Hp} {a : Addr} {ns : List Int} {g : Fn} {E : XK} (hS : SqL K H a (ns.map V.int)) (h : ∃ ρ1, g [.fz (.scr ns)] = some (.fz (.bl true), ρ1)) : spD K 1 g [.ref a] H (fun v _ => v = .bl true) E := by
  obtain ⟨ρ1, e⟩ := h
  refine ⟨[.fz (.scr ns)], H, .fz (.bl true), ρ1, rfl, ⟨Same.refl _, rfl, fun i d q => ?_, fun i s d q o => ?_, fun i j s t d e a q o => ?_⟩, e, fun v F' H' _ _ w => w⟩
  · cases i with
    | zero =>
      cases q
      exact ⟨.ref a, rfl, a, rfl, hS⟩
    | succ i => cases q
  · cases i with
    | zero =>
      cases q
      cases o
    | succ i => cases q
  · cases i with
    | zero =>
      cases q
      cases o
    | succ i => cases q
end Pu

/-! Pu13: what denotations answer, in plain terms: W; the draws that all laws share. -/
namespace Pu
open PySem PySem.Spec PyProof.Rows L2

/-- a mark by which simp lets a function be -/
inductive Tg {α β : Type} (f : α → β) : Type
  | mk
inductive Tp {α : Type} (f : α → Prop) : Type
  | mk
/-- x gives an answer of which Q holds -/
def W {α : Type} (x : Option α) (Q : α → Prop) (t : Tp Q := .mk) : Prop := ∃ a, x = some a ∧ Q a
section
variable {α β : Type} {x : Option α} {f : α → Option β} {Q Q' : α → Prop} {a : α} {c : Prop} [Decidable c]
theorem W_some : W (some a) Q = Q a := propext ⟨fun h => by
    obtain ⟨b, e, q⟩ := h
    cases e
    exact q, fun q => ⟨a, rfl, q⟩⟩
theorem W_none : W (none : Option α) Q = False := propext (Iff.intro (fun ⟨_, e, _⟩ => absurd e (by simp)) False.elim)
theorem W_bind {R : β → Prop} : W (x.bind f) R = W x (fun a => W (f a) R) := propext
  ⟨fun ⟨b, e, q⟩ => by
    obtain ⟨a, e1, e2⟩ := Option.bind_eq_some_iff.mp e
    exact ⟨a, e1, b, e2, q⟩, fun ⟨a, e1, b, e2, q⟩ => ⟨b, by rw [e1]; exact e2, q⟩⟩
theorem W_iteN : W (if c then x else none) Q = (c ∧ W x Q) := by
  by_cases h : c
  · rw [if_pos h]; exact propext ⟨fun q => ⟨h, q⟩, fun q => q.2⟩
  · rw [if_neg h, W_none]; exact propext ⟨False.elim, fun q => h q.1⟩
theorem W_ite {y : Option α} : W (if c then x else y) Q = ((c → W x Q) ∧ (¬ c → W y Q)) := by
  by_cases h : c
  · rw [if_pos h]; exact propext ⟨fun q => ⟨fun _ => q, fun n => absurd h n⟩, fun q => q.1 h⟩
  · rw [if_neg h]; exact propext ⟨fun q => ⟨fun n => absurd n h, fun _ => q⟩, fun q => q.2 h⟩
theorem andN {c p : Prop} : ((c → p) ∧ (¬ c → False)) = (c ∧ p) := propext ⟨fun h => (Classical.em c).elim (fun q => ⟨q, h.1 q⟩) fun q => (h.2 q).elim, fun h => ⟨fun _ => h.2, fun n => n h.1⟩⟩
theorem W.mono (h : W x Q) (w : ∀ a, Q a → Q' a) : W x Q' := h.imp fun a q => ⟨q.1, w a q.2⟩
theorem W.eq (h : x = some a) (q : Q a) : W x Q := ⟨a, h, q⟩
theorem W.out (h : W x (fun b => b = a)) : x = some a := by
  obtain ⟨b, e, rfl⟩ := h
  exact e
end

/-! ### sizes of ints -/
def Bd (x : Int) (n : Nat) : Prop := x.natAbs ≤ n
theorem Bd.of {x : Int} {n : Nat} (h1 : -(n : Int) ≤ x) (h2 : x ≤ (n : Int)) : Bd x n := by
  unfold Bd
  omega
theorem Bd.mul {x y : Int} {n m : Nat} (h1 : Bd x n) (h2 : Bd y m) : Bd (x * y) (n * m) := by
  unfold Bd at *
  rw [Int.natAbs_mul]
  exact Nat.mul_le_mul h1 h2
theorem Bd.add {x y : Int} {n m : Nat} (h1 : Bd x n) (h2 : Bd y m) : Bd (x + y) (n + m) := by
  unfold Bd at *
  omega
theorem Bd.sub {x y : Int} {n m : Nat} (h1 : Bd x n) (h2 : Bd y m) : Bd (x - y) (n + m) := by
  unfold Bd at *
  omega
theorem Bd.neg {x : Int} {n : Nat} (h1 : Bd x n) : Bd (-x) n := by
  unfold Bd at *
  omega
theorem Bd.lit (n : Nat) : Bd (OfNat.ofNat n) n := Nat.le_refl n
theorem Bd.mono {x : Int} {n m : Nat} (h : Bd x n) (e : n ≤ m) : Bd x m := Nat.le_trans h e
theorem log2_mono {n m : Nat} (h : n ≤ m) : n.log2 ≤ m.log2 := by
  by_cases h0 : n = 0
  · rw [h0, Nat.log2_zero]; exact Nat.zero_le _
  · exact (Nat.le_log2 (by omega)).mpr (Nat.le_trans (Nat.log2_self_le h0) h)
theorem mul_ok {i j : Int} {n m : Nat} (h1 : Bd i n) (h2 : Bd j m) (e : n.log2 + m.log2 < 1000000 := by decide) : mulOk i j = true := by
  unfold mulOk
  refine decide_eq_true (Nat.lt_of_le_of_lt (Nat.add_le_add ?_ ?_) e)
  · exact log2_mono h1
  · exact log2_mono h2
theorem pow_ok {i j : Int} {n : Nat} (h1 : Bd i n) (h0 : 0 ≤ j) (e : ((n.log2 + 1 : Nat) : Int) * j ≤ 134217728) : powOk i j = true := by
  unfold powOk
  rw [decide_eq_true h0, Bool.true_and]
  refine decide_eq_true (Int.le_trans (Int.mul_le_mul_of_nonneg_right ?_ h0) e)
  have := log2_mono h1
  unfold Builtin.Int.intBits
  split <;> omega
theorem div_ok {j : Int} {n : Nat} (h0 : 0 < j) (h1 : Bd j n) (e : n.log2 < 9000 := by decide) : divOk j = true := by
  unfold divOk
  rw [decide_eq_true h0, Bool.true_and]
  exact decide_eq_true (Nat.lt_of_le_of_lt (log2_mono h1) e)

/-! ### fixed indices -/
section
variable {α : Type} {x y z w : α} {xs : List α} {n : Nat}
theorem ixN_0 : ixN (n + 1) 0 = some 0 := by
  unfold ixN
  rw [if_pos (by decide), if_pos (by omega)]
  rfl
theorem ixN_1 : ixN (n + 2) 1 = some 1 := by
  unfold ixN
  rw [if_pos (by decide), if_pos (by omega)]
  rfl
theorem ixN_2 : ixN (n + 3) 2 = some 2 := by
  unfold ixN
  rw [if_pos (by decide), if_pos (by omega)]
  rfl
theorem ixN_3 : ixN (n + 4) 3 = some 3 := by
  unfold ixN
  rw [if_pos (by decide), if_pos (by omega)]
  rfl
theorem at0 : atI (x :: xs) 0 = some x := by
  unfold atI
  rw [List.length_cons, ixN_0]
  rfl
theorem at1 : atI (x :: y :: xs) 1 = some y := by
  unfold atI
  rw [List.length_cons, List.length_cons, ixN_1]
  rfl
theorem at2 : atI (x :: y :: z :: xs) 2 = some z := by
  unfold atI
  rw [List.length_cons, List.length_cons, List.length_cons, ixN_2]
  rfl
theorem at3 : atI (x :: y :: z :: w :: xs) 3 = some w := by
  unfold atI
  rw [List.length_cons, List.length_cons, List.length_cons, List.length_cons, ixN_3]
  rfl
theorem at_get {i : Int} {j : Nat} (h : i = (j : Int)) (hx : xs[j]? = some x) : atI xs i = some x := by
  subst h
  unfold atI ixN
  have := (List.getElem?_eq_some_iff.mp hx).1
  rw [if_pos (by omega), if_pos (by omega)]
  exact hx
end
/-! ### one step -/
def rngA (ds : List D) (ρ : En) : Option (List D × En) := match ds with
  | [.int j] => if smallI j = true then some (rngD 0 j.toNat, ρ) else none
  | _ => none
def rngB (ds : List D) (ρ : En) : Option (List D × En) := match ds with
  | [.int i, .int j] => if (smallI i && smallI j) = true then some (rngD i (j - i).toNat, ρ) else none
  | _ => none
/-- bind, of which simp looks at the first part alone -/
def ob {α β : Type} (x : Option α) (f : α → Option β) (t : Tg f := .mk) : Option β := x.bind f
theorem ob_some {α β : Type} {x : α} {f : α → Option β} : ob (some x) f = f x := rfl
theorem ob_none {α β : Type} {f : α → Option β} : ob none f = none := rfl
theorem W_ob {α β : Type} {x : Option α} {f : α → Option β} {R : β → Prop} : W (ob x f) R = W x (fun a => W (f a) R) := W_bind
section
variable {a b c : DS} {ρ : En} {i n m : Nat} {d : D} {ds : List D} {x y z : DE} {t u : DT} {fr : DA} {tg : DTg} {tgs : DTgs} {fi : DI} {f : D → Option Res} {g g' : D → D → Option Res} {h : List D → Option Res} {gf : Fn} {is : List Nat}
theorem e_seq : dSeq a b ρ = ob (a ρ) fun p => match p.1 with
  | .nx => b p.2
  | o => some (o, p.2) := rfl
theorem e_set : dSet i x ρ = ob (x ρ) fun p => ob (setSlot i p.1 p.2) fun ρ' => some (.nx, ρ') := rfl
theorem e_ret : dRet x ρ = ob (x ρ) fun p => ob (retR p.1 p.2) fun r => some (.rt r, p.2) := rfl
theorem e_retN : dRetN ρ = some (.rt (.fz .non), ρ) := rfl
theorem e_if : dIfS t a b ρ = ob (t ρ) fun p => if p.1 = true then a p.2 else b p.2 := rfl
theorem e_next : dNext ρ = some (.nx, ρ) := rfl
theorem e_never : dNever ρ = none := rfl
theorem e_bk : dBk ρ = some (.bk, ρ) := rfl
theorem e_ct : dCt ρ = some (.ct, ρ) := rfl
theorem e_drop : dDrop x ρ = ob (x ρ) fun p => some (.nx, p.2) := rfl
theorem e_asg : dAsg x tg ρ = ob (x ρ) fun p => ob (frz p.1 p.2) fun q => ob (tg q.1 q.2) fun ρ' => some (.nx, ρ') := rfl
theorem e_many : dMany is fr ρ = ob (fr ρ) fun p => ob (norms p.1 p.2) fun q => ob (setMany is q.1 q.2) fun ρ' => some (.nx, ρ') := rfl
theorem e_setIx : dSetIx i y x ρ = ob (x ρ) fun p => ob (frz p.1 p.2) fun q => ob (ownC i q.2) fun _ => ob (y q.2) fun u => ob (cont u.1 u.2) fun dk => ob (ownC i u.2) fun d => match d, dk with
  | .lst xs, .int k => ob (ixN xs.length k) fun j => ob (updSlot i (.lst (xs.set j q.1)) u.2) fun ρ' => some (.nx, ρ')
  | _, _ => none := rfl
theorem e_for : dFor fi tg a ρ = ob (fi ρ) fun p => forD tg a p.1 p.2 := rfl
theorem e_while : dWhile n t a ρ = iterW t a n ρ := rfl
theorem e_aug : dAug i g x ρ = match ρ[i]? with
  | some (.fz dx) => ob (x ρ) fun p => ob (cont p.1 p.2) fun dy => ob (g dx dy) fun r => ob (setSlot i r p.2) fun ρ' => some (.nx, ρ')
  | _ => none := rfl
theorem e_test : dTest x ρ = ob (x ρ) fun p => ob (cont p.1 p.2) fun d => ob (isB d) fun b => some (b, p.2) := rfl
theorem e_andT : dAndT t u ρ = ob (t ρ) fun p => if p.1 = true then u p.2 else some (false, p.2) := rfl
theorem e_orT : dOrT t u ρ = ob (t ρ) fun p => if p.1 = true then some (true, p.2) else u p.2 := rfl
theorem e_notT : dNotT t ρ = ob (t ρ) fun p => some (!p.1, p.2) := rfl
theorem e_and : dAnd x y ρ = ob (dTest x ρ) fun p => if p.1 = true then y p.2 else some (.fz (.bl false), p.2) := rfl
theorem e_or : dOr x y ρ = ob (dTest x ρ) fun p => if p.1 = true then some (.fz (.bl true), p.2) else y p.2 := rfl
theorem e_not : dNot x ρ = ob (dTest x ρ) fun p => some (.fz (.bl (!p.1)), p.2) := rfl
theorem e_ifE : dIf t x y ρ = ob (t ρ) fun p => if p.1 = true then x p.2 else y p.2 := rfl
theorem e_chain : dChain g g' x y z ρ = ob (x ρ) fun p => ob (y p.2) fun q => ob (cont p.1 q.2) fun da => ob (cont q.1 q.2) fun db => ob (g da db) fun r => match r with
  | .fz (.bl w) => if w = true then ob (z q.2) fun t => ob (cont q.1 t.2) fun db => ob (cont t.1 t.2) fun dc => ob (g' db dc) fun r' => some (r', t.2) else some (.fz (.bl false), q.2)
  | _ => none := by
  show dChain g g' x y z ρ = _
  unfold dChain
  show (x ρ).bind _ = (x ρ).bind _
  refine congrArg _ (funext fun p => congrArg _ (funext fun q => congrArg _ (funext fun da => congrArg _ (funext fun db => congrArg _ (funext fun r => ?_)))))
  cases r with
  | fz d =>
    cases d with
    | bl w => cases w <;> rfl
    | _ => rfl
  | _ => rfl
theorem e_name : dName i ρ = ob (nameR i ρ[i]?) fun r => some (r, ρ) := rfl
theorem e_c : dC d ρ = some (.fz d, ρ) := rfl
theorem e_op1 : dOp1 f x ρ = ob (x ρ) fun p => ob (cont p.1 p.2) fun da => ob (f da) fun r => some (r, p.2) := rfl
theorem e_op2 : dOp2 g x y ρ = ob (x ρ) fun p => ob (y p.2) fun q => ob (cont p.1 q.2) fun da => ob (cont q.1 q.2) fun db => ob (g da db) fun r => some (r, q.2) := rfl
theorem e_opn : dOpn h fr ρ = ob (fr ρ) fun p => ob (conts p.1 p.2) fun ds => ob (h ds) fun r => some (r, p.2) := rfl
theorem e_cons : dCons x fr ρ = ob (x ρ) fun p => ob (fr p.2) fun q => some (p.1 :: q.1, q.2) := rfl
theorem e_nil : dNil ρ = some ([], ρ) := rfl
theorem e_tup : dTup fr ρ = ob (fr ρ) fun p => ob (frzs p.1 p.2) fun q => some (.fz (.tup q.1), q.2) := rfl
theorem e_lst : dLst fr ρ = ob (fr ρ) fun p => ob (frzs p.1 p.2) fun q => some (.ow (.lst q.1), q.2) := rfl
theorem e_slice {fl fh : Option DE} : dSlice x fl fh ρ = ob (x ρ) fun p => ob (dPart fl p.2) fun q => ob (dPart fh q.2) fun t => ob (cont p.1 t.2) fun d => ob (gSl d q.1 t.1) fun r => some (r, t.2) := rfl
theorem e_partN : dPart none ρ = some (none, ρ) := rfl
theorem e_partS : dPart (some x) ρ = ob (x ρ) fun p => ob (cont p.1 p.2) fun d => match d with
    | .int i => some (some i, p.2)
    | _ => none := rfl
theorem e_gName : dgName i d ρ = some (ρ.set i (.fz d)) := rfl
theorem e_gNil : dgNil [] ρ = some ρ := rfl
theorem e_gCons : dgCons tg tgs (d :: ds) ρ = ob (tg d ρ) fun ρ1 => tgs ds ρ1 := rfl
theorem e_gTup : dgTup n tgs (.tup ds) ρ = if ds.length = n then tgs ds ρ else none := rfl
theorem e_rng1 : dRng1 fr ρ = ob (fr ρ) fun p => ob (conts p.1 p.2) fun ds => rngA ds p.2 := rfl
theorem e_rngA {j : Int} : rngA [.int j] ρ = if smallI j = true then some (rngD 0 j.toNat, ρ) else none := rfl
theorem e_rng2 : dRng2 fr ρ = ob (fr ρ) fun p => ob (conts p.1 p.2) fun ds => rngB ds p.2 := rfl
theorem e_rngB {i j : Int} : rngB [.int i, .int j] ρ = if (smallI i && smallI j) = true then some (rngD i (j - i).toNat, ρ) else none := rfl
theorem e_it : dIt x ρ = ob (x ρ) fun p => ob (frz p.1 p.2) fun q => ob (itemsD q.1) fun ds => some (ds, q.2) := rfl
theorem e_zip : dZip fr ρ = ob (fr ρ) fun p => ob (frzs p.1 p.2) fun q => match q.1 with
  | [d, e] => ob (zipD d e) fun ds => some (ds, q.2)
  | _ => none := rfl
theorem e_contsN : conts [] ρ = some [] := rfl
theorem e_contsC {r : Res} {rs : List Res} : conts (r :: rs) ρ = ob (cont r ρ) fun d => ob (conts rs ρ) fun ds => some (d :: ds) := rfl
theorem e_frzsN : frzs [] ρ = some ([], ρ) := rfl
theorem e_frzsC {r : Res} {rs : List Res} : frzs (r :: rs) ρ = ob (frz r ρ) fun p => ob (frzs rs p.2) fun q => some (p.1 :: q.1, q.2) := rfl
theorem e_normsN : norms [] ρ = some ([], ρ) := rfl
theorem e_normsC {r : Res} {rs : List Res} : norms (r :: rs) ρ = ob (norm r ρ) fun p => ob (norms rs p.2) fun q => some (p.1 :: q.1, q.2) := rfl
theorem e_normB {j : Nat} : norm (.br j) ρ = ob (frz (.br j) ρ) fun p => some (.fz p.1, p.2) := rfl
theorem e_normF : norm (.fz d) ρ = some (.fz d, ρ) := rfl
theorem e_normO : norm (.ow d) ρ = some (.ow d, ρ) := rfl
theorem e_manyN : setMany [] [] ρ = some ρ := rfl
theorem e_manyC {r : Res} {rs : List Res} : setMany (i :: is) (r :: rs) ρ = if noBr r = true then ob (setSlot i r ρ) fun ρ1 => setMany is rs ρ1 else none := rfl
theorem e_outsN : outs [] ρ = some [] := rfl
theorem e_outsP {e : D} {ρ' : En} : outs (.pm e :: ρ) (.pm d :: ρ') = ob (outs ρ ρ') fun t => some (.pm d :: t) := rfl
theorem e_outsF {e : D} {s : Slot} {ρ' : En} : outs (.fz e :: ρ) (s :: ρ') = ob (outs ρ ρ') fun t => some (.no :: t) := rfl
theorem e_outN {ρ' : En} : outR ρ .nx ρ' = ob (outs ρ ρ') fun t => some (.fz .non, t) := rfl
theorem e_outF {ρ' : En} : outR ρ (.rt (.fz d)) ρ' = ob (outs ρ ρ') fun t => some (.fz d, t) := rfl
theorem e_outO {ρ' : En} : outR ρ (.rt (.ow d)) ρ' = ob (outs ρ ρ') fun t => some (.ow d, t) := rfl
theorem e_ixL {xs : List D} {k : Int} : gIx (.lst xs) (.int k) = ob (atI xs k) fun d => some (.fz d) := rfl
theorem e_ixT {xs : List D} {k : Int} : gIx (.tup xs) (.int k) = ob (atI xs k) fun d => some (.fz d) := rfl
theorem e_ixS {xs : List Int} {k : Int} : gIx (.scr xs) (.int k) = ob (atI xs k) fun d => some (.fz (.int d)) := rfl
theorem e_yes : dYes ρ = some (true, ρ) := rfl
theorem e_fn : fnD m a ρ = ob (a (ρ ++ List.replicate (m - ρ.length) .no)) fun p => outR ρ p.1 p.2 := rfl
theorem e_call : dCall gf fr ρ = ob (fr ρ) fun p => ob (conts p.1 p.2) fun ds => ob (gf (ds.map .fz)) fun w => if noBr w.1 = true then (if (noBrs p.1 || solidR w.1) = true then some (w.1, p.2) else ob (frzs p.1 p.2) fun u => some (w.1, u.2)) else none := rfl
theorem e_callM : dCallM gf i fr ρ = ob (ownC i ρ) fun _ => ob (fr ρ) fun p => ob (conts p.1 p.2) fun ds => ob (ownC i p.2) fun d0 => if p.1.any (isBr i) = true then none else
  ob (gf (.pm d0 :: ds.map .fz)) fun w => ob (headPm w.2) fun d' => if (noBr w.1 && (noBrs p.1 || (solidR w.1 && solidC d'))) = true then ob (updSlot i d' p.2) fun ρ' => some (w.1, ρ') else none := rfl
theorem e_callT : dCallT gf x ρ = ob (x ρ) fun p => match p.1 with
  | .ow d => ob (gf [.pm d]) fun w => if noBr w.1 = true then some (w.1, p.2) else none
  | _ => none := rfl
theorem e_listRg : dListRg1 x ρ = ob (x ρ) fun p => ob (cont p.1 p.2) fun d => match d with
  | .int n => if -4611686018427387904 ≤ n ∧ n ≤ 16777216 then some (.ow (.lst (rngD 0 n.toNat)), p.2) else none
  | _ => none := rfl
theorem e_sortedSet : dSortedSet x ρ = ob (x ρ) fun p => ob (cont p.1 p.2) fun d => match d with
  | .lst xs => ob (intsD xs) fun ns => if ns.length < 64 then some (.ow (.lst ((setI ns).map D.int)), p.2) else none
  | _ => none := rfl
end

/-! ### the draws that all laws share -/
def bTake : DS := dSeq (dIfS (dTest (dOp2 gGt (dOp2 gIx (dName 0) (dC (.int 0))) (dC (.int 0)))) (dSeq (dSet 4 (dOp2 gMod (dOpn gInt (dCons (dOp2 gIx (dName 0) (dC (.int 0))) (dNil))) (dName 1))) (dSeq (dSetIx 0 (dC (.int 0)) (dOp2 gDiv (dOp2 gIx (dName 0) (dC (.int 0))) (dName 1))) (dRet (dName 4)))) (dNext)) (dSeq (dSetIx 0 (dC (.int 2)) (dOp2 gAdd (dOp2 gIx (dName 0) (dC (.int 2))) (dC (.int 1)))) (dSeq (dSet 2 (dOp2 gIx (dLst (dCons (dC (.int 2147483647)) (dCons (dC (.int 2147483629)) (dCons (dC (.int 2147483587)) (dCons (dC (.int 2147483579)) (dCons (dC (.int 2147483563)) (dNil))))))) (dOp2 gMod (dOpn gInt (dCons (dOp2 gIx (dName 0) (dC (.int 2))) (dNil))) (dC (.int 5))))) (dSeq (dSet 3 (dOp2 gMod (dOpn gInt (dCons (dOp2 gPow (dOpn gInt (dCons (dOp2 gAdd (dOp2 gAdd (dOp2 gIx (dName 0) (dC (.int 1))) (dOp2 gMul (dOp2 gMul (dC (.int 95257)) (dOp2 gIx (dName 0) (dC (.int 2)))) (dOp2 gIx (dName 0) (dC (.int 2))))) (dC (.int 3163))) (dNil))) (dC (.int 3))) (dNil))) (dName 2))) (dSeq (dSet 3 (dOp2 gMod (dOpn gInt (dCons (dOp2 gMul (dName 3) (dOp2 gAdd (dOp2 gMod (dOpn gInt (dCons (dName 3) (dNil))) (dC (.int 13441))) (dOp2 gMul (dC (.int 419)) (dOp2 gIx (dName 0) (dC (.int 2)))))) (dNil))) (dC (.int 2305843009213693907)))) (dRet (dOp2 gMod (dOpn gInt (dCons (dOp2 gDiv (dName 3) (dC (.int 229))) (dNil))) (dName 1)))))))
def gTake : Fn := fnD 5 bTake
/-- what is drawn from: own, mixed, count -/
def potD (a b c : Int) : D := .lst [.int a, .int b, .int c]
def OWN : Int := 10 ^ 300
/-- a pot out of which at most n draws were mixed -/
def Pot (n : Nat) (d : D) : Prop := ∃ a b c : Int, d = potD a b c ∧ 0 ≤ a ∧ a ≤ OWN ∧ 0 ≤ b ∧ b ≤ 2305843009213693921 ∧ 0 ≤ c ∧ c ≤ n
theorem Pot.mono {n m : Nat} {d : D} (h : Pot n d) (e : n ≤ m) : Pot m d := by
  obtain ⟨a, b, c, e1, h1, h2, h3, h4, h5, h6⟩ := h
  exact ⟨a, b, c, e1, h1, h2, h3, h4, h5, by omega⟩
theorem take_spec {n : Nat} {d : D} {u : Int} (h : Pot n d) (hn : n ≤ 1000000000) (hu : 0 < u) (hu2 : u ≤ 1000000000000000000000) : W (gTake [.pm d, .fz (.int u)]) (fun w => ∃ (r : Int) (d' : D), w = (.fz (.int r), [.pm d', .no]) ∧ 0 ≤ r ∧ r < u ∧ Pot (n + 1) d') := by
  obtain ⟨a, b, c, rfl, h1, h2, h3, h4, h5, h6⟩ := h
  unfold gTake bTake potD
  simp -dsimp -implicitDefEqProofs only [e_seq, e_set, e_ret, e_retN, e_if, e_next, e_never, e_bk, e_ct, e_drop, e_asg, e_many, e_setIx, e_for, e_while, e_aug, e_test, e_andT, e_orT, e_notT, e_and, e_or, e_not, e_ifE, e_chain, e_name, e_c, e_op1, e_op2, e_opn, e_cons, e_nil, e_tup, e_lst, e_slice, e_partN, e_partS, e_gName, e_gNil, e_gCons, e_gTup, e_rng1, e_rngA, e_rng2, e_rngB, e_it, e_zip, e_contsN, e_contsC, e_frzsN, e_frzsC, e_normsN, e_normsC, e_normB, e_normF, e_normO, e_manyN, e_manyC, e_outsN, e_outsP, e_outsF, e_outN, e_outF, e_outO, e_ixL, e_ixT, e_ixS, e_yes, e_fn, e_call, e_callM, e_callT, e_listRg, e_sortedSet, ob_some, ob_none, W_ob, W_some, W_none, Int.reduceLT, Int.reduceLE, Int.reduceNeg, Int.reduceAdd, Int.reduceMul, Int.reduceSub, Nat.reduceLT, Nat.reduceLeDiff, Int.reduceToNat, W_ite, andN, ixN_0, ixN_1, ixN_2, ixN_3, at0, at1, at2, at3, isB, gSl, nameR, cont, slotC, setSlot, frz, retR, noBr, updSlot, ownC, zipD, plainE, itemsD, gAdd, gAddI, gSub, gMul, gMod, gDiv, gPow, gNeg, gLt, gLe, gGt, gGe, gLen, gAbs, gInt, gMax2, gMin2, gTuple, gList, gIsi, isTy, isNon, gIs, gIsNot, mAppend, headPm, noBrs, solidR, isBr, isLst, List.getElem?_cons_zero, List.getElem?_cons_succ, List.getElem?_nil, List.set_cons_zero, List.set_cons_succ, List.cons_append, List.nil_append, List.length_cons, List.length_nil, List.replicate_succ, List.replicate_zero, Nat.reduceAdd, Nat.reduceSub, List.map_cons, List.map_nil, List.all_cons, List.all_nil, List.any_cons, List.any_nil, Bool.and_true, Bool.true_and, Bool.or_true, Bool.true_or, Bool.false_or, Bool.or_false, Bool.not_true, Bool.not_false, Bool.false_eq_true, if_true, if_false, ite_true, ite_false, true_and, and_true, decide_eq_true_eq, Int.cast_ofNat_Int, decide_true, decide_false, ne_eq, reduceCtorEq, eq_self, not_true_eq_false, not_false_eq_true, false_implies, true_implies, implies_true, true_or, or_true, false_or, or_false, Bool.not_eq_true', decide_eq_false_iff_not, Option.bind_some, Option.bind_none, reduceIte]
  refine ⟨fun ha => ?_, fun ha => ?_⟩
  · refine ⟨hu, div_ok (n := 1000000000000000000000) hu (Bd.of (by omega) (by omega)), ?_⟩
    refine ⟨_, _, rfl, Int.emod_nonneg _ (by omega), Int.emod_lt_of_pos _ hu, a / u, b, c, rfl, Int.ediv_nonneg h1 (by omega), ?_, h3, h4, h5, by omega⟩
    exact Int.le_trans (Int.ediv_le_self _ h1) h2
  · have k1 : 0 ≤ (c + 1) % 5 := Int.emod_nonneg _ (by decide)
    have k2 : (c + 1) % 5 < 5 := Int.emod_lt_of_pos _ (by decide)
    have hp : ∀ m : Int, 0 ≤ m → m < 5 → ∃ p : Int, atI [D.int 2147483647, D.int 2147483629, D.int 2147483587, D.int 2147483579, D.int 2147483563] m = some (.int p) ∧ 0 < p ∧ p ≤ 2147483647 := fun m q1 q2 => by
      have : m = 0 ∨ m = 1 ∨ m = 2 ∨ m = 3 ∨ m = 4 := by omega
      rcases this with e | e | e | e | e <;> subst e
      · exact ⟨_, rfl, by decide, by decide⟩
      · exact ⟨_, rfl, by decide, by decide⟩
      · exact ⟨_, rfl, by decide, by decide⟩
      · exact ⟨_, rfl, by decide, by decide⟩
      · exact ⟨_, rfl, by decide, by decide⟩
    obtain ⟨p, e, p1, p2⟩ := hp _ k1 k2
    refine W.eq e ?_
    simp -dsimp -implicitDefEqProofs only [e_seq, e_set, e_ret, e_retN, e_if, e_next, e_never, e_bk, e_ct, e_drop, e_asg, e_many, e_setIx, e_for, e_while, e_aug, e_test, e_andT, e_orT, e_notT, e_and, e_or, e_not, e_ifE, e_chain, e_name, e_c, e_op1, e_op2, e_opn, e_cons, e_nil, e_tup, e_lst, e_slice, e_partN, e_partS, e_gName, e_gNil, e_gCons, e_gTup, e_rng1, e_rngA, e_rng2, e_rngB, e_it, e_zip, e_contsN, e_contsC, e_frzsN, e_frzsC, e_normsN, e_normsC, e_normB, e_normF, e_normO, e_manyN, e_manyC, e_outsN, e_outsP, e_outsF, e_outN, e_outF, e_outO, e_ixL, e_ixT, e_ixS, e_yes, e_fn, e_call, e_callM, e_callT, e_listRg, e_sortedSet, ob_some, ob_none, W_ob, W_some, W_none, Int.reduceLT, Int.reduceLE, Int.reduceNeg, Int.reduceAdd, Int.reduceMul, Int.reduceSub, Nat.reduceLT, Nat.reduceLeDiff, Int.reduceToNat, W_ite, andN, ixN_0, ixN_1, ixN_2, ixN_3, at0, at1, at2, at3, isB, gSl, nameR, cont, slotC, setSlot, frz, retR, noBr, updSlot, ownC, zipD, plainE, itemsD, gAdd, gAddI, gSub, gMul, gMod, gDiv, gPow, gNeg, gLt, gLe, gGt, gGe, gLen, gAbs, gInt, gMax2, gMin2, gTuple, gList, gIsi, isTy, isNon, gIs, gIsNot, mAppend, headPm, noBrs, solidR, isBr, isLst, List.getElem?_cons_zero, List.getElem?_cons_succ, List.getElem?_nil, List.set_cons_zero, List.set_cons_succ, List.cons_append, List.nil_append, List.length_cons, List.length_nil, List.replicate_succ, List.replicate_zero, Nat.reduceAdd, Nat.reduceSub, List.map_cons, List.map_nil, List.all_cons, List.all_nil, List.any_cons, List.any_nil, Bool.and_true, Bool.true_and, Bool.or_true, Bool.true_or, Bool.false_or, Bool.or_false, Bool.not_true, Bool.not_false, Bool.false_eq_true, if_true, if_false, ite_true, ite_false, true_and, and_true, decide_eq_true_eq, Int.cast_ofNat_Int, decide_true, decide_false, ne_eq, reduceCtorEq, eq_self, not_true_eq_false, not_false_eq_true, false_implies, true_implies, implies_true, true_or, or_true, false_or, or_false, Bool.not_eq_true', decide_eq_false_iff_not, Option.bind_some, Option.bind_none, reduceIte]
    have ea : a = 0 := by omega
    have bc : Bd (c + 1) 1000000001 := Bd.of (by omega) (by omega)
    have b1 := (Bd.lit 95257).mul bc
    have b2 := b1.mul bc
    generalize hX : b + 95257 * (c + 1) * (c + 1) + 3163 = X
    have bX : Bd X 100000000000000000000000000000000 := by
      rw [← hX]
      exact (((Bd.of (n := 2305843009213693921) (by omega) (by omega)).add b2).add (Bd.lit 3163)).mono (by decide)
    generalize hY : X ^ 3 % p = Y
    have y1 : 0 ≤ Y := hY ▸ Int.emod_nonneg _ (by omega)
    have y2 : Y < p := hY ▸ Int.emod_lt_of_pos _ p1
    have bY : Bd Y 2147483647 := Bd.of (by omega) (by omega)
    have b3 : Bd (Y % 13441 + 419 * (c + 1)) 1000000000000 := (((Bd.of (n := 13441) (by omega) (by omega)).add ((Bd.lit 419).mul bc))).mono (by decide)
    refine ⟨mul_ok (Bd.lit _) bc, mul_ok b1 bc, pow_ok (j := 3) bX (by decide) (by decide), p1, mul_ok (Bd.lit _) bc, mul_ok bY b3, by decide, hu, _, _, rfl, Int.emod_nonneg _ (by omega), Int.emod_lt_of_pos _ hu, a, b, c + 1, rfl, h1, h2, h3, h4, by omega, by omega⟩
/-- the law's pots -/
def bPot : DS := dSeq (dSet 2 (dIf (dTest (dOp2 gLt (dName 1) (dOpn gLen (dCons (dName 0) (dNil))))) (dOp2 gIx (dName 0) (dName 1)) (dOp2 gAdd (dOp2 gAdd (dOp2 gMod (dOpn gInt (dCons (dOpn gSum (dCons (dSlice (dName 0) none (some (dC (.int 1)))) (dNil))) (dNil))) (dC (.int 1000211))) (dOp2 gMul (dC (.int 4639)) (dName 1))) (dC (.int 3163))))) (dSeq (dSet 3 (dOp2 gMul (dOp2 gMod (dOpn gInt (dCons (dOpn gAbs (dCons (dName 2) (dNil))) (dNil))) (dOp2 gPow (dOp2 gPow (dC (.int 10)) (dC (.int 60))) (dC (.int 5)))) (dOpn gInt (dCons (dOp2 gGe (dOpn gAbs (dCons (dName 2) (dNil))) (dOp2 gPow (dC (.int 10)) (dC (.int 18)))) (dNil))))) (dSeq (dSet 4 (dOp2 gMod (dOpn gInt (dCons (dName 2) (dNil))) (dC (.int 2305843009213693951)))) (dRet (dLst (dCons (dName 3) (dCons (dOp2 gMod (dOpn gInt (dCons (dOp2 gAdd (dOp2 gAdd (dOp2 gMul (dName 4) (dC (.int 72161))) (dOp2 gMul (dOp2 gMul (dC (.int 10853)) (dName 1)) (dName 1))) (dC (.int 2843))) (dNil))) (dC (.int 2305843009213693921))) (dCons (dC (.int 0)) (dNil))))))))
def gPot : Fn := fnD 5 bPot
theorem intsD_map : ∀ ns : List Int, intsD (ns.map D.int) = some ns
  | [] => rfl
  | n :: r => by
    show (intsD (r.map D.int)).bind _ = _
    rw [intsD_map r]
    rfl
theorem pot_spec {ns : List Int} {p : Int} (hp : 0 ≤ p) (hp2 : p ≤ 100) : W (gPot [.fz (.scr ns), .fz (.int p)]) (fun w => ∃ d, w = (.ow d, [.no, .no]) ∧ Pot 0 d) := by
  have fin : ∀ cell : Int, powOk 10 60 = true ∧ powOk (10 ^ 60) 5 = true ∧ (0 : Int) < (10 ^ 60) ^ 5 ∧ powOk 10 18 = true ∧
      mulOk ((if cell < 0 then -cell else cell) % (10 ^ 60) ^ 5) (if 10 ^ 18 ≤ (if cell < 0 then -cell else cell) then 1 else 0) = true ∧
      mulOk (cell % 2305843009213693951) 72161 = true ∧ mulOk 10853 p = true ∧ mulOk (10853 * p) p = true ∧
      ∃ d, (Res.ow (D.lst [D.int ((if cell < 0 then -cell else cell) % (10 ^ 60) ^ 5 * if 10 ^ 18 ≤ (if cell < 0 then -cell else cell) then 1 else 0), D.int ((cell % 2305843009213693951 * 72161 + 10853 * p * p + 2843) % 2305843009213693921), D.int 0]),
        [Slot.no, Slot.no]) = (Res.ow d, [Slot.no, Slot.no]) ∧ Pot 0 d := by
    intro cell
    generalize hq : (if cell < 0 then -cell else cell) = q
    have e1 : ((10 : Int) ^ 60) ^ 5 = OWN := by decide +kernel
    have e2 : (0 : Int) < OWN := by decide +kernel
    rw [e1]
    have r1 : 0 ≤ q % OWN := Int.emod_nonneg _ (Int.ne_of_gt e2)
    have r2 : q % OWN < OWN := Int.emod_lt_of_pos _ e2
    generalize hr : q % OWN = r
    rw [hr] at r1 r2
    have e3 : OWN = ((10 ^ 300 : Nat) : Int) := by decide +kernel
    have bp : Bd p 100 := Bd.of (by omega) (by omega)
    have br : Bd r (10 ^ 300) := Bd.of (by omega) (by rw [← e3]; omega)
    have key : ∀ o : Int, (o = 0 ∨ o = 1) → mulOk r o = true ∧ 0 ≤ r * o ∧ r * o ≤ OWN := fun o ho => by
      rcases ho with e | e <;> subst e
      · exact ⟨mul_ok br (Bd.lit 0) (by decide +kernel), by omega, by omega⟩
      · exact ⟨mul_ok br (Bd.lit 1) (by decide +kernel), by omega, by omega⟩
    have ho : (if (10 : Int) ^ 18 ≤ q then (1 : Int) else 0) = 0 ∨ (if (10 : Int) ^ 18 ≤ q then (1 : Int) else 0) = 1 := by
      split
      · exact .inr rfl
      · exact .inl rfl
    obtain ⟨k1, k2, k3⟩ := key _ ho
    refine ⟨by decide, by decide +kernel, e2, by decide, k1, mul_ok (n := 2305843009213693951) (Bd.of (by omega) (by omega)) (Bd.lit _), mul_ok (Bd.lit _) bp, mul_ok ((Bd.lit _).mul bp) bp, _, rfl, _, _, _, rfl, k2, k3, by omega, by omega, by decide, by decide⟩
  unfold gPot bPot
  simp -dsimp -implicitDefEqProofs only [e_seq, e_set, e_ret, e_retN, e_if, e_next, e_never, e_bk, e_ct, e_drop, e_asg, e_many, e_setIx, e_for, e_while, e_aug, e_test, e_andT, e_orT, e_notT, e_and, e_or, e_not, e_ifE, e_chain, e_name, e_c, e_op1, e_op2, e_opn, e_cons, e_nil, e_tup, e_lst, e_slice, e_partN, e_partS, e_gName, e_gNil, e_gCons, e_gTup, e_rng1, e_rngA, e_rng2, e_rngB, e_it, e_zip, e_contsN, e_contsC, e_frzsN, e_frzsC, e_normsN, e_normsC, e_normB, e_normF, e_normO, e_manyN, e_manyC, e_outsN, e_outsP, e_outsF, e_outN, e_outF, e_outO, e_ixL, e_ixT, e_ixS, e_yes, e_fn, e_call, e_callM, e_callT, e_listRg, e_sortedSet, ob_some, ob_none, W_ob, W_some, W_none, Int.reduceLT, Int.reduceLE, Int.reduceNeg, Int.reduceAdd, Int.reduceMul, Int.reduceSub, Nat.reduceLT, Nat.reduceLeDiff, Int.reduceToNat, W_ite, andN, ixN_0, ixN_1, ixN_2, ixN_3, at0, at1, at2, at3, isB, gSl, nameR, cont, slotC, setSlot, frz, retR, noBr, updSlot, ownC, zipD, plainE, itemsD, gAdd, gAddI, gSub, gMul, gMod, gDiv, gPow, gNeg, gLt, gLe, gGt, gGe, gLen, gAbs, gInt, gMax2, gMin2, gTuple, gList, gIsi, isTy, isNon, gIs, gIsNot, mAppend, headPm, noBrs, solidR, isBr, isLst, List.getElem?_cons_zero, List.getElem?_cons_succ, List.getElem?_nil, List.set_cons_zero, List.set_cons_succ, List.cons_append, List.nil_append, List.length_cons, List.length_nil, List.replicate_succ, List.replicate_zero, Nat.reduceAdd, Nat.reduceSub, List.map_cons, List.map_nil, List.all_cons, List.all_nil, List.any_cons, List.any_nil, Bool.and_true, Bool.true_and, Bool.or_true, Bool.true_or, Bool.false_or, Bool.or_false, Bool.not_true, Bool.not_false, Bool.false_eq_true, if_true, if_false, ite_true, ite_false, true_and, and_true, decide_eq_true_eq, Int.cast_ofNat_Int, decide_true, decide_false, ne_eq, reduceCtorEq, eq_self, not_true_eq_false, not_false_eq_true, false_implies, true_implies, implies_true, true_or, or_true, false_or, or_false, Bool.not_eq_true', decide_eq_false_iff_not, Option.bind_some, Option.bind_none, reduceIte]
  refine ⟨fun h => ?_, fun h => ?_⟩
  · obtain ⟨k, rfl⟩ := Int.eq_ofNat_of_zero_le hp
    have hk : k < ns.length := by omega
    refine W.eq (at_get rfl (List.getElem?_eq_getElem hk)) ?_
    simp -dsimp -implicitDefEqProofs only [e_seq, e_set, e_ret, e_retN, e_if, e_next, e_never, e_bk, e_ct, e_drop, e_asg, e_many, e_setIx, e_for, e_while, e_aug, e_test, e_andT, e_orT, e_notT, e_and, e_or, e_not, e_ifE, e_chain, e_name, e_c, e_op1, e_op2, e_opn, e_cons, e_nil, e_tup, e_lst, e_slice, e_partN, e_partS, e_gName, e_gNil, e_gCons, e_gTup, e_rng1, e_rngA, e_rng2, e_rngB, e_it, e_zip, e_contsN, e_contsC, e_frzsN, e_frzsC, e_normsN, e_normsC, e_normB, e_normF, e_normO, e_manyN, e_manyC, e_outsN, e_outsP, e_outsF, e_outN, e_outF, e_outO, e_ixL, e_ixT, e_ixS, e_yes, e_fn, e_call, e_callM, e_callT, e_listRg, e_sortedSet, ob_some, ob_none, W_ob, W_some, W_none, Int.reduceLT, Int.reduceLE, Int.reduceNeg, Int.reduceAdd, Int.reduceMul, Int.reduceSub, Nat.reduceLT, Nat.reduceLeDiff, Int.reduceToNat, W_ite, andN, ixN_0, ixN_1, ixN_2, ixN_3, at0, at1, at2, at3, isB, gSl, nameR, cont, slotC, setSlot, frz, retR, noBr, updSlot, ownC, zipD, plainE, itemsD, gAdd, gAddI, gSub, gMul, gMod, gDiv, gPow, gNeg, gLt, gLe, gGt, gGe, gLen, gAbs, gInt, gMax2, gMin2, gTuple, gList, gIsi, isTy, isNon, gIs, gIsNot, mAppend, headPm, noBrs, solidR, isBr, isLst, List.getElem?_cons_zero, List.getElem?_cons_succ, List.getElem?_nil, List.set_cons_zero, List.set_cons_succ, List.cons_append, List.nil_append, List.length_cons, List.length_nil, List.replicate_succ, List.replicate_zero, Nat.reduceAdd, Nat.reduceSub, List.map_cons, List.map_nil, List.all_cons, List.all_nil, List.any_cons, List.any_nil, Bool.and_true, Bool.true_and, Bool.or_true, Bool.true_or, Bool.false_or, Bool.or_false, Bool.not_true, Bool.not_false, Bool.false_eq_true, if_true, if_false, ite_true, ite_false, true_and, and_true, decide_eq_true_eq, Int.cast_ofNat_Int, decide_true, decide_false, ne_eq, reduceCtorEq, eq_self, not_true_eq_false, not_false_eq_true, false_implies, true_implies, implies_true, true_or, or_true, false_or, or_false, Bool.not_eq_true', decide_eq_false_iff_not, Option.bind_some, Option.bind_none, reduceIte]
    exact fin _
  · have hs : gSum [D.lst (cutD (List.map D.int ns) none (some 1))] = some (.fz (.int (ns.take 1).sum)) := by
      have e : cutD (List.map D.int ns) none (some 1) = (ns.take 1).map D.int := by
        unfold cutD
        have e0 : HT.sIx (List.map D.int ns).length 0 none = 0 := rfl
        have e1 : HT.sIx (List.map D.int ns).length (List.map D.int ns).length (some 1) = min 1 ns.length := by
          rw [List.length_map]
          rfl
        rw [e0, e1, List.drop_zero, Nat.sub_zero, ← List.map_take]
        congr 1
        cases ns with
        | nil => rfl
        | cons x r =>
          rw [List.length_cons, Nat.min_eq_left (by omega)]
      rw [e]
      show ((intsD _).bind _) = _
      rw [intsD_map]
      rfl
    refine W.eq hs ?_
    simp -dsimp -implicitDefEqProofs only [e_seq, e_set, e_ret, e_retN, e_if, e_next, e_never, e_bk, e_ct, e_drop, e_asg, e_many, e_setIx, e_for, e_while, e_aug, e_test, e_andT, e_orT, e_notT, e_and, e_or, e_not, e_ifE, e_chain, e_name, e_c, e_op1, e_op2, e_opn, e_cons, e_nil, e_tup, e_lst, e_slice, e_partN, e_partS, e_gName, e_gNil, e_gCons, e_gTup, e_rng1, e_rngA, e_rng2, e_rngB, e_it, e_zip, e_contsN, e_contsC, e_frzsN, e_frzsC, e_normsN, e_normsC, e_normB, e_normF, e_normO, e_manyN, e_manyC, e_outsN, e_outsP, e_outsF, e_outN, e_outF, e_outO, e_ixL, e_ixT, e_ixS, e_yes, e_fn, e_call, e_callM, e_callT, e_listRg, e_sortedSet, ob_some, ob_none, W_ob, W_some, W_none, Int.reduceLT, Int.reduceLE, Int.reduceNeg, Int.reduceAdd, Int.reduceMul, Int.reduceSub, Nat.reduceLT, Nat.reduceLeDiff, Int.reduceToNat, W_ite, andN, ixN_0, ixN_1, ixN_2, ixN_3, at0, at1, at2, at3, isB, gSl, nameR, cont, slotC, setSlot, frz, retR, noBr, updSlot, ownC, zipD, plainE, itemsD, gAdd, gAddI, gSub, gMul, gMod, gDiv, gPow, gNeg, gLt, gLe, gGt, gGe, gLen, gAbs, gInt, gMax2, gMin2, gTuple, gList, gIsi, isTy, isNon, gIs, gIsNot, mAppend, headPm, noBrs, solidR, isBr, isLst, List.getElem?_cons_zero, List.getElem?_cons_succ, List.getElem?_nil, List.set_cons_zero, List.set_cons_succ, List.cons_append, List.nil_append, List.length_cons, List.length_nil, List.replicate_succ, List.replicate_zero, Nat.reduceAdd, Nat.reduceSub, List.map_cons, List.map_nil, List.all_cons, List.all_nil, List.any_cons, List.any_nil, Bool.and_true, Bool.true_and, Bool.or_true, Bool.true_or, Bool.false_or, Bool.or_false, Bool.not_true, Bool.not_false, Bool.false_eq_true, if_true, if_false, ite_true, ite_false, true_and, and_true, decide_eq_true_eq, Int.cast_ofNat_Int, decide_true, decide_false, ne_eq, reduceCtorEq, eq_self, not_true_eq_false, not_false_eq_true, false_implies, true_implies, implies_true, true_or, or_true, false_or, or_false, Bool.not_eq_true', decide_eq_false_iff_not, Option.bind_some, Option.bind_none, reduceIte]
    exact ⟨mul_ok (Bd.lit _) (Bd.of (n := 100) (by omega) (by omega)), fin _⟩
end Pu

/-! Pu14: loops and comprehensions in plain terms; the law over its cells. -/
namespace Pu
open PySem PySem.Spec PyProof.Rows L2
section
variable {own : List Nat} {tg : DTg} {tst c : DT} {fe : DE} {fi : DI} {body : DS} {ρ e0 : En} {ds : List D}
theorem e_lc : dLc own fi tg tst fe ρ = ob (fi ρ) fun p => if plainE p.2 own = true then ob (lcD own tg tst fe p.1 [] p.2) fun q => if q.1.length ≤ sizeLine then some (.ow (.lst q.1), restE p.2 q.2 own) else none else none := rfl
theorem e_wipeN : wipeE ρ [] = ρ := rfl
theorem e_wipeC {v : Nat} {vs : List Nat} : wipeE ρ (v :: vs) = (wipeE ρ vs).set v .no := rfl
theorem lcD_inv (J : List D → List D → En → Prop)
    (st : ∀ pre d post out ρ, ds = pre ++ d :: post → J pre out ρ → W (tg d (wipeE ρ own)) fun ρ1 => W (tst ρ1) fun p => (p.1 = true → W (fe p.2) fun q => W (frz q.1 q.2) fun u => J (pre ++ [d]) (out ++ [u.1]) u.2) ∧ (p.1 = false → J (pre ++ [d]) out p.2)) :
    ∀ (post pre out : List D) (ρ : En), ds = pre ++ post → J pre out ρ → W (lcD own tg tst fe post out ρ) fun q => J ds q.1 q.2
  | [], pre, out, ρ, e, h => by
    rw [List.append_nil] at e
    subst e
    exact ⟨_, rfl, h⟩
  | d :: post, pre, out, ρ, e, h => by
    obtain ⟨ρ1, e1, p, e2, h1, h2⟩ := st pre d post out ρ e h
    unfold lcD
    rw [e1, Option.bind_some, e2, Option.bind_some]
    have e' : ds = (pre ++ [d]) ++ post := by rw [e, List.append_assoc]; rfl
    by_cases hp : p.1 = true
    · rw [if_pos hp]
      obtain ⟨q, e3, u, e4, h3⟩ := h1 hp
      rw [e3, Option.bind_some, e4, Option.bind_some]
      exact lcD_inv J st post _ _ _ e' h3
    · rw [if_neg hp]
      exact lcD_inv J st post _ _ _ e' (h2 (by simpa using hp))
theorem restE_wipe : ∀ {own : List Nat} {ρ' : En}, wipeE ρ' own = wipeE e0 own → restE e0 ρ' own = e0 := by
  intro own
  have g : ∀ (own : List Nat) (ρ' : En) (i : Nat), (wipeE ρ' own)[i]? = (wipeE e0 own)[i]? → (∀ v ∈ own, i ≠ v) → ρ'[i]? = e0[i]? := by
    intro own
    induction own with
    | nil => intro ρ' i h _; exact h
    | cons v vs ih =>
      intro ρ' i h hn
      unfold wipeE at h
      have hv : v ≠ i := fun e => hn v (by simp) e.symm
      rw [List.getElem?_set_ne hv, List.getElem?_set_ne hv] at h
      exact ih ρ' i h fun w hw => hn w (List.mem_cons_of_mem _ hw)
  have r : ∀ (own : List Nat) (ρ' : En) (i : Nat), ρ'.length = e0.length → ((∀ v ∈ own, i ≠ v) → ρ'[i]? = e0[i]?) → (restE e0 ρ' own)[i]? = e0[i]? ∧ (restE e0 ρ' own).length = e0.length := by
    intro own
    induction own with
    | nil => intro ρ' i hl h; exact ⟨h (by simp), hl⟩
    | cons v vs ih =>
      intro ρ' i hl h
      unfold restE
      by_cases hv : v = i
      · subst hv
        have hl2 : (restE e0 ρ' vs).length = e0.length := by
          have : ∀ vs : List Nat, (restE e0 ρ' vs).length = ρ'.length := fun vs => by
            induction vs with
            | nil => rfl
            | cons w ws ihw => unfold restE; rw [List.length_set]; exact ihw
          rw [this, hl]
        refine ⟨?_, by rw [List.length_set]; exact hl2⟩
        by_cases hb : v < e0.length
        · rw [List.getElem?_set_self (by omega), List.getElem?_eq_getElem hb]
          rfl
        · rw [List.getElem?_eq_none (by rw [List.length_set]; omega), List.getElem?_eq_none (by omega)]
      · obtain ⟨h1, h2⟩ := ih ρ' i hl fun hn => h fun w hw => by
          rcases List.mem_cons.mp hw with z | z
          · rw [z]; exact fun e => hv e.symm
          · exact hn w z
        exact ⟨by rw [List.getElem?_set_ne hv]; exact h1, by rw [List.length_set]; exact h2⟩
  intro ρ' h
  have hl : ρ'.length = e0.length := by
    have := congrArg List.length h
    rwa [wipeE_length, wipeE_length] at this
  refine List.ext_getElem? fun i => (r own ρ' i hl fun hn => g own ρ' i (by rw [h]) hn).1
/-- a comprehension, by its rule -/
theorem lc_inv (J : List D → List D → En → Prop) {R : List D × En → Prop} (h0 : J [] [] e0)
    (st : ∀ pre d post out ρ, ds = pre ++ d :: post → J pre out ρ → W (tg d (wipeE ρ own)) fun ρ1 => W (tst ρ1) fun p => (p.1 = true → W (fe p.2) fun q => W (frz q.1 q.2) fun u => J (pre ++ [d]) (out ++ [u.1]) u.2) ∧ (p.1 = false → J (pre ++ [d]) out p.2))
    (k : ∀ out ρ', J ds out ρ' → R (out, ρ')) : W (lcD own tg tst fe ds [] e0) R :=
  (lcD_inv J st ds [] [] e0 rfl h0).mono fun q h => k q.1 q.2 h
theorem e_restN {ρ' : En} : restE e0 ρ' [] = ρ' := rfl
theorem e_restC {ρ' : En} {v : Nat} {vs : List Nat} : restE e0 ρ' (v :: vs) = (restE e0 ρ' vs).set v (e0[v]?.getD .no) := rfl
theorem e_getD {s : Slot} : (some s).getD Slot.no = s := rfl
/-- a comprehension that changes nothing -/
theorem lc_pure (cc : D → Bool) (h : D → D) {R : List D × En → Prop}
    (st : ∀ d ∈ ds, W (tg d (wipeE e0 own)) fun ρ1 => W (tst ρ1) fun p => p.1 = cc d ∧ (cc d = true → W (fe p.2) fun q => W (frz q.1 q.2) fun u => u.1 = h d ∧ wipeE u.2 own = wipeE e0 own) ∧ (cc d = false → wipeE p.2 own = wipeE e0 own))
    (k : ∀ ρ', restE e0 ρ' own = e0 → R ((ds.filter cc).map h, ρ')) : W (lcD own tg tst fe ds [] e0) R := by
  have := lcD_inv (own := own) (tg := tg) (tst := tst) (fe := fe) (ds := ds) (fun pre out ρ => out = (pre.filter cc).map h ∧ wipeE ρ own = wipeE e0 own) (fun pre d post out ρ e ⟨h1, h2⟩ => by
    have hd : d ∈ ds := by rw [e]; simp
    rw [h2]
    refine (st d hd).mono fun ρ1 w => w.mono fun p ⟨p1, p2, p3⟩ => ⟨fun hp => ?_, fun hp => ?_⟩
    · refine (p2 (p1.symm.trans hp)).mono fun q w => w.mono fun u ⟨u1, u2⟩ => ⟨?_, u2⟩
      rw [h1, u1, List.filter_append, List.map_append]
      simp [p1.symm.trans hp]
    · refine ⟨?_, p3 (p1.symm.trans hp)⟩
      rw [h1, List.filter_append, List.map_append]
      simp [p1.symm.trans hp]) ds [] [] e0 rfl ⟨rfl, rfl⟩
  exact this.mono fun q ⟨q1, q2⟩ => by
    have := k q.2 (restE_wipe q2)
    rw [← q1] at this
    exact this
/-- every one, nothing left out -/
theorem lc_map (h : D → D) {R : List D × En → Prop} (st : ∀ d ∈ ds, W (tg d (wipeE e0 own)) fun ρ1 => W (fe ρ1) fun q => W (frz q.1 q.2) fun u => u.1 = h d ∧ wipeE u.2 own = wipeE e0 own)
    (k : ∀ ρ', restE e0 ρ' own = e0 → R (ds.map h, ρ')) : W (lcD own tg dYes fe ds [] e0) R :=
  lc_pure (fun _ => true) h (fun d hd => (st d hd).mono fun ρ1 w => ⟨_, rfl, rfl, fun _ => w, fun z => Bool.noConfusion z⟩) fun ρ' e => by
    have : ds.filter (fun _ => true) = ds := List.filter_eq_self.mpr fun _ _ => rfl
    rw [this]
    exact k ρ' e
/-- for -/
theorem forD_inv (J : List D → En → Prop) (st : ∀ pre d post ρ, ds = pre ++ d :: post → J pre ρ → W (tg d ρ) fun ρ1 => W (body ρ1) fun p => (p.1 = .nx ∨ p.1 = .ct) ∧ J (pre ++ [d]) p.2) :
    ∀ (post pre : List D) (ρ : En), ds = pre ++ post → J pre ρ → W (forD tg body post ρ) fun p => p.1 = .nx ∧ J ds p.2
  | [], pre, ρ, e, h => by
    rw [List.append_nil] at e
    subst e
    exact ⟨_, rfl, rfl, h⟩
  | d :: post, pre, ρ, e, h => by
    obtain ⟨ρ1, e1, p, e2, h1, h2⟩ := st pre d post ρ e h
    unfold forD
    have e' : ds = (pre ++ [d]) ++ post := by rw [e, List.append_assoc]; rfl
    rw [e1, Option.bind_some, e2, Option.bind_some]
    rcases h1 with z | z <;> rw [z] <;> exact forD_inv J st post _ _ e' h2
/-- for, by its rule -/
theorem for_inv (J : List D → En → Prop) {R : Out × En → Prop} (h0 : J [] ρ) (st : ∀ pre d post ρ, ds = pre ++ d :: post → J pre ρ → W (tg d ρ) fun ρ1 => W (body ρ1) fun p => (p.1 = .nx ∨ p.1 = .ct) ∧ J (pre ++ [d]) p.2)
    (k : ∀ ρ', J ds ρ' → R (.nx, ρ')) : W (forD tg body ds ρ) R :=
  (forD_inv J st ds [] ρ rfl h0).mono fun ⟨o, ρ'⟩ ⟨h1, h2⟩ => by
    have h1 : o = .nx := h1
    subst h1
    exact k ρ' h2
/-- while -/
theorem while_inv (J : En → Prop) (m : En → Nat) {R : Out × En → Prop}
    (st : ∀ ρ, J ρ → W (c ρ) fun p => (p.1 = true → W (body p.2) fun q => (q.1 = .nx ∨ q.1 = .ct) ∧ J q.2 ∧ m q.2 < m ρ) ∧ (p.1 = false → R (.nx, p.2))) :
    ∀ (n : Nat) (ρ : En), J ρ → m ρ < n → W (iterW c body n ρ) R
  | 0, ρ, _, h => absurd h (Nat.not_lt_zero _)
  | n + 1, ρ, h, hm => by
    obtain ⟨p, e1, h1, h2⟩ := st ρ h
    unfold iterW
    rw [e1, Option.bind_some]
    by_cases hp : p.1 = true
    · rw [if_pos hp]
      obtain ⟨q, e2, h3, h4, h5⟩ := h1 hp
      rw [e2, Option.bind_some]
      rcases h3 with z | z <;> rw [z] <;> exact while_inv J m st n _ h4 (by omega)
    · rw [if_neg hp]
      exact ⟨_, rfl, h2 (by simpa using hp)⟩
end

/-! ### the law over its cells -/
def bCells : DS := dRet (dListRg1 (dOpn gMax2 (dCons (dC (.int 1)) (dCons (dOpn gMin2 (dCons (dName 1) (dCons (dOpn gLen (dCons (dName 0) (dNil))) (dNil)))) (dNil)))))
def bLaw (g : Fn) (k : Int) : DS := dRet (dOpn gAll (dCons (dLc [1] (dIt (dCall (fnD 2 bCells) (dCons (dName 0) (dCons (dC (.int k)) (dNil))))) (dgName 1) (dYes) (dCallT g (dCall gPot (dCons (dName 0) (dCons (dName 1) (dNil)))))) (dNil)))
theorem boolsD_true : ∀ n : Nat, boolsD (List.replicate n (D.bl true)) = some (List.replicate n true)
  | 0 => rfl
  | n + 1 => by
    rw [List.replicate_succ]
    show (boolsD _).bind _ = _
    rw [boolsD_true n]
    rfl
theorem law_all {g : Fn} {k : Int} {ns : List Int} (hk : 1 ≤ k) (hk2 : k ≤ 90) (h : ∀ d, Pot 0 d → ∃ ρ1, g [.pm d] = some (.fz (.bl true), ρ1)) : ∃ ρ1, fnD 2 (bLaw g k) [.fz (.scr ns)] = some (.fz (.bl true), ρ1) := by
  suffices hh : W (fnD 2 (bLaw g k) [.fz (.scr ns)]) (fun w => w.1 = .fz (.bl true)) by
    obtain ⟨⟨r, ρ1⟩, e, e1⟩ := hh
    have e1 : r = .fz (.bl true) := e1
    subst e1
    exact ⟨ρ1, e⟩
  unfold bLaw bCells
  simp -dsimp -implicitDefEqProofs only [e_seq, e_set, e_ret, e_retN, e_if, e_next, e_never, e_bk, e_ct, e_drop, e_asg, e_many, e_setIx, e_for, e_while, e_aug, e_test, e_andT, e_orT, e_notT, e_and, e_or, e_not, e_ifE, e_chain, e_name, e_c, e_op1, e_op2, e_opn, e_cons, e_nil, e_tup, e_lst, e_slice, e_partN, e_partS, e_gName, e_gNil, e_gCons, e_gTup, e_rng1, e_rngA, e_rng2, e_rngB, e_it, e_zip, e_contsN, e_contsC, e_frzsN, e_frzsC, e_normsN, e_normsC, e_normB, e_normF, e_normO, e_manyN, e_manyC, e_outsN, e_outsP, e_outsF, e_outN, e_outF, e_outO, e_ixL, e_ixT, e_ixS, e_yes, e_fn, e_call, e_callM, e_callT, e_listRg, e_sortedSet, ob_some, ob_none, W_ob, W_some, W_none, Int.reduceLT, Int.reduceLE, Int.reduceNeg, Int.reduceAdd, Int.reduceMul, Int.reduceSub, Nat.reduceLT, Nat.reduceLeDiff, Int.reduceToNat, W_ite, andN, ixN_0, ixN_1, ixN_2, ixN_3, at0, at1, at2, at3, isB, gSl, nameR, cont, slotC, setSlot, frz, retR, noBr, updSlot, ownC, zipD, plainE, itemsD, gAdd, gAddI, gSub, gMul, gMod, gDiv, gPow, gNeg, gLt, gLe, gGt, gGe, gLen, gAbs, gInt, gMax2, gMin2, gTuple, gList, gIsi, isTy, isNon, gIs, gIsNot, mAppend, headPm, noBrs, solidR, isBr, isLst, List.getElem?_cons_zero, List.getElem?_cons_succ, List.getElem?_nil, List.set_cons_zero, List.set_cons_succ, List.cons_append, List.nil_append, List.length_cons, List.length_nil, List.replicate_succ, List.replicate_zero, Nat.reduceAdd, Nat.reduceSub, List.map_cons, List.map_nil, List.all_cons, List.all_nil, List.any_cons, List.any_nil, Bool.and_true, Bool.true_and, Bool.or_true, Bool.true_or, Bool.false_or, Bool.or_false, Bool.not_true, Bool.not_false, Bool.false_eq_true, if_true, if_false, ite_true, ite_false, true_and, and_true, decide_eq_true_eq, Int.cast_ofNat_Int, decide_true, decide_false, ne_eq, reduceCtorEq, eq_self, not_true_eq_false, not_false_eq_true, false_implies, true_implies, implies_true, true_or, or_true, false_or, or_false, Bool.not_eq_true', decide_eq_false_iff_not, Option.bind_some, Option.bind_none, reduceIte, e_lc]
  generalize hm : (if (if (ns.length : Int) < k then (ns.length : Int) else k) > 1 then (if (ns.length : Int) < k then (ns.length : Int) else k) else 1) = m
  have hm1 : 0 ≤ m ∧ m ≤ 90 := by
    rw [← hm]
    split <;> split <;> omega
  refine ⟨⟨by omega, by omega⟩, lc_map (fun _ => .bl true) (fun d hd => ?_) fun ρ' hρ => ?_⟩
  · unfold rngD at hd
    obtain ⟨i, hi, rfl⟩ := List.mem_map.mp hd
    have hi := List.mem_range.mp hi
    simp -dsimp -implicitDefEqProofs only [e_seq, e_set, e_ret, e_retN, e_if, e_next, e_never, e_bk, e_ct, e_drop, e_asg, e_many, e_setIx, e_for, e_while, e_aug, e_test, e_andT, e_orT, e_notT, e_and, e_or, e_not, e_ifE, e_chain, e_name, e_c, e_op1, e_op2, e_opn, e_cons, e_nil, e_tup, e_lst, e_slice, e_partN, e_partS, e_gName, e_gNil, e_gCons, e_gTup, e_rng1, e_rngA, e_rng2, e_rngB, e_it, e_zip, e_contsN, e_contsC, e_frzsN, e_frzsC, e_normsN, e_normsC, e_normB, e_normF, e_normO, e_manyN, e_manyC, e_outsN, e_outsP, e_outsF, e_outN, e_outF, e_outO, e_ixL, e_ixT, e_ixS, e_yes, e_fn, e_call, e_callM, e_callT, e_listRg, e_sortedSet, ob_some, ob_none, W_ob, W_some, W_none, Int.reduceLT, Int.reduceLE, Int.reduceNeg, Int.reduceAdd, Int.reduceMul, Int.reduceSub, Nat.reduceLT, Nat.reduceLeDiff, Int.reduceToNat, W_ite, andN, ixN_0, ixN_1, ixN_2, ixN_3, at0, at1, at2, at3, isB, gSl, nameR, cont, slotC, setSlot, frz, retR, noBr, updSlot, ownC, zipD, plainE, itemsD, gAdd, gAddI, gSub, gMul, gMod, gDiv, gPow, gNeg, gLt, gLe, gGt, gGe, gLen, gAbs, gInt, gMax2, gMin2, gTuple, gList, gIsi, isTy, isNon, gIs, gIsNot, mAppend, headPm, noBrs, solidR, isBr, isLst, List.getElem?_cons_zero, List.getElem?_cons_succ, List.getElem?_nil, List.set_cons_zero, List.set_cons_succ, List.cons_append, List.nil_append, List.length_cons, List.length_nil, List.replicate_succ, List.replicate_zero, Nat.reduceAdd, Nat.reduceSub, List.map_cons, List.map_nil, List.all_cons, List.all_nil, List.any_cons, List.any_nil, Bool.and_true, Bool.true_and, Bool.or_true, Bool.true_or, Bool.false_or, Bool.or_false, Bool.not_true, Bool.not_false, Bool.false_eq_true, if_true, if_false, ite_true, ite_false, true_and, and_true, decide_eq_true_eq, Int.cast_ofNat_Int, decide_true, decide_false, ne_eq, reduceCtorEq, eq_self, not_true_eq_false, not_false_eq_true, false_implies, true_implies, implies_true, true_or, or_true, false_or, or_false, Bool.not_eq_true', decide_eq_false_iff_not, Option.bind_some, Option.bind_none, reduceIte, e_wipeN, e_wipeC]
    refine (pot_spec (by omega) (by omega)).mono fun w ⟨d, e, hp⟩ => ?_
    subst e
    simp -dsimp -implicitDefEqProofs only [e_seq, e_set, e_ret, e_retN, e_if, e_next, e_never, e_bk, e_ct, e_drop, e_asg, e_many, e_setIx, e_for, e_while, e_aug, e_test, e_andT, e_orT, e_notT, e_and, e_or, e_not, e_ifE, e_chain, e_name, e_c, e_op1, e_op2, e_opn, e_cons, e_nil, e_tup, e_lst, e_slice, e_partN, e_partS, e_gName, e_gNil, e_gCons, e_gTup, e_rng1, e_rngA, e_rng2, e_rngB, e_it, e_zip, e_contsN, e_contsC, e_frzsN, e_frzsC, e_normsN, e_normsC, e_normB, e_normF, e_normO, e_manyN, e_manyC, e_outsN, e_outsP, e_outsF, e_outN, e_outF, e_outO, e_ixL, e_ixT, e_ixS, e_yes, e_fn, e_call, e_callM, e_callT, e_listRg, e_sortedSet, ob_some, ob_none, W_ob, W_some, W_none, Int.reduceLT, Int.reduceLE, Int.reduceNeg, Int.reduceAdd, Int.reduceMul, Int.reduceSub, Nat.reduceLT, Nat.reduceLeDiff, Int.reduceToNat, W_ite, andN, ixN_0, ixN_1, ixN_2, ixN_3, at0, at1, at2, at3, isB, gSl, nameR, cont, slotC, setSlot, frz, retR, noBr, updSlot, ownC, zipD, plainE, itemsD, gAdd, gAddI, gSub, gMul, gMod, gDiv, gPow, gNeg, gLt, gLe, gGt, gGe, gLen, gAbs, gInt, gMax2, gMin2, gTuple, gList, gIsi, isTy, isNon, gIs, gIsNot, mAppend, headPm, noBrs, solidR, isBr, isLst, List.getElem?_cons_zero, List.getElem?_cons_succ, List.getElem?_nil, List.set_cons_zero, List.set_cons_succ, List.cons_append, List.nil_append, List.length_cons, List.length_nil, List.replicate_succ, List.replicate_zero, Nat.reduceAdd, Nat.reduceSub, List.map_cons, List.map_nil, List.all_cons, List.all_nil, List.any_cons, List.any_nil, Bool.and_true, Bool.true_and, Bool.or_true, Bool.true_or, Bool.false_or, Bool.or_false, Bool.not_true, Bool.not_false, Bool.false_eq_true, if_true, if_false, ite_true, ite_false, true_and, and_true, decide_eq_true_eq, Int.cast_ofNat_Int, decide_true, decide_false, ne_eq, reduceCtorEq, eq_self, not_true_eq_false, not_false_eq_true, false_implies, true_implies, implies_true, true_or, or_true, false_or, or_false, Bool.not_eq_true', decide_eq_false_iff_not, Option.bind_some, Option.bind_none, reduceIte, e_wipeN, e_wipeC]
    obtain ⟨ρ1, e1⟩ := h d hp
    refine W.eq e1 ?_
    simp -dsimp -implicitDefEqProofs only [e_seq, e_set, e_ret, e_retN, e_if, e_next, e_never, e_bk, e_ct, e_drop, e_asg, e_many, e_setIx, e_for, e_while, e_aug, e_test, e_andT, e_orT, e_notT, e_and, e_or, e_not, e_ifE, e_chain, e_name, e_c, e_op1, e_op2, e_opn, e_cons, e_nil, e_tup, e_lst, e_slice, e_partN, e_partS, e_gName, e_gNil, e_gCons, e_gTup, e_rng1, e_rngA, e_rng2, e_rngB, e_it, e_zip, e_contsN, e_contsC, e_frzsN, e_frzsC, e_normsN, e_normsC, e_normB, e_normF, e_normO, e_manyN, e_manyC, e_outsN, e_outsP, e_outsF, e_outN, e_outF, e_outO, e_ixL, e_ixT, e_ixS, e_yes, e_fn, e_call, e_callM, e_callT, e_listRg, e_sortedSet, ob_some, ob_none, W_ob, W_some, W_none, Int.reduceLT, Int.reduceLE, Int.reduceNeg, Int.reduceAdd, Int.reduceMul, Int.reduceSub, Nat.reduceLT, Nat.reduceLeDiff, Int.reduceToNat, W_ite, andN, ixN_0, ixN_1, ixN_2, ixN_3, at0, at1, at2, at3, isB, gSl, nameR, cont, slotC, setSlot, frz, retR, noBr, updSlot, ownC, zipD, plainE, itemsD, gAdd, gAddI, gSub, gMul, gMod, gDiv, gPow, gNeg, gLt, gLe, gGt, gGe, gLen, gAbs, gInt, gMax2, gMin2, gTuple, gList, gIsi, isTy, isNon, gIs, gIsNot, mAppend, headPm, noBrs, solidR, isBr, isLst, List.getElem?_cons_zero, List.getElem?_cons_succ, List.getElem?_nil, List.set_cons_zero, List.set_cons_succ, List.cons_append, List.nil_append, List.length_cons, List.length_nil, List.replicate_succ, List.replicate_zero, Nat.reduceAdd, Nat.reduceSub, List.map_cons, List.map_nil, List.all_cons, List.all_nil, List.any_cons, List.any_nil, Bool.and_true, Bool.true_and, Bool.or_true, Bool.true_or, Bool.false_or, Bool.or_false, Bool.not_true, Bool.not_false, Bool.false_eq_true, if_true, if_false, ite_true, ite_false, true_and, and_true, decide_eq_true_eq, Int.cast_ofNat_Int, decide_true, decide_false, ne_eq, reduceCtorEq, eq_self, not_true_eq_false, not_false_eq_true, false_implies, true_implies, implies_true, true_or, or_true, false_or, or_false, Bool.not_eq_true', decide_eq_false_iff_not, Option.bind_some, Option.bind_none, reduceIte, e_wipeN, e_wipeC]
  · have hl : (rngD 0 m.toNat).length ≤ sizeLine := by
      unfold rngD
      rw [List.length_map, List.length_range, sizeLine_eq]
      omega
    have hr : (rngD 0 m.toNat).map (fun _ => D.bl true) = List.replicate m.toNat (.bl true) := by
      unfold rngD
      rw [List.map_map]
      refine List.eq_replicate_iff.mpr ⟨by simp, fun b hb => ?_⟩
      obtain ⟨_, _, e⟩ := List.mem_map.mp hb
      exact e.symm
    rw [hr]
    have ha : gAll [.lst (List.replicate m.toNat (.bl true))] = some (.fz (.bl true)) := by
      show ((boolsD _).bind _) = _
      rw [boolsD_true]
      show some (Res.fz (D.bl _)) = _
      congr
      simp
    have hl2 : (List.replicate m.toNat (D.bl true)).length ≤ sizeLine := by
      rw [List.length_replicate, sizeLine_eq]
      omega
    simp -dsimp -implicitDefEqProofs only [e_seq, e_set, e_ret, e_retN, e_if, e_next, e_never, e_bk, e_ct, e_drop, e_asg, e_many, e_setIx, e_for, e_while, e_aug, e_test, e_andT, e_orT, e_notT, e_and, e_or, e_not, e_ifE, e_chain, e_name, e_c, e_op1, e_op2, e_opn, e_cons, e_nil, e_tup, e_lst, e_slice, e_partN, e_partS, e_gName, e_gNil, e_gCons, e_gTup, e_rng1, e_rngA, e_rng2, e_rngB, e_it, e_zip, e_contsN, e_contsC, e_frzsN, e_frzsC, e_normsN, e_normsC, e_normB, e_normF, e_normO, e_manyN, e_manyC, e_outsN, e_outsP, e_outsF, e_outN, e_outF, e_outO, e_ixL, e_ixT, e_ixS, e_yes, e_fn, e_call, e_callM, e_callT, e_listRg, e_sortedSet, ob_some, ob_none, W_ob, W_some, W_none, Int.reduceLT, Int.reduceLE, Int.reduceNeg, Int.reduceAdd, Int.reduceMul, Int.reduceSub, Nat.reduceLT, Nat.reduceLeDiff, Int.reduceToNat, W_ite, andN, ixN_0, ixN_1, ixN_2, ixN_3, at0, at1, at2, at3, isB, gSl, nameR, cont, slotC, setSlot, frz, retR, noBr, updSlot, ownC, zipD, plainE, itemsD, gAdd, gAddI, gSub, gMul, gMod, gDiv, gPow, gNeg, gLt, gLe, gGt, gGe, gLen, gAbs, gInt, gMax2, gMin2, gTuple, gList, gIsi, isTy, isNon, gIs, gIsNot, mAppend, headPm, noBrs, solidR, isBr, isLst, List.getElem?_cons_zero, List.getElem?_cons_succ, List.getElem?_nil, List.set_cons_zero, List.set_cons_succ, List.cons_append, List.nil_append, List.length_cons, List.length_nil, List.replicate_succ, List.replicate_zero, Nat.reduceAdd, Nat.reduceSub, List.map_cons, List.map_nil, List.all_cons, List.all_nil, List.any_cons, List.any_nil, Bool.and_true, Bool.true_and, Bool.or_true, Bool.true_or, Bool.false_or, Bool.or_false, Bool.not_true, Bool.not_false, Bool.false_eq_true, if_true, if_false, ite_true, ite_false, true_and, and_true, decide_eq_true_eq, Int.cast_ofNat_Int, decide_true, decide_false, ne_eq, reduceCtorEq, eq_self, not_true_eq_false, not_false_eq_true, false_implies, true_implies, implies_true, true_or, or_true, false_or, or_false, Bool.not_eq_true', decide_eq_false_iff_not, Option.bind_some, Option.bind_none, reduceIte, hρ, ha, hl2]
end Pu

/-! Pu15: == of plain data; fractions. -/
namespace Pu
open PySem PySem.Spec PyProof.Rows L2
theorem gq_int {a b : Int} : gEq (.int a) (.int b) = some (.fz (.bl (decide (a = b)))) := by
  show some (Res.fz (.bl (a == b))) = _
  by_cases h : a = b <;> simp [h]
theorem gn_int {a b : Int} : gNe (.int a) (.int b) = some (.fz (.bl (decide (a ≠ b)))) := by
  show some (Res.fz (.bl (!(a == b)))) = _
  by_cases h : a = b <;> simp [h]
theorem e_mulI {i j : Int} : gMul (.int i) (.int j) = if mulOk i j = true then some (.fz (.int (i * j))) else none := rfl
mutual
theorem eqv_self : ∀ (n : Nat) (d : D), shp n d = true → PyData.eqv (toPy d) (toPy d) = true
  | _, .non, _ => by simp [toPy, PyData.eqv]
  | _, .bl b, _ => by simp [toPy, PyData.eqv]
  | _, .int b, _ => by simp [toPy, PyData.eqv]
  | _, .str b, _ => by simp [toPy, PyData.eqv]
  | 0, .tup ds, h => by simp [shp] at h
  | 0, .lst ds, h => by simp [shp] at h
  | n + 1, .tup ds, h => by
    unfold toPy PyData.eqv
    exact eqv_selfL n ds (by unfold shp at h; exact h)
  | n + 1, .lst ds, h => by
    unfold toPy PyData.eqv
    exact eqv_selfL n ds (by unfold shp at h; exact h)
  | n, .dic _ _, h => by cases n <;> simp [shp] at h
  | n, .scr _, h => by cases n <;> simp [shp] at h
theorem eqv_selfL : ∀ (n : Nat) (ds : List D), shpL n ds = true → PyData.eqvAll (toPyL ds) (toPyL ds) = true
  | _, [], _ => by simp [toPyL, PyData.eqvAll]
  | n, d :: r, h => by
    unfold shpL at h
    rw [Bool.and_eq_true] at h
    unfold toPyL PyData.eqvAll
    rw [eqv_self n d h.1, eqv_selfL n r h.2]
    rfl
end
theorem gq_self {d : D} (h : shp 8 d = true) : gEq d d = some (.fz (.bl true)) := by
  unfold gEq
  rw [h, eqv_self 8 d h]
  rfl
theorem gn_self {d : D} (h : shp 8 d = true) : gNe d d = some (.fz (.bl false)) := by
  unfold gNe
  rw [h, eqv_self 8 d h]
  rfl
theorem shp_ints (n : Nat) : ∀ ns : List Int, shpL n (ns.map D.int) = true
  | [] => by simp [shpL]
  | x :: r => by
    have := shp_ints n r
    rw [List.map_cons]
    unfold shpL
    rw [this]
    simp [shp]
theorem shp_tupI {ns : List Int} : shp 8 (.tup (ns.map D.int)) = true := by
  unfold shp
  exact shp_ints _ _
theorem shp_lstI {ns : List Int} : shp 8 (.lst (ns.map D.int)) = true := by
  unfold shp
  exact shp_ints _ _

theorem shp_all (n : Nat) : ∀ {ds : List D}, (∀ d ∈ ds, ∃ i : Int, d = .int i) → shpL n ds = true
  | [], _ => by simp [shpL]
  | d :: r, h => by
    obtain ⟨i, e⟩ := h d (by simp)
    subst e
    unfold shpL
    rw [shp_all n fun d hd => h d (List.mem_cons_of_mem _ hd)]
    simp [shp]
theorem shp_tupA {ds : List D} (h : ∀ d ∈ ds, ∃ i : Int, d = .int i) : shp 8 (.tup ds) = true := by
  unfold shp
  exact shp_all _ h
theorem rngD_mem {lo : Int} {n : Nat} {d : D} : d ∈ rngD lo n ↔ ∃ i : Nat, i < n ∧ d = .int (lo + (i : Int)) := by
  unfold rngD
  constructor
  · intro h
    obtain ⟨i, hi, e⟩ := List.mem_map.mp h
    exact ⟨i, List.mem_range.mp hi, e.symm⟩
  · rintro ⟨i, hi, e⟩
    exact List.mem_map.mpr ⟨i, List.mem_range.mpr hi, e.symm⟩
theorem rngD_len {lo : Int} {n : Nat} : (rngD lo n).length = n := by
  unfold rngD
  rw [List.length_map, List.length_range]
theorem boolsD_map {α : Type} (f : α → Bool) : ∀ xs : List α, boolsD (xs.map fun x => D.bl (f x)) = some (xs.map f)
  | [] => rfl
  | x :: r => by
    rw [List.map_cons]
    show (boolsD _).bind _ = _
    rw [boolsD_map f r]
    rfl
theorem gAll_map {α : Type} (f : α → Bool) (xs : List α) : gAll [.lst (xs.map fun x => D.bl (f x))] = some (.fz (.bl (xs.all f))) := by
  show (boolsD _).bind _ = _
  rw [boolsD_map]
  show some (Res.fz (.bl _)) = _
  rw [List.all_map]
  rfl
theorem gAny_map {α : Type} (f : α → Bool) (xs : List α) : gAny [.lst (xs.map fun x => D.bl (f x))] = some (.fz (.bl (xs.any f))) := by
  show (boolsD _).bind _ = _
  rw [boolsD_map]
  show some (Res.fz (.bl _)) = _
  rw [List.any_map]
  rfl
theorem gAll_true (ds : List D) : gAll [.lst (ds.map fun _ => D.bl true)] = some (.fz (.bl true)) := by
  have h := gAll_map (fun _ : D => true) ds
  rw [h]
  simp
theorem gAny_false (ds : List D) : gAny [.lst (ds.map fun _ => D.bl false)] = some (.fz (.bl false)) := by
  have h := gAny_map (fun _ : D => false) ds
  rw [h]
  simp
theorem cutD_tail (xs : List D) : cutD xs (some 1) none = xs.drop 1 := by
  unfold cutD
  have e0 : HT.sIx xs.length 0 (some 1) = min 1 xs.length := rfl
  have e1 : HT.sIx xs.length xs.length none = xs.length := rfl
  rw [e0, e1]
  cases xs with
  | nil => rfl
  | cons x r =>
    rw [List.length_cons, Nat.min_eq_left (by omega)]
    exact List.take_of_length_le (by simp)
theorem zip_adj {vs : List Int} {d : D} (h : d ∈ zipDs (vs.map D.int) ((vs.map D.int).drop 1)) : ∃ (i : Nat) (x y : Int), vs[i]? = some x ∧ vs[i + 1]? = some y ∧ d = .tup [.int x, .int y] := by
  obtain ⟨i, hi, e⟩ := List.getElem_of_mem h
  have e := (List.getElem?_eq_getElem hi).trans (congrArg some e)
  obtain ⟨x, y, g1, g2, rfl⟩ := zip_get e
  rw [List.getElem?_drop, List.getElem?_map] at g2
  rw [List.getElem?_map] at g1
  obtain ⟨x', h1, rfl⟩ := Option.map_eq_some_iff.mp g1
  obtain ⟨y', h2, rfl⟩ := Option.map_eq_some_iff.mp g2
  exact ⟨i, x', y', h1, by rw [Nat.add_comm]; exact h2, rfl⟩

/-! ### fractions -/
/-- t / b in lowest terms -/
def frN (t b : Int) : Int := t / (Int.gcd t b : Nat)
def frD (t b : Int) : Int := b / (Int.gcd t b : Nat)
section
variable {t b t' b' : Int}
theorem gcd_pos (hb : 0 < b) : 0 < Int.gcd t b := Nat.pos_of_ne_zero fun h => by
  have := (Int.gcd_eq_zero_iff.mp h).2
  omega
theorem fr_N : frN t b * (Int.gcd t b : Nat) = t := Int.ediv_mul_cancel (Int.gcd_dvd_left ..)
theorem fr_D : frD t b * (Int.gcd t b : Nat) = b := Int.ediv_mul_cancel (Int.gcd_dvd_right ..)
theorem fr_pos (hb : 0 < b) : 0 < frD t b := by
  have h := fr_D (t := t) (b := b)
  have g : (0 : Int) < (Int.gcd t b : Nat) := by exact_mod_cast gcd_pos hb
  rcases Int.lt_trichotomy (frD t b) 0 with z | z | z
  · have := Int.mul_neg_of_neg_of_pos z g
    omega
  · rw [z] at h
    omega
  · exact z
theorem fr_cross : frN t b * b = t * frD t b := by
  have h1 := fr_N (t := t) (b := b)
  have h2 := fr_D (t := t) (b := b)
  generalize frN t b = x at *
  generalize frD t b = y at *
  generalize ((Int.gcd t b : Nat) : Int) = g at *
  subst h1 h2
  rw [Int.mul_assoc x g y, Int.mul_comm g y]
theorem fr_cop (hb : 0 < b) : Int.gcd (frN t b) (frD t b) = 1 := by
  exact Int.gcd_ediv_gcd_ediv_gcd (gcd_pos hb)
theorem fr_eq (hb : 0 < b) (hb' : 0 < b') (h : t * b' = t' * b) : frN t b = frN t' b' ∧ frD t b = frD t' b' := by
  have c1 := fr_cop (t := t) hb
  have c2 := fr_cop (t := t') hb'
  have p1 := fr_pos (t := t) hb
  have p2 := fr_pos (t := t') hb'
  have n1 := fr_N (t := t) (b := b)
  have d1 := fr_D (t := t) (b := b)
  have n2 := fr_N (t := t') (b := b')
  have d2 := fr_D (t := t') (b := b')
  have g1 : (0 : Int) < (Int.gcd t b : Nat) := by exact_mod_cast gcd_pos hb
  have g2 : (0 : Int) < (Int.gcd t' b' : Nat) := by exact_mod_cast gcd_pos hb'
  generalize frN t b = n at *
  generalize frD t b = d at *
  generalize frN t' b' = m at *
  generalize frD t' b' = e at *
  generalize ((Int.gcd t b : Nat) : Int) = g at *
  generalize ((Int.gcd t' b' : Nat) : Int) = k at *
  subst n1 d1 n2 d2
  have hx : n * e = m * d := by
    have h2 : (n * e) * (g * k) = (m * d) * (g * k) := by
      calc (n * e) * (g * k) = n * g * (e * k) := by ac_rfl
        _ = m * k * (d * g) := h
        _ = (m * d) * (g * k) := by ac_rfl
    exact Int.eq_of_mul_eq_mul_right (Int.ne_of_gt (Int.mul_pos g1 g2)) h2
  have a1 : d.natAbs ∣ e.natAbs := by
    refine Nat.Coprime.dvd_of_dvd_mul_left (m := n.natAbs) ?_ ?_
    · exact Nat.coprime_comm.mp c1
    · rw [← Int.natAbs_mul, hx, Int.natAbs_mul]
      exact Nat.dvd_mul_left _ _
  have a2 : e.natAbs ∣ d.natAbs := by
    refine Nat.Coprime.dvd_of_dvd_mul_left (m := m.natAbs) ?_ ?_
    · exact Nat.coprime_comm.mp c2
    · rw [← Int.natAbs_mul, ← hx, Int.natAbs_mul]
      exact Nat.dvd_mul_left _ _
  have a3 := Nat.dvd_antisymm a1 a2
  have ed : d = e := by omega
  subst ed
  exact ⟨Int.eq_of_mul_eq_mul_right (Int.ne_of_gt p1) hx, rfl⟩
theorem fr_N1 (hb : 0 < b) : frN 0 b = 0 := by
  unfold frN
  exact Int.zero_ediv _
theorem fr_D1 (hb : 0 < b) : frD 0 b = 1 := by
  unfold frD
  rw [Int.gcd_zero_left]
  have e : ((b.natAbs : Nat) : Int) = b := by omega
  rw [e]
  exact Int.ediv_self (by omega)
theorem fr_le (hb : 0 < b) : frD t b ≤ b := by
  unfold frD
  exact Int.ediv_le_self _ (by omega)
theorem fr_absN (hb : 0 < b) : (frN t b).natAbs ≤ t.natAbs := by
  have h := fr_N (t := t) (b := b)
  have g : 0 < Int.gcd t b := gcd_pos hb
  have := congrArg Int.natAbs h
  rw [Int.natAbs_mul, Int.natAbs_natCast] at this
  rw [← this]
  exact Nat.le_mul_of_pos_right _ g
end
end Pu

/-! Pu16: in, not in; starred displays; enumerate of a list. -/
namespace Pu
open PySem PySem.Spec PyProof.Rows L2

/-! ### in -/
def flatD : D → Bool
  | .non => true
  | .bl _ => true
  | .int _ => true
  | .str _ => true
  | _ => false
def isLstD : D → Bool
  | .lst _ => true
  | _ => false
/-- is x one of y's items -/
def inD (x y : D) : Option Bool := (seqD y).bind fun ds => if (flatD x && ds.all flatD) = true ∨ (isLstD y && shp 8 x && shp 8 (.lst ds)) = true then some (ds.any fun z => PyData.eqv (toPy z) (toPy x)) else none
def gIn (x y : D) : Option Res := (inD x y).bind fun b => some (.fz (.bl b))
def gNotIn (x y : D) : Option Res := (inD x y).bind fun b => some (.fz (.bl (!b)))
section
variable {K : PySem.W.Frag} {F H : Hp}
theorem flat_V {d : D} {v : V} (f : flatD d = true) (h : Rep K F d v) : flatV v = true := by
  cases d with
  | non =>
    have h : v = .non := h
    subst h
    rfl
  | bl b =>
    have h : v = .bl b := h
    subst h
    rfl
  | int b =>
    have h : v = .int b := h
    subst h
    rfl
  | str b =>
    have h : v = .str b := h
    subst h
    rfl
  | _ => cases f
theorem flat_eq {d e : D} {v u : V} (f : flatD d = true) (g : flatD e = true) (h : Rep K F d v) (h' : Rep K F e u) : eqV v u = PyData.eqv (toPy d) (toPy e) := by
  cases d with
  | non =>
    have h : v = .non := h
    subst h
    cases e with
    | non => cases (show u = .non from h'); rfl
    | bl b => cases (show u = .bl b from h'); rfl
    | int b => cases (show u = .int b from h'); rfl
    | str b => cases (show u = .str b from h'); rfl
    | _ => cases g
  | bl b =>
    have h : v = .bl b := h
    subst h
    cases e with
    | non => cases (show u = .non from h'); rfl
    | bl b => cases (show u = .bl b from h'); rfl
    | int b => cases (show u = .int b from h'); rfl
    | str b => cases (show u = .str b from h'); rfl
    | _ => cases g
  | int b =>
    have h : v = .int b := h
    subst h
    cases e with
    | non => cases (show u = .non from h'); rfl
    | bl b => cases (show u = .bl b from h'); rfl
    | int b => cases (show u = .int b from h'); rfl
    | str b => cases (show u = .str b from h'); rfl
    | _ => cases g
  | str b =>
    have h : v = .str b := h
    subst h
    cases e with
    | non => cases (show u = .non from h'); rfl
    | bl b => cases (show u = .bl b from h'); rfl
    | int b => cases (show u = .int b from h'); rfl
    | str b => cases (show u = .str b from h'); rfl
    | _ => cases g
  | _ => cases f
theorem flat_all : ∀ {ds : List D} {vs : List V}, ds.all flatD = true → RepL K F ds vs → vs.all flatV = true
  | [], _, _, h => by
    have h : _ = _ := h
    subst h
    rfl
  | d :: r, _, f, h => by
    obtain ⟨v, w, rfl, h1, h2⟩ := h
    rw [List.all_cons, Bool.and_eq_true] at f
    rw [List.all_cons, flat_V f.1 h1, flat_all f.2 h2]
    rfl
theorem flat_in {x : D} {u : V} (fx : flatD x = true) (hx : Rep K F x u) : ∀ {ds : List D} {vs : List V}, ds.all flatD = true → RepL K F ds vs → inV u vs = ds.any fun z => PyData.eqv (toPy z) (toPy x)
  | [], _, _, h => by
    have h : _ = _ := h
    subst h
    rfl
  | d :: r, _, f, h => by
    obtain ⟨v, w, rfl, h1, h2⟩ := h
    rw [List.all_cons, Bool.and_eq_true] at f
    have := flat_in fx hx f.2 h2
    unfold inV at this ⊢
    rw [List.any_cons, List.any_cons, this, flat_eq f.1 fx h1 hx]
theorem any_toPy (x : PyData) : ∀ ds : List D, ((toPyL ds).any fun z => PyData.eqv z x) = ds.any fun z => PyData.eqv (toPy z) x
  | [] => by simp [toPyL]
  | d :: r => by
    unfold toPyL
    rw [List.any_cons, List.any_cons, any_toPy x r]
end
section
variable {X : Cx} {e a b : Expr} {es : List Expr} {fa fb fe : DE} {fr : DA} {pos p2 : Pos}
theorem in_seq {K : PySem.W.Frag} {F H : Hp} {x y : D} {v u : V} {b : Bool} (fh : Same F H) (hx : Vw K F H x v) (hy : Vw K F H y u) (e : inD x y = some b) :
    (∃ p xs, u = .ref p ∧ (SqL K H p xs ∨ SqT K H p xs) ∧ flatV v = true ∧ xs.all flatV = true ∧ inV v xs = b) ∨ (∃ d ds, Dp K H v d ∧ Dp K H u (.list ds) ∧ SeqAt.shaped d = true ∧ SeqAt.shaped (.list ds) = true ∧ (ds.any fun z => PyData.eqv z d) = b) := by
  unfold inD at e
  obtain ⟨ds, e1, e⟩ := Option.bind_eq_some_iff.mp e
  have hx' := hx.rep fh
  split at e
  · rename_i hc
    cases e
    by_cases hf : (flatD x && ds.all flatD) = true
    · rw [Bool.and_eq_true] at hf
      left
      cases y with
      | lst xs =>
        cases e1
        obtain ⟨p, us, rfl, h1, h2⟩ := hy
        have h2 := RepL.mono fh _ _ h2
        exact ⟨p, us, rfl, .inl (SqL.of h1), flat_V hf.1 hx', flat_all hf.2 h2, flat_in hf.1 hx' hf.2 h2⟩
      | tup xs =>
        cases e1
        obtain ⟨p, us, rfl, h1, h2⟩ := hy
        have h2 := RepL.mono fh _ _ h2
        exact ⟨p, us, rfl, .inr (Same.sqT fh h1), flat_V hf.1 hx', flat_all hf.2 h2, flat_in hf.1 hx' hf.2 h2⟩
      | scr ns =>
        cases e1
        obtain ⟨p, rfl, h1⟩ := hy
        have h2 := RepL.ints (K := K) (F := H) ns
        exact ⟨p, _, rfl, .inl (Same.seq fh h1), flat_V hf.1 hx', flat_all hf.2 h2, flat_in hf.1 hx' hf.2 h2⟩
      | _ => cases e1
    · right
      have hc := hc.resolve_left hf
      rw [Bool.and_eq_true, Bool.and_eq_true] at hc
      cases y with
      | lst xs =>
        cases e1
        have hy' := hy.rep fh
        have := shp_dp 8 (.lst ds) u hc.2 hy'
        unfold toPy at this
        have s2 := shp_shaped hc.2
        unfold toPy at s2
        exact ⟨toPy x, toPyL ds, shp_dp 8 x v hc.1.2 hx', this, shp_shaped hc.1.2, s2, any_toPy _ _⟩
      | _ => cases hc.1.1
  · cases e
theorem room65 {k : Nat} {A : Around} (r : Room k A) : A.units + 65 < cLine := by
  have := r.un
  omega
theorem od_in (hu : X.A.units + 65 < cLine) : OpR X (compareOp .In) (rD2 X.K gIn) := opI_ (op_in_seq.or (op_inD hu)) fun K F H x y da db res Q fh va vb e eK k => by
  subst eK
  obtain ⟨b, e1, e⟩ := Option.bind_eq_some_iff.mp e
  cases e
  rcases in_seq fh va vb e1 with ⟨p, xs, rfl, h1, h2, h3, rfl⟩ | ⟨d, ds, h1, h2, h3, h4, rfl⟩
  · exact .inl ⟨p, xs, rfl, h1, h2, h3, k.bl fh⟩
  · exact .inr ⟨d, ds, h1, h2, h3, h4, k.bl fh⟩
theorem od_notIn (hu : X.A.units + 65 < cLine) : OpR X (compareOp .NotIn) (rD2 X.K gNotIn) := opI_ (op_notIn_seq.or (op_notInD hu)) fun K F H x y da db res Q fh va vb e eK k => by
  subst eK
  obtain ⟨b, e1, e⟩ := Option.bind_eq_some_iff.mp e
  cases e
  rcases in_seq fh va vb e1 with ⟨p, xs, rfl, h1, h2, h3, rfl⟩ | ⟨d, ds, h1, h2, h3, h4, rfl⟩
  · exact .inl ⟨p, xs, rfl, h1, h2, h3, k.bl fh⟩
  · exact .inr ⟨d, ds, h1, h2, h3, h4, k.bl fh⟩

/-! ### starred items of a display -/
theorem RepL.rrl {K : PySem.W.Frag} {H0 : Hp} {ρ : En} {σ : L2.St} {F H : Hp} {rs : List Res} {vs : List V} (q : RRL K H0 ρ σ F H rs vs) : ∀ {ds : List D} {us : List V}, RepL K F ds us → RRL K H0 ρ σ F H (ds.map Res.fz ++ rs) (us ++ vs)
  | [], _, h => by
    have h : _ = _ := h
    subst h
    exact q
  | d :: r, _, h => by
    obtain ⟨v, w, rfl, h1, h2⟩ := h
    exact ⟨v, w ++ vs, rfl, h1, RepL.rrl q h2, fun d z => by cases z⟩
def dStar (fe : DE) (fr : DA) : DA := fun ρ => (fe ρ).bind fun p => (frz p.1 p.2).bind fun q => (itemsD q.1).bind fun ds => (fr q.2).bind fun t => some (ds.map Res.fz ++ t.1, t.2)
theorem ta_star {p : Pos} (he : PE X e (TD X.K fe)) (hr : PA X es (TAD X.K fr)) (hs : starEach (.Starred e p :: es) X.env = (true, eval e X.env) :: starEach es X.env := by rfl) : PA X (.Starred e p :: es) (TAD X.K (dStar fe fr)) :=
  pa_imp (StX.pa_star he hr hs) fun σ H Q ⟨ρ, F, rs, ρ', R, e, k⟩ => by
    obtain ⟨⟨ra, ρ1⟩, e1, e⟩ := Option.bind_eq_some_iff.mp e
    obtain ⟨⟨d, ρ2⟩, e2, e⟩ := Option.bind_eq_some_iff.mp e
    obtain ⟨ds, e3, e⟩ := Option.bind_eq_some_iff.mp e
    obtain ⟨⟨rr, ρ3⟩, e4, e⟩ := Option.bind_eq_some_iff.mp e
    cases e
    refine ⟨ρ, F, ra, ρ1, R, e1, fun x F1 H1 R1 S1 q1 => ?_⟩
    obtain ⟨F2, R2, S2, rep, sff, _⟩ := frz_ok R1 S1 q1 e2
    have hh : ∃ a us, x = .ref a ∧ (SqT X.K H1 a us ∨ SqL X.K H1 a us) ∧ RepL X.K F2 ds us := by
      cases d with
      | lst xs =>
        cases e3
        obtain ⟨a, us, rfl, h1, h2⟩ := rep
        exact ⟨a, us, rfl, .inr (SqL.of (R2.fh _ _ h1)), h2⟩
      | tup xs =>
        cases e3
        obtain ⟨a, us, rfl, h1, h2⟩ := rep
        exact ⟨a, us, rfl, .inl (Same.sqT R2.fh h1), h2⟩
      | scr ns =>
        cases e3
        obtain ⟨a, rfl, h1⟩ := rep
        exact ⟨a, _, rfl, .inr (Same.seq R2.fh h1), RepL.ints _⟩
      | _ => cases e3
    obtain ⟨a, us, rfl, h1, h2⟩ := hh
    exact ⟨a, us, rfl, h1, ρ2, F2, rr, _, R2, e4, fun vs F3 H3 R3 S3 q3 => k _ F3 H3 R3 (S2.trans S3) (RepL.rrl (q3.earlier S2.th) (RepL.mono S3.ff _ _ h2))⟩
def dTupS (fr : DA) : DE := fun ρ => (fr ρ).bind fun p => (frzs p.1 p.2).bind fun q => if q.1.length ≤ sizeLine then some (.fz (.tup q.1), q.2) else none
def dLstS (fr : DA) : DE := fun ρ => (fr ρ).bind fun p => (frzs p.1 p.2).bind fun q => if q.1.length ≤ sizeLine then some (.ow (.lst q.1), q.2) else none
theorem td_tupS {x1 : Nat} (ha : PA X es (TAD X.K fr)) : PE X (.Tuple es x1 pos) (TD X.K (dTupS fr)) :=
  pe_imp (pe_tup ha) fun σ H Q ⟨ρ, F, r, ρ', R, e, k⟩ => by
    obtain ⟨⟨rs, ρ1⟩, e1, e⟩ := Option.bind_eq_some_iff.mp e
    obtain ⟨⟨ds, ρ2⟩, e2, e⟩ := Option.bind_eq_some_iff.mp e
    by_cases hz : ds.length ≤ sizeLine
    · replace e := (if_pos hz).symm.trans e
      cases e
      refine ⟨ρ, F, rs, ρ1, R, e1, fun vs F1 H1 R1 S1 q => ?_⟩
      obtain ⟨F2, R2, S2, q2, _⟩ := frzs_ok R1 S1 q e2
      refine ⟨by rw [q2.length]; exact hz, fun p hp => ?_⟩
      have x2 : Ext F2 H1 (L2.upd F2 p (.tup vs)) (L2.upd H1 p (.tup vs)) := Ext.fresh_fz R2.fh hp
      exact k _ _ _ (R2.ext x2) (S2.trans x2.stp) ⟨p, vs, rfl, .inl (.inl upd_same), RepL.mono x2.ff _ _ q2⟩
    · replace e := (if_neg hz).symm.trans e
      cases e
theorem td_lstS (ha : PA X es (TAD X.K fr)) : PE X (.List es pos) (TD X.K (dLstS fr)) :=
  pe_imp (pe_lst ha) fun σ H Q ⟨ρ, F, r, ρ', R, e, k⟩ => by
    obtain ⟨⟨rs, ρ1⟩, e1, e⟩ := Option.bind_eq_some_iff.mp e
    obtain ⟨⟨ds, ρ2⟩, e2, e⟩ := Option.bind_eq_some_iff.mp e
    by_cases hz : ds.length ≤ sizeLine
    · replace e := (if_pos hz).symm.trans e
      cases e
      refine ⟨ρ, F, rs, ρ1, R, e1, fun vs F1 H1 R1 S1 q => ?_⟩
      obtain ⟨F2, R2, S2, q2, _⟩ := frzs_ok R1 S1 q e2
      refine ⟨by rw [q2.length]; exact hz, fun p hp => ?_⟩
      have x2 : Ext F2 H1 F2 (L2.upd H1 p (.lst vs)) := Ext.fresh_ow R2.fh hp
      have w : Pu.R1 X.K H1 F2 (L2.upd H1 p (.lst vs)) (.ow (.lst ds)) (.ref p) := ⟨p, rfl, R2.fh.free hp, hp, vs, upd_same, q2⟩
      exact k _ _ _ (R2.ext x2) (S2.trans x2.stp) (w.rr R2 S2.th)
    · replace e := (if_neg hz).symm.trans e
      cases e
end
end Pu

/-! Pu17: loops that may end early; one-step lemmas of in, stars. -/
namespace Pu
open PySem PySem.Spec PyProof.Rows L2
section
variable {own : List Nat} {tg : DTg} {tst c : DT} {x fe : DE} {fi : DI} {fr : DA} {body : DS} {ρ e0 : En} {ds : List D}
theorem e_star : dStar x fr ρ = ob (x ρ) fun p => ob (frz p.1 p.2) fun q => ob (itemsD q.1) fun ds => ob (fr q.2) fun t => some (ds.map Res.fz ++ t.1, t.2) := rfl
theorem e_tupS : dTupS fr ρ = ob (fr ρ) fun p => ob (frzs p.1 p.2) fun q => if q.1.length ≤ sizeLine then some (.fz (.tup q.1), q.2) else none := rfl
theorem e_lstS : dLstS fr ρ = ob (fr ρ) fun p => ob (frzs p.1 p.2) fun q => if q.1.length ≤ sizeLine then some (.ow (.lst q.1), q.2) else none := rfl
theorem e_methA {i : Nat} {p : D → Bool} {m : D → List D → Option (D × D)} : dMeth i p m fr ρ = ob (ownC i ρ) fun c => if p c = true then ob (fr ρ) fun q => ob (frzs q.1 q.2) fun u => ob (ownC i u.2) fun d => ob (m d u.1) fun r => ob (updSlot i r.1 u.2) fun ρ' => some (.fz r.2, ρ') else none := rfl
theorem e_append {xs : List D} {y : D} : mAppend (.lst xs) [y] = if xs.length < sizeLine then some (.lst (xs ++ [y]), .non) else none := rfl
theorem e_isLst {xs : List D} : isLst (.lst xs) = true := rfl
/-- for, that may leave early -/
theorem for_exit (J : List D → En → Prop) {R : Out × En → Prop} (h0 : J [] ρ)
    (st : ∀ pre d post ρ, ds = pre ++ d :: post → J pre ρ → W (tg d ρ) fun ρ1 => W (body ρ1) fun p => ((p.1 = .nx ∨ p.1 = .ct) ∧ J (pre ++ [d]) p.2) ∨ (p.1 = .bk ∧ R (.nx, p.2)) ∨ (∃ r, p.1 = .rt r ∧ R (.rt r, p.2)))
    (k : ∀ ρ', J ds ρ' → R (.nx, ρ')) : W (forD tg body ds ρ) R := by
  have key : ∀ (post pre : List D) (ρ : En), ds = pre ++ post → J pre ρ → W (forD tg body post ρ) R := by
    intro post
    induction post with
    | nil =>
      intro pre ρ e h
      rw [List.append_nil] at e
      subst e
      exact ⟨_, rfl, k ρ h⟩
    | cons d post ih =>
      intro pre ρ e h
      obtain ⟨ρ1, e1, p, e2, h1⟩ := st pre d post ρ e h
      unfold forD
      have e' : ds = (pre ++ [d]) ++ post := by rw [e, List.append_assoc]; rfl
      rw [e1, Option.bind_some, e2, Option.bind_some]
      rcases h1 with ⟨z, h2⟩ | ⟨z, h2⟩ | ⟨r, z, h2⟩
      · rcases z with z | z <;> rw [z] <;> exact ih _ _ e' h2
      · rw [z]
        exact ⟨_, rfl, h2⟩
      · rw [z]
        exact ⟨_, rfl, h2⟩
  exact key ds [] ρ rfl h0
end

/-! ### == of ints, tuples of ints, tables of ints -/
theorem eqvAll_ints : ∀ xs ys : List Int, PyData.eqvAll (toPyL (xs.map D.int)) (toPyL (ys.map D.int)) = decide (xs = ys)
  | [], [] => by simp [toPyL, PyData.eqvAll]
  | [], y :: s => by simp [toPyL, PyData.eqvAll]
  | x :: r, [] => by simp [toPyL, PyData.eqvAll]
  | x :: r, y :: s => by
    rw [List.map_cons, List.map_cons]
    unfold toPyL PyData.eqvAll
    rw [eqvAll_ints r s]
    unfold toPy PyData.eqv
    by_cases h : x = y <;> by_cases h' : r = s <;> simp [h, h']
def rowD (r : List Int) : D := .tup (r.map D.int)
def tabD (rows : List (List Int)) : D := .tup (rows.map rowD)
theorem eqvAll_rows : ∀ xs ys : List (List Int), PyData.eqvAll (toPyL (xs.map rowD)) (toPyL (ys.map rowD)) = decide (xs = ys)
  | [], [] => by simp [toPyL, PyData.eqvAll]
  | [], y :: s => by simp [toPyL, PyData.eqvAll]
  | x :: r, [] => by simp [toPyL, PyData.eqvAll]
  | x :: r, y :: s => by
    rw [List.map_cons, List.map_cons]
    unfold toPyL PyData.eqvAll
    rw [eqvAll_rows r s]
    unfold rowD toPy PyData.eqv
    rw [eqvAll_ints]
    by_cases h : x = y <;> by_cases h' : r = s <;> simp [h, h']
theorem shp_row (n : Nat) {r : List Int} : shp (n + 1) (rowD r) = true := by
  unfold rowD shp
  exact shp_ints _ _
theorem shp_rows (n : Nat) : ∀ rows : List (List Int), shpL (n + 1) (rows.map rowD) = true
  | [] => by simp [shpL]
  | x :: r => by
    rw [List.map_cons]
    unfold shpL
    rw [shp_rows n r, shp_row n]
    rfl
theorem gq_row {r s : List Int} : gEq (rowD r) (rowD s) = some (.fz (.bl (decide (r = s)))) := by
  unfold gEq
  rw [shp_row, shp_row]
  unfold rowD toPy PyData.eqv
  rw [eqvAll_ints]
  rfl
theorem gn_row {r s : List Int} : gNe (rowD r) (rowD s) = some (.fz (.bl (!decide (r = s)))) := by
  unfold gNe
  rw [shp_row, shp_row]
  unfold rowD toPy PyData.eqv
  rw [eqvAll_ints]
  rfl
theorem shp_tab {t : List (List Int)} : shp 8 (tabD t) = true := by
  unfold tabD shp
  exact shp_rows 6 t
theorem gq_tab {r s : List (List Int)} : gEq (tabD r) (tabD s) = some (.fz (.bl (decide (r = s)))) := by
  unfold gEq
  rw [shp_tab, shp_tab]
  unfold tabD toPy PyData.eqv
  rw [eqvAll_rows]
  rfl
theorem gn_tab {r s : List (List Int)} : gNe (tabD r) (tabD s) = some (.fz (.bl (!decide (r = s)))) := by
  unfold gNe
  rw [shp_tab, shp_tab]
  unfold tabD toPy PyData.eqv
  rw [eqvAll_rows]
  rfl
theorem sm1 {i : Int} (h : -1000000000000 ≤ i ∧ i ≤ 1000000000000) : smallI i = true := by
  unfold smallI
  rw [decide_eq_true (by omega), decide_eq_true (by omega)]
  rfl
theorem sm2 {i j : Int} (h : -1000000000000 ≤ i ∧ i ≤ 1000000000000) (h' : -1000000000000 ≤ j ∧ j ≤ 1000000000000) : (smallI i && smallI j) = true := by
  rw [sm1 h, sm1 h']
  rfl
/-! ### slices by small numbers -/
theorem cutD_to {xs : List D} {k : Nat} : cutD xs none (some (k : Int)) = xs.take k := by
  unfold cutD
  have e0 : HT.sIx xs.length 0 none = 0 := rfl
  have e1 : HT.sIx xs.length xs.length (some (k : Int)) = min k xs.length := by
    show (if (k : Int) < 0 then ((k : Int) + (xs.length : Int)).toNat else min (k : Int).toNat xs.length) = _
    rw [if_neg (by omega), Int.toNat_natCast]
  rw [e0, e1, List.drop_zero, Nat.sub_zero]
  rcases Nat.le_total k xs.length with h | h
  · rw [Nat.min_eq_left h]
  · rw [Nat.min_eq_right h, List.take_of_length_le (Nat.le_refl _), List.take_of_length_le h]
theorem cutD_from {xs : List D} {k : Nat} : cutD xs (some (k : Int)) none = xs.drop k := by
  unfold cutD
  have e0 : HT.sIx xs.length 0 (some (k : Int)) = min k xs.length := by
    show (if (k : Int) < 0 then ((k : Int) + (xs.length : Int)).toNat else min (k : Int).toNat xs.length) = _
    rw [if_neg (by omega), Int.toNat_natCast]
  have e1 : HT.sIx xs.length xs.length none = xs.length := rfl
  rw [e0, e1]
  rcases Nat.le_total k xs.length with h | h
  · rw [Nat.min_eq_left h]
    exact List.take_of_length_le (by simp)
  · rw [Nat.min_eq_right h, Nat.sub_self, List.drop_of_length_le h]
    rfl
/-- the first of those that hold -/
theorem filter_first {α : Type} {c : α → Bool} : ∀ {ds : List α} {i : Nat} {x : α}, ds[i]? = some x → c x = true → (∀ j y, j < i → ds[j]? = some y → c y = false) → ∃ r, ds.filter c = x :: r
  | [], i, x, h, _, _ => by simp at h
  | d :: r, 0, x, h, hc, _ => by
    have e : d = x := by simpa using h
    subst e
    exact ⟨r.filter c, by rw [List.filter_cons_of_pos hc]⟩
  | d :: r, i + 1, x, h, hc, hn => by
    have hd : c d = false := hn 0 d (by omega) rfl
    obtain ⟨t, e⟩ := filter_first (ds := r) (i := i) (x := x) (by simpa using h) hc fun j y hj hy => hn (j + 1) y (by omega) (by simpa using hy)
    exact ⟨t, by rw [List.filter_cons_of_neg (by simp [hd]), e]⟩
end Pu

/-! Pu18: words that come again: periods, the least one, powers of words. -/
namespace Pu
/-- a word, round and round -/
def cyc (xs : List Int) (i : Int) : Int := xs.getD (i % (xs.length : Int)).toNat 0
def Per (f : Int → Int) (p : Int) : Prop := ∀ i, f (i + p) = f i
section
variable {f : Int → Int} {p q : Int}
theorem Per.zero : Per f 0 := fun i => by rw [Int.add_zero]
theorem Per.add (h : Per f p) (h' : Per f q) : Per f (p + q) := fun i => by rw [← Int.add_assoc, h', h]
theorem Per.neg (h : Per f p) : Per f (-p) := fun i => by
  have := h (i + -p)
  rw [Int.add_assoc, Int.add_left_neg, Int.add_zero] at this
  exact this.symm
theorem Per.nat (h : Per f p) : ∀ n : Nat, Per f ((n : Int) * p)
  | 0 => by
    have e : ((0 : Nat) : Int) * p = 0 := by simp
    rw [e]
    exact Per.zero
  | n + 1 => by
    have e : ((n + 1 : Nat) : Int) * p = (n : Int) * p + p := by rw [Int.natCast_add, Int.add_mul]; simp
    rw [e]
    exact (Per.nat h n).add h
theorem Per.mul (h : Per f p) (k : Int) : Per f (k * p) := by
  rcases Int.le_total 0 k with z | z
  · obtain ⟨n, rfl⟩ := Int.eq_ofNat_of_zero_le z
    exact h.nat n
  · obtain ⟨n, e⟩ := Int.eq_ofNat_of_zero_le (show 0 ≤ -k by omega)
    have e2 : k * p = -((n : Int) * p) := by rw [← e, Int.neg_mul]; omega
    rw [e2]
    exact (h.nat n).neg
theorem Per.mod (h : Per f p) (h' : Per f q) : Per f (p % q) := by
  have e : p % q = p + -(p / q * q) := by
    have := Int.emod_add_mul_ediv p q
    rw [Int.mul_comm] at this
    omega
  rw [e]
  exact h.add (h'.mul _).neg
theorem Per.at_mod (h : Per f p) (i : Int) : f (i % p) = f i := by
  have e : i = i % p + i / p * p := by
    have := Int.emod_add_mul_ediv i p
    rw [Int.mul_comm] at this
    omega
  have := (h.mul (i / p)) (i % p)
  rw [← e] at this
  exact this.symm
/-- the least period -/
theorem least_per : ∀ (n : Nat), 0 < n → Per f n → ∃ L : Nat, 0 < L ∧ L ≤ n ∧ Per f L ∧ ∀ m : Nat, 0 < m → Per f m → L ≤ m := by
  intro n
  induction n using Nat.strongRecOn with
  | ind n ih =>
    intro h0 h
    by_cases hx : ∃ m : Nat, 0 < m ∧ m < n ∧ Per f m
    · obtain ⟨m, m0, m1, m2⟩ := hx
      obtain ⟨L, a, b, c, d⟩ := ih m m1 m0 m2
      exact ⟨L, a, by omega, c, d⟩
    · refine ⟨n, h0, Nat.le_refl _, h, fun m m0 m2 => ?_⟩
      rcases Nat.lt_or_ge m n with z | z
      · exact absurd ⟨m, m0, z, m2⟩ hx
      · exact z
theorem least_dvd {L : Nat} (h0 : 0 < L) (h : Per f L) (hl : ∀ m : Nat, 0 < m → Per f m → L ≤ m) (hp : Per f p) : (L : Int) ∣ p := by
  have h1 := hp.mod h
  have a1 := Int.emod_nonneg p (show (L : Int) ≠ 0 by omega)
  have a2 := Int.emod_lt_of_pos p (show (0 : Int) < L by omega)
  obtain ⟨m, e⟩ := Int.eq_ofNat_of_zero_le a1
  rw [e] at h1 a2
  rcases Nat.eq_zero_or_pos m with z | z
  · subst z
    exact Int.dvd_of_emod_eq_zero e
  · have := hl m z h1
    omega
end
/-! ### powers -/
def pwr (k : Nat) (xs : List Int) : List Int := (List.replicate k xs).flatten
theorem pwr_len (k : Nat) (xs : List Int) : (pwr k xs).length = k * xs.length := by
  unfold pwr
  induction k with
  | zero => simp
  | succ k ih => rw [List.replicate_succ, List.flatten_cons, List.length_append, ih, Nat.succ_mul, Nat.add_comm]
theorem pwr_get (xs : List Int) : ∀ (k i : Nat), i < k * xs.length → (pwr k xs).getD i 0 = xs.getD (i % xs.length) 0
  | 0, i, h => by omega
  | k + 1, i, h => by
    unfold pwr
    rw [List.replicate_succ, List.flatten_cons]
    rw [Nat.succ_mul] at h
    by_cases hi : i < xs.length
    · rw [Nat.mod_eq_of_lt hi, List.getD_eq_getElem?_getD, List.getElem?_append_left hi, ← List.getD_eq_getElem?_getD]
    · rw [List.getD_eq_getElem?_getD, List.getElem?_append_right (by omega), ← List.getD_eq_getElem?_getD]
      have := pwr_get xs k (i - xs.length) (by omega)
      unfold pwr at this
      rw [this]
      congr 1
      exact (Nat.mod_eq_sub_mod (by omega)).symm
theorem cyc_nat (xs : List Int) (i : Nat) : cyc xs i = xs.getD (i % xs.length) 0 := by
  unfold cyc
  rw [← Int.natCast_emod, Int.toNat_natCast]
theorem cyc_per (xs : List Int) : Per (cyc xs) xs.length := fun i => by
  unfold cyc
  rw [Int.add_emod_right]
theorem cyc_small {xs : List Int} {i : Nat} (h : i < xs.length) : cyc xs i = xs.getD i 0 := by rw [cyc_nat, Nat.mod_eq_of_lt h]
theorem cyc_ext {f : Int → Int} {xs : List Int} (hn : 0 < xs.length) (h : Per f xs.length) (e : ∀ i : Nat, i < xs.length → f i = xs.getD i 0) : ∀ i, f i = cyc xs i := fun i => by
  have a1 := Int.emod_nonneg i (show (xs.length : Int) ≠ 0 by omega)
  have a2 := Int.emod_lt_of_pos i (show (0 : Int) < xs.length by omega)
  rw [← h.at_mod i]
  obtain ⟨m, em⟩ := Int.eq_ofNat_of_zero_le a1
  unfold cyc
  rw [em] at a2 ⊢
  rw [Int.toNat_natCast]
  exact e m (by omega)
theorem cyc_pwr {xs : List Int} {k : Nat} (hn : 0 < xs.length) (hk : 0 < k) : ∀ i, cyc (pwr k xs) i = cyc xs i := by
  intro i
  have hp : 0 < (pwr k xs).length := by rw [pwr_len]; exact Nat.mul_pos hk hn
  refine (cyc_ext hp ?_ (fun j hj => ?_) i).symm
  · rw [pwr_len, Int.natCast_mul]
    exact (cyc_per xs).mul _
  · rw [pwr_len] at hj
    rw [pwr_get xs k j hj, cyc_nat]
/-- a word is a power of its head just if the head's length is a period -/
theorem root_iff {xs : List Int} {p : Nat} (hn : 0 < xs.length) (hp : 0 < p) (hd : p ∣ xs.length) : xs = pwr (xs.length / p) (xs.take p) ↔ Per (cyc xs) p := by
  have hle : p ≤ xs.length := Nat.le_of_dvd hn hd
  have hlt : (xs.take p).length = p := by rw [List.length_take, Nat.min_eq_left hle]
  have hq : xs.length / p * p = xs.length := Nat.div_mul_cancel hd
  constructor
  · intro h i
    have hk : 0 < xs.length / p := Nat.div_pos hle hp
    have e : ∀ j, cyc xs j = cyc (xs.take p) j := fun j => by
      have := cyc_pwr (xs := xs.take p) (k := xs.length / p) (by omega) hk j
      rw [← h] at this
      exact this
    rw [e, e]
    have := cyc_per (xs.take p) i
    rw [hlt] at this
    exact this
  · intro h
    refine List.ext_getElem? fun i => ?_
    by_cases hi : i < xs.length
    · have h1 : i < (pwr (xs.length / p) (xs.take p)).length := by rw [pwr_len, hlt, hq]; exact hi
      have g := pwr_get (xs.take p) (xs.length / p) i (by rw [hlt, hq]; exact hi)
      rw [hlt] at g
      have hm : i % p < p := Nat.mod_lt _ hp
      have t : (xs.take p).getD (i % p) 0 = xs.getD (i % p) 0 := by
        rw [List.getD_eq_getElem?_getD, List.getElem?_take_of_lt hm, ← List.getD_eq_getElem?_getD]
      have c := h.at_mod (i : Int)
      rw [← Int.natCast_emod, cyc_small hi, cyc_small (by omega)] at c
      rw [t, c] at g
      rw [List.getElem?_eq_getElem hi, List.getElem?_eq_getElem h1]
      rw [List.getD_eq_getElem?_getD, List.getD_eq_getElem?_getD, List.getElem?_eq_getElem hi, List.getElem?_eq_getElem h1] at g
      exact congrArg some g.symm
    · rw [List.getElem?_eq_none (by omega), List.getElem?_eq_none (by rw [pwr_len, hlt, hq]; omega)]

/-! ### how often till it comes out -/
theorem out_iff {s L r : Int} (hL : 0 < L) : L ∣ r * s ↔ frD s L ∣ r := by
  have n1 := fr_N (t := s) (b := L)
  have d1 := fr_D (t := s) (b := L)
  have cp := fr_cop (t := s) hL
  have g0 : (0 : Int) < (Int.gcd s L : Nat) := by exact_mod_cast gcd_pos hL
  generalize ((Int.gcd s L : Nat) : Int) = g at *
  generalize frN s L = n at *
  generalize frD s L = d at *
  subst n1 d1
  have e : r * (n * g) = r * n * g := by ac_rfl
  rw [e]
  constructor
  · rintro ⟨k, hk⟩
    have h2 : r * n = d * k := by
      refine Int.eq_of_mul_eq_mul_right (Int.ne_of_gt g0) ?_
      rw [hk]
      ac_rfl
    have h3 : d.natAbs ∣ n.natAbs * r.natAbs := by
      rw [← Int.natAbs_mul, Int.mul_comm n r, h2, Int.natAbs_mul]
      exact Nat.dvd_mul_right _ _
    have h4 : Nat.Coprime d.natAbs n.natAbs := Nat.coprime_comm.mp cp
    exact Int.natAbs_dvd_natAbs.mp (h4.dvd_of_dvd_mul_left h3)
  · rintro ⟨k, hk⟩
    refine ⟨k * n, ?_⟩
    rw [hk]
    ac_rfl
end Pu

/-! Pu19: what the checks that many sections share answer. -/
namespace Pu
open PySem
def bIsInt : DS := dRet (dAnd (dOp1 (gIsi .int) (dName 0)) (dAnd (dNot (dOp1 (gIsi .bool) (dName 0))) (dChain gLe gLe (dName 1) (dName 0) (dName 2))))
def gIsInt : Fn := fnD 3 bIsInt
def bAreInts : DS := dRet (dAnd (dOp1 (gIsi .tuple) (dName 0)) (dOpn gAll (dCons (dLc [3] (dIt (dName 0)) (dgName 3) (dYes) (dCall gIsInt (dCons (dName 3) (dCons (dName 1) (dCons (dName 2) (dNil)))))) (dNil))))
def gAreInts : Fn := fnD 4 bAreInts
def bChart : DS := dSeq (dIfS (dOrT (dNotT (dTest (dOp1 (gIsi .tuple) (dName 0)))) (dNotT (dTest (dChain gLe gLe (dC (.int 1)) (dOpn gLen (dCons (dName 0) (dNil))) (dC (.int 60)))))) (dRet (dC (.bl false))) (dNext)) (dSeq (dIfS (dNotT (dTest (dOpn gAll (dCons (dLc [1] (dIt (dName 0)) (dgName 1) (dYes) (dAnd (dCall gAreInts (dCons (dName 1) (dCons (dC (.int 0)) (dCons (dC (.int 9)) (dNil))))) (dChain gLe gLe (dC (.int 1)) (dOpn gLen (dCons (dName 1) (dNil))) (dC (.int 60))))) (dNil))))) (dRet (dC (.bl false))) (dNext)) (dRet (dOpn gAll (dCons (dLc [1] (dIt (dName 0)) (dgName 1) (dYes) (dOp2 gEq (dOpn gLen (dCons (dName 1) (dNil))) (dOpn gLen (dCons (dOp2 gIx (dName 0) (dC (.int 0))) (dNil))))) (dNil)))))
def gChart : Fn := fnD 2 bChart
def bLookChart : DS := dIfS (dNotT (dTest (dCall gChart (dCons (dName 0) (dNil))))) (dNever) (dNext)
def gLookChart : Fn := fnD 1 bLookChart
theorem isInt_ok {v lo hi : Int} (h1 : lo ≤ v) (h2 : v ≤ hi) : gIsInt [.fz (.int v), .fz (.int lo), .fz (.int hi)] = some (.fz (.bl true), [.no, .no, .no]) := by
  refine W.out ?_
  unfold gIsInt bIsInt
  simp -dsimp -implicitDefEqProofs only [e_lc, e_wipeN, e_wipeC, e_restN, e_restC, e_getD, e_seq, e_set, e_ret, e_retN, e_if, e_next, e_never, e_bk, e_ct, e_drop, e_asg, e_many, e_setIx, e_for, e_while, e_aug, e_test, e_andT, e_orT, e_notT, e_and, e_or, e_not, e_ifE, e_chain, e_name, e_c, e_op1, e_op2, e_opn, e_cons, e_nil, e_tup, e_lst, e_slice, e_partN, e_partS, e_gName, e_gNil, e_gCons, e_gTup, e_rng1, e_rngA, e_rng2, e_rngB, e_it, e_zip, e_contsN, e_contsC, e_frzsN, e_frzsC, e_normsN, e_normsC, e_normB, e_normF, e_normO, e_manyN, e_manyC, e_outsN, e_outsP, e_outsF, e_outN, e_outF, e_outO, e_ixL, e_ixT, e_ixS, e_yes, e_fn, e_call, e_callM, e_callT, e_listRg, e_sortedSet, ob_some, ob_none, W_ob, W_some, W_none, Int.reduceLT, Int.reduceLE, Int.reduceNeg, Int.reduceAdd, Int.reduceMul, Int.reduceSub, Nat.reduceLT, Nat.reduceLeDiff, Int.reduceToNat, W_ite, andN, ixN_0, ixN_1, ixN_2, ixN_3, at0, at1, at2, at3, isB, gSl, nameR, cont, slotC, setSlot, frz, retR, noBr, updSlot, ownC, zipD, plainE, itemsD, gAdd, gAddI, gSub, e_mulI, gMod, gDiv, gPow, gNeg, gLt, gLe, gGt, gGe, gLen, gAbs, gInt, gMax2, gMin2, gTuple, gList, gIsi, isTy, isNon, gIs, gIsNot, mAppend, headPm, noBrs, solidR, isBr, isLst, List.getElem?_cons_zero, List.getElem?_cons_succ, List.getElem?_nil, List.set_cons_zero, List.set_cons_succ, List.cons_append, List.nil_append, List.length_cons, List.length_nil, List.replicate_succ, List.replicate_zero, Nat.reduceAdd, Nat.reduceSub, List.map_cons, List.map_nil, List.all_cons, List.all_nil, List.any_cons, List.any_nil, Bool.and_true, Bool.true_and, Bool.or_true, Bool.true_or, Bool.false_or, Bool.or_false, Bool.not_true, Bool.not_false, Bool.false_eq_true, if_true, if_false, ite_true, ite_false, true_and, and_true, decide_eq_true_eq, Int.cast_ofNat_Int, decide_true, decide_false, ne_eq, reduceCtorEq, eq_self, not_true_eq_false, not_false_eq_true, false_implies, true_implies, implies_true, true_or, or_true, false_or, or_false, Bool.not_eq_true', decide_eq_false_iff_not, Option.bind_some, Option.bind_none, reduceIte, e_star, e_tupS, e_lstS, e_methA, e_append, e_isLst]
  simp [h1, h2]
theorem isInt_eq {v lo hi : Int} : gIsInt [.fz (.int v), .fz (.int lo), .fz (.int hi)] = some (.fz (.bl (decide (lo ≤ v ∧ v ≤ hi))), [.no, .no, .no]) := by
  refine W.out ?_
  unfold gIsInt bIsInt
  by_cases h1 : lo ≤ v
  · simp -dsimp -implicitDefEqProofs only [e_lc, e_wipeN, e_wipeC, e_restN, e_restC, e_getD, e_seq, e_set, e_ret, e_retN, e_if, e_next, e_never, e_bk, e_ct, e_drop, e_asg, e_many, e_setIx, e_for, e_while, e_aug, e_test, e_andT, e_orT, e_notT, e_and, e_or, e_not, e_ifE, e_chain, e_name, e_c, e_op1, e_op2, e_opn, e_cons, e_nil, e_tup, e_lst, e_slice, e_partN, e_partS, e_gName, e_gNil, e_gCons, e_gTup, e_rng1, e_rngA, e_rng2, e_rngB, e_it, e_zip, e_contsN, e_contsC, e_frzsN, e_frzsC, e_normsN, e_normsC, e_normB, e_normF, e_normO, e_manyN, e_manyC, e_outsN, e_outsP, e_outsF, e_outN, e_outF, e_outO, e_ixL, e_ixT, e_ixS, e_yes, e_fn, e_call, e_callM, e_callT, e_listRg, e_sortedSet, ob_some, ob_none, W_ob, W_some, W_none, Int.reduceLT, Int.reduceLE, Int.reduceNeg, Int.reduceAdd, Int.reduceMul, Int.reduceSub, Nat.reduceLT, Nat.reduceLeDiff, Int.reduceToNat, W_ite, andN, ixN_0, ixN_1, ixN_2, ixN_3, at0, at1, at2, at3, isB, gSl, nameR, cont, slotC, setSlot, frz, retR, noBr, updSlot, ownC, zipD, plainE, itemsD, gAdd, gAddI, gSub, e_mulI, gMod, gDiv, gPow, gNeg, gLt, gLe, gGt, gGe, gLen, gAbs, gInt, gMax2, gMin2, gTuple, gList, gIsi, isTy, isNon, gIs, gIsNot, mAppend, headPm, noBrs, solidR, isBr, isLst, List.getElem?_cons_zero, List.getElem?_cons_succ, List.getElem?_nil, List.set_cons_zero, List.set_cons_succ, List.cons_append, List.nil_append, List.length_cons, List.length_nil, List.replicate_succ, List.replicate_zero, Nat.reduceAdd, Nat.reduceSub, List.map_cons, List.map_nil, List.all_cons, List.all_nil, List.any_cons, List.any_nil, Bool.and_true, Bool.true_and, Bool.or_true, Bool.true_or, Bool.false_or, Bool.or_false, Bool.not_true, Bool.not_false, Bool.false_eq_true, if_true, if_false, ite_true, ite_false, true_and, and_true, decide_eq_true_eq, Int.cast_ofNat_Int, decide_true, decide_false, ne_eq, reduceCtorEq, eq_self, not_true_eq_false, not_false_eq_true, false_implies, true_implies, implies_true, true_or, or_true, false_or, or_false, Bool.not_eq_true', decide_eq_false_iff_not, Option.bind_some, Option.bind_none, reduceIte, e_star, e_tupS, e_lstS, e_methA, e_append, e_isLst, h1]
  · simp -dsimp -implicitDefEqProofs only [e_lc, e_wipeN, e_wipeC, e_restN, e_restC, e_getD, e_seq, e_set, e_ret, e_retN, e_if, e_next, e_never, e_bk, e_ct, e_drop, e_asg, e_many, e_setIx, e_for, e_while, e_aug, e_test, e_andT, e_orT, e_notT, e_and, e_or, e_not, e_ifE, e_chain, e_name, e_c, e_op1, e_op2, e_opn, e_cons, e_nil, e_tup, e_lst, e_slice, e_partN, e_partS, e_gName, e_gNil, e_gCons, e_gTup, e_rng1, e_rngA, e_rng2, e_rngB, e_it, e_zip, e_contsN, e_contsC, e_frzsN, e_frzsC, e_normsN, e_normsC, e_normB, e_normF, e_normO, e_manyN, e_manyC, e_outsN, e_outsP, e_outsF, e_outN, e_outF, e_outO, e_ixL, e_ixT, e_ixS, e_yes, e_fn, e_call, e_callM, e_callT, e_listRg, e_sortedSet, ob_some, ob_none, W_ob, W_some, W_none, Int.reduceLT, Int.reduceLE, Int.reduceNeg, Int.reduceAdd, Int.reduceMul, Int.reduceSub, Nat.reduceLT, Nat.reduceLeDiff, Int.reduceToNat, W_ite, andN, ixN_0, ixN_1, ixN_2, ixN_3, at0, at1, at2, at3, isB, gSl, nameR, cont, slotC, setSlot, frz, retR, noBr, updSlot, ownC, zipD, plainE, itemsD, gAdd, gAddI, gSub, e_mulI, gMod, gDiv, gPow, gNeg, gLt, gLe, gGt, gGe, gLen, gAbs, gInt, gMax2, gMin2, gTuple, gList, gIsi, isTy, isNon, gIs, gIsNot, mAppend, headPm, noBrs, solidR, isBr, isLst, List.getElem?_cons_zero, List.getElem?_cons_succ, List.getElem?_nil, List.set_cons_zero, List.set_cons_succ, List.cons_append, List.nil_append, List.length_cons, List.length_nil, List.replicate_succ, List.replicate_zero, Nat.reduceAdd, Nat.reduceSub, List.map_cons, List.map_nil, List.all_cons, List.all_nil, List.any_cons, List.any_nil, Bool.and_true, Bool.true_and, Bool.or_true, Bool.true_or, Bool.false_or, Bool.or_false, Bool.not_true, Bool.not_false, Bool.false_eq_true, if_true, if_false, ite_true, ite_false, true_and, and_true, decide_eq_true_eq, Int.cast_ofNat_Int, decide_true, decide_false, ne_eq, reduceCtorEq, eq_self, not_true_eq_false, not_false_eq_true, false_implies, true_implies, implies_true, true_or, or_true, false_or, or_false, Bool.not_eq_true', decide_eq_false_iff_not, Option.bind_some, Option.bind_none, reduceIte, e_star, e_tupS, e_lstS, e_methA, e_append, e_isLst, h1]
    simp
theorem areInts_ok {vs : List Int} {lo hi : Int} (h : ∀ v ∈ vs, lo ≤ v ∧ v ≤ hi) (hl : vs.length ≤ 1000000) : gAreInts [.fz (.tup (vs.map D.int)), .fz (.int lo), .fz (.int hi)] = some (.fz (.bl true), [.no, .no, .no]) := by
  refine W.out ?_
  unfold gAreInts bAreInts
  simp -dsimp -implicitDefEqProofs only [e_lc, e_wipeN, e_wipeC, e_restN, e_restC, e_getD, e_seq, e_set, e_ret, e_retN, e_if, e_next, e_never, e_bk, e_ct, e_drop, e_asg, e_many, e_setIx, e_for, e_while, e_aug, e_test, e_andT, e_orT, e_notT, e_and, e_or, e_not, e_ifE, e_chain, e_name, e_c, e_op1, e_op2, e_opn, e_cons, e_nil, e_tup, e_lst, e_slice, e_partN, e_partS, e_gName, e_gNil, e_gCons, e_gTup, e_rng1, e_rngA, e_rng2, e_rngB, e_it, e_zip, e_contsN, e_contsC, e_frzsN, e_frzsC, e_normsN, e_normsC, e_normB, e_normF, e_normO, e_manyN, e_manyC, e_outsN, e_outsP, e_outsF, e_outN, e_outF, e_outO, e_ixL, e_ixT, e_ixS, e_yes, e_fn, e_call, e_callM, e_callT, e_listRg, e_sortedSet, ob_some, ob_none, W_ob, W_some, W_none, Int.reduceLT, Int.reduceLE, Int.reduceNeg, Int.reduceAdd, Int.reduceMul, Int.reduceSub, Nat.reduceLT, Nat.reduceLeDiff, Int.reduceToNat, W_ite, andN, ixN_0, ixN_1, ixN_2, ixN_3, at0, at1, at2, at3, isB, gSl, nameR, cont, slotC, setSlot, frz, retR, noBr, updSlot, ownC, zipD, plainE, itemsD, gAdd, gAddI, gSub, e_mulI, gMod, gDiv, gPow, gNeg, gLt, gLe, gGt, gGe, gLen, gAbs, gInt, gMax2, gMin2, gTuple, gList, gIsi, isTy, isNon, gIs, gIsNot, mAppend, headPm, noBrs, solidR, isBr, isLst, List.getElem?_cons_zero, List.getElem?_cons_succ, List.getElem?_nil, List.set_cons_zero, List.set_cons_succ, List.cons_append, List.nil_append, List.length_cons, List.length_nil, List.replicate_succ, List.replicate_zero, Nat.reduceAdd, Nat.reduceSub, List.map_cons, List.map_nil, List.all_cons, List.all_nil, List.any_cons, List.any_nil, Bool.and_true, Bool.true_and, Bool.or_true, Bool.true_or, Bool.false_or, Bool.or_false, Bool.not_true, Bool.not_false, Bool.false_eq_true, if_true, if_false, ite_true, ite_false, true_and, and_true, decide_eq_true_eq, Int.cast_ofNat_Int, decide_true, decide_false, ne_eq, reduceCtorEq, eq_self, not_true_eq_false, not_false_eq_true, false_implies, true_implies, implies_true, true_or, or_true, false_or, or_false, Bool.not_eq_true', decide_eq_false_iff_not, Option.bind_some, Option.bind_none, reduceIte, e_star, e_tupS, e_lstS, e_methA, e_append, e_isLst]
  refine lc_map (fun _ => .bl true) (fun d hd => ?_) fun ρ' hρ => ?_
  · obtain ⟨v, hv, rfl⟩ := List.mem_map.mp hd
    simp -dsimp -implicitDefEqProofs only [e_lc, e_wipeN, e_wipeC, e_restN, e_restC, e_getD, e_seq, e_set, e_ret, e_retN, e_if, e_next, e_never, e_bk, e_ct, e_drop, e_asg, e_many, e_setIx, e_for, e_while, e_aug, e_test, e_andT, e_orT, e_notT, e_and, e_or, e_not, e_ifE, e_chain, e_name, e_c, e_op1, e_op2, e_opn, e_cons, e_nil, e_tup, e_lst, e_slice, e_partN, e_partS, e_gName, e_gNil, e_gCons, e_gTup, e_rng1, e_rngA, e_rng2, e_rngB, e_it, e_zip, e_contsN, e_contsC, e_frzsN, e_frzsC, e_normsN, e_normsC, e_normB, e_normF, e_normO, e_manyN, e_manyC, e_outsN, e_outsP, e_outsF, e_outN, e_outF, e_outO, e_ixL, e_ixT, e_ixS, e_yes, e_fn, e_call, e_callM, e_callT, e_listRg, e_sortedSet, ob_some, ob_none, W_ob, W_some, W_none, Int.reduceLT, Int.reduceLE, Int.reduceNeg, Int.reduceAdd, Int.reduceMul, Int.reduceSub, Nat.reduceLT, Nat.reduceLeDiff, Int.reduceToNat, W_ite, andN, ixN_0, ixN_1, ixN_2, ixN_3, at0, at1, at2, at3, isB, gSl, nameR, cont, slotC, setSlot, frz, retR, noBr, updSlot, ownC, zipD, plainE, itemsD, gAdd, gAddI, gSub, e_mulI, gMod, gDiv, gPow, gNeg, gLt, gLe, gGt, gGe, gLen, gAbs, gInt, gMax2, gMin2, gTuple, gList, gIsi, isTy, isNon, gIs, gIsNot, mAppend, headPm, noBrs, solidR, isBr, isLst, List.getElem?_cons_zero, List.getElem?_cons_succ, List.getElem?_nil, List.set_cons_zero, List.set_cons_succ, List.cons_append, List.nil_append, List.length_cons, List.length_nil, List.replicate_succ, List.replicate_zero, Nat.reduceAdd, Nat.reduceSub, List.map_cons, List.map_nil, List.all_cons, List.all_nil, List.any_cons, List.any_nil, Bool.and_true, Bool.true_and, Bool.or_true, Bool.true_or, Bool.false_or, Bool.or_false, Bool.not_true, Bool.not_false, Bool.false_eq_true, if_true, if_false, ite_true, ite_false, true_and, and_true, decide_eq_true_eq, Int.cast_ofNat_Int, decide_true, decide_false, ne_eq, reduceCtorEq, eq_self, not_true_eq_false, not_false_eq_true, false_implies, true_implies, implies_true, true_or, or_true, false_or, or_false, Bool.not_eq_true', decide_eq_false_iff_not, Option.bind_some, Option.bind_none, reduceIte, e_star, e_tupS, e_lstS, e_methA, e_append, e_isLst]
    refine W.eq (isInt_ok (h v hv).1 (h v hv).2) ?_
    simp -dsimp -implicitDefEqProofs only [e_lc, e_wipeN, e_wipeC, e_restN, e_restC, e_getD, e_seq, e_set, e_ret, e_retN, e_if, e_next, e_never, e_bk, e_ct, e_drop, e_asg, e_many, e_setIx, e_for, e_while, e_aug, e_test, e_andT, e_orT, e_notT, e_and, e_or, e_not, e_ifE, e_chain, e_name, e_c, e_op1, e_op2, e_opn, e_cons, e_nil, e_tup, e_lst, e_slice, e_partN, e_partS, e_gName, e_gNil, e_gCons, e_gTup, e_rng1, e_rngA, e_rng2, e_rngB, e_it, e_zip, e_contsN, e_contsC, e_frzsN, e_frzsC, e_normsN, e_normsC, e_normB, e_normF, e_normO, e_manyN, e_manyC, e_outsN, e_outsP, e_outsF, e_outN, e_outF, e_outO, e_ixL, e_ixT, e_ixS, e_yes, e_fn, e_call, e_callM, e_callT, e_listRg, e_sortedSet, ob_some, ob_none, W_ob, W_some, W_none, Int.reduceLT, Int.reduceLE, Int.reduceNeg, Int.reduceAdd, Int.reduceMul, Int.reduceSub, Nat.reduceLT, Nat.reduceLeDiff, Int.reduceToNat, W_ite, andN, ixN_0, ixN_1, ixN_2, ixN_3, at0, at1, at2, at3, isB, gSl, nameR, cont, slotC, setSlot, frz, retR, noBr, updSlot, ownC, zipD, plainE, itemsD, gAdd, gAddI, gSub, e_mulI, gMod, gDiv, gPow, gNeg, gLt, gLe, gGt, gGe, gLen, gAbs, gInt, gMax2, gMin2, gTuple, gList, gIsi, isTy, isNon, gIs, gIsNot, mAppend, headPm, noBrs, solidR, isBr, isLst, List.getElem?_cons_zero, List.getElem?_cons_succ, List.getElem?_nil, List.set_cons_zero, List.set_cons_succ, List.cons_append, List.nil_append, List.length_cons, List.length_nil, List.replicate_succ, List.replicate_zero, Nat.reduceAdd, Nat.reduceSub, List.map_cons, List.map_nil, List.all_cons, List.all_nil, List.any_cons, List.any_nil, Bool.and_true, Bool.true_and, Bool.or_true, Bool.true_or, Bool.false_or, Bool.or_false, Bool.not_true, Bool.not_false, Bool.false_eq_true, if_true, if_false, ite_true, ite_false, true_and, and_true, decide_eq_true_eq, Int.cast_ofNat_Int, decide_true, decide_false, ne_eq, reduceCtorEq, eq_self, not_true_eq_false, not_false_eq_true, false_implies, true_implies, implies_true, true_or, or_true, false_or, or_false, Bool.not_eq_true', decide_eq_false_iff_not, Option.bind_some, Option.bind_none, reduceIte, e_star, e_tupS, e_lstS, e_methA, e_append, e_isLst]
  · have hl2 : ((vs.map D.int).map fun _ => D.bl true).length ≤ sizeLine := by
      rw [List.length_map, List.length_map, sizeLine_eq]
      omega
    simp -dsimp -implicitDefEqProofs only [e_lc, e_wipeN, e_wipeC, e_restN, e_restC, e_getD, e_seq, e_set, e_ret, e_retN, e_if, e_next, e_never, e_bk, e_ct, e_drop, e_asg, e_many, e_setIx, e_for, e_while, e_aug, e_test, e_andT, e_orT, e_notT, e_and, e_or, e_not, e_ifE, e_chain, e_name, e_c, e_op1, e_op2, e_opn, e_cons, e_nil, e_tup, e_lst, e_slice, e_partN, e_partS, e_gName, e_gNil, e_gCons, e_gTup, e_rng1, e_rngA, e_rng2, e_rngB, e_it, e_zip, e_contsN, e_contsC, e_frzsN, e_frzsC, e_normsN, e_normsC, e_normB, e_normF, e_normO, e_manyN, e_manyC, e_outsN, e_outsP, e_outsF, e_outN, e_outF, e_outO, e_ixL, e_ixT, e_ixS, e_yes, e_fn, e_call, e_callM, e_callT, e_listRg, e_sortedSet, ob_some, ob_none, W_ob, W_some, W_none, Int.reduceLT, Int.reduceLE, Int.reduceNeg, Int.reduceAdd, Int.reduceMul, Int.reduceSub, Nat.reduceLT, Nat.reduceLeDiff, Int.reduceToNat, W_ite, andN, ixN_0, ixN_1, ixN_2, ixN_3, at0, at1, at2, at3, isB, gSl, nameR, cont, slotC, setSlot, frz, retR, noBr, updSlot, ownC, zipD, plainE, itemsD, gAdd, gAddI, gSub, e_mulI, gMod, gDiv, gPow, gNeg, gLt, gLe, gGt, gGe, gLen, gAbs, gInt, gMax2, gMin2, gTuple, gList, gIsi, isTy, isNon, gIs, gIsNot, mAppend, headPm, noBrs, solidR, isBr, isLst, List.getElem?_cons_zero, List.getElem?_cons_succ, List.getElem?_nil, List.set_cons_zero, List.set_cons_succ, List.cons_append, List.nil_append, List.length_cons, List.length_nil, List.replicate_succ, List.replicate_zero, Nat.reduceAdd, Nat.reduceSub, List.map_cons, List.map_nil, List.all_cons, List.all_nil, List.any_cons, List.any_nil, Bool.and_true, Bool.true_and, Bool.or_true, Bool.true_or, Bool.false_or, Bool.or_false, Bool.not_true, Bool.not_false, Bool.false_eq_true, if_true, if_false, ite_true, ite_false, true_and, and_true, decide_eq_true_eq, Int.cast_ofNat_Int, decide_true, decide_false, ne_eq, reduceCtorEq, eq_self, not_true_eq_false, not_false_eq_true, false_implies, true_implies, implies_true, true_or, or_true, false_or, or_false, Bool.not_eq_true', decide_eq_false_iff_not, Option.bind_some, Option.bind_none, reduceIte, e_star, e_tupS, e_lstS, e_methA, e_append, e_isLst, hρ, hl2, gAll_true]
/-- a chart of so many rows and columns -/
structure IsChart (t : List (List Int)) (wide : Nat) : Prop where
  rows : 1 ≤ t.length ∧ t.length ≤ 60
  cols : ∀ r ∈ t, r.length = wide
  wd : 1 ≤ wide ∧ wide ≤ 60
  col : ∀ r ∈ t, ∀ v ∈ r, 0 ≤ v ∧ v ≤ 9
theorem chart_ok {t : List (List Int)} {wide : Nat} (h : IsChart t wide) : gLookChart [.fz (tabD t)] = some (.fz .non, [.no]) := by
  refine W.out ?_
  obtain ⟨r1, r2⟩ := h.rows
  obtain ⟨w1, w2⟩ := h.wd
  have a1 : (1 : Int) ≤ (((t.map rowD).length : Nat) : Int) := by rw [List.length_map]; omega
  have a2 : (((t.map rowD).length : Nat) : Int) ≤ 60 := by rw [List.length_map]; omega
  unfold gLookChart bLookChart gChart bChart tabD
  simp -dsimp -implicitDefEqProofs only [e_lc, e_wipeN, e_wipeC, e_restN, e_restC, e_getD, e_seq, e_set, e_ret, e_retN, e_if, e_next, e_never, e_bk, e_ct, e_drop, e_asg, e_many, e_setIx, e_for, e_while, e_aug, e_test, e_andT, e_orT, e_notT, e_and, e_or, e_not, e_ifE, e_chain, e_name, e_c, e_op1, e_op2, e_opn, e_cons, e_nil, e_tup, e_lst, e_slice, e_partN, e_partS, e_gName, e_gNil, e_gCons, e_gTup, e_rng1, e_rngA, e_rng2, e_rngB, e_it, e_zip, e_contsN, e_contsC, e_frzsN, e_frzsC, e_normsN, e_normsC, e_normB, e_normF, e_normO, e_manyN, e_manyC, e_outsN, e_outsP, e_outsF, e_outN, e_outF, e_outO, e_ixL, e_ixT, e_ixS, e_yes, e_fn, e_call, e_callM, e_callT, e_listRg, e_sortedSet, ob_some, ob_none, W_ob, W_some, W_none, Int.reduceLT, Int.reduceLE, Int.reduceNeg, Int.reduceAdd, Int.reduceMul, Int.reduceSub, Nat.reduceLT, Nat.reduceLeDiff, Int.reduceToNat, W_ite, andN, ixN_0, ixN_1, ixN_2, ixN_3, at0, at1, at2, at3, isB, gSl, nameR, cont, slotC, setSlot, frz, retR, noBr, updSlot, ownC, zipD, plainE, itemsD, gAdd, gAddI, gSub, e_mulI, gMod, gDiv, gPow, gNeg, gLt, gLe, gGt, gGe, gLen, gAbs, gInt, gMax2, gMin2, gTuple, gList, gIsi, isTy, isNon, gIs, gIsNot, mAppend, headPm, noBrs, solidR, isBr, isLst, List.getElem?_cons_zero, List.getElem?_cons_succ, List.getElem?_nil, List.set_cons_zero, List.set_cons_succ, List.cons_append, List.nil_append, List.length_cons, List.length_nil, List.replicate_succ, List.replicate_zero, Nat.reduceAdd, Nat.reduceSub, List.map_cons, List.map_nil, List.all_cons, List.all_nil, List.any_cons, List.any_nil, Bool.and_true, Bool.true_and, Bool.or_true, Bool.true_or, Bool.false_or, Bool.or_false, Bool.not_true, Bool.not_false, Bool.false_eq_true, if_true, if_false, ite_true, ite_false, true_and, and_true, decide_eq_true_eq, Int.cast_ofNat_Int, decide_true, decide_false, ne_eq, reduceCtorEq, eq_self, not_true_eq_false, not_false_eq_true, false_implies, true_implies, implies_true, true_or, or_true, false_or, or_false, Bool.not_eq_true', decide_eq_false_iff_not, Option.bind_some, Option.bind_none, reduceIte, e_star, e_tupS, e_lstS, e_methA, e_append, e_isLst, a1, a2]
  have hl2 : ((t.map rowD).map fun _ => D.bl true).length ≤ sizeLine := by
    rw [List.length_map, List.length_map, sizeLine_eq]
    omega
  refine lc_map (fun _ => .bl true) (fun d hd => ?_) fun ρ' hρ => ?_
  · obtain ⟨r, hr, rfl⟩ := List.mem_map.mp hd
    have hc := h.cols r hr
    have b1 : (1 : Int) ≤ (((r.map D.int).length : Nat) : Int) := by rw [List.length_map]; omega
    have b2 : (((r.map D.int).length : Nat) : Int) ≤ 60 := by rw [List.length_map]; omega
    unfold rowD
    simp -dsimp -implicitDefEqProofs only [e_lc, e_wipeN, e_wipeC, e_restN, e_restC, e_getD, e_seq, e_set, e_ret, e_retN, e_if, e_next, e_never, e_bk, e_ct, e_drop, e_asg, e_many, e_setIx, e_for, e_while, e_aug, e_test, e_andT, e_orT, e_notT, e_and, e_or, e_not, e_ifE, e_chain, e_name, e_c, e_op1, e_op2, e_opn, e_cons, e_nil, e_tup, e_lst, e_slice, e_partN, e_partS, e_gName, e_gNil, e_gCons, e_gTup, e_rng1, e_rngA, e_rng2, e_rngB, e_it, e_zip, e_contsN, e_contsC, e_frzsN, e_frzsC, e_normsN, e_normsC, e_normB, e_normF, e_normO, e_manyN, e_manyC, e_outsN, e_outsP, e_outsF, e_outN, e_outF, e_outO, e_ixL, e_ixT, e_ixS, e_yes, e_fn, e_call, e_callM, e_callT, e_listRg, e_sortedSet, ob_some, ob_none, W_ob, W_some, W_none, Int.reduceLT, Int.reduceLE, Int.reduceNeg, Int.reduceAdd, Int.reduceMul, Int.reduceSub, Nat.reduceLT, Nat.reduceLeDiff, Int.reduceToNat, W_ite, andN, ixN_0, ixN_1, ixN_2, ixN_3, at0, at1, at2, at3, isB, gSl, nameR, cont, slotC, setSlot, frz, retR, noBr, updSlot, ownC, zipD, plainE, itemsD, gAdd, gAddI, gSub, e_mulI, gMod, gDiv, gPow, gNeg, gLt, gLe, gGt, gGe, gLen, gAbs, gInt, gMax2, gMin2, gTuple, gList, gIsi, isTy, isNon, gIs, gIsNot, mAppend, headPm, noBrs, solidR, isBr, isLst, List.getElem?_cons_zero, List.getElem?_cons_succ, List.getElem?_nil, List.set_cons_zero, List.set_cons_succ, List.cons_append, List.nil_append, List.length_cons, List.length_nil, List.replicate_succ, List.replicate_zero, Nat.reduceAdd, Nat.reduceSub, List.map_cons, List.map_nil, List.all_cons, List.all_nil, List.any_cons, List.any_nil, Bool.and_true, Bool.true_and, Bool.or_true, Bool.true_or, Bool.false_or, Bool.or_false, Bool.not_true, Bool.not_false, Bool.false_eq_true, if_true, if_false, ite_true, ite_false, true_and, and_true, decide_eq_true_eq, Int.cast_ofNat_Int, decide_true, decide_false, ne_eq, reduceCtorEq, eq_self, not_true_eq_false, not_false_eq_true, false_implies, true_implies, implies_true, true_or, or_true, false_or, or_false, Bool.not_eq_true', decide_eq_false_iff_not, Option.bind_some, Option.bind_none, reduceIte, e_star, e_tupS, e_lstS, e_methA, e_append, e_isLst]
    refine W.eq (areInts_ok (h.col r hr) (by omega)) ?_
    simp -dsimp -implicitDefEqProofs only [e_lc, e_wipeN, e_wipeC, e_restN, e_restC, e_getD, e_seq, e_set, e_ret, e_retN, e_if, e_next, e_never, e_bk, e_ct, e_drop, e_asg, e_many, e_setIx, e_for, e_while, e_aug, e_test, e_andT, e_orT, e_notT, e_and, e_or, e_not, e_ifE, e_chain, e_name, e_c, e_op1, e_op2, e_opn, e_cons, e_nil, e_tup, e_lst, e_slice, e_partN, e_partS, e_gName, e_gNil, e_gCons, e_gTup, e_rng1, e_rngA, e_rng2, e_rngB, e_it, e_zip, e_contsN, e_contsC, e_frzsN, e_frzsC, e_normsN, e_normsC, e_normB, e_normF, e_normO, e_manyN, e_manyC, e_outsN, e_outsP, e_outsF, e_outN, e_outF, e_outO, e_ixL, e_ixT, e_ixS, e_yes, e_fn, e_call, e_callM, e_callT, e_listRg, e_sortedSet, ob_some, ob_none, W_ob, W_some, W_none, Int.reduceLT, Int.reduceLE, Int.reduceNeg, Int.reduceAdd, Int.reduceMul, Int.reduceSub, Nat.reduceLT, Nat.reduceLeDiff, Int.reduceToNat, W_ite, andN, ixN_0, ixN_1, ixN_2, ixN_3, at0, at1, at2, at3, isB, gSl, nameR, cont, slotC, setSlot, frz, retR, noBr, updSlot, ownC, zipD, plainE, itemsD, gAdd, gAddI, gSub, e_mulI, gMod, gDiv, gPow, gNeg, gLt, gLe, gGt, gGe, gLen, gAbs, gInt, gMax2, gMin2, gTuple, gList, gIsi, isTy, isNon, gIs, gIsNot, mAppend, headPm, noBrs, solidR, isBr, isLst, List.getElem?_cons_zero, List.getElem?_cons_succ, List.getElem?_nil, List.set_cons_zero, List.set_cons_succ, List.cons_append, List.nil_append, List.length_cons, List.length_nil, List.replicate_succ, List.replicate_zero, Nat.reduceAdd, Nat.reduceSub, List.map_cons, List.map_nil, List.all_cons, List.all_nil, List.any_cons, List.any_nil, Bool.and_true, Bool.true_and, Bool.or_true, Bool.true_or, Bool.false_or, Bool.or_false, Bool.not_true, Bool.not_false, Bool.false_eq_true, if_true, if_false, ite_true, ite_false, true_and, and_true, decide_eq_true_eq, Int.cast_ofNat_Int, decide_true, decide_false, ne_eq, reduceCtorEq, eq_self, not_true_eq_false, not_false_eq_true, false_implies, true_implies, implies_true, true_or, or_true, false_or, or_false, Bool.not_eq_true', decide_eq_false_iff_not, Option.bind_some, Option.bind_none, reduceIte, e_star, e_tupS, e_lstS, e_methA, e_append, e_isLst, b1, b2]
  · simp -dsimp -implicitDefEqProofs only [e_lc, e_wipeN, e_wipeC, e_restN, e_restC, e_getD, e_seq, e_set, e_ret, e_retN, e_if, e_next, e_never, e_bk, e_ct, e_drop, e_asg, e_many, e_setIx, e_for, e_while, e_aug, e_test, e_andT, e_orT, e_notT, e_and, e_or, e_not, e_ifE, e_chain, e_name, e_c, e_op1, e_op2, e_opn, e_cons, e_nil, e_tup, e_lst, e_slice, e_partN, e_partS, e_gName, e_gNil, e_gCons, e_gTup, e_rng1, e_rngA, e_rng2, e_rngB, e_it, e_zip, e_contsN, e_contsC, e_frzsN, e_frzsC, e_normsN, e_normsC, e_normB, e_normF, e_normO, e_manyN, e_manyC, e_outsN, e_outsP, e_outsF, e_outN, e_outF, e_outO, e_ixL, e_ixT, e_ixS, e_yes, e_fn, e_call, e_callM, e_callT, e_listRg, e_sortedSet, ob_some, ob_none, W_ob, W_some, W_none, Int.reduceLT, Int.reduceLE, Int.reduceNeg, Int.reduceAdd, Int.reduceMul, Int.reduceSub, Nat.reduceLT, Nat.reduceLeDiff, Int.reduceToNat, W_ite, andN, ixN_0, ixN_1, ixN_2, ixN_3, at0, at1, at2, at3, isB, gSl, nameR, cont, slotC, setSlot, frz, retR, noBr, updSlot, ownC, zipD, plainE, itemsD, gAdd, gAddI, gSub, e_mulI, gMod, gDiv, gPow, gNeg, gLt, gLe, gGt, gGe, gLen, gAbs, gInt, gMax2, gMin2, gTuple, gList, gIsi, isTy, isNon, gIs, gIsNot, mAppend, headPm, noBrs, solidR, isBr, isLst, List.getElem?_cons_zero, List.getElem?_cons_succ, List.getElem?_nil, List.set_cons_zero, List.set_cons_succ, List.cons_append, List.nil_append, List.length_cons, List.length_nil, List.replicate_succ, List.replicate_zero, Nat.reduceAdd, Nat.reduceSub, List.map_cons, List.map_nil, List.all_cons, List.all_nil, List.any_cons, List.any_nil, Bool.and_true, Bool.true_and, Bool.or_true, Bool.true_or, Bool.false_or, Bool.or_false, Bool.not_true, Bool.not_false, Bool.false_eq_true, if_true, if_false, ite_true, ite_false, true_and, and_true, decide_eq_true_eq, Int.cast_ofNat_Int, decide_true, decide_false, ne_eq, reduceCtorEq, eq_self, not_true_eq_false, not_false_eq_true, false_implies, true_implies, implies_true, true_or, or_true, false_or, or_false, Bool.not_eq_true', decide_eq_false_iff_not, Option.bind_some, Option.bind_none, reduceIte, e_star, e_tupS, e_lstS, e_methA, e_append, e_isLst, hρ, hl2, gAll_true]
    refine lc_map (fun _ => .bl true) (fun d hd => ?_) fun ρ' hρ => ?_
    · obtain ⟨r, hr, rfl⟩ := List.mem_map.mp hd
      obtain ⟨t0, tr, rfl⟩ : ∃ t0 tr, t = t0 :: tr := by
        cases t with
        | nil => simp at r1
        | cons x y => exact ⟨x, y, rfl⟩
      have e1 : (((r.map D.int).length : Nat) : Int) = (wide : Int) := by rw [List.length_map, h.cols r hr]
      have e2 : (((t0.map D.int).length : Nat) : Int) = (wide : Int) := by rw [List.length_map, h.cols t0 (by simp)]
      have hz : L2.atI (List.map rowD (t0 :: tr)) 0 = some (.tup (t0.map D.int)) := at0
      have hq : gEq (D.int wide) (D.int wide) = some (.fz (.bl true)) := gq_self (by simp [shp])
      unfold rowD at *
      simp -dsimp -implicitDefEqProofs only [e_lc, e_wipeN, e_wipeC, e_restN, e_restC, e_getD, e_seq, e_set, e_ret, e_retN, e_if, e_next, e_never, e_bk, e_ct, e_drop, e_asg, e_many, e_setIx, e_for, e_while, e_aug, e_test, e_andT, e_orT, e_notT, e_and, e_or, e_not, e_ifE, e_chain, e_name, e_c, e_op1, e_op2, e_opn, e_cons, e_nil, e_tup, e_lst, e_slice, e_partN, e_partS, e_gName, e_gNil, e_gCons, e_gTup, e_rng1, e_rngA, e_rng2, e_rngB, e_it, e_zip, e_contsN, e_contsC, e_frzsN, e_frzsC, e_normsN, e_normsC, e_normB, e_normF, e_normO, e_manyN, e_manyC, e_outsN, e_outsP, e_outsF, e_outN, e_outF, e_outO, e_ixL, e_ixT, e_ixS, e_yes, e_fn, e_call, e_callM, e_callT, e_listRg, e_sortedSet, ob_some, ob_none, W_ob, W_some, W_none, Int.reduceLT, Int.reduceLE, Int.reduceNeg, Int.reduceAdd, Int.reduceMul, Int.reduceSub, Nat.reduceLT, Nat.reduceLeDiff, Int.reduceToNat, W_ite, andN, ixN_0, ixN_1, ixN_2, ixN_3, at0, at1, at2, at3, isB, gSl, nameR, cont, slotC, setSlot, frz, retR, noBr, updSlot, ownC, zipD, plainE, itemsD, gAdd, gAddI, gSub, e_mulI, gMod, gDiv, gPow, gNeg, gLt, gLe, gGt, gGe, gLen, gAbs, gInt, gMax2, gMin2, gTuple, gList, gIsi, isTy, isNon, gIs, gIsNot, mAppend, headPm, noBrs, solidR, isBr, isLst, List.getElem?_cons_zero, List.getElem?_cons_succ, List.getElem?_nil, List.set_cons_zero, List.set_cons_succ, List.cons_append, List.nil_append, List.length_cons, List.length_nil, List.replicate_succ, List.replicate_zero, Nat.reduceAdd, Nat.reduceSub, List.map_cons, List.map_nil, List.all_cons, List.all_nil, List.any_cons, List.any_nil, Bool.and_true, Bool.true_and, Bool.or_true, Bool.true_or, Bool.false_or, Bool.or_false, Bool.not_true, Bool.not_false, Bool.false_eq_true, if_true, if_false, ite_true, ite_false, true_and, and_true, decide_eq_true_eq, Int.cast_ofNat_Int, decide_true, decide_false, ne_eq, reduceCtorEq, eq_self, not_true_eq_false, not_false_eq_true, false_implies, true_implies, implies_true, true_or, or_true, false_or, or_false, Bool.not_eq_true', decide_eq_false_iff_not, Option.bind_some, Option.bind_none, reduceIte, e_star, e_tupS, e_lstS, e_methA, e_append, e_isLst, hz, e1, e2, hq]
    · simp -dsimp -implicitDefEqProofs only [e_lc, e_wipeN, e_wipeC, e_restN, e_restC, e_getD, e_seq, e_set, e_ret, e_retN, e_if, e_next, e_never, e_bk, e_ct, e_drop, e_asg, e_many, e_setIx, e_for, e_while, e_aug, e_test, e_andT, e_orT, e_notT, e_and, e_or, e_not, e_ifE, e_chain, e_name, e_c, e_op1, e_op2, e_opn, e_cons, e_nil, e_tup, e_lst, e_slice, e_partN, e_partS, e_gName, e_gNil, e_gCons, e_gTup, e_rng1, e_rngA, e_rng2, e_rngB, e_it, e_zip, e_contsN, e_contsC, e_frzsN, e_frzsC, e_normsN, e_normsC, e_normB, e_normF, e_normO, e_manyN, e_manyC, e_outsN, e_outsP, e_outsF, e_outN, e_outF, e_outO, e_ixL, e_ixT, e_ixS, e_yes, e_fn, e_call, e_callM, e_callT, e_listRg, e_sortedSet, ob_some, ob_none, W_ob, W_some, W_none, Int.reduceLT, Int.reduceLE, Int.reduceNeg, Int.reduceAdd, Int.reduceMul, Int.reduceSub, Nat.reduceLT, Nat.reduceLeDiff, Int.reduceToNat, W_ite, andN, ixN_0, ixN_1, ixN_2, ixN_3, at0, at1, at2, at3, isB, gSl, nameR, cont, slotC, setSlot, frz, retR, noBr, updSlot, ownC, zipD, plainE, itemsD, gAdd, gAddI, gSub, e_mulI, gMod, gDiv, gPow, gNeg, gLt, gLe, gGt, gGe, gLen, gAbs, gInt, gMax2, gMin2, gTuple, gList, gIsi, isTy, isNon, gIs, gIsNot, mAppend, headPm, noBrs, solidR, isBr, isLst, List.getElem?_cons_zero, List.getElem?_cons_succ, List.getElem?_nil, List.set_cons_zero, List.set_cons_succ, List.cons_append, List.nil_append, List.length_cons, List.length_nil, List.replicate_succ, List.replicate_zero, Nat.reduceAdd, Nat.reduceSub, List.map_cons, List.map_nil, List.all_cons, List.all_nil, List.any_cons, List.any_nil, Bool.and_true, Bool.true_and, Bool.or_true, Bool.true_or, Bool.false_or, Bool.or_false, Bool.not_true, Bool.not_false, Bool.false_eq_true, if_true, if_false, ite_true, ite_false, true_and, and_true, decide_eq_true_eq, Int.cast_ofNat_Int, decide_true, decide_false, ne_eq, reduceCtorEq, eq_self, not_true_eq_false, not_false_eq_true, false_implies, true_implies, implies_true, true_or, or_true, false_or, or_false, Bool.not_eq_true', decide_eq_false_iff_not, Option.bind_some, Option.bind_none, reduceIte, e_star, e_tupS, e_lstS, e_methA, e_append, e_isLst, hρ, hl2, gAll_true]

/-! ### tables by a function of row and column -/
def rowF (w : Nat) (g : Int → Int) : List Int := (List.range w).map fun c : Nat => g (c : Int)
def cellH (g : Int → Int) (d : D) : D := match d with
  | .int c => .int (g c)
  | _ => .non
theorem cells_map (w : Nat) (g : Int → Int) : (rngD 0 w).map (cellH g) = (rowF w g).map D.int := by
  unfold rngD rowF
  rw [List.map_map, List.map_map]
  refine List.map_congr_left fun i _ => ?_
  show D.int (g (0 + (i : Int))) = D.int (g i)
  rw [Int.zero_add]
def tabF (n w : Nat) (f : Int → Int → Int) : List (List Int) := (List.range n).map fun r : Nat => rowF w (f (r : Int))
def rowH (w : Nat) (f : Int → Int → Int) (d : D) : D := match d with
  | .int r => rowD (rowF w (f r))
  | _ => .non
theorem rows_map (n w : Nat) (f : Int → Int → Int) : (rngD 0 n).map (rowH w f) = (tabF n w f).map rowD := by
  unfold rngD tabF
  rw [List.map_map, List.map_map]
  refine List.map_congr_left fun i _ => ?_
  show rowD (rowF w (f (0 + (i : Int)))) = rowD (rowF w (f i))
  rw [Int.zero_add]
theorem rowF_len (w : Nat) (g : Int → Int) : (rowF w g).length = w := by
  unfold rowF
  rw [List.length_map, List.length_range]
theorem tabF_len (n w : Nat) (f : Int → Int → Int) : (tabF n w f).length = n := by
  unfold tabF
  rw [List.length_map, List.length_range]
theorem rowF_get {w : Nat} {g : Int → Int} {i : Nat} (hi : i < w) : (rowF w g)[i]? = some (g i) := by
  unfold rowF
  rw [List.getElem?_map, List.getElem?_range hi]
  rfl
theorem tabF_get {n w : Nat} {f : Int → Int → Int} {i : Nat} (hi : i < n) : (tabF n w f)[i]? = some (rowF w (f i)) := by
  unfold tabF
  rw [List.getElem?_map, List.getElem?_range hi]
  rfl
end Pu

/-! Pu20: extend; least and greatest of a list; tables that are the same. -/
namespace Pu
open PySem PySem.Spec PyProof.Rows L2
theorem e_extend {i : Nat} {x : DE} {ρ : En} : dExtend i x ρ = ob (ownC i ρ) fun c => if isLst c = true then ob (x ρ) fun q => match q.1 with
  | .ow (.lst ys) => ob (ownC i q.2) fun d => match d with
    | .lst xs => if xs.length + ys.length ≤ sizeLine then ob (updSlot i (.lst (xs ++ ys)) q.2) fun ρ' => some (.fz .non, ρ') else none
    | _ => none
  | _ => none else none := rfl
theorem intsD_of : ∀ {ds : List D}, (∀ d ∈ ds, ∃ x : Int, d = .int x) → ∃ ns : List Int, intsD ds = some ns ∧ ds = ns.map D.int
  | [], _ => ⟨[], rfl, rfl⟩
  | d :: r, h => by
    obtain ⟨x, e⟩ := h d (by simp)
    subst e
    obtain ⟨ns, e1, e2⟩ := intsD_of (ds := r) fun d hd => h d (List.mem_cons_of_mem _ hd)
    refine ⟨x :: ns, ?_, by rw [e2]; rfl⟩
    show (intsD r).bind _ = _
    rw [e1]
    rfl
theorem foldl_min : ∀ (ns : List Int) (a : Int), (ns.foldl (fun a b => if b < a then b else a) a ∈ a :: ns) ∧ ∀ x ∈ a :: ns, ns.foldl (fun a b => if b < a then b else a) a ≤ x
  | [], a => ⟨by simp, by simp⟩
  | b :: r, a => by
    obtain ⟨h1, h2⟩ := foldl_min r (if b < a then b else a)
    rw [List.foldl_cons]
    generalize hm : r.foldl (fun a b => if b < a then b else a) (if b < a then b else a) = m at *
    have hle := h2 (if b < a then b else a) (by simp)
    refine ⟨?_, fun x hx => ?_⟩
    · rcases List.mem_cons.mp h1 with z | z
      · rw [z]
        split <;> simp
      · simp [z]
    · rcases List.mem_cons.mp hx with z | z
      · subst z
        split at hle <;> omega
      · rcases List.mem_cons.mp z with z | z
        · subst z
          split at hle <;> omega
        · exact h2 x (by simp [z])
theorem foldl_max : ∀ (ns : List Int) (a : Int), (ns.foldl (fun a b => if b > a then b else a) a ∈ a :: ns) ∧ ∀ x ∈ a :: ns, x ≤ ns.foldl (fun a b => if b > a then b else a) a
  | [], a => ⟨by simp, by simp⟩
  | b :: r, a => by
    obtain ⟨h1, h2⟩ := foldl_max r (if b > a then b else a)
    rw [List.foldl_cons]
    generalize hm : r.foldl (fun a b => if b > a then b else a) (if b > a then b else a) = m at *
    have hle := h2 (if b > a then b else a) (by simp)
    refine ⟨?_, fun x hx => ?_⟩
    · rcases List.mem_cons.mp h1 with z | z
      · rw [z]
        split <;> simp
      · simp [z]
    · rcases List.mem_cons.mp hx with z | z
      · subst z
        split at hle <;> omega
      · rcases List.mem_cons.mp z with z | z
        · subst z
          split at hle <;> omega
        · exact h2 x (by simp [z])
theorem gMin_of {ds : List D} {m : Int} (h : D.int m ∈ ds) (hl : ∀ d ∈ ds, ∃ x : Int, d = .int x ∧ m ≤ x) : gMin [.lst ds] = some (.fz (.int m)) := by
  obtain ⟨ns, e1, rfl⟩ := intsD_of fun d hd => (hl d hd).imp fun x hx => hx.1
  show ((intsD _).bind _) = _
  rw [e1, Option.bind_some]
  cases ns with
  | nil => simp at h
  | cons a r =>
    show some (Res.fz (.int _)) = _
    obtain ⟨h1, h2⟩ := foldl_min r a
    obtain ⟨x, ex, hx⟩ := hl (.int (r.foldl (fun a b => if b < a then b else a) a)) (List.mem_map.mpr ⟨_, h1, rfl⟩)
    obtain ⟨y, hy, ey⟩ := List.mem_map.mp h
    cases ey
    cases ex
    have := h2 m hy
    have e : r.foldl (fun a b => if b < a then b else a) a = m := by omega
    rw [e]
theorem gMax_of {ds : List D} {m : Int} (h : D.int m ∈ ds) (hl : ∀ d ∈ ds, ∃ x : Int, d = .int x ∧ x ≤ m) : gMax [.lst ds] = some (.fz (.int m)) := by
  obtain ⟨ns, e1, rfl⟩ := intsD_of fun d hd => (hl d hd).imp fun x hx => hx.1
  show ((intsD _).bind _) = _
  rw [e1, Option.bind_some]
  cases ns with
  | nil => simp at h
  | cons a r =>
    show some (Res.fz (.int _)) = _
    obtain ⟨h1, h2⟩ := foldl_max r a
    obtain ⟨x, ex, hx⟩ := hl (.int (r.foldl (fun a b => if b > a then b else a) a)) (List.mem_map.mpr ⟨_, h1, rfl⟩)
    obtain ⟨y, hy, ey⟩ := List.mem_map.mp h
    cases ey
    cases ex
    have := h2 m hy
    have e : r.foldl (fun a b => if b > a then b else a) a = m := by omega
    rw [e]
theorem flat_len {α β : Type} {f : α → List β} {k : Nat} : ∀ {xs : List α}, (∀ x ∈ xs, (f x).length ≤ k) → (xs.flatMap f).length ≤ xs.length * k
  | [], _ => by simp
  | x :: r, h => by
    have h1 := h x (by simp)
    have h2 := flat_len (f := f) (k := k) (xs := r) fun y hy => h y (List.mem_cons_of_mem _ hy)
    rw [List.flatMap_cons, List.length_append, List.length_cons, Nat.succ_mul]
    omega
theorem rowF_ext {w : Nat} {f g : Int → Int} : rowF w f = rowF w g ↔ ∀ c : Nat, c < w → f c = g c := by
  constructor
  · intro h c hc
    have := congrArg (·[c]?) h
    simp only [rowF_get hc] at this
    exact Option.some.inj this
  · intro h
    unfold rowF
    exact List.map_congr_left fun i hi => h i (List.mem_range.mp hi)
theorem tabF_ext {n w : Nat} {f g : Int → Int → Int} : tabF n w f = tabF n w g ↔ ∀ r c : Nat, r < n → c < w → f r c = g r c := by
  constructor
  · intro h r c hr hc
    have := congrArg (·[r]?) h
    simp only [tabF_get hr] at this
    exact rowF_ext.mp (Option.some.inj this) c hc
  · intro h
    unfold tabF
    exact List.map_congr_left fun i hi => rowF_ext.mpr fun c hc => h i c (List.mem_range.mp hi) hc
theorem strOk_of (s : String) : PyData.strOk (Str.ofString s) = true := by
  rw [Str.ofString_eq_toList]
  unfold PyData.strOk
  rw [List.all_toArray, List.all_map, List.all_eq_true]
  intro c _
  refine decide_eq_true ?_
  show c.toNat < 0x110000
  have h : c.toNat < 0xd800 ∨ (0xdfff < c.toNat ∧ c.toNat < 0x110000) := c.valid
  omega
theorem shp_str (n : Nat) (s : String) : shp n (.str (Str.ofString s)) = true := by
  have h : (PyData.str (Str.ofString s)).canLay0 = true := by
    unfold PyData.canLay0
    exact strOk_of s
  cases n <;> simp [shp, h]
end Pu

/-! Pu21: what laws share: the common measure, one of some, is_told, words compared. -/
namespace Pu
open PySem PySem.Spec PyProof.Rows L2
def bPart : DS := dSeq (dWhile 10000000000000000000000000000000000000000 (dTest (dOp2 gNe (dName 1) (dC (.int 0)))) (dMany [0, 1] (dCons (dName 1) (dCons (dOp2 gMod (dName 0) (dName 1)) (dNil))))) (dRet (dName 0))
def gPart : Fn := fnD 2 bPart
def mDn (R : Int) (i : Nat) (ρ : En) : Nat := match ρ[i]? with
  | some (.fz (.int x)) => (R - x).natAbs
  | _ => 0
theorem gcd_ok {a b : Int} (ha : 0 ≤ a) (hb : 0 ≤ b) (hb2 : b ≤ 1000000000000000) : gPart [.fz (.int a), .fz (.int b)] = some (.fz (.int (Int.gcd a b : Nat)), [.no, .no]) := by
  refine W.out ?_
  obtain ⟨a', rfl⟩ := Int.eq_ofNat_of_zero_le ha
  obtain ⟨b', rfl⟩ := Int.eq_ofNat_of_zero_le hb
  unfold gPart bPart
  simp -dsimp -implicitDefEqProofs only [e_lc, e_wipeN, e_wipeC, e_restN, e_restC, e_getD, e_seq, e_set, e_ret, e_retN, e_if, e_next, e_never, e_bk, e_ct, e_drop, e_asg, e_many, e_setIx, e_for, e_while, e_aug, e_test, e_andT, e_orT, e_notT, e_and, e_or, e_not, e_ifE, e_chain, e_name, e_c, e_op1, e_op2, e_opn, e_cons, e_nil, e_tup, e_lst, e_slice, e_partN, e_partS, e_gName, e_gNil, e_gCons, e_gTup, e_rng1, e_rngA, e_rng2, e_rngB, e_it, e_zip, e_contsN, e_contsC, e_frzsN, e_frzsC, e_normsN, e_normsC, e_normB, e_normF, e_normO, e_manyN, e_manyC, e_outsN, e_outsP, e_outsF, e_outN, e_outF, e_outO, e_ixL, e_ixT, e_ixS, e_yes, e_fn, e_call, e_callM, e_callT, e_listRg, e_sortedSet, ob_some, ob_none, W_ob, W_some, W_none, Int.reduceLT, Int.reduceLE, Int.reduceNeg, Int.reduceAdd, Int.reduceMul, Int.reduceSub, Nat.reduceLT, Nat.reduceLeDiff, Int.reduceToNat, W_ite, andN, ixN_0, ixN_1, ixN_2, ixN_3, at0, at1, at2, at3, isB, gSl, nameR, cont, slotC, setSlot, frz, retR, noBr, updSlot, ownC, zipD, plainE, itemsD, gAdd, gAddI, gSub, e_mulI, gMod, gDiv, gPow, gNeg, gLt, gLe, gGt, gGe, gLen, gAbs, gInt, gMax2, gMin2, gTuple, gList, gIsi, isTy, isNon, gIs, gIsNot, mAppend, headPm, noBrs, solidR, isBr, isLst, List.getElem?_cons_zero, List.getElem?_cons_succ, List.getElem?_nil, List.set_cons_zero, List.set_cons_succ, List.cons_append, List.nil_append, List.length_cons, List.length_nil, List.replicate_succ, List.replicate_zero, Nat.reduceAdd, Nat.reduceSub, List.map_cons, List.map_nil, List.all_cons, List.all_nil, List.any_cons, List.any_nil, Bool.and_true, Bool.true_and, Bool.or_true, Bool.true_or, Bool.false_or, Bool.or_false, Bool.not_true, Bool.not_false, Bool.false_eq_true, if_true, if_false, ite_true, ite_false, true_and, and_true, decide_eq_true_eq, Int.cast_ofNat_Int, decide_true, decide_false, ne_eq, reduceCtorEq, eq_self, not_true_eq_false, not_false_eq_true, false_implies, true_implies, implies_true, true_or, or_true, false_or, or_false, Bool.not_eq_true', decide_eq_false_iff_not, Option.bind_some, Option.bind_none, reduceIte, e_star, e_tupS, e_lstS, e_methA, e_append, e_isLst, e_extend]
  refine while_inv (fun ρ => ∃ x y : Nat, ρ = [.fz (.int x), .fz (.int y)] ∧ Nat.gcd x y = Int.gcd a' b') (mDn 0 1) (fun ρ ⟨x, y, e, h1⟩ => ?_) 10000000000000000000000000000000000000000 _ ⟨a', b', rfl, rfl⟩ ?_
  · subst e
    simp -dsimp -implicitDefEqProofs only [e_lc, e_wipeN, e_wipeC, e_restN, e_restC, e_getD, e_seq, e_set, e_ret, e_retN, e_if, e_next, e_never, e_bk, e_ct, e_drop, e_asg, e_many, e_setIx, e_for, e_while, e_aug, e_test, e_andT, e_orT, e_notT, e_and, e_or, e_not, e_ifE, e_chain, e_name, e_c, e_op1, e_op2, e_opn, e_cons, e_nil, e_tup, e_lst, e_slice, e_partN, e_partS, e_gName, e_gNil, e_gCons, e_gTup, e_rng1, e_rngA, e_rng2, e_rngB, e_it, e_zip, e_contsN, e_contsC, e_frzsN, e_frzsC, e_normsN, e_normsC, e_normB, e_normF, e_normO, e_manyN, e_manyC, e_outsN, e_outsP, e_outsF, e_outN, e_outF, e_outO, e_ixL, e_ixT, e_ixS, e_yes, e_fn, e_call, e_callM, e_callT, e_listRg, e_sortedSet, ob_some, ob_none, W_ob, W_some, W_none, Int.reduceLT, Int.reduceLE, Int.reduceNeg, Int.reduceAdd, Int.reduceMul, Int.reduceSub, Nat.reduceLT, Nat.reduceLeDiff, Int.reduceToNat, W_ite, andN, ixN_0, ixN_1, ixN_2, ixN_3, at0, at1, at2, at3, isB, gSl, nameR, cont, slotC, setSlot, frz, retR, noBr, updSlot, ownC, zipD, plainE, itemsD, gAdd, gAddI, gSub, e_mulI, gMod, gDiv, gPow, gNeg, gLt, gLe, gGt, gGe, gLen, gAbs, gInt, gMax2, gMin2, gTuple, gList, gIsi, isTy, isNon, gIs, gIsNot, mAppend, headPm, noBrs, solidR, isBr, isLst, List.getElem?_cons_zero, List.getElem?_cons_succ, List.getElem?_nil, List.set_cons_zero, List.set_cons_succ, List.cons_append, List.nil_append, List.length_cons, List.length_nil, List.replicate_succ, List.replicate_zero, Nat.reduceAdd, Nat.reduceSub, List.map_cons, List.map_nil, List.all_cons, List.all_nil, List.any_cons, List.any_nil, Bool.and_true, Bool.true_and, Bool.or_true, Bool.true_or, Bool.false_or, Bool.or_false, Bool.not_true, Bool.not_false, Bool.false_eq_true, if_true, if_false, ite_true, ite_false, true_and, and_true, decide_eq_true_eq, Int.cast_ofNat_Int, decide_true, decide_false, ne_eq, reduceCtorEq, eq_self, not_true_eq_false, not_false_eq_true, false_implies, true_implies, implies_true, true_or, or_true, false_or, or_false, Bool.not_eq_true', decide_eq_false_iff_not, Option.bind_some, Option.bind_none, reduceIte, e_star, e_tupS, e_lstS, e_methA, e_append, e_isLst, e_extend, gn_int]
    refine ⟨fun hy => ⟨by omega, ⟨y, x % y, ?_, ?_⟩, ?_⟩, fun hy => ?_⟩
    · rw [Int.natCast_emod]
    · rw [Nat.gcd_comm, ← Nat.gcd_rec, Nat.gcd_comm] <;> exact h1
    · show (0 - (x : Int) % (y : Int)).natAbs < (0 - (y : Int)).natAbs
      have := Int.emod_lt_of_pos (x : Int) (show (0 : Int) < y by omega)
      have := Int.emod_nonneg (x : Int) (show (y : Int) ≠ 0 by omega)
      omega
    · have e : y = 0 := by omega
      subst e
      rw [Nat.gcd_zero_right] at h1
      rw [h1]
  · show (0 - (b' : Int)).natAbs < 10000000000000000000000000000000000000000
    omega
/-! ### one of some -/
def bOf : DS := dRet (dOp2 gIx (dName 1) (dCallM gTake 0 (dCons (dOpn gLen (dCons (dName 1) (dNil))) (dNil))))
def gOf : Fn := fnD 2 bOf
theorem ofL_ok {n : Nat} {d : D} {ds : List D} (hp : Pot n d) (hn : n ≤ 1000000) (h0 : ds ≠ []) (h1 : ds.length ≤ 1000000) :
    W (gOf [.pm d, .fz (.lst ds)]) (fun w => ∃ x d', w = (.fz x, [.pm d', .no]) ∧ x ∈ ds ∧ Pot (n + 1) d') := by
  have hl : 1 ≤ ds.length := List.length_pos_iff.mpr h0
  unfold gOf bOf
  simp -dsimp -implicitDefEqProofs only [e_lc, e_wipeN, e_wipeC, e_restN, e_restC, e_getD, e_seq, e_set, e_ret, e_retN, e_if, e_next, e_never, e_bk, e_ct, e_drop, e_asg, e_many, e_setIx, e_for, e_while, e_aug, e_test, e_andT, e_orT, e_notT, e_and, e_or, e_not, e_ifE, e_chain, e_name, e_c, e_op1, e_op2, e_opn, e_cons, e_nil, e_tup, e_lst, e_slice, e_partN, e_partS, e_gName, e_gNil, e_gCons, e_gTup, e_rng1, e_rngA, e_rng2, e_rngB, e_it, e_zip, e_contsN, e_contsC, e_frzsN, e_frzsC, e_normsN, e_normsC, e_normB, e_normF, e_normO, e_manyN, e_manyC, e_outsN, e_outsP, e_outsF, e_outN, e_outF, e_outO, e_ixL, e_ixT, e_ixS, e_yes, e_fn, e_call, e_callM, e_callT, e_listRg, e_sortedSet, ob_some, ob_none, W_ob, W_some, W_none, Int.reduceLT, Int.reduceLE, Int.reduceNeg, Int.reduceAdd, Int.reduceMul, Int.reduceSub, Nat.reduceLT, Nat.reduceLeDiff, Int.reduceToNat, W_ite, andN, ixN_0, ixN_1, ixN_2, ixN_3, at0, at1, at2, at3, isB, gSl, nameR, cont, slotC, setSlot, frz, retR, noBr, updSlot, ownC, zipD, plainE, itemsD, gAdd, gAddI, gSub, e_mulI, gMod, gDiv, gPow, gNeg, gLt, gLe, gGt, gGe, gLen, gAbs, gInt, gMax2, gMin2, gTuple, gList, gIsi, isTy, isNon, gIs, gIsNot, mAppend, headPm, noBrs, solidR, isBr, isLst, List.getElem?_cons_zero, List.getElem?_cons_succ, List.getElem?_nil, List.set_cons_zero, List.set_cons_succ, List.cons_append, List.nil_append, List.length_cons, List.length_nil, List.replicate_succ, List.replicate_zero, Nat.reduceAdd, Nat.reduceSub, List.map_cons, List.map_nil, List.all_cons, List.all_nil, List.any_cons, List.any_nil, Bool.and_true, Bool.true_and, Bool.or_true, Bool.true_or, Bool.false_or, Bool.or_false, Bool.not_true, Bool.not_false, Bool.false_eq_true, if_true, if_false, ite_true, ite_false, true_and, and_true, decide_eq_true_eq, Int.cast_ofNat_Int, decide_true, decide_false, ne_eq, reduceCtorEq, eq_self, not_true_eq_false, not_false_eq_true, false_implies, true_implies, implies_true, true_or, or_true, false_or, or_false, Bool.not_eq_true', decide_eq_false_iff_not, Option.bind_some, Option.bind_none, reduceIte, e_star, e_tupS, e_lstS, e_methA, e_append, e_isLst, e_extend]
  refine (take_spec hp (by omega) (by omega) (by omega)).mono fun w ⟨x, d', e, a1, a2, p⟩ => ?_
  subst e
  simp -dsimp -implicitDefEqProofs only [e_lc, e_wipeN, e_wipeC, e_restN, e_restC, e_getD, e_seq, e_set, e_ret, e_retN, e_if, e_next, e_never, e_bk, e_ct, e_drop, e_asg, e_many, e_setIx, e_for, e_while, e_aug, e_test, e_andT, e_orT, e_notT, e_and, e_or, e_not, e_ifE, e_chain, e_name, e_c, e_op1, e_op2, e_opn, e_cons, e_nil, e_tup, e_lst, e_slice, e_partN, e_partS, e_gName, e_gNil, e_gCons, e_gTup, e_rng1, e_rngA, e_rng2, e_rngB, e_it, e_zip, e_contsN, e_contsC, e_frzsN, e_frzsC, e_normsN, e_normsC, e_normB, e_normF, e_normO, e_manyN, e_manyC, e_outsN, e_outsP, e_outsF, e_outN, e_outF, e_outO, e_ixL, e_ixT, e_ixS, e_yes, e_fn, e_call, e_callM, e_callT, e_listRg, e_sortedSet, ob_some, ob_none, W_ob, W_some, W_none, Int.reduceLT, Int.reduceLE, Int.reduceNeg, Int.reduceAdd, Int.reduceMul, Int.reduceSub, Nat.reduceLT, Nat.reduceLeDiff, Int.reduceToNat, W_ite, andN, ixN_0, ixN_1, ixN_2, ixN_3, at0, at1, at2, at3, isB, gSl, nameR, cont, slotC, setSlot, frz, retR, noBr, updSlot, ownC, zipD, plainE, itemsD, gAdd, gAddI, gSub, e_mulI, gMod, gDiv, gPow, gNeg, gLt, gLe, gGt, gGe, gLen, gAbs, gInt, gMax2, gMin2, gTuple, gList, gIsi, isTy, isNon, gIs, gIsNot, mAppend, headPm, noBrs, solidR, isBr, isLst, List.getElem?_cons_zero, List.getElem?_cons_succ, List.getElem?_nil, List.set_cons_zero, List.set_cons_succ, List.cons_append, List.nil_append, List.length_cons, List.length_nil, List.replicate_succ, List.replicate_zero, Nat.reduceAdd, Nat.reduceSub, List.map_cons, List.map_nil, List.all_cons, List.all_nil, List.any_cons, List.any_nil, Bool.and_true, Bool.true_and, Bool.or_true, Bool.true_or, Bool.false_or, Bool.or_false, Bool.not_true, Bool.not_false, Bool.false_eq_true, if_true, if_false, ite_true, ite_false, true_and, and_true, decide_eq_true_eq, Int.cast_ofNat_Int, decide_true, decide_false, ne_eq, reduceCtorEq, eq_self, not_true_eq_false, not_false_eq_true, false_implies, true_implies, implies_true, true_or, or_true, false_or, or_false, Bool.not_eq_true', decide_eq_false_iff_not, Option.bind_some, Option.bind_none, reduceIte, e_star, e_tupS, e_lstS, e_methA, e_append, e_isLst, e_extend]
  obtain ⟨k, rfl⟩ := Int.eq_ofNat_of_zero_le a1
  have hk : k < ds.length := by omega
  refine W.eq (at_get rfl (List.getElem?_eq_getElem hk)) ?_
  simp -dsimp -implicitDefEqProofs only [e_lc, e_wipeN, e_wipeC, e_restN, e_restC, e_getD, e_seq, e_set, e_ret, e_retN, e_if, e_next, e_never, e_bk, e_ct, e_drop, e_asg, e_many, e_setIx, e_for, e_while, e_aug, e_test, e_andT, e_orT, e_notT, e_and, e_or, e_not, e_ifE, e_chain, e_name, e_c, e_op1, e_op2, e_opn, e_cons, e_nil, e_tup, e_lst, e_slice, e_partN, e_partS, e_gName, e_gNil, e_gCons, e_gTup, e_rng1, e_rngA, e_rng2, e_rngB, e_it, e_zip, e_contsN, e_contsC, e_frzsN, e_frzsC, e_normsN, e_normsC, e_normB, e_normF, e_normO, e_manyN, e_manyC, e_outsN, e_outsP, e_outsF, e_outN, e_outF, e_outO, e_ixL, e_ixT, e_ixS, e_yes, e_fn, e_call, e_callM, e_callT, e_listRg, e_sortedSet, ob_some, ob_none, W_ob, W_some, W_none, Int.reduceLT, Int.reduceLE, Int.reduceNeg, Int.reduceAdd, Int.reduceMul, Int.reduceSub, Nat.reduceLT, Nat.reduceLeDiff, Int.reduceToNat, W_ite, andN, ixN_0, ixN_1, ixN_2, ixN_3, at0, at1, at2, at3, isB, gSl, nameR, cont, slotC, setSlot, frz, retR, noBr, updSlot, ownC, zipD, plainE, itemsD, gAdd, gAddI, gSub, e_mulI, gMod, gDiv, gPow, gNeg, gLt, gLe, gGt, gGe, gLen, gAbs, gInt, gMax2, gMin2, gTuple, gList, gIsi, isTy, isNon, gIs, gIsNot, mAppend, headPm, noBrs, solidR, isBr, isLst, List.getElem?_cons_zero, List.getElem?_cons_succ, List.getElem?_nil, List.set_cons_zero, List.set_cons_succ, List.cons_append, List.nil_append, List.length_cons, List.length_nil, List.replicate_succ, List.replicate_zero, Nat.reduceAdd, Nat.reduceSub, List.map_cons, List.map_nil, List.all_cons, List.all_nil, List.any_cons, List.any_nil, Bool.and_true, Bool.true_and, Bool.or_true, Bool.true_or, Bool.false_or, Bool.or_false, Bool.not_true, Bool.not_false, Bool.false_eq_true, if_true, if_false, ite_true, ite_false, true_and, and_true, decide_eq_true_eq, Int.cast_ofNat_Int, decide_true, decide_false, ne_eq, reduceCtorEq, eq_self, not_true_eq_false, not_false_eq_true, false_implies, true_implies, implies_true, true_or, or_true, false_or, or_false, Bool.not_eq_true', decide_eq_false_iff_not, Option.bind_some, Option.bind_none, reduceIte, e_star, e_tupS, e_lstS, e_methA, e_append, e_isLst, e_extend]
  exact ⟨_, d', rfl, List.getElem_mem hk, p⟩
theorem ofT_ok {n : Nat} {d : D} {ds : List D} (hp : Pot n d) (hn : n ≤ 1000000) (h0 : ds ≠ []) (h1 : ds.length ≤ 1000000) :
    W (gOf [.pm d, .fz (.tup ds)]) (fun w => ∃ x d', w = (.fz x, [.pm d', .no]) ∧ x ∈ ds ∧ Pot (n + 1) d') := by
  have hl : 1 ≤ ds.length := List.length_pos_iff.mpr h0
  unfold gOf bOf
  simp -dsimp -implicitDefEqProofs only [e_lc, e_wipeN, e_wipeC, e_restN, e_restC, e_getD, e_seq, e_set, e_ret, e_retN, e_if, e_next, e_never, e_bk, e_ct, e_drop, e_asg, e_many, e_setIx, e_for, e_while, e_aug, e_test, e_andT, e_orT, e_notT, e_and, e_or, e_not, e_ifE, e_chain, e_name, e_c, e_op1, e_op2, e_opn, e_cons, e_nil, e_tup, e_lst, e_slice, e_partN, e_partS, e_gName, e_gNil, e_gCons, e_gTup, e_rng1, e_rngA, e_rng2, e_rngB, e_it, e_zip, e_contsN, e_contsC, e_frzsN, e_frzsC, e_normsN, e_normsC, e_normB, e_normF, e_normO, e_manyN, e_manyC, e_outsN, e_outsP, e_outsF, e_outN, e_outF, e_outO, e_ixL, e_ixT, e_ixS, e_yes, e_fn, e_call, e_callM, e_callT, e_listRg, e_sortedSet, ob_some, ob_none, W_ob, W_some, W_none, Int.reduceLT, Int.reduceLE, Int.reduceNeg, Int.reduceAdd, Int.reduceMul, Int.reduceSub, Nat.reduceLT, Nat.reduceLeDiff, Int.reduceToNat, W_ite, andN, ixN_0, ixN_1, ixN_2, ixN_3, at0, at1, at2, at3, isB, gSl, nameR, cont, slotC, setSlot, frz, retR, noBr, updSlot, ownC, zipD, plainE, itemsD, gAdd, gAddI, gSub, e_mulI, gMod, gDiv, gPow, gNeg, gLt, gLe, gGt, gGe, gLen, gAbs, gInt, gMax2, gMin2, gTuple, gList, gIsi, isTy, isNon, gIs, gIsNot, mAppend, headPm, noBrs, solidR, isBr, isLst, List.getElem?_cons_zero, List.getElem?_cons_succ, List.getElem?_nil, List.set_cons_zero, List.set_cons_succ, List.cons_append, List.nil_append, List.length_cons, List.length_nil, List.replicate_succ, List.replicate_zero, Nat.reduceAdd, Nat.reduceSub, List.map_cons, List.map_nil, List.all_cons, List.all_nil, List.any_cons, List.any_nil, Bool.and_true, Bool.true_and, Bool.or_true, Bool.true_or, Bool.false_or, Bool.or_false, Bool.not_true, Bool.not_false, Bool.false_eq_true, if_true, if_false, ite_true, ite_false, true_and, and_true, decide_eq_true_eq, Int.cast_ofNat_Int, decide_true, decide_false, ne_eq, reduceCtorEq, eq_self, not_true_eq_false, not_false_eq_true, false_implies, true_implies, implies_true, true_or, or_true, false_or, or_false, Bool.not_eq_true', decide_eq_false_iff_not, Option.bind_some, Option.bind_none, reduceIte, e_star, e_tupS, e_lstS, e_methA, e_append, e_isLst, e_extend]
  refine (take_spec hp (by omega) (by omega) (by omega)).mono fun w ⟨x, d', e, a1, a2, p⟩ => ?_
  subst e
  simp -dsimp -implicitDefEqProofs only [e_lc, e_wipeN, e_wipeC, e_restN, e_restC, e_getD, e_seq, e_set, e_ret, e_retN, e_if, e_next, e_never, e_bk, e_ct, e_drop, e_asg, e_many, e_setIx, e_for, e_while, e_aug, e_test, e_andT, e_orT, e_notT, e_and, e_or, e_not, e_ifE, e_chain, e_name, e_c, e_op1, e_op2, e_opn, e_cons, e_nil, e_tup, e_lst, e_slice, e_partN, e_partS, e_gName, e_gNil, e_gCons, e_gTup, e_rng1, e_rngA, e_rng2, e_rngB, e_it, e_zip, e_contsN, e_contsC, e_frzsN, e_frzsC, e_normsN, e_normsC, e_normB, e_normF, e_normO, e_manyN, e_manyC, e_outsN, e_outsP, e_outsF, e_outN, e_outF, e_outO, e_ixL, e_ixT, e_ixS, e_yes, e_fn, e_call, e_callM, e_callT, e_listRg, e_sortedSet, ob_some, ob_none, W_ob, W_some, W_none, Int.reduceLT, Int.reduceLE, Int.reduceNeg, Int.reduceAdd, Int.reduceMul, Int.reduceSub, Nat.reduceLT, Nat.reduceLeDiff, Int.reduceToNat, W_ite, andN, ixN_0, ixN_1, ixN_2, ixN_3, at0, at1, at2, at3, isB, gSl, nameR, cont, slotC, setSlot, frz, retR, noBr, updSlot, ownC, zipD, plainE, itemsD, gAdd, gAddI, gSub, e_mulI, gMod, gDiv, gPow, gNeg, gLt, gLe, gGt, gGe, gLen, gAbs, gInt, gMax2, gMin2, gTuple, gList, gIsi, isTy, isNon, gIs, gIsNot, mAppend, headPm, noBrs, solidR, isBr, isLst, List.getElem?_cons_zero, List.getElem?_cons_succ, List.getElem?_nil, List.set_cons_zero, List.set_cons_succ, List.cons_append, List.nil_append, List.length_cons, List.length_nil, List.replicate_succ, List.replicate_zero, Nat.reduceAdd, Nat.reduceSub, List.map_cons, List.map_nil, List.all_cons, List.all_nil, List.any_cons, List.any_nil, Bool.and_true, Bool.true_and, Bool.or_true, Bool.true_or, Bool.false_or, Bool.or_false, Bool.not_true, Bool.not_false, Bool.false_eq_true, if_true, if_false, ite_true, ite_false, true_and, and_true, decide_eq_true_eq, Int.cast_ofNat_Int, decide_true, decide_false, ne_eq, reduceCtorEq, eq_self, not_true_eq_false, not_false_eq_true, false_implies, true_implies, implies_true, true_or, or_true, false_or, or_false, Bool.not_eq_true', decide_eq_false_iff_not, Option.bind_some, Option.bind_none, reduceIte, e_star, e_tupS, e_lstS, e_methA, e_append, e_isLst, e_extend]
  obtain ⟨k, rfl⟩ := Int.eq_ofNat_of_zero_le a1
  have hk : k < ds.length := by omega
  refine W.eq (at_get rfl (List.getElem?_eq_getElem hk)) ?_
  simp -dsimp -implicitDefEqProofs only [e_lc, e_wipeN, e_wipeC, e_restN, e_restC, e_getD, e_seq, e_set, e_ret, e_retN, e_if, e_next, e_never, e_bk, e_ct, e_drop, e_asg, e_many, e_setIx, e_for, e_while, e_aug, e_test, e_andT, e_orT, e_notT, e_and, e_or, e_not, e_ifE, e_chain, e_name, e_c, e_op1, e_op2, e_opn, e_cons, e_nil, e_tup, e_lst, e_slice, e_partN, e_partS, e_gName, e_gNil, e_gCons, e_gTup, e_rng1, e_rngA, e_rng2, e_rngB, e_it, e_zip, e_contsN, e_contsC, e_frzsN, e_frzsC, e_normsN, e_normsC, e_normB, e_normF, e_normO, e_manyN, e_manyC, e_outsN, e_outsP, e_outsF, e_outN, e_outF, e_outO, e_ixL, e_ixT, e_ixS, e_yes, e_fn, e_call, e_callM, e_callT, e_listRg, e_sortedSet, ob_some, ob_none, W_ob, W_some, W_none, Int.reduceLT, Int.reduceLE, Int.reduceNeg, Int.reduceAdd, Int.reduceMul, Int.reduceSub, Nat.reduceLT, Nat.reduceLeDiff, Int.reduceToNat, W_ite, andN, ixN_0, ixN_1, ixN_2, ixN_3, at0, at1, at2, at3, isB, gSl, nameR, cont, slotC, setSlot, frz, retR, noBr, updSlot, ownC, zipD, plainE, itemsD, gAdd, gAddI, gSub, e_mulI, gMod, gDiv, gPow, gNeg, gLt, gLe, gGt, gGe, gLen, gAbs, gInt, gMax2, gMin2, gTuple, gList, gIsi, isTy, isNon, gIs, gIsNot, mAppend, headPm, noBrs, solidR, isBr, isLst, List.getElem?_cons_zero, List.getElem?_cons_succ, List.getElem?_nil, List.set_cons_zero, List.set_cons_succ, List.cons_append, List.nil_append, List.length_cons, List.length_nil, List.replicate_succ, List.replicate_zero, Nat.reduceAdd, Nat.reduceSub, List.map_cons, List.map_nil, List.all_cons, List.all_nil, List.any_cons, List.any_nil, Bool.and_true, Bool.true_and, Bool.or_true, Bool.true_or, Bool.false_or, Bool.or_false, Bool.not_true, Bool.not_false, Bool.false_eq_true, if_true, if_false, ite_true, ite_false, true_and, and_true, decide_eq_true_eq, Int.cast_ofNat_Int, decide_true, decide_false, ne_eq, reduceCtorEq, eq_self, not_true_eq_false, not_false_eq_true, false_implies, true_implies, implies_true, true_or, or_true, false_or, or_false, Bool.not_eq_true', decide_eq_false_iff_not, Option.bind_some, Option.bind_none, reduceIte, e_star, e_tupS, e_lstS, e_methA, e_append, e_isLst, e_extend]
  exact ⟨_, d', rfl, List.getElem_mem hk, p⟩
theorem e_popAt {xs : List D} {i : Int} : mPopAt (.lst xs) [.int i] = if -(2 ^ 63) ≤ i ∧ i < 2 ^ 63 then ob (seqIndex? i xs.length) fun k => ob xs[k]? fun y => some (.lst (xs.eraseIdx k), y) else none := rfl
/-! ### words -/
theorem str_inj {a b : String} : Str.ofString a = Str.ofString b ↔ a = b := by
  constructor
  · intro h
    rw [Str.ofString_eq_toList, Str.ofString_eq_toList, Str.mk.injEq] at h
    have h := congrArg Array.toList h
    simp only [List.toList_toArray] at h
    have hi : ∀ xs ys : List Char, xs.map Char.toNat = ys.map Char.toNat → xs = ys := by
      intro xs
      induction xs with
      | nil => intro ys e; cases ys with
        | nil => rfl
        | cons y r => simp at e
      | cons x r ih => intro ys e; cases ys with
        | nil => simp at e
        | cons y s =>
          rw [List.map_cons, List.map_cons, List.cons.injEq] at e
          rw [ih s e.2, Char.toNat_inj.mp e.1]
    exact String.toList_inj.mp (hi _ _ h)
  · intro h
    rw [h]
theorem gq_str {a b : String} : gEq (.str (Str.ofString a)) (.str (Str.ofString b)) = some (.fz (.bl (decide (a = b)))) := by
  unfold gEq
  rw [shp_str, shp_str]
  have e : PyData.eqv (toPy (.str (Str.ofString a))) (toPy (.str (Str.ofString b))) = decide (a = b) := by
    unfold toPy PyData.eqv
    by_cases h : a = b
    · simp [h]
    · have : ¬ (Str.ofString a = Str.ofString b) := fun z => h (str_inj.mp z)
      simp [h, this]
  rw [e]
  rfl
theorem gn_str {a b : String} : gNe (.str (Str.ofString a)) (.str (Str.ofString b)) = some (.fz (.bl (!decide (a = b)))) := by
  unfold gNe
  rw [shp_str, shp_str]
  have e : PyData.eqv (toPy (.str (Str.ofString a))) (toPy (.str (Str.ofString b))) = decide (a = b) := by
    unfold toPy PyData.eqv
    by_cases h : a = b
    · simp [h]
    · have : ¬ (Str.ofString a = Str.ofString b) := fun z => h (str_inj.mp z)
      simp [h, this]
  rw [e]
  rfl
/-! ### in, of ints -/
theorem eqv_int {i j : Int} : PyData.eqv (toPy (.int i)) (toPy (.int j)) = decide (i = j) := by
  unfold toPy PyData.eqv
  by_cases h : i = j <;> simp [h]
theorem flat_ints (ns : List Int) : (ns.map D.int).all flatD = true := by
  rw [List.all_map]
  exact List.all_eq_true.mpr fun _ _ => rfl
theorem any_int {i : Int} (ns : List Int) : ((ns.map D.int).any fun z => PyData.eqv (toPy z) (toPy (.int i))) = decide (i ∈ ns) := by
  rw [List.any_map]
  induction ns with
  | nil => rfl
  | cons x r ih =>
    rw [List.any_cons, ih]
    show (PyData.eqv (toPy (.int x)) (toPy (.int i)) || _) = _
    rw [eqv_int]
    by_cases h : i = x <;> simp [h, eq_comm]
theorem in_ints {i : Int} {ns : List Int} {y : D} (hy : seqD y = some (ns.map D.int)) : inD (.int i) y = some (decide (i ∈ ns)) := by
  unfold inD
  rw [hy, Option.bind_some, if_pos (.inl (by rw [flat_ints]; rfl)), any_int]
theorem gIn_tupI {i : Int} {ns : List Int} : gIn (.int i) (.tup (ns.map D.int)) = some (.fz (.bl (decide (i ∈ ns)))) := by
  unfold gIn
  rw [in_ints rfl]
  rfl
theorem gIn_lstI {i : Int} {ns : List Int} : gIn (.int i) (.lst (ns.map D.int)) = some (.fz (.bl (decide (i ∈ ns)))) := by
  unfold gIn
  rw [in_ints rfl]
  rfl
theorem gNotIn_tupI {i : Int} {ns : List Int} : gNotIn (.int i) (.tup (ns.map D.int)) = some (.fz (.bl (!decide (i ∈ ns)))) := by
  unfold gNotIn
  rw [in_ints rfl]
  rfl
theorem gNotIn_lstI {i : Int} {ns : List Int} : gNotIn (.int i) (.lst (ns.map D.int)) = some (.fz (.bl (!decide (i ∈ ns)))) := by
  unfold gNotIn
  rw [in_ints rfl]
  rfl
def bIsTold : DS := dRet (dAnd (dOp1 (gIsi .tuple) (dName 0)) (dAnd (dOp2 gIn (dOpn gLen (dCons (dName 0) (dNil))) (dName 1)) (dOp1 (gIsi .str) (dOp2 gIx (dName 0) (dC (.int 0))))))
def gIsTold : Fn := fnD 2 bIsTold
theorem isTold_ok {s : Str} {r : List D} {ns : List Int} : gIsTold [.fz (.tup (.str s :: r)), .fz (.tup (ns.map D.int))] = some (.fz (.bl (decide (((r.length + 1 : Nat) : Int) ∈ ns))), [.no, .no]) := by
  refine W.out ?_
  unfold gIsTold bIsTold
  by_cases h : ((r.length + 1 : Nat) : Int) ∈ ns
  · simp -dsimp -implicitDefEqProofs only [e_lc, e_wipeN, e_wipeC, e_restN, e_restC, e_getD, e_seq, e_set, e_ret, e_retN, e_if, e_next, e_never, e_bk, e_ct, e_drop, e_asg, e_many, e_setIx, e_for, e_while, e_aug, e_test, e_andT, e_orT, e_notT, e_and, e_or, e_not, e_ifE, e_chain, e_name, e_c, e_op1, e_op2, e_opn, e_cons, e_nil, e_tup, e_lst, e_slice, e_partN, e_partS, e_gName, e_gNil, e_gCons, e_gTup, e_rng1, e_rngA, e_rng2, e_rngB, e_it, e_zip, e_contsN, e_contsC, e_frzsN, e_frzsC, e_normsN, e_normsC, e_normB, e_normF, e_normO, e_manyN, e_manyC, e_outsN, e_outsP, e_outsF, e_outN, e_outF, e_outO, e_ixL, e_ixT, e_ixS, e_yes, e_fn, e_call, e_callM, e_callT, e_listRg, e_sortedSet, ob_some, ob_none, W_ob, W_some, W_none, Int.reduceLT, Int.reduceLE, Int.reduceNeg, Int.reduceAdd, Int.reduceMul, Int.reduceSub, Nat.reduceLT, Nat.reduceLeDiff, Int.reduceToNat, W_ite, andN, ixN_0, ixN_1, ixN_2, ixN_3, at0, at1, at2, at3, isB, gSl, nameR, cont, slotC, setSlot, frz, retR, noBr, updSlot, ownC, zipD, plainE, itemsD, gAdd, gAddI, gSub, e_mulI, gMod, gDiv, gPow, gNeg, gLt, gLe, gGt, gGe, gLen, gAbs, gInt, gMax2, gMin2, gTuple, gList, gIsi, isTy, isNon, gIs, gIsNot, mAppend, headPm, noBrs, solidR, isBr, isLst, List.getElem?_cons_zero, List.getElem?_cons_succ, List.getElem?_nil, List.set_cons_zero, List.set_cons_succ, List.cons_append, List.nil_append, List.length_cons, List.length_nil, List.replicate_succ, List.replicate_zero, Nat.reduceAdd, Nat.reduceSub, List.map_cons, List.map_nil, List.all_cons, List.all_nil, List.any_cons, List.any_nil, Bool.and_true, Bool.true_and, Bool.or_true, Bool.true_or, Bool.false_or, Bool.or_false, Bool.not_true, Bool.not_false, Bool.false_eq_true, if_true, if_false, ite_true, ite_false, true_and, and_true, decide_eq_true_eq, Int.cast_ofNat_Int, decide_true, decide_false, ne_eq, reduceCtorEq, eq_self, not_true_eq_false, not_false_eq_true, false_implies, true_implies, implies_true, true_or, or_true, false_or, or_false, Bool.not_eq_true', decide_eq_false_iff_not, Option.bind_some, Option.bind_none, reduceIte, e_star, e_tupS, e_lstS, e_methA, e_append, e_isLst, e_extend, gIn_tupI, h]
  · simp -dsimp -implicitDefEqProofs only [e_lc, e_wipeN, e_wipeC, e_restN, e_restC, e_getD, e_seq, e_set, e_ret, e_retN, e_if, e_next, e_never, e_bk, e_ct, e_drop, e_asg, e_many, e_setIx, e_for, e_while, e_aug, e_test, e_andT, e_orT, e_notT, e_and, e_or, e_not, e_ifE, e_chain, e_name, e_c, e_op1, e_op2, e_opn, e_cons, e_nil, e_tup, e_lst, e_slice, e_partN, e_partS, e_gName, e_gNil, e_gCons, e_gTup, e_rng1, e_rngA, e_rng2, e_rngB, e_it, e_zip, e_contsN, e_contsC, e_frzsN, e_frzsC, e_normsN, e_normsC, e_normB, e_normF, e_normO, e_manyN, e_manyC, e_outsN, e_outsP, e_outsF, e_outN, e_outF, e_outO, e_ixL, e_ixT, e_ixS, e_yes, e_fn, e_call, e_callM, e_callT, e_listRg, e_sortedSet, ob_some, ob_none, W_ob, W_some, W_none, Int.reduceLT, Int.reduceLE, Int.reduceNeg, Int.reduceAdd, Int.reduceMul, Int.reduceSub, Nat.reduceLT, Nat.reduceLeDiff, Int.reduceToNat, W_ite, andN, ixN_0, ixN_1, ixN_2, ixN_3, at0, at1, at2, at3, isB, gSl, nameR, cont, slotC, setSlot, frz, retR, noBr, updSlot, ownC, zipD, plainE, itemsD, gAdd, gAddI, gSub, e_mulI, gMod, gDiv, gPow, gNeg, gLt, gLe, gGt, gGe, gLen, gAbs, gInt, gMax2, gMin2, gTuple, gList, gIsi, isTy, isNon, gIs, gIsNot, mAppend, headPm, noBrs, solidR, isBr, isLst, List.getElem?_cons_zero, List.getElem?_cons_succ, List.getElem?_nil, List.set_cons_zero, List.set_cons_succ, List.cons_append, List.nil_append, List.length_cons, List.length_nil, List.replicate_succ, List.replicate_zero, Nat.reduceAdd, Nat.reduceSub, List.map_cons, List.map_nil, List.all_cons, List.all_nil, List.any_cons, List.any_nil, Bool.and_true, Bool.true_and, Bool.or_true, Bool.true_or, Bool.false_or, Bool.or_false, Bool.not_true, Bool.not_false, Bool.false_eq_true, if_true, if_false, ite_true, ite_false, true_and, and_true, decide_eq_true_eq, Int.cast_ofNat_Int, decide_true, decide_false, ne_eq, reduceCtorEq, eq_self, not_true_eq_false, not_false_eq_true, false_implies, true_implies, implies_true, true_or, or_true, false_or, or_false, Bool.not_eq_true', decide_eq_false_iff_not, Option.bind_some, Option.bind_none, reduceIte, e_star, e_tupS, e_lstS, e_methA, e_append, e_isLst, e_extend, gIn_tupI, h]
/-! ### is a bool as due -/
def bIsBool : DS := dRet (dAnd (dOp1 (gIsi .bool) (dName 0)) (dOp2 gEq (dName 0) (dName 1)))
def gIsBool : Fn := fnD 2 bIsBool
theorem gq_bool {a b : Bool} : gEq (.bl a) (.bl b) = some (.fz (.bl (decide (a = b)))) := by
  unfold gEq
  cases a <;> cases b <;> simp [shp, toPy, PyData.eqv]
theorem gn_bool {a b : Bool} : gNe (.bl a) (.bl b) = some (.fz (.bl (!decide (a = b)))) := by
  unfold gNe
  cases a <;> cases b <;> simp [shp, toPy, PyData.eqv]
theorem isBool_ok {a b : Bool} : gIsBool [.fz (.bl a), .fz (.bl b)] = some (.fz (.bl (decide (a = b))), [.no, .no]) := by
  refine W.out ?_
  unfold gIsBool bIsBool
  simp -dsimp -implicitDefEqProofs only [e_lc, e_wipeN, e_wipeC, e_restN, e_restC, e_getD, e_seq, e_set, e_ret, e_retN, e_if, e_next, e_never, e_bk, e_ct, e_drop, e_asg, e_many, e_setIx, e_for, e_while, e_aug, e_test, e_andT, e_orT, e_notT, e_and, e_or, e_not, e_ifE, e_chain, e_name, e_c, e_op1, e_op2, e_opn, e_cons, e_nil, e_tup, e_lst, e_slice, e_partN, e_partS, e_gName, e_gNil, e_gCons, e_gTup, e_rng1, e_rngA, e_rng2, e_rngB, e_it, e_zip, e_contsN, e_contsC, e_frzsN, e_frzsC, e_normsN, e_normsC, e_normB, e_normF, e_normO, e_manyN, e_manyC, e_outsN, e_outsP, e_outsF, e_outN, e_outF, e_outO, e_ixL, e_ixT, e_ixS, e_yes, e_fn, e_call, e_callM, e_callT, e_listRg, e_sortedSet, ob_some, ob_none, W_ob, W_some, W_none, Int.reduceLT, Int.reduceLE, Int.reduceNeg, Int.reduceAdd, Int.reduceMul, Int.reduceSub, Nat.reduceLT, Nat.reduceLeDiff, Int.reduceToNat, W_ite, andN, ixN_0, ixN_1, ixN_2, ixN_3, at0, at1, at2, at3, isB, gSl, nameR, cont, slotC, setSlot, frz, retR, noBr, updSlot, ownC, zipD, plainE, itemsD, gAdd, gAddI, gSub, e_mulI, gMod, gDiv, gPow, gNeg, gLt, gLe, gGt, gGe, gLen, gAbs, gInt, gMax2, gMin2, gTuple, gList, gIsi, isTy, isNon, gIs, gIsNot, mAppend, headPm, noBrs, solidR, isBr, isLst, List.getElem?_cons_zero, List.getElem?_cons_succ, List.getElem?_nil, List.set_cons_zero, List.set_cons_succ, List.cons_append, List.nil_append, List.length_cons, List.length_nil, List.replicate_succ, List.replicate_zero, Nat.reduceAdd, Nat.reduceSub, List.map_cons, List.map_nil, List.all_cons, List.all_nil, List.any_cons, List.any_nil, Bool.and_true, Bool.true_and, Bool.or_true, Bool.true_or, Bool.false_or, Bool.or_false, Bool.not_true, Bool.not_false, Bool.false_eq_true, if_true, if_false, ite_true, ite_false, true_and, and_true, decide_eq_true_eq, Int.cast_ofNat_Int, decide_true, decide_false, ne_eq, reduceCtorEq, eq_self, not_true_eq_false, not_false_eq_true, false_implies, true_implies, implies_true, true_or, or_true, false_or, or_false, Bool.not_eq_true', decide_eq_false_iff_not, Option.bind_some, Option.bind_none, reduceIte, e_star, e_tupS, e_lstS, e_methA, e_append, e_isLst, e_extend, gq_bool]
theorem rng_at {n : Nat} {pre post : List D} {d : D} (e : rngD 0 n = pre ++ d :: post) : d = .int (pre.length : Int) ∧ pre.length < n := by
  have : (rngD 0 n)[pre.length]? = some d := by rw [e]; simp
  unfold rngD at this
  rw [List.getElem?_map] at this
  obtain ⟨i, hi, rfl⟩ := Option.map_eq_some_iff.mp this
  obtain ⟨q1, q2⟩ := List.getElem?_eq_some_iff.mp hi
  rw [List.getElem_range] at q2
  subst q2
  rw [List.length_range] at q1
  exact ⟨by rw [Int.zero_add], q1⟩
theorem rng_at1 {lo : Int} {n : Nat} {pre post : List D} {d : D} (e : rngD lo n = pre ++ d :: post) : d = .int (lo + (pre.length : Int)) ∧ pre.length < n := by
  have : (rngD lo n)[pre.length]? = some d := by rw [e]; simp
  unfold rngD at this
  rw [List.getElem?_map] at this
  obtain ⟨i, hi, rfl⟩ := Option.map_eq_some_iff.mp this
  obtain ⟨q1, q2⟩ := List.getElem?_eq_some_iff.mp hi
  rw [List.getElem_range] at q2
  subst q2
  rw [List.length_range] at q1
  exact ⟨rfl, q1⟩
end Pu

/-! Pu22: a list, a tuple told the other way about; every second item. -/
namespace Pu
open PySem PySem.Spec PyProof.Rows L2
/-- the items taken by a step, from the first (or last) one -/
def pickA {α : Type} (xs : List α) (st : Int) : List α :=
  (List.range (Builtin.Slice.slicePlaces (Builtin.Slice.sliceAdjust none none st xs.length).1 (Builtin.Slice.sliceAdjust none none st xs.length).2 st)).filterMap fun (m : Nat) => xs[((Builtin.Slice.sliceAdjust none none st xs.length).1 + (m : Int) * st).toNat]?
theorem pick_vals {xs : List V} {us : List Value} (r : Vals xs us) (f : Nat → Nat) : ∀ l : List Nat, Vals (l.filterMap fun m => xs[f m]?) (l.filterMap fun m => us[f m]?)
  | [] => .nil
  | m :: l => by
    have ih := pick_vals r f l
    have hl := r.length
    by_cases h : f m < xs.length
    · obtain ⟨x, hx⟩ : ∃ x, xs[f m]? = some x := ⟨_, List.getElem?_eq_getElem h⟩
      obtain ⟨u, hu, ru⟩ := r.get hx
      rw [List.filterMap_cons, List.filterMap_cons, hx, hu]
      exact .cons ru ih
    · have e1 : xs[f m]? = none := List.getElem?_eq_none (by omega)
      have e2 : us[f m]? = none := List.getElem?_eq_none (by omega)
      rw [List.filterMap_cons, List.filterMap_cons, e1, e2]
      exact ih
theorem pick_rep {K : PySem.W.Frag} {F : Hp} (f : Nat → Nat) {ds : List D} {vs : List V} (h : RepL K F ds vs) : ∀ l : List Nat, RepL K F (l.filterMap fun m => ds[f m]?) (l.filterMap fun m => vs[f m]?)
  | [] => rfl
  | m :: l => by
    have ih := pick_rep f h l
    have hl := h.length
    by_cases hm : f m < ds.length
    · obtain ⟨x, hx⟩ : ∃ x, ds[f m]? = some x := ⟨_, List.getElem?_eq_getElem hm⟩
      obtain ⟨u, hu, ru⟩ := h.get hx
      rw [List.filterMap_cons, List.filterMap_cons, hx, hu]
      exact ⟨u, _, rfl, ru, ih⟩
    · have e1 : ds[f m]? = none := List.getElem?_eq_none (by omega)
      have e2 : vs[f m]? = none := List.getElem?_eq_none (by omega)
      rw [List.filterMap_cons, List.filterMap_cons, e1, e2]
      exact ih
theorem pickA_len {α : Type} {xs : List α} {c : Int} (h : c = -1 ∨ 2 ≤ c) : (pickA xs c).length ≤ xs.length := by
  unfold pickA
  refine Nat.le_trans (List.length_filterMap_le _ _) ?_
  rw [List.length_range]
  unfold Builtin.Slice.slicePlaces Builtin.Slice.sliceAdjust
  rcases h with h | h
  · subst h
    simp only [show ((-1 : Int) < 0) by decide, if_true, show ¬ ((-1 : Int) > 0) by decide, if_false, Int.neg_neg, Int.ediv_one]
    split <;> omega
  · simp only [show ¬ (c < 0) by omega, if_false, show c > 0 by omega, if_true]
    split
    · have : ((xs.length : Int) - 0 - 1) / c ≤ (xs.length : Int) - 1 := by
        refine Int.ediv_le_of_le_mul (by omega) ?_
        have := Int.mul_le_mul_of_nonneg_left (show 1 ≤ c by omega) (show 0 ≤ (xs.length : Int) - 1 by omega)
        omega
      omega
    · omega
section
variable {prog : Program} {w : World} {A : Around} {E : Value → Shared → Prop} {s : Shared}
theorem applied_st {sl : Addr} {vs : Value} {c : Int} {n : Nat} {Q : Int × Int × Nat → Shared → Prop} (hs : s.heap.IsSliceOf sl .none .none vs) (ps : IsPart vs (some c)) (c0 : c ≠ 0)
    (h : Q ((Builtin.Slice.sliceAdjust none none c n).1, c, Builtin.Slice.slicePlaces (Builtin.Slice.sliceAdjust none none c n).1 (Builtin.Slice.sliceAdjust none none c n).2 c) s) :
    wpAny (model prog w) A (Builtin.Slice.sliceApplied (.ref sl) (pure (n : Int))) Q E s := by
  obtain ⟨ob, ho, hcl, hd⟩ := id hs
  unfold Builtin.Slice.sliceApplied Builtin.Slice.sliceFields
  refine wpAny_bind (wpAny_bind (wpAny_field ho hd (x := .none) rfl (wpAny_bind (wpAny_field ho hd (x := .none) rfl (wpAny_bind (wpAny_field ho hd (x := vs) rfl (wpAny_pure ?_)))))))
  refine wpAny_bind (HT.slicePart_ ps ?_)
  show wpAny _ _ (if (c == 0) = true then _ else _) _ _ s
  rw [if_neg (by simpa using c0)]
  refine wpAny_bind (slicePart_none (wpAny_bind (slicePart_none (wpAny_bind (wpAny_pure ?_)))))
  exact wpAny_pure h
theorem tup_st {t sl : Addr} {items : Array Value} {vs : Value} {c : Int} {Q : Value → Shared → Prop} (ht : IsTup s.heap t items) (hs : s.heap.IsSliceOf sl .none .none vs) (ps : IsPart vs (some c)) (hc : c = -1 ∨ 2 ≤ c)
    (h : Q (.ref s.heap.objs.size) { s with heap := s.heap.push { cls := .type "tuple", data := .seq (pickA items.toList c).toArray } })
    (hsz : items.size ≤ sizeLine) : wpAny (model prog w) A (getItem (.ref t) (.ref sl)) Q E s := by
  have hfit : sizeOk (.seq (pickA items.toList c).toArray) := by
    show (pickA items.toList c).toArray.size ≤ sizeLine
    rw [List.size_toArray]
    have h1 := pickA_len (xs := items.toList) hc
    have h2 : items.toList.length = items.size := Array.length_toList
    exact Nat.le_trans (h2 ▸ h1) hsz
  obtain ⟨ob, ho, hcl, hd⟩ := id hs
  have hsT : s.TypeIs (.ref sl) "slice" := ⟨ob, ho, hcl⟩
  unfold getItem
  try with_reducible refine wpAny_holding ?_
  first | refine wpAny_bind (wpAny_pure ?_) | skip
  refine wpAny_bind (wpAny_sequenceKey ht.typeIs (by decide) ?_)
  refine wpAny_bind (wpAny_callSpecial?_slot (name := Str.ofString "__getitem__") ht.typeIs PyProof.Rows.slot_tuple_getitem (wpAny_call_entry PyProof.Rows.slot_tuple_getitem ht.typeIs entry_tuple_getitem ?_ (args_tuple_getitem _ _)))
  show wpAny _ _ (Builtin.Tuple.tupleItemsOf (.ref t) >>= _) _ _ s
  refine wpAny_bind (tupleItemsOf_ ht ?_)
  refine wpAny_bind (wpAny_typeOf hsT ?_)
  rw [if_pos (by decide)]
  refine wpAny_bind (applied_st hs ps (by rcases hc with z | z <;> omega) ?_)
  have e1 : ((Builtin.Slice.sliceAdjust none none c (items.size : Int)).1 == 0 && c == 1 && Builtin.Slice.slicePlaces (Builtin.Slice.sliceAdjust none none c (items.size : Int)).1 (Builtin.Slice.sliceAdjust none none c (items.size : Int)).2 c == items.size) = false := by
    have : (c == 1) = false := by
      rcases hc with z | z
      · subst z; rfl
      · exact beq_false_of_ne (by omega)
    rw [this, Bool.and_false, Bool.false_and]
  simp only [e1, Bool.false_eq_true, if_false]
  have e2 : ((List.range (Builtin.Slice.slicePlaces (Builtin.Slice.sliceAdjust none none c (items.size : Int)).1 (Builtin.Slice.sliceAdjust none none c (items.size : Int)).2 c)).filterMap fun (m : Nat) => items[((Builtin.Slice.sliceAdjust none none c (items.size : Int)).1 + (m : Int) * c).toNat]?) = pickA items.toList c := by
    unfold pickA
    rw [Array.length_toList]
    simp only [Array.getElem?_toList]
  rw [e2]
  first
    | exact wpAny_bind (m := Builtin.Tuple.tupleExact _) (wpAny_newObj_type (wpAny_pure ⟨_, rfl, wpAny_pure h⟩) hfit)
    | exact wpAny_bind (m := Builtin.Tuple.tupleExact _) (wpAny_newObj_type (wpAny_bind (wpAny_pure (wpAny_pure ⟨_, rfl, wpAny_pure h⟩))) hfit)
    | exact wpAny_bind (wpAny_bind (m := Builtin.Tuple.tupleExact _) (wpAny_newObj_type (wpAny_pure (wpAny_pure ⟨_, rfl, wpAny_pure h⟩)) hfit))
    | exact wpAny_bind (wpAny_bind (m := Builtin.Tuple.tupleExact _) (wpAny_newObj_type (wpAny_pure ⟨_, rfl, wpAny_pure h⟩) hfit))
end
section
variable {X : Cx} {e es : Expr} {te : TE} {fa : DE} {ts : TO} {p3 pos : Pos} {c : Int}
def tSt (K : PySem.W.Frag) (c : Int) (te : TE) : TE := fun σ H Q => te σ H fun x H1 => ∃ a xs, x = .ref a ∧ ((c = -1 ∧ SqL K H1 a xs ∧ ∀ p, H1 p = none → Q (.ref p) (L2.upd H1 p (.lst xs.reverse))) ∨ (SqT K H1 a xs ∧ ∀ p, H1 p = none → Q (.ref p) (L2.upd H1 p (.tup (pickA xs c)))))
theorem pe_st (he : PE X e te) (hc : c = -1 ∨ 2 ≤ c) (hst : PO X (some es) ts) (ht : ∀ σ H, ts σ H fun o H' => o = some c ∧ H' = H) : PE X (.Subscript e (.Slice none none (some es) p3) pos) (tSt X.K c te) := by
  refine ⟨fun pins s σ H Q I h => ?_⟩
  refine Subscript_ (thn (he.run pins s σ H _ I h) fun v s1 ⟨x, H1, I1, r1, q1⟩ => ?_)
  obtain ⟨a, xs, ex, q⟩ := q1
  subst ex
  cases r1
  refine wpAny_Slice (thn (po_none.run pins s1 σ H1 (fun o H' => o = none ∧ H' = H1) I1 ⟨rfl, rfl⟩) fun vl s2 ⟨l, H2, I2, pl, el, e2⟩ => ?_)
  subst el e2
  refine thn (po_none.run pins s2 σ H2 (fun o H' => o = none ∧ H' = H2) I2 ⟨rfl, rfl⟩) fun vu s3 ⟨u, H3, I3, pu, eu, e3⟩ => ?_
  subst eu e3
  refine thn (hst.run pins s3 σ H3 _ I3 (ht σ H3)) fun vs s4 ⟨o, H4, I4, ps, eo, e4⟩ => ?_
  subst eo e4
  have I5 : Inv X pins σ H4 { s4 with heap := s4.heap.push { cls := .type "slice", data := .fields #[vl, vu, vs] } } := I4.kept (t' := s4.toks) fun b ob q => Heap.get?_push_of_some _ q
  show wpAny (model X.prog X.w) X.A (subscriptTail e (.Slice none none (some es) p3) (.ref a) (.ref s4.heap.objs.size)) (EP X pins σ Q) X.xe { s4 with heap := s4.heap.push { cls := .type "slice", data := .fields #[vl, vu, vs] } }
  rcases q with ⟨c1, hx, q⟩ | ⟨hx, q⟩
  · subst c1
    obtain ⟨its, r, hl, hz⟩ := I5.list hx
    have hlen := r.length
    refine tail_any (ops := [.ref a, .ref s4.heap.objs.size]) hl.isList.typeIs (PySem.slot_list_getitem.lookup) ?_ (by with_unfolding_all rfl)
    refine wpAny_getItem_list_slice hl.isList (Heap.IsSliceOf.new _ vl vu vs) pl pu ps (by decide) ?_ (by rw [List.size_toArray]; omega)
    rw [PySem.W.krv_pick]
    refine ⟨.ref _, _, I5.laid (t' := s4.toks) (o := .lst xs.reverse) (fun b ob q => Heap.get?_push_of_some _ q) (Nat.le_refl _) ?_, rfl, q _ (I5.hok.fresh (Nat.le_refl _))⟩
    exact ⟨by rw [List.length_reverse]; exact hz, _, 0, r.reverse, Heap.get?_push_size _ rfl⟩
  · cases pl
    cases pu
    obtain ⟨its, r, hl, hz⟩ := I5.tuple hx
    have hlen := r.length
    refine tail_any (ops := [.ref a, .ref s4.heap.objs.size]) hl.typeIs (PyProof.Rows.slot_tuple_getitem.lookup) ?_ (by with_unfolding_all rfl)
    refine tup_st hl (Heap.IsSliceOf.new _ _ _ vs) ps hc ?_ (by rw [List.size_toArray]; omega)
    refine ⟨.ref _, _, I5.laid (t' := s4.toks) (o := .tup (pickA xs c)) (fun b ob q => Heap.get?_push_of_some _ q) (Nat.le_refl _) ?_, rfl, q _ (I5.hok.fresh (Nat.le_refl _))⟩
    have hv : Vals (pickA xs c) (pickA its c) := by
      unfold pickA
      rw [hlen]
      exact pick_vals r _ _
    exact ⟨Nat.le_trans (pickA_len hc) hz, _, hv, IsTup.new _ _⟩
def gSt (c : Int) : D → Option Res
  | .lst xs => if c = -1 then some (.ow (.lst xs.reverse)) else none
  | .tup xs => some (.fz (.tup (pickA xs c)))
  | _ => none
def dSt (c : Int) (fe : DE) : DE := fun ρ => (fe ρ).bind fun p => (cont p.1 p.2).bind fun d => (gSt c d).bind fun r => some (r, p.2)
theorem td_st (hc : c = -1 ∨ 2 ≤ c) (hst : PO X (some es) ts) (ht : ∀ σ H, ts σ H fun o H' => o = some c ∧ H' = H) (he : PE X e (TD X.K fa)) : PE X (.Subscript e (.Slice none none (some es) p3) pos) (TD X.K (dSt c fa)) :=
  pe_imp (pe_st he hc hst ht) fun σ H Q ⟨ρ, F, r, ρ', R, e, k⟩ => by
    obtain ⟨⟨ra, ρ1⟩, e1, e⟩ := Option.bind_eq_some_iff.mp e
    obtain ⟨d, e4, e⟩ := Option.bind_eq_some_iff.mp e
    obtain ⟨res, e5, e⟩ := Option.bind_eq_some_iff.mp e
    cases e
    refine ⟨ρ, F, ra, ρ1, R, e1, fun x F1 H1 R1 S1 q => ?_⟩
    have va := q.vw R1 e4
    cases d with
    | lst xs =>
      by_cases c1 : c = -1
      · have e5 := (if_pos c1).symm.trans e5
        cases e5
        obtain ⟨a, us, rfl, h1, h2⟩ := va
        refine ⟨a, us, rfl, .inl ⟨c1, SqL.of h1, fun p hp => ?_⟩⟩
        have x2 : Ext F1 H1 F1 (L2.upd H1 p (.lst us.reverse)) := Ext.fresh_ow R1.fh hp
        have w : Pu.R1 X.K H1 F1 (L2.upd H1 p (.lst us.reverse)) (.ow (.lst xs.reverse)) (.ref p) := ⟨p, rfl, R1.fh.free hp, hp, us.reverse, upd_same, h2.reverse⟩
        exact k _ _ _ (R1.ext x2) (S1.trans x2.stp) (w.rr R1 S1.th)
      · have e5 := (if_neg c1).symm.trans e5
        cases e5
    | tup xs =>
      cases e5
      obtain ⟨a, us, rfl, h1, h2⟩ := va
      refine ⟨a, us, rfl, .inr ⟨Same.sqT R1.fh h1, fun p hp => ?_⟩⟩
      have x2 : Ext F1 H1 (L2.upd F1 p (.tup (pickA us c))) (L2.upd H1 p (.tup (pickA us c))) := Ext.fresh_fz R1.fh hp
      have h3 : RepL X.K F1 (pickA xs c) (pickA us c) := by
        unfold pickA
        rw [h2.length]
        exact pick_rep _ h2 _
      exact k _ _ _ (R1.ext x2) (S1.trans x2.stp) ⟨p, _, rfl, .inl (.inl upd_same), RepL.mono x2.ff _ _ h3⟩
    | _ => cases e5
/-- xs[::-1] -/
theorem td_rev {k : Nat} {p1 p2 : Pos} (he : PE X e (TD X.K fa)) : PE X (.Subscript e (.Slice none none (some (.UnaryOp .USub (.Constant (.int 1) k p1) p2)) p3) pos) (TD X.K (dSt (-1) fa)) :=
  td_st (.inl rfl) (po_some (pe_un un_neg pe_int)) (fun σ H => ⟨1, rfl, -1, rfl, rfl, rfl⟩) he
theorem td_by {k : Nat} {p1 : Pos} {c : Nat} (hc : 2 ≤ (c : Int)) (he : PE X e (TD X.K fa)) : PE X (.Subscript e (.Slice none none (some (.Constant (.int c) k p1)) p3) pos) (TD X.K (dSt c fa)) :=
  td_st (.inr hc) (po_some pe_int) (fun σ H => ⟨_, rfl, rfl, rfl⟩) he
end
/-! ### what is taken -/
theorem pickA_rev {α : Type} (xs : List α) : pickA xs (-1) = xs.reverse := by
  have e1 : Builtin.Slice.sliceAdjust none none (-1) (xs.length : Int) = ((xs.length : Int) - 1, -1) := rfl
  unfold pickA
  rw [e1]
  have e2 : Builtin.Slice.slicePlaces ((xs.length : Int) - 1) (-1) (-1) = xs.length := by
    unfold Builtin.Slice.slicePlaces
    simp only [show ¬ ((-1 : Int) > 0) by decide, if_false, Int.neg_neg, Int.ediv_one]
    split <;> omega
  rw [e2]
  refine List.ext_getElem? fun i => ?_
  have key : ∀ n, n ≤ xs.length → ((List.range n).filterMap fun (m : Nat) => xs[((xs.length : Int) - 1 + (m : Int) * -1).toNat]?) = (xs.reverse).take n := by
    intro n
    induction n with
    | zero => intro _; simp
    | succ n ih =>
      intro hn
      rw [List.range_succ, List.filterMap_append, ih (by omega), List.take_succ]
      congr 1
      have e3 : ((xs.length : Int) - 1 + (n : Int) * -1).toNat = xs.length - 1 - n := by omega
      simp only [List.filterMap_cons, List.filterMap_nil, e3]
      rw [List.getElem?_reverse (by omega), List.getElem?_eq_getElem (by omega)]
      rfl
  rw [key _ (Nat.le_refl _), List.take_of_length_le (by simp)]
theorem e_st {c : Int} {x : DE} {ρ : En} : dSt c x ρ = ob (x ρ) fun p => ob (cont p.1 p.2) fun d => ob (gSt c d) fun r => some (r, p.2) := rfl
theorem e_revT {xs : List D} : gSt (-1) (.tup xs) = some (.fz (.tup xs.reverse)) := by
  show some (Res.fz (.tup (pickA xs (-1)))) = _
  rw [pickA_rev]
theorem e_revL {xs : List D} : gSt (-1) (.lst xs) = some (.ow (.lst xs.reverse)) := rfl
end Pu

set_option maxHeartbeats 1000000
/-! Pu23: enumerate of a tuple, of a list. -/
namespace Pu
open PySem PySem.Spec PyProof.Rows L2
open PySem.AutoSeq1 (wpAny_loadPart')
theorem enumT_meets (l : Addr) (xs : Array Value) (n : Nat) (dct : Option Addr) (sl : Array (Option Value)) :
    Meets (Builtin.«enumerate.__new__» ⟨[.type "enumerate", .ref l], []⟩) (fun _ R s => s.heap.get? l = some { cls := .type "tuple", dict := dct, data := .seq xs n, slots := sl } ∧
      R (.ok (.ret (.ref (s.heap.push { cls := .type "tuple_iterator", data := .fields #[.ref l, .int 0 0] }).objs.size)))
        { s with heap := (s.heap.push { cls := .type "tuple_iterator", data := .fields #[.ref l, .int 0 0] }).push { cls := .type "enumerate", data := .fields #[.none, .bool false, .ref s.heap.objs.size, rawInt 0, .none, .none] } }) :=
  .of_wp fun prog w A R s h => by
    obtain ⟨hp, gg, dd, tk, os⟩ := s; obtain ⟨hl, h⟩ := h
    have hsub := sub_enumerate
    have hT : Heap.IsTuple (Shared.heap ⟨hp, gg, dd, tk, os⟩) l xs := ⟨_, hl, rfl, n, rfl⟩
    wp_walk using wpAny_loadPart' hl
    refine wpAny_stack_any fun st => wpAny_pure ?_
    split
    · rename_i cc _ _ _ _ _
      cases (cc == Value.type "enumerate")
      · wp_walk using wpAny_loadPart' hl, wpAny_pyIter_tuple hT
        exact ⟨_, rfl, h⟩
      · wp_walk using wpAny_loadPart' hl, wpAny_pyIter_tuple hT
        exact ⟨_, rfl, h⟩
    · wp_walk using wpAny_loadPart' hl, wpAny_pyIter_tuple hT
      exact ⟨_, rfl, h⟩
section
variable {prog : Program} {w : World} {A : Around} {E : Value → Shared → Prop} {s : Shared}
theorem enumT_call {l : Addr} {xs : Array Value} {Q : Value → Shared → Prop} (hT : s.heap.IsTuple l xs)
    (h : ∀ h', IsEnum h' (s.heap.objs.size + 1) s.heap.objs.size 0 .none → h'.IsTupleIter s.heap.objs.size l 0 → (∀ b o, s.heap.get? b = some o → h'.get? b = some o) → Q (.ref (s.heap.objs.size + 1)) { s with heap := h' }) :
    wpAny (model prog w) A (call (.type "enumerate") [.ref l]) Q E s := by
  obtain ⟨⟨c, dct, dt, sl⟩, hl, hc, n, hd⟩ := hT
  have hc : c = .type "tuple" := hc
  have hd : dt = .seq xs n := hd
  subst hc hd
  refine callType_new F.called_enumerate (by decide) (F.typeCall_enumerate_1 _) (F.newCall_enumerate_1 _) (fun obj => F.args_object_init_2 obj _) F.entry_enumerate_new (enumT_meets l xs n dct sl) ⟨hl, ?_⟩
  have hz : (s.heap.push { cls := .type "tuple_iterator", data := .fields #[.ref l, .int 0 0] }).objs.size = s.heap.objs.size + 1 := Heap.size_push ..
  show _ ∧ _
  rw [hz]
  have he : IsEnum ((s.heap.push { cls := .type "tuple_iterator", data := .fields #[.ref l, .int 0 0] }).push { cls := .type "enumerate", data := .fields #[.none, .bool false, .ref s.heap.objs.size, rawInt 0, .none, .none] }) (s.heap.objs.size + 1) s.heap.objs.size 0 .none := by
    have e1 := Heap.get?_push_size (s.heap.push { cls := .type "tuple_iterator", data := .fields #[.ref l, .int 0 0] }) (o := { cls := .type "enumerate", data := .fields #[.none, .bool false, .ref s.heap.objs.size, rawInt 0, .none, .none] }) rfl
    rw [hz] at e1; exact e1
  refine ⟨⟨_, he, rfl⟩, h _ he ⟨_, Heap.get?_push_of_some _ (Heap.get?_push_size _ rfl), rfl, rfl⟩ fun b o x => Heap.get?_push_of_some _ (Heap.get?_push_of_some _ x)⟩
end
theorem drawsT {prog : Program} {w : World} {A : Around} (hh : A.handled = none) (it l : Addr) (hne : l ≠ it) (xs : Array Value) :
    Draws prog w A it [it, l] xs.size (fun i x => xs[i]? = some x) (fun i h => h.IsTupleIter it l i ∧ h.IsTuple l xs) where
  live := fun i h ⟨⟨o, ho, _⟩, _⟩ => ⟨o, ho⟩
  frame := fun i h h' ⟨h1, h2⟩ k => ⟨h1.at fun o q => k it (by simp) o q, let ⟨o, ho, r⟩ := h2; ⟨o, k l (by simp) o ho, r⟩⟩
  item := fun i s Q E hi ⟨h1, h2⟩ hQ => by
    have hx : xs[i]? = some xs[i] := Array.getElem?_eq_getElem hi
    refine RZ.nextOf_tuple_item h1 h2 hx fun h' h1' sb => hQ _ h' s.toks hx ⟨h1', ?_⟩ sb
    obtain ⟨o, ho, r⟩ := h2
    exact ⟨o, (sb.2 l hne).trans ho, r⟩
  done := fun s Q E ⟨h1, h2⟩ hE => RZ.nextOf_tuple_end hh h1 h2 (by simp) hE
section
variable {prog : Program} {w : World} {A : Around} {E : Value → Shared → Prop} {s : Shared}
theorem enumT_end {e it l : Addr} {i : Nat} {j : Int} {xs : Array Value} {old : Value} {Q : Option Value → Shared → Prop} (hh : A.in1.handled = none) (he : IsEnum s.heap e it j old) (h1 : s.heap.IsTupleIter it l i) (h2 : s.heap.IsTuple l xs) (hx : xs[i]? = none)
    (hQ : ∀ h', Heap.ExtBut it s.heap h' → Q none { s with heap := h' }) : wpAny (model prog w) A (pyNext (.ref e)) Q E s := by
  have hE : s.TypeIs (.ref e) "enumerate" := ⟨_, he, rfl⟩
  unfold pyNext
  refine wpAny_bind (wpAny_attempt (wpAny_callSpecial?_slot (name := Str.ofString "__next__") hE F.slot_enumerate_next (wpAny_call_entry F.slot_enumerate_next hE F.entry_enumerate_next ?_ (F.args_enumerate_next_1 _))))
  show wpAny _ _ (field (.ref e) 2 >>= _) _ _ _
  refine wpAny_bind (wpAny_field he rfl (x := .ref it) rfl ?_)
  refine wpAny_bind (RZ.nextOf_tuple_end hh h1 h2 hx fun h' x he' ⟨o, ho, hc⟩ => ?_)
  refine wpAny_bind (wpAny_isInstance (T := "StopIteration") (b := true) ⟨o, ho, hc⟩ isSubtype_stop ?_)
  exact wpAny_pure (hQ _ he')
end
/-- the tuple at a, each item in a new pair -/
def IteT (K : PySem.W.Frag) (a : Addr) : It :=
  ⟨fun i H => ∃ (xs : List V) (x : V), SqT K H a xs ∧ xs[i]? = some x, fun i H v H' => ∃ T x, v = .ref T ∧ H T = none ∧ H' = L2.upd H T (.tup [.int (i : Nat), x]) ∧ ∀ xs, SqT K H a xs → xs[i]? = some x, fun i H => ∃ xs : List V, SqT K H a xs ∧ xs.length ≤ i⟩
theorem enumT_turn {P : Program} {w : World} {K : PySem.W.Frag} {elts : List Expr} {kk : Nat} {tpos : Pos} (a e it : Addr) (hai : a ≠ it) (hae : a ≠ e) :
    Turn P w K (.Tuple elts kk tpos) (IteT K a) [e, it] e (fun i h => (∃ old, IsEnum h e it ((i : Nat) : Int) old) ∧ h.IsTupleIter it a i ∧ e ≠ it) where
  mem := by simp
  obj := fun i h st b hb => by
    obtain ⟨⟨old, he⟩, ⟨o, ho, hc, hd⟩, _⟩ := st
    have e' : b = e ∨ b = it := by simpa using hb
    rcases e' with z | z
    · rw [z]; exact ⟨_, he, fun v q => nomatch q⟩
    · rw [z]; exact ⟨o, ho, fun v q => by rw [hd] at q; cases q⟩
  keep := fun i h h' st k => let ⟨⟨old, he⟩, hi, hne⟩ := st; ⟨⟨old, k e (by simp) _ he⟩, hi.at fun o q => k it (by simp) o q, hne⟩
  item := by
    intro X hP hw hK hc i pins s σ H E I hf st hg
    subst hP hw hK
    obtain ⟨⟨old, he⟩, hit, hne⟩ := st
    obtain ⟨xs, x, hq, hx⟩ := hg
    obtain ⟨its, rv, p, hz⟩ := I.tuple hq
    obtain ⟨u, hu, ru⟩ := rv.get hx
    have hel : e < s.heap.objs.size := Heap.lt_size he
    have hil : it < s.heap.objs.size := by obtain ⟨_, q, _⟩ := hit; exact Heap.lt_size q
    have hlt : i < its.toArray.size := by
      rw [List.size_toArray]
      exact (List.getElem?_eq_some_iff.mp hu).1
    refine wpAny_pyNext_enum_itemD (drawsT (A := X.A.in1) (I.ok.hd hc) it a hai its.toArray) he ⟨hit, p⟩ hlt hne (by simp; exact ⟨hne, fun z => hae z.symm⟩) fun y h' tk hy ho hst' hT hsz hk => ?_
    have hyu : y = u := by
      have h1 : its.toArray[i]? = some u := by simpa using hu
      rw [h1] at hy
      exact (Option.some.inj hy).symm
    subst hyu
    refine ⟨_, rfl, wpAny_letOwnedTupleGo_enum (s := { s with heap := h', toks := tk + 1 }) ho fun h'' he' sb => ?_⟩
    have hT2 : h''.get? s.heap.objs.size = some { cls := .type "tuple", data := .seq #[.int i tk, y] } := (sb.2 _ (Nat.ne_of_gt hel)).trans hT
    have new : ObjOk X.prog X.w (L2.upd H s.heap.objs.size (.tup [.int (i : Nat), x])) h'' s.heap.objs.size (.tup [.int (i : Nat), x]) :=
      ⟨by show 2 ≤ sizeLine; decide, [.int i tk, y], .cons ⟨_, rfl⟩ (.cons ru .nil), ⟨_, hT2, rfl, _, rfl⟩⟩
    have I1 : Inv X pins σ (L2.upd H s.heap.objs.size (.tup [.int (i : Nat), x])) { s with heap := h'', toks := tk + 1 } :=
      I.turnedNew (ch := [e, it]) (fun b ob hb q => (sb.2 b (fun z => hb (by simp [z]))).trans (hk b ob (fun z => hb (by simp [z])) (fun z => hb (by simp [z])) q)) hf (Nat.le_refl _) new
    refine ⟨.ref s.heap.objs.size, _, I1, rfl, ⟨_, x, rfl, I.hok.fresh (Nat.le_refl _), rfl, fun ys hy => by rw [I.tuple_inj hy hq]; exact hx⟩, ⟨⟨y, ?_⟩, hst'.1.at fun o q => (sb.2 it (Ne.symm hne)).trans q, hne⟩, fun b hb => ?_⟩
    · have e1 : ((i + 1 : Nat) : Int) = (i : Int) + 1 := by omega
      rw [e1]; exact he'
    · have hb' : b < s.heap.objs.size := by
        have e' : b = e ∨ b = it := by simpa using hb
        rcases e' with z | z
        · rw [z]; exact hel
        · rw [z]; exact hil
      rw [upd_ne (Nat.ne_of_lt hb')]
      exact (hf b hb).1
  done := by
    intro X hP hw hK hc i pins s σ H E I hf st hg
    subst hP hw hK
    obtain ⟨⟨old, he⟩, hit, hne⟩ := st
    obtain ⟨xs, hq, hx⟩ := hg
    obtain ⟨its, rv, p, hz⟩ := I.tuple hq
    obtain ⟨f0, f1, f2, f3, f4, f5⟩ := hf it (by simp)
    have hl := rv.length
    exact enumT_end (I.ok.hd hc) he hit p (by simp; omega) fun h' eb => ⟨rfl, I.turned (t' := s.toks) (fun b o hb q => eb b o hb q) f0 f1 f3 f4 f5⟩
  self := fun A i s Q E st h => let ⟨⟨_, he⟩, _⟩ := st; wpAny_pyIter_enum he h
def iEnumT (K : PySem.W.Frag) (ta : TA) : TI := fun σ H R => ta σ H fun vs H1 => ∃ a xs, vs = [.ref a] ∧ SqT K H1 a xs ∧ R (IteT K a) H1
section
variable {X : Cx} {e : Expr} {ta : TA} {fr : DA} {p pos tpos : Pos} {elts : List Expr} {kk : Nat}
def iEnumA (K : PySem.W.Frag) (ta : TA) : TI := fun σ H R => ta σ H fun vs H1 => ∃ a xs, vs = [.ref a] ∧ ((SqL K H1 a xs ∧ R (Ite K a) H1) ∨ (SqT K H1 a xs ∧ R (IteT K a) H1))
theorem pi_enumA (hg : Gl X "enumerate") (hm : X.mg "enumerate" = none) (ha : PA X [e] ta) (hs : starEach [e] X.env = [(false, eval e X.env)] := by rfl) :
    PI X (.Tuple elts kk tpos) (.Call (.Name "enumerate" p) [e] [] pos) (iEnumA X.K ta) := by
  refine ⟨fun pins s σ H R I h => ?_⟩
  refine Call_ (ld_blt I hg hm boot_enumerate (PyProof.Rows.callWith_type1 (thn (ha.run pos pins s σ H _ I h) fun us s1 ⟨vs, H1, I1, r1, q1⟩ => ?_) hs rfl))
  obtain ⟨a, xs, ex, q⟩ := q1
  subst ex
  cases r1 with
  | cons r rr =>
    cases rr
    cases r
    have fr2 : ∀ b, b ∈ [s1.heap.objs.size + 1, s1.heap.objs.size] → FpOk X pins H1 b := fun b hb => by
      have e' : b = s1.heap.objs.size + 1 ∨ b = s1.heap.objs.size := by simpa using hb
      have hle : s1.heap.objs.size ≤ b := by
        rcases e' with z | z
        · rw [z]; exact Nat.le_add_right _ _
        · rw [z]; exact Nat.le_refl _
      exact I1.fpOk hle (I1.hok.fresh hle)
    rcases q with ⟨hq, q⟩ | ⟨hq, q⟩
    · obtain ⟨its, rv, p', hz⟩ := I1.list hq
      refine call_enumerate_list p'.isList fun h' he hit hsz hk => wpAny_pyIter_enum he ?_
      have I2 : Inv X pins σ H1 { s1 with heap := h' } := I1.kept (t' := s1.toks) hk
      exact ⟨s1.heap.objs.size + 1, [s1.heap.objs.size + 1, s1.heap.objs.size], _, _, H1, rfl, I2, turn_enum a (s1.heap.objs.size + 1) s1.heap.objs.size, ⟨⟨.none, he⟩, hit, Nat.succ_ne_self _⟩, fr2, q⟩
    · obtain ⟨its, rv, p', hz⟩ := I1.tuple hq
      have hal : a < s1.heap.objs.size := by obtain ⟨_, ho, _⟩ := id p'; exact Heap.lt_size ho
      refine enumT_call (show s1.heap.IsTuple a its.toArray from p') fun h' he hit hk => wpAny_pyIter_enum he ?_
      have I2 : Inv X pins σ H1 { s1 with heap := h' } := I1.kept (t' := s1.toks) hk
      exact ⟨s1.heap.objs.size + 1, [s1.heap.objs.size + 1, s1.heap.objs.size], _, _, H1, rfl, I2, enumT_turn a (s1.heap.objs.size + 1) s1.heap.objs.size (Nat.ne_of_lt hal) (Nat.ne_of_lt (Nat.lt_succ_of_lt hal)), ⟨⟨.none, he⟩, hit, Nat.succ_ne_self _⟩, fr2, q⟩
/-- pairs of place and item -/
def numD (ds : List D) : List D := ds.mapIdx fun i d => D.tup [.int (i : Nat), d]
theorem num_get {ds : List D} {i : Nat} {d : D} (h : (numD ds)[i]? = some d) : ∃ x, ds[i]? = some x ∧ d = .tup [.int (i : Nat), x] := by
  unfold numD at h
  rw [List.getElem?_mapIdx] at h
  obtain ⟨x, hx, e⟩ := Option.map_eq_some_iff.mp h
  exact ⟨x, hx, e.symm⟩
theorem num_len {ds : List D} : (numD ds).length = ds.length := by
  unfold numD
  rw [List.length_mapIdx]
def enumD : D → Option (List D)
  | .lst xs => some (numD xs)
  | .tup xs => some (numD xs)
  | _ => none
def dEnum (fr : DA) : DI := fun ρ => (fr ρ).bind fun p => (frzs p.1 p.2).bind fun q => match q.1 with
  | [d] => (enumD d).bind fun ds => some (ds, q.2)
  | _ => none
theorem walkD_enL {K : PySem.W.Frag} {a : Addr} {xs : List V} {ds : List D} {F : Hp} (h : SqL K F a xs) (q : RepL K F ds xs) : WalkD K (Ite K a) (numD ds) F where
  goes := fun i H hi s => by
    rw [num_len] at hi
    exact ⟨xs, xs[i]'(by rw [q.length]; omega), Same.seq s h, List.getElem?_eq_getElem _⟩
  stops := fun H s => ⟨xs, Same.seq s h, by rw [num_len, q.length]; omega⟩
  yields := fun i d H x H' F1 hd sf fh y => by
    obtain ⟨T, x1, rfl, hT, rfl, f1⟩ := y
    obtain ⟨dx, g1, rfl⟩ := num_get hd
    obtain ⟨v1, w1, w2⟩ := q.get g1
    have e1 := f1 xs (Same.seq fh (Same.seq sf h))
    rw [w1] at e1
    cases e1
    exact pair_yield fh hT rfl (w2.mono sf)
theorem walkD_enT {K : PySem.W.Frag} {a : Addr} {xs : List V} {ds : List D} {F : Hp} (h : SqT K F a xs) (q : RepL K F ds xs) : WalkD K (IteT K a) (numD ds) F where
  goes := fun i H hi s => by
    rw [num_len] at hi
    exact ⟨xs, xs[i]'(by rw [q.length]; omega), Same.sqT s h, List.getElem?_eq_getElem _⟩
  stops := fun H s => ⟨xs, Same.sqT s h, by rw [num_len, q.length]; omega⟩
  yields := fun i d H x H' F1 hd sf fh y => by
    obtain ⟨T, x1, rfl, hT, rfl, f1⟩ := y
    obtain ⟨dx, g1, rfl⟩ := num_get hd
    obtain ⟨v1, w1, w2⟩ := q.get g1
    have e1 := f1 xs (Same.sqT fh (Same.sqT sf h))
    rw [w1] at e1
    cases e1
    exact pair_yield fh hT rfl (w2.mono sf)
theorem ti_enum (hg : Gl X "enumerate") (hm : X.mg "enumerate" = none) (ha : PA X [e] (TAD X.K fr)) (hs : starEach [e] X.env = [(false, eval e X.env)] := by rfl) :
    PI X (.Tuple elts kk tpos) (.Call (.Name "enumerate" p) [e] [] pos) (TID X.K (dEnum fr)) :=
  pi_imp (pi_enumA hg hm ha hs) fun σ H Q ⟨ρ, F, ds, ρ', R, e, k⟩ => by
    obtain ⟨⟨rs, ρ1⟩, e1, e⟩ := Option.bind_eq_some_iff.mp e
    obtain ⟨⟨cs, ρ2⟩, e2, e⟩ := Option.bind_eq_some_iff.mp e
    refine ⟨ρ, F, rs, ρ1, R, e1, fun vs F1 H1 R1 S1 q => ?_⟩
    obtain ⟨F2, R2, S2, q2, _⟩ := frzs_ok R1 S1 q e2
    split at e
    · rename_i c1 hc
      have hc : cs = [c1] := hc
      subst hc
      obtain ⟨dz, e3, e⟩ := Option.bind_eq_some_iff.mp e
      cases e
      obtain ⟨v1, r1, rfl, p1, p3⟩ := q2
      have p3 : r1 = [] := p3
      subst p3
      cases c1 with
      | lst xs =>
        cases e3
        obtain ⟨a1, us, rfl, h1, h2⟩ := p1
        exact ⟨a1, us, rfl, .inl ⟨SqL.of (R2.fh _ _ h1), k _ F2 H1 R2 S2 (walkD_enL (SqL.of h1) h2)⟩⟩
      | tup xs =>
        cases e3
        obtain ⟨a1, us, rfl, h1, h2⟩ := p1
        exact ⟨a1, us, rfl, .inr ⟨Same.sqT R2.fh h1, k _ F2 H1 R2 S2 (walkD_enT h1 h2)⟩⟩
      | _ => cases e3
    · cases e
theorem e_enum {fr : DA} {ρ : En} : dEnum fr ρ = ob (fr ρ) fun p => ob (frzs p.1 p.2) fun q => match q.1 with
  | [d] => ob (enumD d) fun ds => some (ds, q.2)
  | _ => none := rfl
end
end Pu

/-! Pu24: the last item, every second item; the pot is solid. -/
namespace Pu
open PySem
theorem pot_solid {n : Nat} {d : D} (h : Pot n d) : solidC d = true := by
  obtain ⟨a, b, c, rfl, _⟩ := h
  rfl
theorem at_last {α : Type} {xs : List α} {x : α} {n : Nat} (hn : xs.length = n + 1) (h : xs[n]? = some x) : L2.atI xs (-1) = some x := by
  unfold L2.atI L2.ixN
  rw [hn, if_neg (by decide), if_pos (by omega)]
  have e : ((-1 : Int) + ((n + 1 : Nat) : Int)).toNat = n := by omega
  rw [Option.bind_some, e]
  exact h
theorem pickA_two {α : Type} {xs : List α} {n : Nat} (h : xs.length = 2 * n + 1) : pickA xs 2 = (List.range (n + 1)).filterMap fun m => xs[2 * m]? := by
  unfold pickA
  have e1 : Builtin.Slice.sliceAdjust none none 2 (xs.length : Int) = (0, (xs.length : Int)) := rfl
  rw [e1]
  have e2 : Builtin.Slice.slicePlaces 0 (xs.length : Int) 2 = n + 1 := by
    unfold Builtin.Slice.slicePlaces
    rw [h]
    simp only [show ((2 : Int) > 0) by decide, if_true]
    rw [if_pos (by omega)]
    omega
  rw [e2]
  refine congrFun (congrArg _ (funext fun m => ?_)) _
  have e3 : ((0 : Int) + (m : Int) * 2).toNat = 2 * m := by omega
  rw [e3]
theorem filterMap_some {α β : Type} {f : α → Option β} {g : α → β} : ∀ {l : List α}, (∀ x ∈ l, f x = some (g x)) → l.filterMap f = l.map g
  | [], _ => rfl
  | x :: r, h => by
    rw [List.filterMap_cons, h x (by simp), filterMap_some fun y hy => h y (List.mem_cons_of_mem _ hy)]
    rfl
end Pu

/-! Pu25: min of a list of pairs of ints; range with a step. -/
namespace Pu
open PySem PySem.Spec PyProof.Rows L2
/-- the comparison, while the heap is as St says -/
def CmpH (prog : Program) (w : World) (A : Around) (P : Nat → Value → Prop) (St : Nat → Heap → Prop) (bt : Nat → Nat → Bool) : Prop :=
  ∀ i j k x y (s : Shared) (Q : Value → Shared → Prop) (E : Value → Shared → Prop), St k s.heap → P i x → P j y → Q (.bool (bt i j)) s → wpAny (model prog w) A (richCompare .Lt x y) Q E s
section
variable {prog : Program} {w : World} {A : Around} {R : Result → Shared → Prop} {I : Addr} {fp wr : List Addr} {n : Nat} {P : Nat → Value → Prop} {St : Nat → Heap → Prop}
theorem minH_loop (W : Walks prog w A.in1 I fp wr n P St) (bt : Nat → Nat → Bool) (hc : CmpH prog w A.in1 P St bt) (S : Addr) (hSf : S ∉ fp) :
    ∀ (k j : Nat) (s : Shared) (b0 : Value) (c : Nat), n - (j + 1) = k → j + 1 ≤ n → St (j + 1) s.heap → P (argBest bt j) b0 → s.heap.get? S = some { cls := .type "list", dict := none, data := .seq #[b0, b0] c, slots := #[] } →
    (∀ v h' tk, P (argBest bt (n - 1)) v → (∀ b o, b ∉ wr → b ≠ S → s.heap.get? b = some o → h'.get? b = some o) → R (.ok (.ret v)) { s with heap := h', toks := tk }) → codeAny (model prog w) A (.builtin "min.loop" ⟨[.ref I, .none, .ref S], []⟩) R s := by
  have hSw : S ∉ wr := fun h => hSf (W.sub _ h)
  have hnm : (toString "min" ++ toString ".loop" : String) = "min.loop" := by decide
  intro k
  induction k with
  | zero =>
    intro j s b0 c hk hj hst hP0 hS hR
    have hin : j + 1 = n := by omega
    refine codeAny_builtin F.entry_min_loop ?_
    rw [Around.under_plainId F.plain_min_loop _]
    show wpAny _ A.in1 (seqItems? (.ref S) >>= _) _ _ s
    refine wpAny_bind (wpAny_seqItems hS rfl ?_)
    show wpAny _ A.in1 (tryCatch (pyNext (.ref I)) _ >>= _) _ _ s
    refine wpAny_bind (wpAny_tryCatch (W.done s _ _ (hin ▸ hst) fun h' tk kk => ?_))
    have hS' := kk S _ hSw hS
    show wpAny _ A.in1 (updateSeq S (fun _ => #[]) >>= _) _ _ _
    refine wpAny_bind (wpAny_updateSeq hS' rfl (wpAny_bind (wpAny_letGo (wpAny_pure ?_))))
    exact hR b0 _ tk (by rw [← hin]; exact hP0) fun b o hbw hbS e => (Heap.get?_update_other _ _ (Ne.symm hbS)).trans (kk b o hbw e)
  | succ k ih =>
    intro j s b0 c hk hj hst hP0 hS hR
    have hlt : j + 1 < n := by omega
    refine codeAny_builtin F.entry_min_loop ?_
    rw [Around.under_plainId F.plain_min_loop _]
    show wpAny _ A.in1 (seqItems? (.ref S) >>= _) _ _ s
    refine wpAny_bind (wpAny_seqItems hS rfl ?_)
    show wpAny _ A.in1 (tryCatch (pyNext (.ref I)) _ >>= _) _ _ s
    refine wpAny_bind (wpAny_tryCatch (W.item (j + 1) s _ _ hlt hst fun v h' tk hP hst' kk => ?_))
    have hS' := kk S _ hSw hS
    show wpAny _ A.in1 (tryCatch (holding [v, v] (richCompare .Lt v b0 >>= _)) _ >>= _) _ _ _
    refine wpAny_bind (wpAny_tryCatch (wpAny_holding (wpAny_bind (hc (j + 1) (argBest bt j) (j + 1 + 1) v b0 _ _ _ hst' hP hP0 ?_))))
    refine wpAny_bind (wpAny_holding (wpAny_truthy_bool ?_))
    refine wpAny_bind (wpAny_letGo (wpAny_pure ?_))
    cases hb : bt (j + 1) (argBest bt j) with
    | true =>
      simp only [if_true]
      refine wpAny_bind (wpAny_updateSeq hS' rfl (wpAny_bind (wpAny_letGo ?_)))
      rw [hnm]
      refine wpAny_pure ⟨plainId_quiet F.plain_min_loop _, ih (j + 1) _ v _ (by omega) hlt (W.frame _ _ _ hst' fun b hbf o e => ?_) (by simp only [argBest, hb, if_true]; exact hP) (Heap.get?_update_self _ hS' rfl) fun v' g' t' hP' kk' => ?_⟩
      · exact (Heap.get?_update_other _ _ (fun h : S = b => hSf (by rw [h]; exact hbf))).trans e
      · exact hR v' g' t' hP' fun b o hbw hbS e => kk' b o hbw hbS ((Heap.get?_update_other _ _ (Ne.symm hbS)).trans (kk b o hbw e))
    | false =>
      simp only [Bool.false_eq_true, if_false]
      refine wpAny_bind (wpAny_letGo ?_)
      rw [hnm]
      exact wpAny_pure ⟨plainId_quiet F.plain_min_loop _, ih (j + 1) _ b0 c (by omega) hlt hst' (by simp only [argBest, hb, Bool.false_eq_true, if_false]; exact hP0) hS' fun v' g' t' hP' kk' => hR v' g' t' hP' fun b o hbw hbS e => kk' b o hbw hbS (kk b o hbw e)⟩
theorem minH_first (W : Walks prog w A.in1 I fp wr n P St) (bt : Nat → Nat → Bool) (hc : CmpH prog w A.in1 P St bt) (S : Addr) (hSf : S ∉ fp) (hn : 0 < n) {s : Shared} {c : Nat} (hst : St 0 s.heap)
    (hS : s.heap.get? S = some { cls := .type "list", dict := none, data := .seq #[] c, slots := #[] })
    (hR : ∀ v h' tk, P (argBest bt (n - 1)) v → (∀ b o, b ∉ wr → b ≠ S → s.heap.get? b = some o → h'.get? b = some o) → R (.ok (.ret v)) { s with heap := h', toks := tk }) :
    codeAny (model prog w) A (.builtin "min.loop" ⟨[.ref I, .none, .ref S], []⟩) R s := by
  have hSw : S ∉ wr := fun h => hSf (W.sub _ h)
  have hnm : (toString "min" ++ toString ".loop" : String) = "min.loop" := by decide
  refine codeAny_builtin F.entry_min_loop ?_
  rw [Around.under_plainId F.plain_min_loop _]
  show wpAny _ A.in1 (seqItems? (.ref S) >>= _) _ _ s
  refine wpAny_bind (wpAny_seqItems hS rfl ?_)
  show wpAny _ A.in1 (tryCatch (pyNext (.ref I)) _ >>= _) _ _ s
  refine wpAny_bind (wpAny_tryCatch (W.item 0 s _ _ hn hst fun v h' tk hP hst' kk => ?_))
  have hS' := kk S _ hSw hS
  show wpAny _ A.in1 (updateSeq S (fun _ => #[v, v]) >>= _) _ _ _
  refine wpAny_bind (wpAny_updateSeq hS' rfl ?_)
  rw [hnm]
  refine wpAny_pure ⟨plainId_quiet F.plain_min_loop _, minH_loop W bt hc S hSf _ 0 _ v _ rfl hn (W.frame _ _ _ hst' fun b hbf o e => ?_) hP (Heap.get?_update_self _ hS' rfl) fun v' g' t' hP' kk' => ?_⟩
  · exact (Heap.get?_update_other _ _ (fun h : S = b => hSf (by rw [h]; exact hbf))).trans e
  · exact hR v' g' t' hP' fun b o hbw hbS e => kk' b o hbw hbS ((Heap.get?_update_other _ _ (Ne.symm hbS)).trans (kk b o hbw e))
end
section
variable {prog : Program} {w : World} {A : Around} {E : Value → Shared → Prop} {s : Shared}
theorem minH_call {x : Value} {Q : Value → Shared → Prop}
    (h : wpAny (model prog w) A.in1 (pyIter x) (fun it s₂ => ∃ I fp wr n P St bt, it = .ref I ∧ Walks prog w A.in1 I fp wr n P St ∧ St 0 s₂.heap ∧ (∀ b ∈ fp, b < s₂.heap.objs.size) ∧ 0 < n ∧ CmpH prog w A.in1 P St bt ∧
      ∀ v h' tk, P (argBest bt (n - 1)) v → (∀ b o, b ∉ wr → s₂.heap.get? b = some o → h'.get? b = some o) → Q v { s₂ with heap := h', toks := tk }) E s) : wpAny (model prog w) A (call (.builtin "min") [x]) Q E s := by
  have hnm : (toString "min" ++ toString ".loop" : String) = "min.loop" := by decide
  refine call_function_tree F.kind_min F.plain_min F.entry_min (F.args_min1 _) ?_
  show wpAny _ A.in1 (Builtin.Builtins.bindParams "min" ["key", "default"] 0 ⟨[], []⟩ >>= _) _ _ s
  refine wpAny_bind (wpAny_of_eq (show Builtin.Builtins.bindParams "min" ["key", "default"] 0 ⟨[], []⟩ = pure [none, none] from rfl) ?_)
  refine wpAny_bind (wpAny_pure ?_)
  refine wpAny_bind (wpAny_mono h (fun it s₂ h₂ => ?_) fun _ _ e => e)
  obtain ⟨I, fp, wr, n, P, St, bt, rfl, W, hst, hfp, hn, hc, hQ⟩ := h₂
  refine wpAny_bind (wpAny_newObj_type ?_)
  have hSf : s₂.heap.objs.size ∉ fp := fun hm => Nat.lt_irrefl _ (hfp _ hm)
  rw [hnm]
  refine wpAny_pure ⟨plainId_quiet F.plain_min_loop _, minH_first W bt hc s₂.heap.objs.size hSf hn (W.frame _ _ _ hst fun b _ o e => Heap.get?_push_of_some _ e) (Heap.get?_push_size _ rfl) fun v h' tk hP kk => ?_⟩
  exact hQ v h' tk hP fun b o hbw e => kk b o hbw (Nat.ne_of_lt (Heap.lt_size e)) (Heap.get?_push_of_some _ e)
end
theorem Walks.more {prog : Program} {w : World} {A : Around} {I : Addr} {fp wr : List Addr} {n : Nat} {P : Nat → Value → Prop} {St : Nat → Heap → Prop} (W : Walks prog w A I fp wr n P St) (T : List (Addr × Obj)) (hT : ∀ p ∈ T, p.1 ∉ wr) :
    Walks prog w A I (fp ++ T.map Prod.fst) wr n P (fun i h => St i h ∧ ∀ p ∈ T, h.get? p.1 = some p.2) where
  sub := fun b hb => List.mem_append_left _ (W.sub b hb)
  frame := fun i h h' st k => ⟨W.frame i h h' st.1 fun b hb o e => k b (List.mem_append_left _ hb) o e, fun p hp => k p.1 (List.mem_append_right _ (List.mem_map.mpr ⟨p, hp, rfl⟩)) _ (st.2 p hp)⟩
  item := fun i s Q E hi st hQ => W.item i s Q E hi st.1 fun v h' tk hP st' k => hQ v h' tk hP ⟨st', fun p hp => k _ _ (hT p hp) (st.2 p hp)⟩ k
  done := fun s Q E st hQ => W.done s Q E st.1 hQ
  self := fun i s Q E st hQ => W.self i s Q E st.1 hQ
def ltP (p q : Int × Int) : Prop := p.1 < q.1 ∨ (p.1 = q.1 ∧ p.2 < q.2)
theorem lexP {p q : Int × Int} : HT.lexLt [p.1, p.2] [q.1, q.2] = true ↔ ltP p q := by
  rw [HT.lexLt_cons, HT.lexLt_cons, HT.lexLt_nil_nil]
  unfold ltP
  by_cases h1 : p.1 = q.1
  · rw [if_pos h1]
    by_cases h2 : p.2 = q.2
    · rw [if_pos h2]
      simp
      omega
    · rw [if_neg h2, decide_eq_true_eq]
      omega
  · rw [if_neg h1, decide_eq_true_eq]
    omega
theorem argBestP (f : Nat → Int × Int) : ∀ k, argBest (fun i j => HT.lexLt [(f i).1, (f i).2] [(f j).1, (f j).2]) k ≤ k ∧ ∀ j, j ≤ k → ¬ ltP (f j) (f (argBest (fun i j => HT.lexLt [(f i).1, (f i).2] [(f j).1, (f j).2]) k))
  | 0 => ⟨Nat.le_refl _, fun j hj => by
    have : j = 0 := by omega
    subst this
    show ¬ ltP (f 0) (f 0)
    unfold ltP
    omega⟩
  | k + 1 => by
    obtain ⟨h1, h2⟩ := argBestP f k
    unfold argBest
    generalize argBest (fun i j => HT.lexLt [(f i).1, (f i).2] [(f j).1, (f j).2]) k = b at *
    by_cases hb : HT.lexLt [(f (k + 1)).1, (f (k + 1)).2] [(f b).1, (f b).2] = true
    · rw [if_pos hb]
      have hb := lexP.mp hb
      refine ⟨Nat.le_refl _, fun j hj => ?_⟩
      rcases Nat.lt_or_ge j (k + 1) with z | z
      · have := h2 j (by omega)
        unfold ltP at *
        omega
      · have : j = k + 1 := by omega
        subst this
        unfold ltP
        omega
    · rw [if_neg hb]
      refine ⟨by omega, fun j hj => ?_⟩
      rcases Nat.lt_or_ge j (k + 1) with z | z
      · exact h2 j (by omega)
      · have : j = k + 1 := by omega
        subst this
        exact fun q => hb (lexP.mpr q)
def rMinP (K : PySem.W.Frag) : List V → Hp → VK → Prop := fun vs H Q => ∃ (a : Addr) (xs : List V) (ps : List (Int × Int)), vs = [V.ref a] ∧ SqL K H a xs ∧ xs.length = ps.length ∧ 0 < ps.length ∧
  (∀ (i : Nat) (p : Int × Int), ps[i]? = some p → ∃ t : Addr, xs[i]? = some (V.ref t) ∧ SqT K H t [.int p.1, .int p.2]) ∧ ∀ (i : Nat) (p : Int × Int) (t : Addr), ps[i]? = some p → xs[i]? = some (V.ref t) → (∀ q ∈ ps, ¬ ltP q p) → Q (.ref t) H
theorem cr_minP {X : Cx} (hc : X.calm = true) (hu : X.A.units + 65 < cLine) : CallR X (.builtin "min") (rMinP X.K) := by
  intro pins s σ H vs us Q I r h
  obtain ⟨a, xs, ps, rfl, hs, hlen, hne, hx, q⟩ := h
  obtain ⟨its, rv, hl, hz⟩ := I.list hs
  rw [Vals.ref1 r]
  have hrl := rv.length
  have hal : a < s.heap.objs.size := by obtain ⟨_, e, _⟩ := hl.isList; exact Heap.lt_size e
  have hv : ∀ (i : Nat) (p : Int × Int), ps[i]? = some p → ∃ (t : Addr) (ws : List Value), its[i]? = some (Value.ref t) ∧ xs[i]? = some (V.ref t) ∧ IsTup s.heap t ws.toArray ∧ IntsAre ws [p.1, p.2] := fun i p hp => by
    obtain ⟨t, h1, h2⟩ := hx i p hp
    obtain ⟨ws, r1, p1, _⟩ := I.tuple h2
    obtain ⟨u, hu, ru⟩ := rv.get h1
    cases ru
    exact ⟨t, ws, hu, h1, p1, Vals.ints (ns := [p.1, p.2]) r1⟩
  obtain ⟨T, hTd⟩ : ∃ T : List (Addr × Obj), T = its.filterMap fun v => match v with
    | .ref t => (s.heap.get? t).map fun o => (t, o)
    | _ => none := ⟨_, rfl⟩
  have hT1 : ∀ p ∈ T, s.heap.get? p.1 = some p.2 := fun p hp => by
    rw [hTd] at hp
    obtain ⟨v, _, e⟩ := List.mem_filterMap.mp hp
    split at e
    · obtain ⟨o, ho, rfl⟩ := Option.map_eq_some_iff.mp e
      exact ho
    · cases e
  have hT2 : ∀ (t : Addr) (o : Obj) (i : Nat), its[i]? = some (Value.ref t) → s.heap.get? t = some o → (t, o) ∈ T := fun t o i hi ho => by
    rw [hTd]
    exact List.mem_filterMap.mpr ⟨.ref t, List.mem_of_getElem? hi, by simp only [ho]; rfl⟩
  have hf : ∀ i : Nat, i < ps.length → ps[i]? = some (ps.getD i (0, 0)) := fun i hi => by rw [List.getD_eq_getElem?_getD, List.getElem?_eq_getElem hi]; rfl
  refine minH_call (wpAny_pyIter_list hl.isList ?_)
  refine ⟨s.heap.objs.size, _, _, its.toArray.size, _, _, fun i j => HT.lexLt [(ps.getD i (0, 0)).1, (ps.getD i (0, 0)).2] [(ps.getD j (0, 0)).1, (ps.getD j (0, 0)).2], rfl,
    Walks.more (Walks.list (A := X.A.in1) (I.ok.hd hc) s.heap.objs.size a (Nat.ne_of_lt hal) its.toArray) T (fun p hp => by simp; exact Nat.ne_of_lt (Heap.lt_size (hT1 p hp))), ⟨⟨⟨_, Heap.get?_push_size _ rfl, rfl, rfl⟩, hl.isList.push _⟩, fun p hp => Heap.get?_push_of_some _ (hT1 p hp)⟩, fun b hb => ?_, by rw [List.size_toArray]; omega, fun i j k x y s2 Q2 E2 st hi hj hQ => ?_, fun v h' tk hP kk => ?_⟩
  · show b < (s.heap.push _).objs.size
    rw [Heap.size_push]
    rcases List.mem_append.mp hb with z | z
    · rcases List.mem_cons.mp z with z | z
      · rw [z]; exact Nat.lt_succ_self _
      · have : b = a := by simpa using z
        rw [this]; exact Nat.lt_succ_of_lt hal
    · obtain ⟨p, hp, rfl⟩ := List.mem_map.mp z
      exact Nat.lt_succ_of_lt (Heap.lt_size (hT1 p hp))
  · have up : ∀ (i : Nat) (x : Value), its.toArray[i]? = some x → ∃ (t : Addr) (ws : List Value), x = .ref t ∧ IsTup s2.heap t ws.toArray ∧ IntsAre ws [(ps.getD i (0, 0)).1, (ps.getD i (0, 0)).2] := fun i x hi => by
      have hi2 : its[i]? = some x := by simpa using hi
      have hil := (List.getElem?_eq_some_iff.mp hi2).1
      obtain ⟨t, ws, g1, g2, ⟨o, ho, g4, g5⟩, g3⟩ := hv i _ (hf i (by omega))
      rw [hi2] at g1
      cases g1
      exact ⟨t, ws, rfl, ⟨o, st.2 (t, o) (hT2 t o i hi2 ho), g4, g5⟩, g3⟩
    obtain ⟨t1, ws1, rfl, p1, i1⟩ := up i x hi
    obtain ⟨t2, ws2, rfl, p2, i2⟩ := up j y hj
    exact HT.lt_tupInts p1 p2 i1 i2 (by have : X.A.in1.units ≤ X.A.units + 1 := by first | exact Nat.le_refl _ | exact Nat.le_succ _ | (unfold Around.in1; simp)
                                        omega) hQ
  · obtain ⟨b1, b2⟩ := argBestP (fun i => ps.getD i (0, 0)) (its.toArray.size - 1)
    generalize argBest (fun i j => HT.lexLt [(ps.getD i (0, 0)).1, (ps.getD i (0, 0)).2] [(ps.getD j (0, 0)).1, (ps.getD j (0, 0)).2]) (its.toArray.size - 1) = b at *
    have hbs : its.toArray.size = ps.length := by rw [List.size_toArray]; omega
    obtain ⟨t, ws, g1, g2, _, _⟩ := hv b _ (hf b (by omega))
    have hP2 : its[b]? = some v := by simpa using hP
    rw [g1] at hP2
    cases hP2
    refine ⟨.ref t, H, I.kept fun c o e => kk c o (by simp; exact Nat.ne_of_lt (Heap.lt_size e)) (Heap.get?_push_of_some _ e), rfl, q b _ t (hf b (by omega)) g2 fun p hp => ?_⟩
    obtain ⟨j, hj, e⟩ := List.getElem_of_mem hp
    have := b2 j (by omega)
    have e2 : ps.getD j (0, 0) = p := by rw [List.getD_eq_getElem?_getD, List.getElem?_eq_getElem hj, e]; rfl
    rw [e2] at this
    exact this
/-! ### by values -/
def pairD : D → Option (Int × Int)
  | .tup [.int a, .int b] => some (a, b)
  | _ => none
def pairsD : List D → Option (List (Int × Int))
  | [] => some []
  | d :: r => (pairD d).bind fun p => (pairsD r).bind fun ps => some (p :: ps)
def ltPb (p q : Int × Int) : Bool := decide (p.1 < q.1 ∨ (p.1 = q.1 ∧ p.2 < q.2))
def minPr : List (Int × Int) → Option (Int × Int)
  | [] => none
  | p :: r => some (r.foldl (fun a b => if ltPb b a = true then b else a) p)
def gMinP : List D → Option Res
  | [.lst ds] => (pairsD ds).bind fun ps => (minPr ps).bind fun p => some (.fz (.tup [.int p.1, .int p.2]))
  | _ => none
theorem pairD_eq {d : D} {p : Int × Int} (h : pairD d = some p) : d = .tup [.int p.1, .int p.2] := by
  unfold pairD at h
  split at h
  · cases h
    rfl
  · cases h
theorem pairsD_eq : ∀ {ds : List D} {ps : List (Int × Int)}, pairsD ds = some ps → ds = ps.map fun p => D.tup [.int p.1, .int p.2]
  | [], ps, h => by cases h; rfl
  | d :: r, ps, h => by
    obtain ⟨p, h1, h⟩ := Option.bind_eq_some_iff.mp h
    obtain ⟨qs, h2, h⟩ := Option.bind_eq_some_iff.mp h
    cases h
    rw [List.map_cons, ← pairsD_eq h2, ← pairD_eq h1]
theorem pairsD_map : ∀ ps : List (Int × Int), pairsD (ps.map fun p => D.tup [.int p.1, .int p.2]) = some ps
  | [] => rfl
  | p :: r => by
    rw [List.map_cons]
    show (pairsD _).bind _ = _
    rw [pairsD_map r]
    rfl
theorem fold_minP : ∀ (l : List (Int × Int)) (p : Int × Int), l.foldl (fun a b => if ltPb b a = true then b else a) p ∈ p :: l ∧ ∀ q ∈ p :: l, ¬ ltP q (l.foldl (fun a b => if ltPb b a = true then b else a) p)
  | [], p => ⟨by simp, fun q hq => by
    have : q = p := by simpa using hq
    subst this
    unfold ltP
    simp only [List.foldl_nil]
    omega⟩
  | b :: r, p => by
    rw [List.foldl_cons]
    obtain ⟨h1, h2⟩ := fold_minP r (if ltPb b p = true then b else p)
    have h3 := h2 (if ltPb b p = true then b else p) (by simp)
    generalize r.foldl (fun a b => if ltPb b a = true then b else a) (if ltPb b p = true then b else p) = m at *
    by_cases hb : ltPb b p = true
    · rw [if_pos hb] at h1 h2 h3
      have hb := of_decide_eq_true hb
      refine ⟨List.mem_cons_of_mem _ h1, fun q hq => ?_⟩
      rcases List.mem_cons.mp hq with z | z
      · subst z
        unfold ltP at *
        omega
      · exact h2 q z
    · rw [if_neg hb] at h1 h2 h3
      have hb : ¬ (b.1 < p.1 ∨ (b.1 = p.1 ∧ b.2 < p.2)) := fun z => hb (decide_eq_true z)
      refine ⟨?_, fun q hq => ?_⟩
      · rcases List.mem_cons.mp h1 with z | z
        · rw [z]; simp
        · simp [z]
      · rcases List.mem_cons.mp hq with z | z
        · exact h2 q (by simp [z])
        · rcases List.mem_cons.mp z with z | z
          · subst z
            unfold ltP at *
            omega
          · exact h2 q (List.mem_cons_of_mem _ z)
theorem minPr_one {ps : List (Int × Int)} {p m : Int × Int} (h : minPr ps = some m) (hp : p ∈ ps) (hl : ∀ q ∈ ps, ¬ ltP q p) : p = m := by
  cases ps with
  | nil => cases h
  | cons a r =>
    cases h
    obtain ⟨h1, h2⟩ := fold_minP r a
    have a1 := hl _ h1
    have a2 := h2 p hp
    generalize r.foldl (fun a b => if ltPb b a = true then b else a) a = m at *
    unfold ltP at a1 a2
    exact Prod.ext (by omega) (by omega)
theorem gMinP_of {ps : List (Int × Int)} {p : Int × Int} (hp : p ∈ ps) (hl : ∀ q ∈ ps, ¬ ltP q p) : gMinP [.lst (ps.map fun p => D.tup [.int p.1, .int p.2])] = some (.fz (.tup [.int p.1, .int p.2])) := by
  show ((pairsD _).bind _) = _
  rw [pairsD_map]
  obtain ⟨m, hm⟩ : ∃ m, minPr ps = some m := by
    cases ps with
    | nil => cases hp
    | cons a r => exact ⟨_, rfl⟩
  have e := minPr_one hm hp hl
  subst e
  show ((minPr ps).bind _) = _
  rw [hm]
  rfl
theorem cd_minP {X : Cx} (hc : X.calm = true) (hu : X.A.units + 65 < cLine) : CallR X (.builtin "min") (rDn X.K gMinP) := callD (cr_minP hc hu) fun F H xs ds res Q fh va e k => by
  unfold gMinP at e
  split at e
  · rename_i ds'
    obtain ⟨ps, e1, e⟩ := Option.bind_eq_some_iff.mp e
    obtain ⟨m, e2, e⟩ := Option.bind_eq_some_iff.mp e
    cases e
    obtain ⟨v, rfl, a, us, rfl, h1, h2⟩ := va.one
    have e3 := pairsD_eq e1
    have hg : ∀ (i : Nat) (p : Int × Int), ps[i]? = some p → ∃ t : Addr, us[i]? = some (V.ref t) ∧ SqT X.K H t [.int p.1, .int p.2] ∧ Rep X.K F (.tup [.int p.1, .int p.2]) (.ref t) := fun i p hp => by
      obtain ⟨x, g1, g2⟩ := h2.get (i := i) (d := .tup [.int p.1, .int p.2]) (by rw [e3, List.getElem?_map, hp]; rfl)
      obtain ⟨t, ws, rfl, g3, g4⟩ := id g2
      have g5 := RepL.of_ints (ns := [p.1, p.2]) g4
      subst g5
      exact ⟨t, g1, Same.sqT fh g3, g2⟩
    refine ⟨a, us, ps, rfl, SqL.of h1, by rw [h2.length, e3, List.length_map], ?_, fun i p hp => ?_, fun i p t hp ht hl => ?_⟩
    · cases ps with
      | nil => cases e2
      | cons _ _ => simp
    · obtain ⟨t, g1, g2, _⟩ := hg i p hp
      exact ⟨t, g1, g2⟩
    · obtain ⟨t', g1, g2, g3⟩ := hg i p hp
      rw [g1] at ht
      cases ht
      have := minPr_one e2 (List.mem_of_getElem? hp) hl
      subst this
      exact k.any fh g3
  · cases e
end Pu

/-! Pu26: range with a step. -/
namespace Pu
open PySem PySem.Spec PyProof.Rows L2
def rngC (lo c : Int) (n : Nat) : List D := (List.range n).map fun i : Nat => .int (lo + (i : Int) * c)
def rngT (ds : List D) (ρ : En) : Option (List D × En) := match ds with
  | [.int i, .int j, .int c] => if c ≠ 0 ∧ c.natAbs < 1073741824 ∧ Builtin.Range.small i j c = true then some (rngC i c (Builtin.Range.rangeSize i j c).toNat, ρ) else none
  | _ => none
def dRng3 (fr : DA) : DI := fun ρ => (fr ρ).bind fun p => (conts p.1 p.2).bind fun ds => rngT ds p.2
theorem size_nat (i j c : Int) (h : c ≠ 0) : 0 ≤ Builtin.Range.rangeSize i j c := by
  unfold Builtin.Range.rangeSize
  split
  · split
    · have := Int.ediv_nonneg (show 0 ≤ j - i - 1 by omega) (show 0 ≤ c by omega)
      omega
    · exact Int.le_refl 0
  · split
    · have := Int.ediv_nonneg (show 0 ≤ i - j - 1 by omega) (show 0 ≤ -c by omega)
      omega
    · exact Int.le_refl 0
theorem walkD_rngC {K : PySem.W.Frag} {lo c : Int} {n : Nat} {F : Hp} : WalkD K (Itc lo c n) (rngC lo c n) F where
  goes := fun i H hi s => by
    unfold rngC at hi
    rw [List.length_map, List.length_range] at hi
    exact hi
  stops := fun H s => by
    unfold rngC
    rw [List.length_map, List.length_range]
    exact Nat.le_refl _
  yields := fun i d H x H' F1 hd sf fh y => by
    obtain ⟨rfl, rfl⟩ := y
    unfold rngC at hd
    rw [List.getElem?_map] at hd
    obtain ⟨k, hk, rfl⟩ := Option.map_eq_some_iff.mp hd
    obtain ⟨q1, q2⟩ := List.getElem?_eq_some_iff.mp hk
    rw [List.getElem_range] at q2
    subst q2
    exact ⟨F1, Ext.refl fh, rfl⟩
section
variable {X : Cx} {a b c : Expr} {fr : DA} {p pos : Pos} {tg : Expr}
theorem ti_range3 (hg : Gl X "range") (hm : X.mg "range" = none) (ha : PA X [a, b, c] (TAD X.K fr)) (hs : starEach [a, b, c] X.env = (false, eval a X.env) :: starEach [b, c] X.env := by rfl) (hpl : (backTo pos (starEach [b, c] X.env)).any (·.1) = false := by rfl) :
    PI X tg (.Call (.Name "range" p) [a, b, c] [] pos) (TID X.K (dRng3 fr)) :=
  pi_imp (pi_range3 hg hm ha hs hpl) fun σ H Q ⟨ρ, F, ds, ρ', R, e, k⟩ => by
    obtain ⟨⟨rs, ρ1⟩, e1, e⟩ := Option.bind_eq_some_iff.mp e
    obtain ⟨cs, e2, e⟩ := Option.bind_eq_some_iff.mp e
    refine ⟨ρ, F, rs, ρ1, R, e1, fun vs F1 H1 R1 S1 q => ?_⟩
    have va := q.vw R1 e2
    unfold rngT at e
    split at e
    · rename_i i j c
      obtain ⟨v, w1, rfl, h1, va⟩ := va
      obtain ⟨u, w2, rfl, h2, va⟩ := va
      obtain ⟨t, w3, rfl, h3, va⟩ := va
      have va : w3 = [] := va
      have h1 : v = .int i := h1
      have h2 : u = .int j := h2
      have h3 : t = .int c := h3
      subst h1 h2 h3 va
      by_cases hj : c ≠ 0 ∧ c.natAbs < 1073741824 ∧ Builtin.Range.small i j c = true
      · have e := (if_pos hj).symm.trans e
        cases e
        have hn := size_nat i j c hj.1
        exact ⟨i, j, c, (Builtin.Range.rangeSize i j c).toNat, rfl, ⟨hj.1, hj.2.1, hj.2.2, by omega⟩, k _ F1 H1 R1 S1 walkD_rngC⟩
      · have e := (if_neg hj).symm.trans e
        cases e
    · cases e
end
theorem e_rng3 {fr : DA} {ρ : En} : dRng3 fr ρ = ob (fr ρ) fun p => ob (conts p.1 p.2) fun ds => rngT ds p.2 := rfl
theorem e_rngT {i j c : Int} {ρ : En} : rngT [.int i, .int j, .int c] ρ = if c ≠ 0 ∧ c.natAbs < 1073741824 ∧ Builtin.Range.small i j c = true then some (rngC i c (Builtin.Range.rangeSize i j c).toNat, ρ) else none := rfl
end Pu

/-! Pu27: a comprehension whose own name stands for an object of the def's own: the object is frozen first. -/
namespace Pu
open PySem PySem.Spec PyProof.Rows L2
def fzS : Option Slot → Nat → List D → En → Option (List D × En)
  | some (.ow d), v, ds, ρ => some (ds, ρ.set v (.fz d))
  | some (.fz _), _, ds, ρ => some (ds, ρ)
  | some (.pm _), _, ds, ρ => some (ds, ρ)
  | some .no, _, ds, ρ => some (ds, ρ)
  | none, _, ds, ρ => some (ds, ρ)
def dFzI (v : Nat) (fi : DI) : DI := fun ρ => (fi ρ).bind fun p => fzS p.2[v]? v p.1 p.2
theorem WalkD.mono {K : PySem.W.Frag} {J : It} {ds : List D} {F F' : Hp} (w : WalkD K J ds F) (h : Same F F') : WalkD K J ds F' where
  goes := fun i H hi s => w.goes i H hi (h.trans s)
  stops := fun H s => w.stops H (h.trans s)
  yields := fun i d H x H' F1 hd sf fh y => w.yields i d H x H' F1 hd (h.trans sf) fh y
theorem ti_fz {X : Cx} {v : Nat} {fi : DI} {tg l : Expr} (h : PI X tg l (TID X.K fi)) : PI X tg l (TID X.K (dFzI v fi)) :=
  pi_imp h fun σ H Q ⟨ρ, F, ds, ρ', R, e, k⟩ => by
    obtain ⟨p, e1, e⟩ := Option.bind_eq_some_iff.mp e
    have e : fzS p.2[v]? v p.1 p.2 = some (ds, ρ') := e
    refine ⟨ρ, F, p.1, p.2, R, e1, fun J F1 H1 R1 S1 w => ?_⟩
    cases hs : p.2[v]? with
    | none =>
      rw [hs] at e
      cases e
      exact k J F1 H1 R1 S1 w
    | some s =>
      rw [hs] at e
      cases s with
      | ow d =>
        cases e
        obtain ⟨u, h1, h2, h3⟩ := R1.ow v _ d hs rfl
        obtain ⟨F2, R2, S2, _, sm, _⟩ := frz_ok (r := .br v) (ρ1 := p.2.set v (.fz d)) (d := d) R1 S1 h1 (by simp only [frz, hs])
        exact k J F2 H1 R2 S2 (w.mono sm)
      | _ =>
        cases e
        exact k J F1 H1 R1 S1 w
theorem e_fzI {v : Nat} {fi : DI} {ρ : En} : dFzI v fi ρ = ob (fi ρ) fun p => fzS p.2[v]? v p.1 p.2 := rfl
end Pu

namespace Lw
open PySem PySem.Spec PyProof.Rows L2 Pu
abbrev WFUEL : Nat := 10000000000000000000000000000000000000000
def topS (i : Nat) : Stmt := PySem.Challenge.pw_comesouteven_k55_whole_ribs_round_and_ro.main.body.getD i (.Pass ⟨0, 0, 0, 0⟩)
abbrev s__law_moved : Stmt := topS 37
theorem sc__law_moved : FnScope ["rib", "shift", "at"] ["rib", "shift"] (defScope s__law_moved) := ⟨rfl, rfl, rfl, by decide +kernel, rfl, by decide +kernel, by decide +kernel⟩
abbrev s_is_int : Stmt := topS 5
theorem sc_is_int : FnScope ["value", "low", "high"] ["value", "low", "high"] (defScope s_is_int) := ⟨rfl, rfl, rfl, by decide +kernel, rfl, by decide +kernel, by decide +kernel⟩
abbrev s_are_ints : Stmt := topS 6
theorem sc_are_ints : FnScope ["value", "low", "high", "one"] ["value", "low", "high"] (defScope s_are_ints) := ⟨rfl, rfl, rfl, by decide +kernel, rfl, by decide +kernel, by decide +kernel⟩
abbrev s_is_rib : Stmt := topS 12
theorem sc_is_rib : FnScope ["value"] ["value"] (defScope s_is_rib) := ⟨rfl, rfl, rfl, by decide +kernel, rfl, by decide +kernel, by decide +kernel⟩
abbrev s_look_at_rib : Stmt := topS 13
theorem sc_look_at_rib : FnScope ["rib"] ["rib"] (defScope s_look_at_rib) := ⟨rfl, rfl, rfl, by decide +kernel, rfl, by decide +kernel, by decide +kernel⟩
abbrev s_columns_of : Stmt := topS 30
theorem sc_columns_of : FnScope ["rib", "wide", "knit", "at"] ["rib", "wide"] (defScope s_columns_of) := ⟨rfl, rfl, rfl, by decide +kernel, rfl, by decide +kernel, by decide +kernel⟩
abbrev s_told_least : Stmt := topS 15
theorem sc_told_least : FnScope ["rib", "long"] ["rib"] (defScope s_told_least) := ⟨rfl, rfl, rfl, by decide +kernel, rfl, by decide +kernel, by decide +kernel⟩
abbrev s_least_rib : Stmt := topS 16
theorem sc_least_rib : FnScope ["rib"] ["rib"] (defScope s_least_rib) := ⟨rfl, rfl, rfl, by decide +kernel, rfl, by decide +kernel, by decide +kernel⟩
abbrev s_back_of : Stmt := topS 17
theorem sc_back_of : FnScope ["rib", "stitch"] ["rib"] (defScope s_back_of) := ⟨rfl, rfl, rfl, by decide +kernel, rfl, by decide +kernel, by decide +kernel⟩
abbrev s_told_moves : Stmt := topS 19
theorem sc_told_moves : FnScope ["rib", "at"] ["rib"] (defScope s_told_moves) := ⟨rfl, rfl, rfl, by decide +kernel, rfl, by decide +kernel, by decide +kernel⟩
abbrev s_is_two_faced : Stmt := topS 18
theorem sc_is_two_faced : FnScope ["rib", "least", "stitch"] ["rib"] (defScope s_is_two_faced) := ⟨rfl, rfl, rfl, by decide +kernel, rfl, by decide +kernel, by decide +kernel⟩
abbrev s__law_is_bool : Stmt := topS 36
theorem sc__law_is_bool : FnScope ["told", "due"] ["told", "due"] (defScope s__law_is_bool) := ⟨rfl, rfl, rfl, by decide +kernel, rfl, by decide +kernel, by decide +kernel⟩
abbrev s_look_at_ribs : Stmt := topS 14
theorem sc_look_at_ribs : FnScope ["one", "other", "wide"] ["one", "other", "wide"] (defScope s_look_at_ribs) := ⟨rfl, rfl, rfl, by decide +kernel, rfl, by decide +kernel, by decide +kernel⟩
abbrev s_told_unlike : Stmt := topS 22
theorem sc_told_unlike : FnScope ["one", "other", "wide", "shift", "at"] ["one", "other", "wide", "shift"] (defScope s_told_unlike) := ⟨rfl, rfl, rfl, by decide +kernel, rfl, by decide +kernel, by decide +kernel⟩
abbrev s_told_best : Stmt := topS 24
theorem sc_told_best : FnScope ["one", "other", "wide", "shift"] ["one", "other", "wide"] (defScope s_told_best) := ⟨rfl, rfl, rfl, by decide +kernel, rfl, by decide +kernel, by decide +kernel⟩
abbrev s_flows_on : Stmt := topS 25
theorem sc_flows_on : FnScope ["one", "other", "wide", "few", "shift"] ["one", "other", "wide"] (defScope s_flows_on) := ⟨rfl, rfl, rfl, by decide +kernel, rfl, by decide +kernel, by decide +kernel⟩
abbrev s_first_unlike : Stmt := topS 27
theorem sc_first_unlike : FnScope ["one", "other", "at"] ["one", "other"] (defScope s_first_unlike) := ⟨rfl, rfl, rfl, by decide +kernel, rfl, by decide +kernel, by decide +kernel⟩
abbrev s_unlike_stitches : Stmt := topS 23
theorem sc_unlike_stitches : FnScope ["one", "other", "wide", "shift"] ["one", "other", "wide", "shift"] (defScope s_unlike_stitches) := ⟨rfl, rfl, rfl, by decide +kernel, rfl, by decide +kernel, by decide +kernel⟩
abbrev s__law_take : Stmt := topS 33
theorem sc__law_take : FnScope ["pot", "upto", "prime", "mixture", "digit"] ["pot", "upto"] (defScope s__law_take) := ⟨rfl, rfl, rfl, by decide +kernel, rfl, by decide +kernel, by decide +kernel⟩
abbrev s_is_told : Stmt := topS 7
theorem sc_is_told : FnScope ["value", "sizes"] ["value", "sizes"] (defScope s_is_told) := ⟨rfl, rfl, rfl, by decide +kernel, rfl, by decide +kernel, by decide +kernel⟩
abbrev s_shows_flows_on : Stmt := topS 26
theorem sc_shows_flows_on : FnScope ["one", "other", "wide", "value", "few"] ["one", "other", "wide", "value"] (defScope s_shows_flows_on) := ⟨rfl, rfl, rfl, by decide +kernel, rfl, by decide +kernel, by decide +kernel⟩
abbrev s__law_are_flows_right : Stmt := topS 38
theorem sc__law_are_flows_right : FnScope ["pot", "rib", "moved", "shift", "least", "other", "wide", "more", "here", "whole", "told", "some", "first", "at"] ["pot", "rib", "moved", "shift"] (defScope s__law_are_flows_right) := ⟨rfl, rfl, rfl, by decide +kernel, rfl, by decide +kernel, by decide +kernel⟩
abbrev s_nearest_round : Stmt := topS 29
theorem sc_nearest_round : FnScope ["rib", "wide", "long", "low"] ["rib", "wide"] (defScope s_nearest_round) := ⟨rfl, rfl, rfl, by decide +kernel, rfl, by decide +kernel, by decide +kernel⟩
abbrev s_are_same_ribs : Stmt := topS 21
theorem sc_are_same_ribs : FnScope ["one", "other"] ["one", "other"] (defScope s_are_same_ribs) := ⟨rfl, rfl, rfl, by decide +kernel, rfl, by decide +kernel, by decide +kernel⟩
abbrev s_plain_rib : Stmt := topS 20
theorem sc_plain_rib : FnScope ["knit", "purl", "many"] ["knit", "purl"] (defScope s_plain_rib) := ⟨rfl, rfl, rfl, by decide +kernel, rfl, by decide +kernel, by decide +kernel⟩
abbrev s_fits_round : Stmt := topS 28
theorem sc_fits_round : FnScope ["rib", "wide"] ["rib", "wide"] (defScope s_fits_round) := ⟨rfl, rfl, rfl, by decide +kernel, rfl, by decide +kernel, by decide +kernel⟩
abbrev s__law_of : Stmt := topS 34
theorem sc__law_of : FnScope ["pot", "some"] ["pot", "some"] (defScope s__law_of) := ⟨rfl, rfl, rfl, by decide +kernel, rfl, by decide +kernel, by decide +kernel⟩
abbrev s__law_right : Stmt := topS 39
theorem sc__law_right : FnScope ["pot", "lap", "base", "rib", "least", "shift", "moved", "half", "faced", "wide", "knit", "purl", "times", "rest", "many", "near", "at"] ["pot"] (defScope s__law_right) := ⟨rfl, rfl, rfl, by decide +kernel, rfl, by decide +kernel, by decide +kernel⟩
abbrev s__law_pot : Stmt := topS 32
theorem sc__law_pot : FnScope ["script", "place", "cell", "own", "small"] ["script", "place"] (defScope s__law_pot) := ⟨rfl, rfl, rfl, by decide +kernel, rfl, by decide +kernel, by decide +kernel⟩
abbrev s__law_cells : Stmt := topS 35
theorem sc__law_cells : FnScope ["script", "most"] ["script", "most"] (defScope s__law_cells) := ⟨rfl, rfl, rfl, by decide +kernel, rfl, by decide +kernel, by decide +kernel⟩
abbrev s_law : Stmt := topS 40
theorem sc_law : FnScope ["script", "place"] ["script"] (defScope s_law) := ⟨rfl, rfl, rfl, by decide +kernel, rfl, by decide +kernel, by decide +kernel⟩
/-! ### what the defs reckon -/
def b__law_moved : DS := dSeq (dSet 2 (dOp2 gMod (dName 1) (dOpn gLen (dCons (dName 0) (dNil))))) (dRet (dOp2 gAdd (dSlice (dName 0) (some (dName 2)) none) (dSlice (dName 0) none (some (dName 2)))))
def g__law_moved : Fn := fnD 3 b__law_moved
def b_is_int : DS := dRet (dAnd (dOp1 (gIsi .int) (dName 0)) (dAnd (dNot (dOp1 (gIsi .bool) (dName 0))) (dChain gLe gLe (dName 1) (dName 0) (dName 2))))
def g_is_int : Fn := fnD 3 b_is_int
def b_are_ints : DS := dRet (dAnd (dOp1 (gIsi .tuple) (dName 0)) (dOpn gAll (dCons (dLc [3] (dIt (dName 0)) (dgName 3) (dYes) (dCall g_is_int (dCons (dName 3) (dCons (dName 1) (dCons (dName 2) (dNil)))))) (dNil))))
def g_are_ints : Fn := fnD 4 b_are_ints
def b_is_rib : DS := dRet (dAnd (dCall g_are_ints (dCons (dName 0) (dCons (dC (.int 0)) (dCons (dC (.int 1)) (dNil))))) (dChain gLe gLe (dC (.int 1)) (dOpn gLen (dCons (dName 0) (dNil))) (dC (.int 24))))
def g_is_rib : Fn := fnD 1 b_is_rib
def b_look_at_rib : DS := dIfS (dNotT (dTest (dCall g_is_rib (dCons (dName 0) (dNil))))) (dNever) (dNext)
def g_look_at_rib : Fn := fnD 1 b_look_at_rib
def b_columns_of : DS := dSeq (dDrop (dCall g_look_at_rib (dCons (dName 0) (dNil)))) (dSeq (dIfS (dNotT (dTest (dCall g_is_int (dCons (dName 1) (dCons (dC (.int 0)) (dCons (dC (.int 600)) (dNil))))))) (dNever) (dNext)) (dSeq (dSet 2 (dOpn gLen (dCons (dLc [3] (dRng1 (dCons (dName 1) (dNil))) (dgName 3) (dTest (dOp2 gEq (dOp2 gIx (dName 0) (dOp2 gMod (dName 3) (dOpn gLen (dCons (dName 0) (dNil))))) (dC (.int 1)))) (dName 3)) (dNil)))) (dRet (dTup (dCons (dName 2) (dCons (dOp2 gSub (dName 1) (dName 2)) (dNil)))))))
def g_columns_of : Fn := fnD 4 b_columns_of
def b_told_least : DS := dSeq (dFor (dRng2 (dCons (dC (.int 1)) (dCons (dOp2 gAdd (dOpn gLen (dCons (dName 0) (dNil))) (dC (.int 1))) (dNil)))) (dgName 1) (dIfS (dAndT (dTest (dOp2 gEq (dOp2 gMod (dOpn gLen (dCons (dName 0) (dNil))) (dName 1)) (dC (.int 0)))) (dTest (dOp2 gEq (dOp2 gMul (dSlice (dName 0) none (some (dName 1))) (dOp2 gDiv (dOpn gLen (dCons (dName 0) (dNil))) (dName 1))) (dName 0)))) (dRet (dSlice (dName 0) none (some (dName 1)))) (dNext))) (dRet (dName 0))
def g_told_least : Fn := fnD 2 b_told_least
def b_least_rib : DS := dSeq (dDrop (dCall g_look_at_rib (dCons (dName 0) (dNil)))) (dRet (dCall g_told_least (dCons (dName 0) (dNil))))
def g_least_rib : Fn := fnD 1 b_least_rib
def b_back_of : DS := dSeq (dDrop (dCall g_look_at_rib (dCons (dName 0) (dNil)))) (dRet (dOpn gTuple (dCons (dLc [1] (dIt (dSt (-1) (dName 0))) (dgName 1) (dYes) (dOp2 gSub (dC (.int 1)) (dName 1))) (dNil))))
def g_back_of : Fn := fnD 2 b_back_of
def b_told_moves : DS := dRet (dLc [1] (dRng1 (dCons (dOpn gLen (dCons (dName 0) (dNil))) (dNil))) (dgName 1) (dYes) (dOp2 gAdd (dSlice (dName 0) (some (dName 1)) none) (dSlice (dName 0) none (some (dName 1)))))
def g_told_moves : Fn := fnD 2 b_told_moves
def b_is_two_faced : DS := dSeq (dDrop (dCall g_look_at_rib (dCons (dName 0) (dNil)))) (dSeq (dSet 1 (dCall g_told_least (dCons (dName 0) (dNil)))) (dRet (dOp2 gIn (dName 1) (dCall g_told_moves (dCons (dOpn gTuple (dCons (dLc [2] (dIt (dSt (-1) (dName 1))) (dgName 2) (dYes) (dOp2 gSub (dC (.int 1)) (dName 2))) (dNil))) (dNil))))))
def g_is_two_faced : Fn := fnD 3 b_is_two_faced
def b__law_is_bool : DS := dRet (dAnd (dOp1 (gIsi .bool) (dName 0)) (dOp2 gEq (dName 0) (dName 1)))
def g__law_is_bool : Fn := fnD 2 b__law_is_bool
def b_look_at_ribs : DS := dSeq (dDrop (dCall g_look_at_rib (dCons (dName 0) (dNil)))) (dSeq (dDrop (dCall g_look_at_rib (dCons (dName 1) (dNil)))) (dIfS (dNotT (dTest (dCall g_is_int (dCons (dName 2) (dCons (dC (.int 0)) (dCons (dC (.int 600)) (dNil))))))) (dNever) (dNext)))
def g_look_at_ribs : Fn := fnD 3 b_look_at_ribs
def b_told_unlike : DS := dRet (dOpn gLen (dCons (dLc [4] (dRng1 (dCons (dName 2) (dNil))) (dgName 4) (dTest (dOp2 gNe (dOp2 gIx (dName 0) (dOp2 gMod (dName 4) (dOpn gLen (dCons (dName 0) (dNil))))) (dOp2 gIx (dName 1) (dOp2 gMod (dOp2 gAdd (dName 4) (dName 3)) (dOpn gLen (dCons (dName 1) (dNil))))))) (dName 4)) (dNil)))
def g_told_unlike : Fn := fnD 5 b_told_unlike
def b_told_best : DS := dRet (dOpn gMinP (dCons (dLc [3] (dRng1 (dCons (dOpn gLen (dCons (dName 1) (dNil))) (dNil))) (dgName 3) (dYes) (dTup (dCons (dCall g_told_unlike (dCons (dName 0) (dCons (dName 1) (dCons (dName 2) (dCons (dName 3) (dNil)))))) (dCons (dName 3) (dNil))))) (dNil)))
def g_told_best : Fn := fnD 4 b_told_best
def b_flows_on : DS := dSeq (dDrop (dCall g_look_at_ribs (dCons (dName 0) (dCons (dName 1) (dCons (dName 2) (dNil)))))) (dSeq (dAsg (dCall g_told_best (dCons (dName 0) (dCons (dName 1) (dCons (dName 2) (dNil))))) (dgTup 2 (dgCons (dgName 3) (dgCons (dgName 4) (dgNil))))) (dRet (dTup (dCons (dC (.str "shift")) (dCons (dName 4) (dCons (dName 3) (dNil)))))))
def g_flows_on : Fn := fnD 5 b_flows_on
def b_first_unlike : DS := dSeq (dDrop (dCall g_look_at_rib (dCons (dName 0) (dNil)))) (dSeq (dDrop (dCall g_look_at_rib (dCons (dName 1) (dNil)))) (dSeq (dFor (dRng1 (dCons (dOp2 gAdd (dOpn gLen (dCons (dName 0) (dNil))) (dOpn gLen (dCons (dName 1) (dNil)))) (dNil))) (dgName 2) (dIfS (dTest (dOp2 gNe (dOp2 gIx (dName 0) (dOp2 gMod (dName 2) (dOpn gLen (dCons (dName 0) (dNil))))) (dOp2 gIx (dName 1) (dOp2 gMod (dName 2) (dOpn gLen (dCons (dName 1) (dNil))))))) (dRet (dName 2)) (dNext))) (dRet (dC .non))))
def g_first_unlike : Fn := fnD 3 b_first_unlike
def b_unlike_stitches : DS := dSeq (dDrop (dCall g_look_at_ribs (dCons (dName 0) (dCons (dName 1) (dCons (dName 2) (dNil)))))) (dSeq (dIfS (dNotT (dTest (dCall g_is_int (dCons (dName 3) (dCons (dC (.int 0)) (dCons (dC (.int 600)) (dNil))))))) (dNever) (dNext)) (dRet (dCall g_told_unlike (dCons (dName 0) (dCons (dName 1) (dCons (dName 2) (dCons (dName 3) (dNil))))))))
def g_unlike_stitches : Fn := fnD 4 b_unlike_stitches
def b__law_take : DS := dSeq (dIfS (dTest (dOp2 gGt (dOp2 gIx (dName 0) (dC (.int 0))) (dC (.int 0)))) (dSeq (dSet 4 (dOp2 gMod (dOpn gInt (dCons (dOp2 gIx (dName 0) (dC (.int 0))) (dNil))) (dName 1))) (dSeq (dSetIx 0 (dC (.int 0)) (dOp2 gDiv (dOp2 gIx (dName 0) (dC (.int 0))) (dName 1))) (dRet (dName 4)))) (dNext)) (dSeq (dSetIx 0 (dC (.int 2)) (dOp2 gAdd (dOp2 gIx (dName 0) (dC (.int 2))) (dC (.int 1)))) (dSeq (dSet 2 (dOp2 gIx (dLst (dCons (dC (.int 2147483647)) (dCons (dC (.int 2147483629)) (dCons (dC (.int 2147483587)) (dCons (dC (.int 2147483579)) (dCons (dC (.int 2147483563)) (dNil))))))) (dOp2 gMod (dOpn gInt (dCons (dOp2 gIx (dName 0) (dC (.int 2))) (dNil))) (dC (.int 5))))) (dSeq (dSet 3 (dOp2 gMod (dOpn gInt (dCons (dOp2 gPow (dOpn gInt (dCons (dOp2 gAdd (dOp2 gAdd (dOp2 gIx (dName 0) (dC (.int 1))) (dOp2 gMul (dOp2 gMul (dC (.int 95257)) (dOp2 gIx (dName 0) (dC (.int 2)))) (dOp2 gIx (dName 0) (dC (.int 2))))) (dC (.int 3163))) (dNil))) (dC (.int 3))) (dNil))) (dName 2))) (dSeq (dSet 3 (dOp2 gMod (dOpn gInt (dCons (dOp2 gMul (dName 3) (dOp2 gAdd (dOp2 gMod (dOpn gInt (dCons (dName 3) (dNil))) (dC (.int 13441))) (dOp2 gMul (dC (.int 419)) (dOp2 gIx (dName 0) (dC (.int 2)))))) (dNil))) (dC (.int 2305843009213693907)))) (dRet (dOp2 gMod (dOpn gInt (dCons (dOp2 gDiv (dName 3) (dC (.int 229))) (dNil))) (dName 1)))))))
def g__law_take : Fn := fnD 5 b__law_take
def b_is_told : DS := dRet (dAnd (dOp1 (gIsi .tuple) (dName 0)) (dAnd (dOp2 gIn (dOpn gLen (dCons (dName 0) (dNil))) (dName 1)) (dOp1 (gIsi .str) (dOp2 gIx (dName 0) (dC (.int 0))))))
def g_is_told : Fn := fnD 2 b_is_told
def b_shows_flows_on : DS := dSeq (dDrop (dCall g_look_at_ribs (dCons (dName 0) (dCons (dName 1) (dCons (dName 2) (dNil)))))) (dSeq (dIfS (dOrT (dNotT (dTest (dCall g_is_told (dCons (dName 3) (dCons (dTup (dCons (dOp2 gAdd (dC (.int 2)) (dC (.int 1))) (dNil))) (dNil)))))) (dOrT (dTest (dOp2 gNe (dOp2 gIx (dName 3) (dC (.int 0))) (dC (.str "shift")))) (dNotT (dTest (dCall g_is_int (dCons (dOp2 gIx (dName 3) (dC (.int 1))) (dCons (dC (.int 0)) (dCons (dOp2 gSub (dOpn gLen (dCons (dName 1) (dNil))) (dC (.int 1))) (dNil))))))))) (dRet (dC (.bl false))) (dNext)) (dSeq (dSet 4 (dOp2 gIx (dCall g_told_best (dCons (dName 0) (dCons (dName 1) (dCons (dName 2) (dNil))))) (dC (.int 0)))) (dRet (dAnd (dCall g_is_int (dCons (dOp2 gIx (dName 3) (dC (.int 2))) (dCons (dName 4) (dCons (dName 4) (dNil))))) (dOp2 gEq (dCall g_told_unlike (dCons (dName 0) (dCons (dName 1) (dCons (dName 2) (dCons (dOp2 gIx (dName 3) (dC (.int 1))) (dNil)))))) (dName 4))))))
def g_shows_flows_on : Fn := fnD 5 b_shows_flows_on
def b__law_are_flows_right : DS := dSeq (dSet 4 (dCall g_least_rib (dCons (dName 1) (dNil)))) (dSeq (dSet 5 (dOpn gTuple (dCons (dLc [13] (dRng1 (dCons (dOp2 gAdd (dC (.int 1)) (dCallM g__law_take 0 (dCons (dC (.int 24)) (dNil)))) (dNil))) (dgName 13) (dYes) (dOpn gInt (dCons (dCallM g__law_take 0 (dCons (dC (.int 2)) (dNil))) (dNil)))) (dNil)))) (dSeq (dAsg (dTup (dCons (dOpn gInt (dCons (dCallM g__law_take 0 (dCons (dC (.int 300)) (dNil))) (dNil))) (dCons (dOpn gInt (dCons (dCallM g__law_take 0 (dCons (dC (.int 300)) (dNil))) (dNil))) (dNil)))) (dgTup 2 (dgCons (dgName 6) (dgCons (dgName 7) (dgNil))))) (dSeq (dMany [8, 9] (dCons (dCall g_unlike_stitches (dCons (dName 1) (dCons (dName 5) (dCons (dName 6) (dCons (dName 3) (dNil)))))) (dCons (dCall g_unlike_stitches (dCons (dName 1) (dCons (dName 5) (dCons (dOp2 gAdd (dName 6) (dName 7)) (dCons (dName 3) (dNil)))))) (dNil)))) (dSeq (dIfS (dTest (dOp2 gNe (dOp2 gSub (dName 9) (dName 8)) (dCall g_unlike_stitches (dCons (dCall g__law_moved (dCons (dName 1) (dCons (dName 6) (dNil)))) (dCons (dName 5) (dCons (dName 7) (dCons (dOp2 gAdd (dName 3) (dName 6)) (dNil)))))))) (dRet (dC (.bl false))) (dNext)) (dSeq (dIfS (dTest (dOp2 gNe (dCall g_unlike_stitches (dCons (dName 1) (dCons (dName 1) (dCons (dName 6) (dCons (dC (.int 0)) (dNil)))))) (dC (.int 0)))) (dRet (dC (.bl false))) (dNext)) (dSeq (dIfS (dTest (dOp2 gNe (dCall g_unlike_stitches (dCons (dName 5) (dCons (dName 1) (dCons (dName 6) (dCons (dC (.int 0)) (dNil)))))) (dCall g_unlike_stitches (dCons (dName 1) (dCons (dName 5) (dCons (dName 6) (dCons (dC (.int 0)) (dNil)))))))) (dRet (dC (.bl false))) (dNext)) (dSeq (dSet 10 (dCall g_flows_on (dCons (dName 1) (dCons (dName 5) (dCons (dName 6) (dNil)))))) (dSeq (dSet 11 (dLc [13] (dRng1 (dCons (dOpn gLen (dCons (dName 5) (dNil))) (dNil))) (dgName 13) (dYes) (dCall g_unlike_stitches (dCons (dName 1) (dCons (dName 5) (dCons (dName 6) (dCons (dName 13) (dNil)))))))) (dSeq (dIfS (dOrT (dTest (dOp2 gNe (dOp2 gIx (dName 10) (dC (.int 2))) (dOpn gMin (dCons (dName 11) (dNil))))) (dOrT (dTest (dOp2 gNe (dOp2 gIx (dName 11) (dOp2 gIx (dName 10) (dC (.int 1)))) (dOpn gMin (dCons (dName 11) (dNil))))) (dTest (dOp2 gIsNot (dCall g_shows_flows_on (dCons (dName 1) (dCons (dName 5) (dCons (dName 6) (dCons (dName 10) (dNil)))))) (dC (.bl true)))))) (dRet (dC (.bl false))) (dNext)) (dSeq (dIfS (dTest (dOp2 gNe (dOp2 gIx (dCall g_flows_on (dCons (dName 1) (dCons (dName 2) (dCons (dOpn gLen (dCons (dName 1) (dNil))) (dNil))))) (dC (.int 2))) (dC (.int 0)))) (dRet (dC (.bl false))) (dNext)) (dSeq (dSet 12 (dCall g_first_unlike (dCons (dName 1) (dCons (dName 5) (dNil))))) (dSeq (dIfS (dTest (dOp2 gNe (dOp2 gIs (dName 12) (dC .non)) (dOp2 gEq (dName 4) (dCall g_least_rib (dCons (dName 5) (dNil)))))) (dRet (dC (.bl false))) (dNext)) (dSeq (dIfS (dAndT (dTest (dOp2 gIsNot (dName 12) (dC .non))) (dTest (dOp2 gGe (dName 12) (dOp2 gSub (dOp2 gAdd (dOpn gLen (dCons (dName 4) (dNil))) (dOpn gLen (dCons (dCall g_least_rib (dCons (dName 5) (dNil))) (dNil)))) (dC (.int 1)))))) (dRet (dC (.bl false))) (dNext)) (dSeq (dIfS (dAndT (dTest (dOp2 gIsNot (dName 12) (dC .non))) (dTest (dOp2 gNe (dCall g_unlike_stitches (dCons (dName 1) (dCons (dName 5) (dCons (dName 12) (dCons (dC (.int 0)) (dNil)))))) (dC (.int 0))))) (dRet (dC (.bl false))) (dNext)) (dRet (dC (.bl true)))))))))))))))))
def g__law_are_flows_right : Fn := fnD 14 b__law_are_flows_right
def b_nearest_round : DS := dSeq (dDrop (dCall g_look_at_rib (dCons (dName 0) (dNil)))) (dSeq (dIfS (dNotT (dTest (dCall g_is_int (dCons (dName 1) (dCons (dC (.int 1)) (dCons (dC (.int 600)) (dNil))))))) (dNever) (dNext)) (dSeq (dSet 2 (dOpn gLen (dCons (dCall g_told_least (dCons (dName 0) (dNil))) (dNil)))) (dSeq (dSet 3 (dOp2 gMul (dOp2 gDiv (dName 1) (dName 2)) (dName 2))) (dRet (dIf (dAndT (dTest (dOp2 gGt (dName 3) (dC (.int 0)))) (dTest (dOp2 gLe (dOp2 gSub (dName 1) (dName 3)) (dOp2 gSub (dOp2 gAdd (dName 3) (dName 2)) (dName 1))))) (dName 3) (dOp2 gAdd (dName 3) (dName 2)))))))
def g_nearest_round : Fn := fnD 4 b_nearest_round
def b_are_same_ribs : DS := dSeq (dDrop (dCall g_look_at_rib (dCons (dName 0) (dNil)))) (dSeq (dDrop (dCall g_look_at_rib (dCons (dName 1) (dNil)))) (dRet (dOp2 gIn (dCall g_told_least (dCons (dName 1) (dNil))) (dCall g_told_moves (dCons (dCall g_told_least (dCons (dName 0) (dNil))) (dNil))))))
def g_are_same_ribs : Fn := fnD 2 b_are_same_ribs
def b_plain_rib : DS := dSeq (dFor (dIt (dTup (dCons (dName 0) (dCons (dName 1) (dNil))))) (dgName 2) (dIfS (dNotT (dTest (dCall g_is_int (dCons (dName 2) (dCons (dC (.int 0)) (dCons (dOp2 gDiv (dC (.int 24)) (dC (.int 2))) (dNil))))))) (dNever) (dNext))) (dSeq (dIfS (dTest (dOp2 gEq (dOp2 gAdd (dName 0) (dName 1)) (dC (.int 0)))) (dNever) (dNext)) (dRet (dOp2 gAdd (dOp2 gMul (dTup (dCons (dC (.int 1)) (dNil))) (dName 0)) (dOp2 gMul (dTup (dCons (dC (.int 0)) (dNil))) (dName 1)))))
def g_plain_rib : Fn := fnD 3 b_plain_rib
def b_fits_round : DS := dSeq (dDrop (dCall g_look_at_rib (dCons (dName 0) (dNil)))) (dSeq (dIfS (dNotT (dTest (dCall g_is_int (dCons (dName 1) (dCons (dC (.int 1)) (dCons (dC (.int 600)) (dNil))))))) (dNever) (dNext)) (dRet (dOp2 gEq (dOp2 gMod (dName 1) (dOpn gLen (dCons (dCall g_told_least (dCons (dName 0) (dNil))) (dNil)))) (dC (.int 0)))))
def g_fits_round : Fn := fnD 2 b_fits_round
def b__law_of : DS := dRet (dOp2 gIx (dName 1) (dCallM g__law_take 0 (dCons (dOpn gLen (dCons (dName 1) (dNil))) (dNil))))
def g__law_of : Fn := fnD 2 b__law_of
def b__law_right : DS := dSeq (dFor (dRng1 (dCons (dC (.int 8)) (dNil))) (dgName 1) (dSeq (dSet 2 (dOpn gTuple (dCons (dLc [16] (dRng1 (dCons (dOp2 gAdd (dC (.int 1)) (dCallM g__law_take 0 (dCons (dCallM g__law_of 0 (dCons (dLst (dCons (dC (.int 4)) (dCons (dC (.int 12)) (dNil)))) (dNil))) (dNil)))) (dNil))) (dgName 16) (dYes) (dOpn gInt (dCons (dCallM g__law_take 0 (dCons (dC (.int 2)) (dNil))) (dNil)))) (dNil)))) (dSeq (dSet 3 (dOp2 gMul (dName 2) (dOpn gInt (dCons (dOp2 gAdd (dC (.int 1)) (dCallM g__law_take 0 (dCons (dOp2 gDiv (dC (.int 24)) (dOpn gLen (dCons (dName 2) (dNil)))) (dNil)))) (dNil))))) (dSeq (dMany [4, 5] (dCons (dCall g_least_rib (dCons (dName 3) (dNil))) (dCons (dOpn gInt (dCons (dCallM g__law_take 0 (dCons (dC (.int 30)) (dNil))) (dNil))) (dNil)))) (dSeq (dIfS (dOrT (dTest (dOp2 gNe (dName 3) (dOp2 gMul (dName 4) (dOp2 gDiv (dOpn gLen (dCons (dName 3) (dNil))) (dOpn gLen (dCons (dName 4) (dNil))))))) (dOrT (dTest (dOp2 gNe (dCall g_least_rib (dCons (dName 4) (dNil))) (dName 4))) (dTest (dOp2 gNe (dCall g_least_rib (dCons (dName 2) (dNil))) (dName 4))))) (dRet (dC (.bl false))) (dNext)) (dSeq (dSet 6 (dCall g__law_moved (dCons (dName 3) (dCons (dName 5) (dNil))))) (dSeq (dIfS (dOrT (dTest (dOp2 gIsNot (dCall g_are_same_ribs (dCons (dName 3) (dCons (dName 6) (dNil)))) (dC (.bl true)))) (dTest (dOp2 gIsNot (dCall g_are_same_ribs (dCons (dName 2) (dCons (dName 6) (dNil)))) (dC (.bl true))))) (dRet (dC (.bl false))) (dNext)) (dSeq (dIfS (dOrT (dTest (dOp2 gNe (dCall g_back_of (dCons (dCall g_back_of (dCons (dName 3) (dNil))) (dNil))) (dName 3))) (dTest (dOp2 gNe (dCall g_back_of (dCons (dName 6) (dNil))) (dCall g__law_moved (dCons (dCall g_back_of (dCons (dName 3) (dNil))) (dCons (dOp1 gNeg (dName 5)) (dNil))))))) (dRet (dC (.bl false))) (dNext)) (dSeq (dSet 7 (dOpn gTuple (dCons (dLc [16] (dRng1 (dCons (dOp2 gAdd (dC (.int 1)) (dCallM g__law_take 0 (dCons (dC (.int 12)) (dNil)))) (dNil))) (dgName 16) (dYes) (dOpn gInt (dCons (dCallM g__law_take 0 (dCons (dC (.int 2)) (dNil))) (dNil)))) (dNil)))) (dSeq (dSet 8 (dOp2 gAdd (dName 7) (dCall g_back_of (dCons (dName 7) (dNil))))) (dSeq (dIfS (dOrT (dTest (dOp2 gIsNot (dCall g_is_two_faced (dCons (dCall g__law_moved (dCons (dName 8) (dCons (dName 5) (dNil)))) (dNil))) (dC (.bl true)))) (dTest (dOp2 gNe (dOp2 gMul (dOpn gSum (dCons (dName 8) (dNil))) (dC (.int 2))) (dOpn gLen (dCons (dName 8) (dNil)))))) (dRet (dC (.bl false))) (dNext)) (dSeq (dIfS (dAndT (dTest (dCall g_is_two_faced (dCons (dName 3) (dNil)))) (dTest (dOp2 gNe (dOp2 gMul (dC (.int 2)) (dOpn gSum (dCons (dName 3) (dNil)))) (dOpn gLen (dCons (dName 3) (dNil)))))) (dRet (dC (.bl false))) (dNext)) (dSeq (dIfS (dNotT (dTest (dCall g__law_is_bool (dCons (dCall g_is_two_faced (dCons (dName 3) (dNil))) (dCons (dCall g_are_same_ribs (dCons (dName 3) (dCons (dCall g_back_of (dCons (dName 3) (dNil))) (dNil)))) (dNil)))))) (dRet (dC (.bl false))) (dNext)) (dSeq (dIfS (dNotT (dTest (dCallM g__law_are_flows_right 0 (dCons (dName 3) (dCons (dName 6) (dCons (dName 5) (dNil))))))) (dRet (dC (.bl false))) (dNext)) (dSeq (dSet 9 (dOpn gInt (dCons (dCallM g__law_take 0 (dCons (dC (.int 300)) (dNil))) (dNil)))) (dSeq (dIfS (dTest (dOp2 gGt (dName 9) (dC (.int 0)))) (dSeq (dSet 15 (dCall g_nearest_round (dCons (dName 3) (dCons (dName 9) (dNil))))) (dSeq (dIfS (dOrT (dNotT (dTest (dCall g__law_is_bool (dCons (dCall g_fits_round (dCons (dName 3) (dCons (dName 9) (dNil)))) (dCons (dOp2 gEq (dOp2 gMod (dName 9) (dOpn gLen (dCons (dName 4) (dNil)))) (dC (.int 0))) (dNil)))))) (dOrT (dTest (dOp2 gNe (dOp2 gMod (dName 15) (dOpn gLen (dCons (dName 4) (dNil)))) (dC (.int 0)))) (dTest (dOp2 gLt (dName 15) (dC (.int 1)))))) (dRet (dC (.bl false))) (dNext)) (dIfS (dAndT (dTest (dOp2 gGt (dOp2 gMul (dC (.int 2)) (dOpn gAbs (dCons (dOp2 gSub (dName 15) (dName 9)) (dNil)))) (dOpn gLen (dCons (dName 4) (dNil))))) (dTest (dOp2 gNe (dName 15) (dOpn gLen (dCons (dName 4) (dNil)))))) (dRet (dC (.bl false))) (dNext)))) (dNext)) (dSeq (dAsg (dCall g_columns_of (dCons (dName 3) (dCons (dName 9) (dNil)))) (dgTup 2 (dgCons (dgName 10) (dgCons (dgName 11) (dgNil))))) (dSeq (dMany [12, 13] (dCons (dOp2 gDiv (dName 9) (dOpn gLen (dCons (dName 3) (dNil)))) (dCons (dOp2 gMod (dName 9) (dOpn gLen (dCons (dName 3) (dNil)))) (dNil)))) (dSeq (dIfS (dOrT (dTest (dOp2 gNe (dOp2 gAdd (dName 10) (dName 11)) (dName 9))) (dTest (dOp2 gNe (dName 10) (dOp2 gAdd (dOp2 gMul (dName 12) (dOpn gSum (dCons (dName 3) (dNil)))) (dOpn gSum (dCons (dSlice (dName 3) none (some (dName 13))) (dNil))))))) (dRet (dC (.bl false))) (dNext)) (dSeq (dSet 14 (dOpn gInt (dCons (dOp2 gAdd (dC (.int 1)) (dCallM g__law_take 0 (dCons (dC (.int 12)) (dNil)))) (dNil)))) (dIfS (dOrT (dTest (dOp2 gNe (dCall g_plain_rib (dCons (dName 14) (dCons (dName 14) (dNil)))) (dCall g_back_of (dCons (dCall g_plain_rib (dCons (dName 14) (dCons (dName 14) (dNil)))) (dNil))))) (dTest (dOp2 gIsNot (dCall g_is_two_faced (dCons (dCall g_plain_rib (dCons (dName 14) (dCons (dName 14) (dNil)))) (dNil))) (dC (.bl true))))) (dRet (dC (.bl false))) (dNext)))))))))))))))))))))) (dRet (dC (.bl true)))
def g__law_right : Fn := fnD 17 b__law_right
def b__law_pot : DS := dSeq (dSet 2 (dIf (dTest (dOp2 gLt (dName 1) (dOpn gLen (dCons (dName 0) (dNil))))) (dOp2 gIx (dName 0) (dName 1)) (dOp2 gAdd (dOp2 gAdd (dOp2 gMod (dOpn gInt (dCons (dOpn gSum (dCons (dSlice (dName 0) none (some (dC (.int 1)))) (dNil))) (dNil))) (dC (.int 1000211))) (dOp2 gMul (dC (.int 4639)) (dName 1))) (dC (.int 3163))))) (dSeq (dSet 3 (dOp2 gMul (dOp2 gMod (dOpn gInt (dCons (dOpn gAbs (dCons (dName 2) (dNil))) (dNil))) (dOp2 gPow (dOp2 gPow (dC (.int 10)) (dC (.int 60))) (dC (.int 5)))) (dOpn gInt (dCons (dOp2 gGe (dOpn gAbs (dCons (dName 2) (dNil))) (dOp2 gPow (dC (.int 10)) (dC (.int 18)))) (dNil))))) (dSeq (dSet 4 (dOp2 gMod (dOpn gInt (dCons (dName 2) (dNil))) (dC (.int 2305843009213693951)))) (dRet (dLst (dCons (dName 3) (dCons (dOp2 gMod (dOpn gInt (dCons (dOp2 gAdd (dOp2 gAdd (dOp2 gMul (dName 4) (dC (.int 72161))) (dOp2 gMul (dOp2 gMul (dC (.int 10853)) (dName 1)) (dName 1))) (dC (.int 2843))) (dNil))) (dC (.int 2305843009213693921))) (dCons (dC (.int 0)) (dNil))))))))
def g__law_pot : Fn := fnD 5 b__law_pot
def b__law_cells : DS := dRet (dListRg1 (dOpn gMax2 (dCons (dC (.int 1)) (dCons (dOpn gMin2 (dCons (dName 1) (dCons (dOpn gLen (dCons (dName 0) (dNil))) (dNil)))) (dNil)))))
def g__law_cells : Fn := fnD 2 b__law_cells
def b_law : DS := dRet (dOpn gAll (dCons (dLc [1] (dIt (dCall g__law_cells (dCons (dName 0) (dCons (dC (.int 3)) (dNil))))) (dgName 1) (dYes) (dCallT g__law_right (dCall g__law_pot (dCons (dName 0) (dCons (dName 1) (dNil)))))) (dNil)))
def g_law : Fn := fnD 2 b_law
/-! ### what the top leaves -/
structure Txt (K : PySem.W.Frag) (mg : Str → Option Value) (a__law_moved a_is_int a_are_ints a_is_rib a_look_at_rib a_columns_of a_told_least a_least_rib a_back_of a_told_moves a_is_two_faced a__law_is_bool a_look_at_ribs a_told_unlike a_told_best a_flows_on a_first_unlike a_unlike_stitches a__law_take a_is_told a_shows_flows_on a__law_are_flows_right a_nearest_round a_are_same_ribs a_plain_rib a_fits_round a__law_of a__law_right a__law_pot a__law_cells a_law : Addr) (fd__law_moved fd_is_int fd_are_ints fd_is_rib fd_look_at_rib fd_columns_of fd_told_least fd_least_rib fd_back_of fd_told_moves fd_is_two_faced fd__law_is_bool fd_look_at_ribs fd_told_unlike fd_told_best fd_flows_on fd_first_unlike fd_unlike_stitches fd__law_take fd_is_told fd_shows_flows_on fd__law_are_flows_right fd_nearest_round fd_are_same_ribs fd_plain_rib fd_fits_round fd__law_of fd__law_right fd__law_pot fd__law_cells fd_law : FuncData) (t_MOST_RIB t_MOST_STITCHES t_SHIFT : Tok) : Prop where
  F__law_moved : Fun K "_law_moved" "_law_moved" s__law_moved a__law_moved fd__law_moved
  m__law_moved : mg "_law_moved" = some (.ref a__law_moved)
  b__law_moved : L2.Binds K fd__law_moved ["rib", "shift"] []
  F_is_int : Fun K "is_int" "is_int" s_is_int a_is_int fd_is_int
  m_is_int : mg "is_int" = some (.ref a_is_int)
  b_is_int : L2.Binds K fd_is_int ["value", "low", "high"] []
  F_are_ints : Fun K "are_ints" "are_ints" s_are_ints a_are_ints fd_are_ints
  m_are_ints : mg "are_ints" = some (.ref a_are_ints)
  b_are_ints : L2.Binds K fd_are_ints ["value", "low", "high"] []
  F_is_rib : Fun K "is_rib" "is_rib" s_is_rib a_is_rib fd_is_rib
  m_is_rib : mg "is_rib" = some (.ref a_is_rib)
  b_is_rib : L2.Binds K fd_is_rib ["value"] []
  F_look_at_rib : Fun K "look_at_rib" "look_at_rib" s_look_at_rib a_look_at_rib fd_look_at_rib
  m_look_at_rib : mg "look_at_rib" = some (.ref a_look_at_rib)
  b_look_at_rib : L2.Binds K fd_look_at_rib ["rib"] []
  F_columns_of : Fun K "columns_of" "columns_of" s_columns_of a_columns_of fd_columns_of
  m_columns_of : mg "columns_of" = some (.ref a_columns_of)
  b_columns_of : L2.Binds K fd_columns_of ["rib", "wide"] []
  F_told_least : Fun K "told_least" "told_least" s_told_least a_told_least fd_told_least
  m_told_least : mg "told_least" = some (.ref a_told_least)
  b_told_least : L2.Binds K fd_told_least ["rib"] []
  F_least_rib : Fun K "least_rib" "least_rib" s_least_rib a_least_rib fd_least_rib
  m_least_rib : mg "least_rib" = some (.ref a_least_rib)
  b_least_rib : L2.Binds K fd_least_rib ["rib"] []
  F_back_of : Fun K "back_of" "back_of" s_back_of a_back_of fd_back_of
  m_back_of : mg "back_of" = some (.ref a_back_of)
  b_back_of : L2.Binds K fd_back_of ["rib"] []
  F_told_moves : Fun K "told_moves" "told_moves" s_told_moves a_told_moves fd_told_moves
  m_told_moves : mg "told_moves" = some (.ref a_told_moves)
  b_told_moves : L2.Binds K fd_told_moves ["rib"] []
  F_is_two_faced : Fun K "is_two_faced" "is_two_faced" s_is_two_faced a_is_two_faced fd_is_two_faced
  m_is_two_faced : mg "is_two_faced" = some (.ref a_is_two_faced)
  b_is_two_faced : L2.Binds K fd_is_two_faced ["rib"] []
  F__law_is_bool : Fun K "_law_is_bool" "_law_is_bool" s__law_is_bool a__law_is_bool fd__law_is_bool
  m__law_is_bool : mg "_law_is_bool" = some (.ref a__law_is_bool)
  b__law_is_bool : L2.Binds K fd__law_is_bool ["told", "due"] []
  F_look_at_ribs : Fun K "look_at_ribs" "look_at_ribs" s_look_at_ribs a_look_at_ribs fd_look_at_ribs
  m_look_at_ribs : mg "look_at_ribs" = some (.ref a_look_at_ribs)
  b_look_at_ribs : L2.Binds K fd_look_at_ribs ["one", "other", "wide"] []
  F_told_unlike : Fun K "told_unlike" "told_unlike" s_told_unlike a_told_unlike fd_told_unlike
  m_told_unlike : mg "told_unlike" = some (.ref a_told_unlike)
  b_told_unlike : L2.Binds K fd_told_unlike ["one", "other", "wide", "shift"] []
  F_told_best : Fun K "told_best" "told_best" s_told_best a_told_best fd_told_best
  m_told_best : mg "told_best" = some (.ref a_told_best)
  b_told_best : L2.Binds K fd_told_best ["one", "other", "wide"] []
  F_flows_on : Fun K "flows_on" "flows_on" s_flows_on a_flows_on fd_flows_on
  m_flows_on : mg "flows_on" = some (.ref a_flows_on)
  b_flows_on : L2.Binds K fd_flows_on ["one", "other", "wide"] []
  F_first_unlike : Fun K "first_unlike" "first_unlike" s_first_unlike a_first_unlike fd_first_unlike
  m_first_unlike : mg "first_unlike" = some (.ref a_first_unlike)
  b_first_unlike : L2.Binds K fd_first_unlike ["one", "other"] []
  F_unlike_stitches : Fun K "unlike_stitches" "unlike_stitches" s_unlike_stitches a_unlike_stitches fd_unlike_stitches
  m_unlike_stitches : mg "unlike_stitches" = some (.ref a_unlike_stitches)
  b_unlike_stitches : L2.Binds K fd_unlike_stitches ["one", "other", "wide", "shift"] []
  F__law_take : Fun K "_law_take" "_law_take" s__law_take a__law_take fd__law_take
  m__law_take : mg "_law_take" = some (.ref a__law_take)
  b__law_take : L2.Binds K fd__law_take ["pot", "upto"] []
  F_is_told : Fun K "is_told" "is_told" s_is_told a_is_told fd_is_told
  m_is_told : mg "is_told" = some (.ref a_is_told)
  b_is_told : L2.Binds K fd_is_told ["value", "sizes"] []
  F_shows_flows_on : Fun K "shows_flows_on" "shows_flows_on" s_shows_flows_on a_shows_flows_on fd_shows_flows_on
  m_shows_flows_on : mg "shows_flows_on" = some (.ref a_shows_flows_on)
  b_shows_flows_on : L2.Binds K fd_shows_flows_on ["one", "other", "wide", "value"] []
  F__law_are_flows_right : Fun K "_law_are_flows_right" "_law_are_flows_right" s__law_are_flows_right a__law_are_flows_right fd__law_are_flows_right
  m__law_are_flows_right : mg "_law_are_flows_right" = some (.ref a__law_are_flows_right)
  b__law_are_flows_right : L2.Binds K fd__law_are_flows_right ["pot", "rib", "moved", "shift"] []
  F_nearest_round : Fun K "nearest_round" "nearest_round" s_nearest_round a_nearest_round fd_nearest_round
  m_nearest_round : mg "nearest_round" = some (.ref a_nearest_round)
  b_nearest_round : L2.Binds K fd_nearest_round ["rib", "wide"] []
  F_are_same_ribs : Fun K "are_same_ribs" "are_same_ribs" s_are_same_ribs a_are_same_ribs fd_are_same_ribs
  m_are_same_ribs : mg "are_same_ribs" = some (.ref a_are_same_ribs)
  b_are_same_ribs : L2.Binds K fd_are_same_ribs ["one", "other"] []
  F_plain_rib : Fun K "plain_rib" "plain_rib" s_plain_rib a_plain_rib fd_plain_rib
  m_plain_rib : mg "plain_rib" = some (.ref a_plain_rib)
  b_plain_rib : L2.Binds K fd_plain_rib ["knit", "purl"] []
  F_fits_round : Fun K "fits_round" "fits_round" s_fits_round a_fits_round fd_fits_round
  m_fits_round : mg "fits_round" = some (.ref a_fits_round)
  b_fits_round : L2.Binds K fd_fits_round ["rib", "wide"] []
  F__law_of : Fun K "_law_of" "_law_of" s__law_of a__law_of fd__law_of
  m__law_of : mg "_law_of" = some (.ref a__law_of)
  b__law_of : L2.Binds K fd__law_of ["pot", "some"] []
  F__law_right : Fun K "_law_right" "_law_right" s__law_right a__law_right fd__law_right
  m__law_right : mg "_law_right" = some (.ref a__law_right)
  b__law_right : L2.Binds K fd__law_right ["pot"] []
  F__law_pot : Fun K "_law_pot" "_law_pot" s__law_pot a__law_pot fd__law_pot
  m__law_pot : mg "_law_pot" = some (.ref a__law_pot)
  b__law_pot : L2.Binds K fd__law_pot ["script", "place"] []
  F__law_cells : Fun K "_law_cells" "_law_cells" s__law_cells a__law_cells fd__law_cells
  m__law_cells : mg "_law_cells" = some (.ref a__law_cells)
  b__law_cells : L2.Binds K fd__law_cells ["script", "most"] []
  F_law : Fun K "law" "law" s_law a_law fd_law
  m_law : mg "law" = some (.ref a_law)
  b_law : L2.Binds K fd_law ["script"] []
  c_MOST_RIB : mg "MOST_RIB" = some (.int 24 t_MOST_RIB)
  c_MOST_STITCHES : mg "MOST_STITCHES" = some (.int 600 t_MOST_STITCHES)
  c_SHIFT : mg "SHIFT" = some (.str "shift" t_SHIFT)
  z_abs : mg "abs" = none
  z_all : mg "all" = none
  z_bool : mg "bool" = none
  z_int : mg "int" = none
  z_isinstance : mg "isinstance" = none
  z_len : mg "len" = none
  z_list : mg "list" = none
  z_max : mg "max" = none
  z_min : mg "min" = none
  z_range : mg "range" = none
  z_str : mg "str" = none
  z_sum : mg "sum" = none
  z_tuple : mg "tuple" = none
section
variable {P : Program} {w : World} {K : PySem.W.Frag} {mg : Str → Option Value} {base : Heap} {a__law_moved a_is_int a_are_ints a_is_rib a_look_at_rib a_columns_of a_told_least a_least_rib a_back_of a_told_moves a_is_two_faced a__law_is_bool a_look_at_ribs a_told_unlike a_told_best a_flows_on a_first_unlike a_unlike_stitches a__law_take a_is_told a_shows_flows_on a__law_are_flows_right a_nearest_round a_are_same_ribs a_plain_rib a_fits_round a__law_of a__law_right a__law_pot a__law_cells a_law : Addr} {fd__law_moved fd_is_int fd_are_ints fd_is_rib fd_look_at_rib fd_columns_of fd_told_least fd_least_rib fd_back_of fd_told_moves fd_is_two_faced fd__law_is_bool fd_look_at_ribs fd_told_unlike fd_told_best fd_flows_on fd_first_unlike fd_unlike_stitches fd__law_take fd_is_told fd_shows_flows_on fd__law_are_flows_right fd_nearest_round fd_are_same_ribs fd_plain_rib fd_fits_round fd__law_of fd__law_right fd__law_pot fd__law_cells fd_law : FuncData} {t_MOST_RIB t_MOST_STITCHES t_SHIFT : Tok}
variable (T : Txt K mg a__law_moved a_is_int a_are_ints a_is_rib a_look_at_rib a_columns_of a_told_least a_least_rib a_back_of a_told_moves a_is_two_faced a__law_is_bool a_look_at_ribs a_told_unlike a_told_best a_flows_on a_first_unlike a_unlike_stitches a__law_take a_is_told a_shows_flows_on a__law_are_flows_right a_nearest_round a_are_same_ribs a_plain_rib a_fits_round a__law_of a__law_right a__law_pot a__law_cells a_law fd__law_moved fd_is_int fd_are_ints fd_is_rib fd_look_at_rib fd_columns_of fd_told_least fd_least_rib fd_back_of fd_told_moves fd_is_two_faced fd__law_is_bool fd_look_at_ribs fd_told_unlike fd_told_best fd_flows_on fd_first_unlike fd_unlike_stitches fd__law_take fd_is_told fd_shows_flows_on fd__law_are_flows_right fd_nearest_round fd_are_same_ribs fd_plain_rib fd_fits_round fd__law_of fd__law_right fd__law_pot fd__law_cells fd_law t_MOST_RIB t_MOST_STITCHES t_SHIFT)
include T
theorem ok__law_moved : FnOk P w K mg base CX0 1 a__law_moved fd__law_moved ["rib", "shift"] (spD K ["rib", "shift"].length g__law_moved) := ok_def T.F__law_moved sc__law_moved fun cdv A outer s H E hr =>
  tss_cons (ts_set (i := 2) sc__law_moved.nd rfl (by first | exact Or.inl rfl | exact Or.inr rfl) (td_op od_mod (td_name 1) (td_callB cd_len (by rfl) T.z_len (by decide +kernel) (ta_cons (td_name 0) (ta_nil))))) (tss_one (ts_ret (td_op od_add (td_slice (td_name 0) (to_some (td_name 2)) to_none) (td_slice (td_name 0) to_none (to_some (td_name 2))))))
theorem ok_is_int : FnOk P w K mg base CX0 1 a_is_int fd_is_int ["value", "low", "high"] (spD K ["value", "low", "high"].length g_is_int) := ok_def T.F_is_int sc_is_int fun cdv A outer s H E hr =>
  tss_one (ts_ret (td_and (td_isi (t := .int) (by rfl) T.z_isinstance (td_name 0) (by rfl) T.z_int (by decide +kernel)) (td_and (td_not (td_isi (t := .bool) (by rfl) T.z_isinstance (td_name 0) (by rfl) T.z_bool (by decide +kernel))) (td_one (td_chain od_le od_le (td_name 1) (td_name 0) (td_name 2))))))
theorem ok_are_ints : FnOk P w K mg base CX0 2 a_are_ints fd_are_ints ["value", "low", "high"] (spD K ["value", "low", "high"].length g_are_ints) := ok_def T.F_are_ints sc_are_ints fun cdv A outer s H E hr =>
  tss_one (ts_ret (td_and (td_isi (t := .tuple) (by rfl) T.z_isinstance (td_name 0) (by rfl) T.z_tuple (by decide +kernel)) (td_one (td_callB (cd_all rfl) (by rfl) T.z_all (by decide +kernel) (ta_cons (td_lc (own := [("one", 3)]) rfl sc_are_ints.nd (ti_it (td_name 0)) (blkOk_by (own := [("one", 3)]) (by kernel_rfl)) (fun _ _ _ _ _ => tg_name (i := 3) sc_are_ints.nd rfl (by first | exact Or.inl rfl | exact Or.inr rfl)) (fun _ _ _ _ _ => tts_nil) (fun _ _ _ _ _ => td_call (n := 3) (ok_is_int T) (hr.mono (by decide)) (by rfl) T.m_is_int T.F_is_int.kp T.b_is_int (ta_cons (td_name 3) (ta_cons (td_name 1) (ta_cons (td_name 2) (ta_nil)))) (hlen' := (dlen_cons (dlen_cons (dlen_cons dlen_nil)))) (hnn := rfl))) (ta_nil))))))
theorem ok_is_rib : FnOk P w K mg base CX0 3 a_is_rib fd_is_rib ["value"] (spD K ["value"].length g_is_rib) := ok_def T.F_is_rib sc_is_rib fun cdv A outer s H E hr =>
  tss_one (ts_ret (td_and (td_call (n := 3) (ok_are_ints T) (hr.mono (by decide)) (by rfl) T.m_are_ints T.F_are_ints.kp T.b_are_ints (ta_cons (td_name 0) (ta_cons (td_int) (ta_cons (td_int) (ta_nil)))) (hlen' := (dlen_cons (dlen_cons (dlen_cons dlen_nil)))) (hnn := rfl)) (td_one (td_chain od_le od_le (td_int) (td_callB cd_len (by rfl) T.z_len (by decide +kernel) (ta_cons (td_name 0) (ta_nil))) (td_globI (by rfl) T.c_MOST_RIB)))))
theorem ok_look_at_rib : FnOk P w K mg base CX0 4 a_look_at_rib fd_look_at_rib ["rib"] (spD K ["rib"].length g_look_at_rib) := ok_def T.F_look_at_rib sc_look_at_rib fun cdv A outer s H E hr =>
  tss_one (ts_if (tt_not (tt_val (td_call (n := 1) (ok_is_rib T) (hr.mono (by decide)) (by rfl) T.m_is_rib T.F_is_rib.kp T.b_is_rib (ta_cons (td_name 0) (ta_nil)) (hlen' := (dlen_cons dlen_nil)) (hnn := rfl)))) (tss_one (ts_never)) (tss_nil))
theorem ok_columns_of : FnOk P w K mg base CX0 5 a_columns_of fd_columns_of ["rib", "wide"] (spD K ["rib", "wide"].length g_columns_of) := ok_def T.F_columns_of sc_columns_of fun cdv A outer s H E hr =>
  tss_cons (ts_expr (td_call (n := 1) (ok_look_at_rib T) (hr.mono (by decide)) (by rfl) T.m_look_at_rib T.F_look_at_rib.kp T.b_look_at_rib (ta_cons (td_name 0) (ta_nil)) (hlen' := (dlen_cons dlen_nil)) (hnn := rfl))) (tss_cons (ts_if (tt_not (tt_val (td_call (n := 3) (ok_is_int T) (hr.mono (by decide)) (by rfl) T.m_is_int T.F_is_int.kp T.b_is_int (ta_cons (td_name 1) (ta_cons (td_int) (ta_cons (td_globI (by rfl) T.c_MOST_STITCHES) (ta_nil)))) (hlen' := (dlen_cons (dlen_cons (dlen_cons dlen_nil)))) (hnn := rfl)))) (tss_one (ts_never)) (tss_nil)) (tss_cons (ts_set (i := 2) sc_columns_of.nd rfl (by first | exact Or.inl rfl | exact Or.inr rfl) (td_callB cd_len (by rfl) T.z_len (by decide +kernel) (ta_cons (td_lc (own := [("at", 3)]) rfl sc_columns_of.nd (ti_range1 (by rfl) T.z_range (ta_cons (td_name 1) (ta_nil))) (blkOk_by (own := [("at", 3)]) (by kernel_rfl)) (fun _ _ _ _ _ => tg_name (i := 3) sc_columns_of.nd rfl (by first | exact Or.inl rfl | exact Or.inr rfl)) (fun _ _ _ _ _ => tts_one (tt_cmp (od_eq hr.units) (td_ix id_ix (td_name 0) (td_op od_mod (td_name 3) (td_callB cd_len (by rfl) T.z_len (by decide +kernel) (ta_cons (td_name 0) (ta_nil)))) (fun _ _ => rfl)) (td_int) (nomark _))) (fun _ _ _ _ _ => td_name 3)) (ta_nil)))) (tss_one (ts_ret (td_tup (n := 2) (ta_cons (td_name 2) (ta_cons (td_op od_sub (td_name 1) (td_name 2)) (ta_nil))) (dlen_cons (dlen_cons dlen_nil)))))))
theorem ok_told_least : FnOk P w K mg base CX0 1 a_told_least fd_told_least ["rib"] (spD K ["rib"].length g_told_least) := ok_def T.F_told_least sc_told_least fun cdv A outer s H E hr =>
  tss_cons (ts_for PassesOwn.never rfl (ti_range2 (by rfl) T.z_range (ta_cons (td_int) (ta_cons (td_op od_add (td_callB cd_len (by rfl) T.z_len (by decide +kernel) (ta_cons (td_name 0) (ta_nil))) (td_int)) (ta_nil)))) (tg_name (i := 1) sc_told_least.nd rfl (by first | exact Or.inl rfl | exact Or.inr rfl)) (tss_one (ts_if ((tt_and (tt_cmp (od_eq hr.units) (td_op od_mod (td_callB cd_len (by rfl) T.z_len (by decide +kernel) (ta_cons (td_name 0) (ta_nil))) (td_name 1)) (td_int) (nomark _)) (tt_and1 (tt_cmp (od_eq hr.units) (td_op od_mul (td_slice (td_name 0) to_none (to_some (td_name 1))) (td_op od_div (td_callB cd_len (by rfl) T.z_len (by decide +kernel) (ta_cons (td_name 0) (ta_nil))) (td_name 1))) (td_name 0) (nomark _)))).pt) (tss_one (ts_ret (td_slice (td_name 0) to_none (to_some (td_name 1))))) (tss_nil)))) (tss_one (ts_ret (td_name 0)))
theorem ok_least_rib : FnOk P w K mg base CX0 5 a_least_rib fd_least_rib ["rib"] (spD K ["rib"].length g_least_rib) := ok_def T.F_least_rib sc_least_rib fun cdv A outer s H E hr =>
  tss_cons (ts_expr (td_call (n := 1) (ok_look_at_rib T) (hr.mono (by decide)) (by rfl) T.m_look_at_rib T.F_look_at_rib.kp T.b_look_at_rib (ta_cons (td_name 0) (ta_nil)) (hlen' := (dlen_cons dlen_nil)) (hnn := rfl))) (tss_one (ts_ret (td_call (n := 1) (ok_told_least T) (hr.mono (by decide)) (by rfl) T.m_told_least T.F_told_least.kp T.b_told_least (ta_cons (td_name 0) (ta_nil)) (hlen' := (dlen_cons dlen_nil)) (hnn := rfl))))
theorem ok_back_of : FnOk P w K mg base CX0 5 a_back_of fd_back_of ["rib"] (spD K ["rib"].length g_back_of) := ok_def T.F_back_of sc_back_of fun cdv A outer s H E hr =>
  tss_cons (ts_expr (td_call (n := 1) (ok_look_at_rib T) (hr.mono (by decide)) (by rfl) T.m_look_at_rib T.F_look_at_rib.kp T.b_look_at_rib (ta_cons (td_name 0) (ta_nil)) (hlen' := (dlen_cons dlen_nil)) (hnn := rfl))) (tss_one (ts_ret (td_callTy cd_tuple (by rfl) T.z_tuple (by decide +kernel) (ta_cons (td_lc (own := [("stitch", 1)]) rfl sc_back_of.nd (ti_it (td_rev (td_name 0))) (blkOk_by (own := [("stitch", 1)]) (by kernel_rfl)) (fun _ _ _ _ _ => tg_name (i := 1) sc_back_of.nd rfl (by first | exact Or.inl rfl | exact Or.inr rfl)) (fun _ _ _ _ _ => tts_nil) (fun _ _ _ _ _ => td_op od_sub (td_int) (td_name 1))) (ta_nil)))))
theorem ok_told_moves : FnOk P w K mg base CX0 1 a_told_moves fd_told_moves ["rib"] (spD K ["rib"].length g_told_moves) := ok_def T.F_told_moves sc_told_moves fun cdv A outer s H E hr =>
  tss_one (ts_ret (td_lc (own := [("at", 1)]) rfl sc_told_moves.nd (ti_range1 (by rfl) T.z_range (ta_cons (td_callB cd_len (by rfl) T.z_len (by decide +kernel) (ta_cons (td_name 0) (ta_nil))) (ta_nil))) (blkOk_by (own := [("at", 1)]) (by kernel_rfl)) (fun _ _ _ _ _ => tg_name (i := 1) sc_told_moves.nd rfl (by first | exact Or.inl rfl | exact Or.inr rfl)) (fun _ _ _ _ _ => tts_nil) (fun _ _ _ _ _ => td_op od_add (td_slice (td_name 0) (to_some (td_name 1)) to_none) (td_slice (td_name 0) to_none (to_some (td_name 1))))))
theorem ok_is_two_faced : FnOk P w K mg base CX0 5 a_is_two_faced fd_is_two_faced ["rib"] (spD K ["rib"].length g_is_two_faced) := ok_def T.F_is_two_faced sc_is_two_faced fun cdv A outer s H E hr =>
  tss_cons (ts_expr (td_call (n := 1) (ok_look_at_rib T) (hr.mono (by decide)) (by rfl) T.m_look_at_rib T.F_look_at_rib.kp T.b_look_at_rib (ta_cons (td_name 0) (ta_nil)) (hlen' := (dlen_cons dlen_nil)) (hnn := rfl))) (tss_cons (ts_set (i := 1) sc_is_two_faced.nd rfl (by first | exact Or.inl rfl | exact Or.inr rfl) (td_call (n := 1) (ok_told_least T) (hr.mono (by decide)) (by rfl) T.m_told_least T.F_told_least.kp T.b_told_least (ta_cons (td_name 0) (ta_nil)) (hlen' := (dlen_cons dlen_nil)) (hnn := rfl))) (tss_one (ts_ret (td_cmp (od_in (room65 hr)) (td_name 1) (td_call (n := 1) (ok_told_moves T) (hr.mono (by decide)) (by rfl) T.m_told_moves T.F_told_moves.kp T.b_told_moves (ta_cons (td_callTy cd_tuple (by rfl) T.z_tuple (by decide +kernel) (ta_cons (td_lc (own := [("stitch", 2)]) rfl sc_is_two_faced.nd (ti_it (td_rev (td_name 1))) (blkOk_by (own := [("stitch", 2)]) (by kernel_rfl)) (fun _ _ _ _ _ => tg_name (i := 2) sc_is_two_faced.nd rfl (by first | exact Or.inl rfl | exact Or.inr rfl)) (fun _ _ _ _ _ => tts_nil) (fun _ _ _ _ _ => td_op od_sub (td_int) (td_name 2))) (ta_nil))) (ta_nil)) (hlen' := (dlen_cons dlen_nil)) (hnn := rfl)) (by with_unfolding_all rfl)))))
theorem ok__law_is_bool : FnOk P w K mg base CX0 1 a__law_is_bool fd__law_is_bool ["told", "due"] (spD K ["told", "due"].length g__law_is_bool) := ok_def T.F__law_is_bool sc__law_is_bool fun cdv A outer s H E hr =>
  tss_one (ts_ret (td_and (td_isi (t := .bool) (by rfl) T.z_isinstance (td_name 0) (by rfl) T.z_bool (by decide +kernel)) (td_one (td_cmp (od_eq hr.units) (td_name 0) (td_name 1) (nomark _)))))
theorem ok_look_at_ribs : FnOk P w K mg base CX0 5 a_look_at_ribs fd_look_at_ribs ["one", "other", "wide"] (spD K ["one", "other", "wide"].length g_look_at_ribs) := ok_def T.F_look_at_ribs sc_look_at_ribs fun cdv A outer s H E hr =>
  tss_cons (ts_expr (td_call (n := 1) (ok_look_at_rib T) (hr.mono (by decide)) (by rfl) T.m_look_at_rib T.F_look_at_rib.kp T.b_look_at_rib (ta_cons (td_name 0) (ta_nil)) (hlen' := (dlen_cons dlen_nil)) (hnn := rfl))) (tss_cons (ts_expr (td_call (n := 1) (ok_look_at_rib T) (hr.mono (by decide)) (by rfl) T.m_look_at_rib T.F_look_at_rib.kp T.b_look_at_rib (ta_cons (td_name 1) (ta_nil)) (hlen' := (dlen_cons dlen_nil)) (hnn := rfl))) (tss_one (ts_if (tt_not (tt_val (td_call (n := 3) (ok_is_int T) (hr.mono (by decide)) (by rfl) T.m_is_int T.F_is_int.kp T.b_is_int (ta_cons (td_name 2) (ta_cons (td_int) (ta_cons (td_globI (by rfl) T.c_MOST_STITCHES) (ta_nil)))) (hlen' := (dlen_cons (dlen_cons (dlen_cons dlen_nil)))) (hnn := rfl)))) (tss_one (ts_never)) (tss_nil))))
theorem ok_told_unlike : FnOk P w K mg base CX0 1 a_told_unlike fd_told_unlike ["one", "other", "wide", "shift"] (spD K ["one", "other", "wide", "shift"].length g_told_unlike) := ok_def T.F_told_unlike sc_told_unlike fun cdv A outer s H E hr =>
  tss_one (ts_ret (td_callB cd_len (by rfl) T.z_len (by decide +kernel) (ta_cons (td_lc (own := [("at", 4)]) rfl sc_told_unlike.nd (ti_range1 (by rfl) T.z_range (ta_cons (td_name 2) (ta_nil))) (blkOk_by (own := [("at", 4)]) (by kernel_rfl)) (fun _ _ _ _ _ => tg_name (i := 4) sc_told_unlike.nd rfl (by first | exact Or.inl rfl | exact Or.inr rfl)) (fun _ _ _ _ _ => tts_one (tt_cmp (od_ne hr.units) (td_ix id_ix (td_name 0) (td_op od_mod (td_name 4) (td_callB cd_len (by rfl) T.z_len (by decide +kernel) (ta_cons (td_name 0) (ta_nil)))) (fun _ _ => rfl)) (td_ix id_ix (td_name 1) (td_op od_mod (td_op od_add (td_name 4) (td_name 3)) (td_callB cd_len (by rfl) T.z_len (by decide +kernel) (ta_cons (td_name 1) (ta_nil)))) (fun _ _ => rfl)) (nomark _))) (fun _ _ _ _ _ => td_name 4)) (ta_nil))))
theorem ok_told_best : FnOk P w K mg base CX0 2 a_told_best fd_told_best ["one", "other", "wide"] (spD K ["one", "other", "wide"].length g_told_best) := ok_def T.F_told_best sc_told_best fun cdv A outer s H E hr =>
  tss_one (ts_ret (td_callB (cd_minP rfl (room65 hr)) (by rfl) T.z_min (by decide +kernel) (ta_cons (td_lc (own := [("shift", 3)]) rfl sc_told_best.nd (ti_range1 (by rfl) T.z_range (ta_cons (td_callB cd_len (by rfl) T.z_len (by decide +kernel) (ta_cons (td_name 1) (ta_nil))) (ta_nil))) (blkOk_by (own := [("shift", 3)]) (by kernel_rfl)) (fun _ _ _ _ _ => tg_name (i := 3) sc_told_best.nd rfl (by first | exact Or.inl rfl | exact Or.inr rfl)) (fun _ _ _ _ _ => tts_nil) (fun _ _ _ _ _ => td_tup (n := 2) (ta_cons (td_call (n := 4) (ok_told_unlike T) (hr.mono (by decide)) (by rfl) T.m_told_unlike T.F_told_unlike.kp T.b_told_unlike (ta_cons (td_name 0) (ta_cons (td_name 1) (ta_cons (td_name 2) (ta_cons (td_name 3) (ta_nil))))) (hlen' := (dlen_cons (dlen_cons (dlen_cons (dlen_cons dlen_nil))))) (hnn := rfl)) (ta_cons (td_name 3) (ta_nil))) (dlen_cons (dlen_cons dlen_nil)))) (ta_nil))))
theorem ok_flows_on : FnOk P w K mg base CX0 6 a_flows_on fd_flows_on ["one", "other", "wide"] (spD K ["one", "other", "wide"].length g_flows_on) := ok_def T.F_flows_on sc_flows_on fun cdv A outer s H E hr =>
  tss_cons (ts_expr (td_call (n := 3) (ok_look_at_ribs T) (hr.mono (by decide)) (by rfl) T.m_look_at_ribs T.F_look_at_ribs.kp T.b_look_at_ribs (ta_cons (td_name 0) (ta_cons (td_name 1) (ta_cons (td_name 2) (ta_nil)))) (hlen' := (dlen_cons (dlen_cons (dlen_cons dlen_nil)))) (hnn := rfl))) (tss_cons (ts_asg (td_call (n := 3) (ok_told_best T) (hr.mono (by decide)) (by rfl) T.m_told_best T.F_told_best.kp T.b_told_best (ta_cons (td_name 0) (ta_cons (td_name 1) (ta_cons (td_name 2) (ta_nil)))) (hlen' := (dlen_cons (dlen_cons (dlen_cons dlen_nil)))) (hnn := rfl)) (tg_tup rfl (tgs_cons (tg_name (i := 3) sc_flows_on.nd rfl (by first | exact Or.inl rfl | exact Or.inr rfl)) (tgs_cons (tg_name (i := 4) sc_flows_on.nd rfl (by first | exact Or.inl rfl | exact Or.inr rfl)) (tgs_nil))))) (tss_one (ts_ret (td_tup (n := 3) (ta_cons (td_globS (by rfl) T.c_SHIFT) (ta_cons (td_name 4) (ta_cons (td_name 3) (ta_nil)))) (dlen_cons (dlen_cons (dlen_cons dlen_nil)))))))
theorem ok_first_unlike : FnOk P w K mg base CX0 5 a_first_unlike fd_first_unlike ["one", "other"] (spD K ["one", "other"].length g_first_unlike) := ok_def T.F_first_unlike sc_first_unlike fun cdv A outer s H E hr =>
  tss_cons (ts_expr (td_call (n := 1) (ok_look_at_rib T) (hr.mono (by decide)) (by rfl) T.m_look_at_rib T.F_look_at_rib.kp T.b_look_at_rib (ta_cons (td_name 0) (ta_nil)) (hlen' := (dlen_cons dlen_nil)) (hnn := rfl))) (tss_cons (ts_expr (td_call (n := 1) (ok_look_at_rib T) (hr.mono (by decide)) (by rfl) T.m_look_at_rib T.F_look_at_rib.kp T.b_look_at_rib (ta_cons (td_name 1) (ta_nil)) (hlen' := (dlen_cons dlen_nil)) (hnn := rfl))) (tss_cons (ts_for PassesOwn.never rfl (ti_range1 (by rfl) T.z_range (ta_cons (td_op od_add (td_callB cd_len (by rfl) T.z_len (by decide +kernel) (ta_cons (td_name 0) (ta_nil))) (td_callB cd_len (by rfl) T.z_len (by decide +kernel) (ta_cons (td_name 1) (ta_nil)))) (ta_nil))) (tg_name (i := 2) sc_first_unlike.nd rfl (by first | exact Or.inl rfl | exact Or.inr rfl)) (tss_one (ts_if (tt_cmp (od_ne hr.units) (td_ix id_ix (td_name 0) (td_op od_mod (td_name 2) (td_callB cd_len (by rfl) T.z_len (by decide +kernel) (ta_cons (td_name 0) (ta_nil)))) (fun _ _ => rfl)) (td_ix id_ix (td_name 1) (td_op od_mod (td_name 2) (td_callB cd_len (by rfl) T.z_len (by decide +kernel) (ta_cons (td_name 1) (ta_nil)))) (fun _ _ => rfl)) (nomark _)) (tss_one (ts_ret (td_name 2))) (tss_nil)))) (tss_one (ts_ret (td_non)))))
theorem ok_unlike_stitches : FnOk P w K mg base CX0 6 a_unlike_stitches fd_unlike_stitches ["one", "other", "wide", "shift"] (spD K ["one", "other", "wide", "shift"].length g_unlike_stitches) := ok_def T.F_unlike_stitches sc_unlike_stitches fun cdv A outer s H E hr =>
  tss_cons (ts_expr (td_call (n := 3) (ok_look_at_ribs T) (hr.mono (by decide)) (by rfl) T.m_look_at_ribs T.F_look_at_ribs.kp T.b_look_at_ribs (ta_cons (td_name 0) (ta_cons (td_name 1) (ta_cons (td_name 2) (ta_nil)))) (hlen' := (dlen_cons (dlen_cons (dlen_cons dlen_nil)))) (hnn := rfl))) (tss_cons (ts_if (tt_not (tt_val (td_call (n := 3) (ok_is_int T) (hr.mono (by decide)) (by rfl) T.m_is_int T.F_is_int.kp T.b_is_int (ta_cons (td_name 3) (ta_cons (td_int) (ta_cons (td_globI (by rfl) T.c_MOST_STITCHES) (ta_nil)))) (hlen' := (dlen_cons (dlen_cons (dlen_cons dlen_nil)))) (hnn := rfl)))) (tss_one (ts_never)) (tss_nil)) (tss_one (ts_ret (td_call (n := 4) (ok_told_unlike T) (hr.mono (by decide)) (by rfl) T.m_told_unlike T.F_told_unlike.kp T.b_told_unlike (ta_cons (td_name 0) (ta_cons (td_name 1) (ta_cons (td_name 2) (ta_cons (td_name 3) (ta_nil))))) (hlen' := (dlen_cons (dlen_cons (dlen_cons (dlen_cons dlen_nil))))) (hnn := rfl)))))
theorem ok__law_take : FnOk P w K mg base CX0 1 a__law_take fd__law_take ["pot", "upto"] (spD K ["pot", "upto"].length g__law_take) := ok_def T.F__law_take sc__law_take fun cdv A outer s H E hr =>
  tss_cons (ts_if (tt_cmp od_gt (td_ix id_ix (td_name 0) (td_int) (fun _ _ => rfl)) (td_int) (nomark _)) (tss_cons (ts_set (i := 4) sc__law_take.nd rfl (by first | exact Or.inl rfl | exact Or.inr rfl) (td_op od_mod (td_callTy cd_int (by rfl) T.z_int (by decide +kernel) (ta_cons (td_ix id_ix (td_name 0) (td_int) (fun _ _ => rfl)) (ta_nil))) (td_name 1))) (tss_cons (ts_setIx (i := 0) rfl (by first | exact Or.inl rfl | exact Or.inr (Or.inl rfl) | exact Or.inr (Or.inr rfl)) (td_int) (td_op od_div (td_ix id_ix (td_name 0) (td_int) (fun _ _ => rfl)) (td_name 1))) (tss_one (ts_ret (td_name 4))))) (tss_nil)) (tss_cons (ts_setIx (i := 0) rfl (by first | exact Or.inl rfl | exact Or.inr (Or.inl rfl) | exact Or.inr (Or.inr rfl)) (td_int) (td_op od_add (td_ix id_ix (td_name 0) (td_int) (fun _ _ => rfl)) (td_int))) (tss_cons (ts_set (i := 2) sc__law_take.nd rfl (by first | exact Or.inl rfl | exact Or.inr rfl) (td_ix id_ix (td_lst (n := 5) (ta_cons (td_int) (ta_cons (td_int) (ta_cons (td_int) (ta_cons (td_int) (ta_cons (td_int) (ta_nil)))))) (dlen_cons (dlen_cons (dlen_cons (dlen_cons (dlen_cons dlen_nil)))))) (td_op od_mod (td_callTy cd_int (by rfl) T.z_int (by decide +kernel) (ta_cons (td_ix id_ix (td_name 0) (td_int) (fun _ _ => rfl)) (ta_nil))) (td_int)) (fun _ _ => rfl))) (tss_cons (ts_set (i := 3) sc__law_take.nd rfl (by first | exact Or.inl rfl | exact Or.inr rfl) (td_op od_mod (td_callTy cd_int (by rfl) T.z_int (by decide +kernel) (ta_cons (td_op od_pow (td_callTy cd_int (by rfl) T.z_int (by decide +kernel) (ta_cons (td_op od_add (td_op od_add (td_ix id_ix (td_name 0) (td_int) (fun _ _ => rfl)) (td_op od_mul (td_op od_mul (td_int) (td_ix id_ix (td_name 0) (td_int) (fun _ _ => rfl))) (td_ix id_ix (td_name 0) (td_int) (fun _ _ => rfl)))) (td_int)) (ta_nil))) (td_int)) (ta_nil))) (td_name 2))) (tss_cons (ts_set (i := 3) sc__law_take.nd rfl (by first | exact Or.inl rfl | exact Or.inr rfl) (td_op od_mod (td_callTy cd_int (by rfl) T.z_int (by decide +kernel) (ta_cons (td_op od_mul (td_name 3) (td_op od_add (td_op od_mod (td_callTy cd_int (by rfl) T.z_int (by decide +kernel) (ta_cons (td_name 3) (ta_nil))) (td_int)) (td_op od_mul (td_int) (td_ix id_ix (td_name 0) (td_int) (fun _ _ => rfl))))) (ta_nil))) (td_int))) (tss_one (ts_ret (td_op od_mod (td_callTy cd_int (by rfl) T.z_int (by decide +kernel) (ta_cons (td_op od_div (td_name 3) (td_int)) (ta_nil))) (td_name 1))))))))
theorem ok_is_told : FnOk P w K mg base CX0 1 a_is_told fd_is_told ["value", "sizes"] (spD K ["value", "sizes"].length g_is_told) := ok_def T.F_is_told sc_is_told fun cdv A outer s H E hr =>
  tss_one (ts_ret (td_and (td_isi (t := .tuple) (by rfl) T.z_isinstance (td_name 0) (by rfl) T.z_tuple (by decide +kernel)) (td_and (td_cmp (od_in (room65 hr)) (td_callB cd_len (by rfl) T.z_len (by decide +kernel) (ta_cons (td_name 0) (ta_nil))) (td_name 1) (by with_unfolding_all rfl)) (td_one (td_isi (t := .str) (by rfl) T.z_isinstance (td_ix id_ix (td_name 0) (td_int) (fun _ _ => rfl)) (by rfl) T.z_str (by decide +kernel))))))
theorem ok_shows_flows_on : FnOk P w K mg base CX0 6 a_shows_flows_on fd_shows_flows_on ["one", "other", "wide", "value"] (spD K ["one", "other", "wide", "value"].length g_shows_flows_on) := ok_def T.F_shows_flows_on sc_shows_flows_on fun cdv A outer s H E hr =>
  tss_cons (ts_expr (td_call (n := 3) (ok_look_at_ribs T) (hr.mono (by decide)) (by rfl) T.m_look_at_ribs T.F_look_at_ribs.kp T.b_look_at_ribs (ta_cons (td_name 0) (ta_cons (td_name 1) (ta_cons (td_name 2) (ta_nil)))) (hlen' := (dlen_cons (dlen_cons (dlen_cons dlen_nil)))) (hnn := rfl))) (tss_cons (ts_if ((tt_or (tt_not (tt_val (td_call (n := 2) (ok_is_told T) (hr.mono (by decide)) (by rfl) T.m_is_told T.F_is_told.kp T.b_is_told (ta_cons (td_name 3) (ta_cons (td_tup (n := 1) (ta_cons (td_op od_add (td_int) (td_int)) (ta_nil)) (dlen_cons dlen_nil)) (ta_nil))) (hlen' := (dlen_cons (dlen_cons dlen_nil))) (hnn := rfl)))) (tt_or (tt_cmp (od_ne hr.units) (td_ix id_ix (td_name 3) (td_int) (fun _ _ => rfl)) (td_globS (by rfl) T.c_SHIFT) (nomark _)) (tt_or1 (tt_not (tt_val (td_call (n := 3) (ok_is_int T) (hr.mono (by decide)) (by rfl) T.m_is_int T.F_is_int.kp T.b_is_int (ta_cons (td_ix id_ix (td_name 3) (td_int) (fun _ _ => rfl)) (ta_cons (td_int) (ta_cons (td_op od_sub (td_callB cd_len (by rfl) T.z_len (by decide +kernel) (ta_cons (td_name 1) (ta_nil))) (td_int)) (ta_nil)))) (hlen' := (dlen_cons (dlen_cons (dlen_cons dlen_nil)))) (hnn := rfl))))))).pt) (tss_one (ts_ret (td_bl))) (tss_nil)) (tss_cons (ts_set (i := 4) sc_shows_flows_on.nd rfl (by first | exact Or.inl rfl | exact Or.inr rfl) (td_ix id_ix (td_call (n := 3) (ok_told_best T) (hr.mono (by decide)) (by rfl) T.m_told_best T.F_told_best.kp T.b_told_best (ta_cons (td_name 0) (ta_cons (td_name 1) (ta_cons (td_name 2) (ta_nil)))) (hlen' := (dlen_cons (dlen_cons (dlen_cons dlen_nil)))) (hnn := rfl)) (td_int) (fun _ _ => rfl))) (tss_one (ts_ret (td_and (td_call (n := 3) (ok_is_int T) (hr.mono (by decide)) (by rfl) T.m_is_int T.F_is_int.kp T.b_is_int (ta_cons (td_ix id_ix (td_name 3) (td_int) (fun _ _ => rfl)) (ta_cons (td_name 4) (ta_cons (td_name 4) (ta_nil)))) (hlen' := (dlen_cons (dlen_cons (dlen_cons dlen_nil)))) (hnn := rfl)) (td_one (td_cmp (od_eq hr.units) (td_call (n := 4) (ok_told_unlike T) (hr.mono (by decide)) (by rfl) T.m_told_unlike T.F_told_unlike.kp T.b_told_unlike (ta_cons (td_name 0) (ta_cons (td_name 1) (ta_cons (td_name 2) (ta_cons (td_ix id_ix (td_name 3) (td_int) (fun _ _ => rfl)) (ta_nil))))) (hlen' := (dlen_cons (dlen_cons (dlen_cons (dlen_cons dlen_nil))))) (hnn := rfl)) (td_name 4) (nomark _))))))))
theorem ok__law_are_flows_right : FnOk P w K mg base CX0 7 a__law_are_flows_right fd__law_are_flows_right ["pot", "rib", "moved", "shift"] (spD K ["pot", "rib", "moved", "shift"].length g__law_are_flows_right) := ok_def T.F__law_are_flows_right sc__law_are_flows_right fun cdv A outer s H E hr =>
  tss_cons (ts_set (i := 4) sc__law_are_flows_right.nd rfl (by first | exact Or.inl rfl | exact Or.inr rfl) (td_call (n := 1) (ok_least_rib T) (hr.mono (by decide)) (by rfl) T.m_least_rib T.F_least_rib.kp T.b_least_rib (ta_cons (td_name 1) (ta_nil)) (hlen' := (dlen_cons dlen_nil)) (hnn := rfl))) (tss_cons (ts_set (i := 5) sc__law_are_flows_right.nd rfl (by first | exact Or.inl rfl | exact Or.inr rfl) (td_callTy cd_tuple (by rfl) T.z_tuple (by decide +kernel) (ta_cons (td_lc (own := [("at", 13)]) rfl sc__law_are_flows_right.nd (ti_range1 (by rfl) T.z_range (ta_cons (td_op od_add (td_int) (td_callM (i := 0) (n := 1) (ok__law_take T) (hr.mono (by decide)) (by rfl) T.m__law_take T.F__law_take.kp T.b__law_take rfl (by first | exact Or.inl rfl | exact Or.inr (Or.inl rfl) | exact Or.inr (Or.inr rfl)) (ta_cons (td_int) (ta_nil)) (hlen' := (dlen_cons dlen_nil)) (hnn := rfl))) (ta_nil))) (blkOk_by (own := [("at", 13)]) (by kernel_rfl)) (fun _ _ _ _ _ => tg_name (i := 13) sc__law_are_flows_right.nd rfl (by first | exact Or.inl rfl | exact Or.inr rfl)) (fun _ _ _ _ _ => tts_nil) (fun _ _ _ _ _ => td_callTy cd_int (by rfl) T.z_int (by decide +kernel) (ta_cons (td_callM (i := 0) (n := 1) (ok__law_take T) (hr.mono (by decide)) (by rfl) T.m__law_take T.F__law_take.kp T.b__law_take rfl (by first | exact Or.inl rfl | exact Or.inr (Or.inl rfl) | exact Or.inr (Or.inr rfl)) (ta_cons (td_int) (ta_nil)) (hlen' := (dlen_cons dlen_nil)) (hnn := rfl)) (ta_nil)))) (ta_nil)))) (tss_cons (ts_asg (td_tup (n := 2) (ta_cons (td_callTy cd_int (by rfl) T.z_int (by decide +kernel) (ta_cons (td_callM (i := 0) (n := 1) (ok__law_take T) (hr.mono (by decide)) (by rfl) T.m__law_take T.F__law_take.kp T.b__law_take rfl (by first | exact Or.inl rfl | exact Or.inr (Or.inl rfl) | exact Or.inr (Or.inr rfl)) (ta_cons (td_int) (ta_nil)) (hlen' := (dlen_cons dlen_nil)) (hnn := rfl)) (ta_nil))) (ta_cons (td_callTy cd_int (by rfl) T.z_int (by decide +kernel) (ta_cons (td_callM (i := 0) (n := 1) (ok__law_take T) (hr.mono (by decide)) (by rfl) T.m__law_take T.F__law_take.kp T.b__law_take rfl (by first | exact Or.inl rfl | exact Or.inr (Or.inl rfl) | exact Or.inr (Or.inr rfl)) (ta_cons (td_int) (ta_nil)) (hlen' := (dlen_cons dlen_nil)) (hnn := rfl)) (ta_nil))) (ta_nil))) (dlen_cons (dlen_cons dlen_nil))) (tg_tup rfl (tgs_cons (tg_name (i := 6) sc__law_are_flows_right.nd rfl (by first | exact Or.inl rfl | exact Or.inr rfl)) (tgs_cons (tg_name (i := 7) sc__law_are_flows_right.nd rfl (by first | exact Or.inl rfl | exact Or.inr rfl)) (tgs_nil))))) (tss_cons (ts_par (i := 8) (j := 9) rfl sc__law_are_flows_right.nd rfl rfl (by decide) rfl rfl (ta_cons (td_call (n := 4) (ok_unlike_stitches T) (hr.mono (by decide)) (by rfl) T.m_unlike_stitches T.F_unlike_stitches.kp T.b_unlike_stitches (ta_cons (td_name 1) (ta_cons (td_name 5) (ta_cons (td_name 6) (ta_cons (td_name 3) (ta_nil))))) (hlen' := (dlen_cons (dlen_cons (dlen_cons (dlen_cons dlen_nil))))) (hnn := rfl)) (ta_cons (td_call (n := 4) (ok_unlike_stitches T) (hr.mono (by decide)) (by rfl) T.m_unlike_stitches T.F_unlike_stitches.kp T.b_unlike_stitches (ta_cons (td_name 1) (ta_cons (td_name 5) (ta_cons (td_op od_add (td_name 6) (td_name 7)) (ta_cons (td_name 3) (ta_nil))))) (hlen' := (dlen_cons (dlen_cons (dlen_cons (dlen_cons dlen_nil))))) (hnn := rfl)) (ta_nil))) (by rfl)) (tss_cons (ts_if (tt_cmp (od_ne hr.units) (td_op od_sub (td_name 9) (td_name 8)) (td_call (n := 4) (ok_unlike_stitches T) (hr.mono (by decide)) (by rfl) T.m_unlike_stitches T.F_unlike_stitches.kp T.b_unlike_stitches (ta_cons (td_call (n := 2) (ok__law_moved T) (hr.mono (by decide)) (by rfl) T.m__law_moved T.F__law_moved.kp T.b__law_moved (ta_cons (td_name 1) (ta_cons (td_name 6) (ta_nil))) (hlen' := (dlen_cons (dlen_cons dlen_nil))) (hnn := rfl)) (ta_cons (td_name 5) (ta_cons (td_name 7) (ta_cons (td_op od_add (td_name 3) (td_name 6)) (ta_nil))))) (hlen' := (dlen_cons (dlen_cons (dlen_cons (dlen_cons dlen_nil))))) (hnn := rfl)) (nomark _)) (tss_one (ts_ret (td_bl))) (tss_nil)) (tss_cons (ts_if (tt_cmp (od_ne hr.units) (td_call (n := 4) (ok_unlike_stitches T) (hr.mono (by decide)) (by rfl) T.m_unlike_stitches T.F_unlike_stitches.kp T.b_unlike_stitches (ta_cons (td_name 1) (ta_cons (td_name 1) (ta_cons (td_name 6) (ta_cons (td_int) (ta_nil))))) (hlen' := (dlen_cons (dlen_cons (dlen_cons (dlen_cons dlen_nil))))) (hnn := rfl)) (td_int) (nomark _)) (tss_one (ts_ret (td_bl))) (tss_nil)) (tss_cons (ts_if (tt_cmp (od_ne hr.units) (td_call (n := 4) (ok_unlike_stitches T) (hr.mono (by decide)) (by rfl) T.m_unlike_stitches T.F_unlike_stitches.kp T.b_unlike_stitches (ta_cons (td_name 5) (ta_cons (td_name 1) (ta_cons (td_name 6) (ta_cons (td_int) (ta_nil))))) (hlen' := (dlen_cons (dlen_cons (dlen_cons (dlen_cons dlen_nil))))) (hnn := rfl)) (td_call (n := 4) (ok_unlike_stitches T) (hr.mono (by decide)) (by rfl) T.m_unlike_stitches T.F_unlike_stitches.kp T.b_unlike_stitches (ta_cons (td_name 1) (ta_cons (td_name 5) (ta_cons (td_name 6) (ta_cons (td_int) (ta_nil))))) (hlen' := (dlen_cons (dlen_cons (dlen_cons (dlen_cons dlen_nil))))) (hnn := rfl)) (nomark _)) (tss_one (ts_ret (td_bl))) (tss_nil)) (tss_cons (ts_set (i := 10) sc__law_are_flows_right.nd rfl (by first | exact Or.inl rfl | exact Or.inr rfl) (td_call (n := 3) (ok_flows_on T) (hr.mono (by decide)) (by rfl) T.m_flows_on T.F_flows_on.kp T.b_flows_on (ta_cons (td_name 1) (ta_cons (td_name 5) (ta_cons (td_name 6) (ta_nil)))) (hlen' := (dlen_cons (dlen_cons (dlen_cons dlen_nil)))) (hnn := rfl))) (tss_cons (ts_setLc (i := 11) (own := [("at", 13)]) rfl sc__law_are_flows_right.nd rfl rfl (sw_true rfl rfl rfl (by decide +kernel)) (ti_range1 (by rfl) T.z_range (ta_cons (td_callB cd_len (by rfl) T.z_len (by decide +kernel) (ta_cons (td_name 5) (ta_nil))) (ta_nil))) (blkOk_by (own := [("at", 13)]) (by kernel_rfl)) (fun _ _ _ _ _ => tg_name (i := 13) sc__law_are_flows_right.nd rfl (by first | exact Or.inl rfl | exact Or.inr rfl)) (fun _ _ _ _ _ => tts_nil) (fun _ _ _ _ _ => td_call (n := 4) (ok_unlike_stitches T) (hr.mono (by decide)) (by rfl) T.m_unlike_stitches T.F_unlike_stitches.kp T.b_unlike_stitches (ta_cons (td_name 1) (ta_cons (td_name 5) (ta_cons (td_name 6) (ta_cons (td_name 13) (ta_nil))))) (hlen' := (dlen_cons (dlen_cons (dlen_cons (dlen_cons dlen_nil))))) (hnn := rfl))) (tss_cons (ts_if ((tt_or (tt_cmp (od_ne hr.units) (td_ix id_ix (td_name 10) (td_int) (fun _ _ => rfl)) (td_callB (cd_min rfl) (by rfl) T.z_min (by decide +kernel) (ta_cons (td_name 11) (ta_nil))) (nomark _)) (tt_or (tt_cmp (od_ne hr.units) (td_ix id_ix (td_name 11) (td_ix id_ix (td_name 10) (td_int) (fun _ _ => rfl)) (fun _ _ => rfl)) (td_callB (cd_min rfl) (by rfl) T.z_min (by decide +kernel) (ta_cons (td_name 11) (ta_nil))) (nomark _)) (tt_or1 (tt_cmp od_isNot (td_call (n := 4) (ok_shows_flows_on T) (hr.mono (by decide)) (by rfl) T.m_shows_flows_on T.F_shows_flows_on.kp T.b_shows_flows_on (ta_cons (td_name 1) (ta_cons (td_name 5) (ta_cons (td_name 6) (ta_cons (td_name 10) (ta_nil))))) (hlen' := (dlen_cons (dlen_cons (dlen_cons (dlen_cons dlen_nil))))) (hnn := rfl)) (td_bl) (nomark _))))).pt) (tss_one (ts_ret (td_bl))) (tss_nil)) (tss_cons (ts_if (tt_cmp (od_ne hr.units) (td_ix id_ix (td_call (n := 3) (ok_flows_on T) (hr.mono (by decide)) (by rfl) T.m_flows_on T.F_flows_on.kp T.b_flows_on (ta_cons (td_name 1) (ta_cons (td_name 2) (ta_cons (td_callB cd_len (by rfl) T.z_len (by decide +kernel) (ta_cons (td_name 1) (ta_nil))) (ta_nil)))) (hlen' := (dlen_cons (dlen_cons (dlen_cons dlen_nil)))) (hnn := rfl)) (td_int) (fun _ _ => rfl)) (td_int) (nomark _)) (tss_one (ts_ret (td_bl))) (tss_nil)) (tss_cons (ts_set (i := 12) sc__law_are_flows_right.nd rfl (by first | exact Or.inl rfl | exact Or.inr rfl) (td_call (n := 2) (ok_first_unlike T) (hr.mono (by decide)) (by rfl) T.m_first_unlike T.F_first_unlike.kp T.b_first_unlike (ta_cons (td_name 1) (ta_cons (td_name 5) (ta_nil))) (hlen' := (dlen_cons (dlen_cons dlen_nil))) (hnn := rfl))) (tss_cons (ts_if (tt_cmp (od_ne hr.units) (td_cmp od_is (td_name 12) (td_non) (nomark _)) (td_cmp (od_eq hr.units) (td_name 4) (td_call (n := 1) (ok_least_rib T) (hr.mono (by decide)) (by rfl) T.m_least_rib T.F_least_rib.kp T.b_least_rib (ta_cons (td_name 5) (ta_nil)) (hlen' := (dlen_cons dlen_nil)) (hnn := rfl)) (nomark _)) (nomark _)) (tss_one (ts_ret (td_bl))) (tss_nil)) (tss_cons (ts_if ((tt_and (tt_cmp od_isNot (td_name 12) (td_non) (nomark _)) (tt_and1 (tt_cmp od_ge (td_name 12) (td_op od_sub (td_op od_add (td_callB cd_len (by rfl) T.z_len (by decide +kernel) (ta_cons (td_name 4) (ta_nil))) (td_callB cd_len (by rfl) T.z_len (by decide +kernel) (ta_cons (td_call (n := 1) (ok_least_rib T) (hr.mono (by decide)) (by rfl) T.m_least_rib T.F_least_rib.kp T.b_least_rib (ta_cons (td_name 5) (ta_nil)) (hlen' := (dlen_cons dlen_nil)) (hnn := rfl)) (ta_nil)))) (td_int)) (nomark _)))).pt) (tss_one (ts_ret (td_bl))) (tss_nil)) (tss_cons (ts_if ((tt_and (tt_cmp od_isNot (td_name 12) (td_non) (nomark _)) (tt_and1 (tt_cmp (od_ne hr.units) (td_call (n := 4) (ok_unlike_stitches T) (hr.mono (by decide)) (by rfl) T.m_unlike_stitches T.F_unlike_stitches.kp T.b_unlike_stitches (ta_cons (td_name 1) (ta_cons (td_name 5) (ta_cons (td_name 12) (ta_cons (td_int) (ta_nil))))) (hlen' := (dlen_cons (dlen_cons (dlen_cons (dlen_cons dlen_nil))))) (hnn := rfl)) (td_int) (nomark _)))).pt) (tss_one (ts_ret (td_bl))) (tss_nil)) (tss_one (ts_ret (td_bl)))))))))))))))))
theorem ok_nearest_round : FnOk P w K mg base CX0 5 a_nearest_round fd_nearest_round ["rib", "wide"] (spD K ["rib", "wide"].length g_nearest_round) := ok_def T.F_nearest_round sc_nearest_round fun cdv A outer s H E hr =>
  tss_cons (ts_expr (td_call (n := 1) (ok_look_at_rib T) (hr.mono (by decide)) (by rfl) T.m_look_at_rib T.F_look_at_rib.kp T.b_look_at_rib (ta_cons (td_name 0) (ta_nil)) (hlen' := (dlen_cons dlen_nil)) (hnn := rfl))) (tss_cons (ts_if (tt_not (tt_val (td_call (n := 3) (ok_is_int T) (hr.mono (by decide)) (by rfl) T.m_is_int T.F_is_int.kp T.b_is_int (ta_cons (td_name 1) (ta_cons (td_int) (ta_cons (td_globI (by rfl) T.c_MOST_STITCHES) (ta_nil)))) (hlen' := (dlen_cons (dlen_cons (dlen_cons dlen_nil)))) (hnn := rfl)))) (tss_one (ts_never)) (tss_nil)) (tss_cons (ts_set (i := 2) sc_nearest_round.nd rfl (by first | exact Or.inl rfl | exact Or.inr rfl) (td_callB cd_len (by rfl) T.z_len (by decide +kernel) (ta_cons (td_call (n := 1) (ok_told_least T) (hr.mono (by decide)) (by rfl) T.m_told_least T.F_told_least.kp T.b_told_least (ta_cons (td_name 0) (ta_nil)) (hlen' := (dlen_cons dlen_nil)) (hnn := rfl)) (ta_nil)))) (tss_cons (ts_set (i := 3) sc_nearest_round.nd rfl (by first | exact Or.inl rfl | exact Or.inr rfl) (td_op od_mul (td_op od_div (td_name 1) (td_name 2)) (td_name 2))) (tss_one (ts_ret (td_ifE ((tt_and (tt_cmp od_gt (td_name 3) (td_int) (nomark _)) (tt_and1 (tt_cmp od_le (td_op od_sub (td_name 1) (td_name 3)) (td_op od_sub (td_op od_add (td_name 3) (td_name 2)) (td_name 1)) (nomark _)))).pt) (td_name 3) (td_op od_add (td_name 3) (td_name 2))))))))
theorem ok_are_same_ribs : FnOk P w K mg base CX0 5 a_are_same_ribs fd_are_same_ribs ["one", "other"] (spD K ["one", "other"].length g_are_same_ribs) := ok_def T.F_are_same_ribs sc_are_same_ribs fun cdv A outer s H E hr =>
  tss_cons (ts_expr (td_call (n := 1) (ok_look_at_rib T) (hr.mono (by decide)) (by rfl) T.m_look_at_rib T.F_look_at_rib.kp T.b_look_at_rib (ta_cons (td_name 0) (ta_nil)) (hlen' := (dlen_cons dlen_nil)) (hnn := rfl))) (tss_cons (ts_expr (td_call (n := 1) (ok_look_at_rib T) (hr.mono (by decide)) (by rfl) T.m_look_at_rib T.F_look_at_rib.kp T.b_look_at_rib (ta_cons (td_name 1) (ta_nil)) (hlen' := (dlen_cons dlen_nil)) (hnn := rfl))) (tss_one (ts_ret (td_cmp (od_in (room65 hr)) (td_call (n := 1) (ok_told_least T) (hr.mono (by decide)) (by rfl) T.m_told_least T.F_told_least.kp T.b_told_least (ta_cons (td_name 1) (ta_nil)) (hlen' := (dlen_cons dlen_nil)) (hnn := rfl)) (td_call (n := 1) (ok_told_moves T) (hr.mono (by decide)) (by rfl) T.m_told_moves T.F_told_moves.kp T.b_told_moves (ta_cons (td_call (n := 1) (ok_told_least T) (hr.mono (by decide)) (by rfl) T.m_told_least T.F_told_least.kp T.b_told_least (ta_cons (td_name 0) (ta_nil)) (hlen' := (dlen_cons dlen_nil)) (hnn := rfl)) (ta_nil)) (hlen' := (dlen_cons dlen_nil)) (hnn := rfl)) (by with_unfolding_all rfl)))))
theorem ok_plain_rib : FnOk P w K mg base CX0 2 a_plain_rib fd_plain_rib ["knit", "purl"] (spD K ["knit", "purl"].length g_plain_rib) := ok_def T.F_plain_rib sc_plain_rib fun cdv A outer s H E hr =>
  tss_cons (ts_for PassesOwn.never rfl (ti_it (td_tup (n := 2) (ta_cons (td_name 0) (ta_cons (td_name 1) (ta_nil))) (dlen_cons (dlen_cons dlen_nil)))) (tg_name (i := 2) sc_plain_rib.nd rfl (by first | exact Or.inl rfl | exact Or.inr rfl)) (tss_one (ts_if (tt_not (tt_val (td_call (n := 3) (ok_is_int T) (hr.mono (by decide)) (by rfl) T.m_is_int T.F_is_int.kp T.b_is_int (ta_cons (td_name 2) (ta_cons (td_int) (ta_cons (td_op od_div (td_globI (by rfl) T.c_MOST_RIB) (td_int)) (ta_nil)))) (hlen' := (dlen_cons (dlen_cons (dlen_cons dlen_nil)))) (hnn := rfl)))) (tss_one (ts_never)) (tss_nil)))) (tss_cons (ts_if (tt_cmp (od_eq hr.units) (td_op od_add (td_name 0) (td_name 1)) (td_int) (nomark _)) (tss_one (ts_never)) (tss_nil)) (tss_one (ts_ret (td_op od_add (td_op od_mul (td_tup (n := 1) (ta_cons (td_int) (ta_nil)) (dlen_cons dlen_nil)) (td_name 0)) (td_op od_mul (td_tup (n := 1) (ta_cons (td_int) (ta_nil)) (dlen_cons dlen_nil)) (td_name 1))))))
theorem ok_fits_round : FnOk P w K mg base CX0 5 a_fits_round fd_fits_round ["rib", "wide"] (spD K ["rib", "wide"].length g_fits_round) := ok_def T.F_fits_round sc_fits_round fun cdv A outer s H E hr =>
  tss_cons (ts_expr (td_call (n := 1) (ok_look_at_rib T) (hr.mono (by decide)) (by rfl) T.m_look_at_rib T.F_look_at_rib.kp T.b_look_at_rib (ta_cons (td_name 0) (ta_nil)) (hlen' := (dlen_cons dlen_nil)) (hnn := rfl))) (tss_cons (ts_if (tt_not (tt_val (td_call (n := 3) (ok_is_int T) (hr.mono (by decide)) (by rfl) T.m_is_int T.F_is_int.kp T.b_is_int (ta_cons (td_name 1) (ta_cons (td_int) (ta_cons (td_globI (by rfl) T.c_MOST_STITCHES) (ta_nil)))) (hlen' := (dlen_cons (dlen_cons (dlen_cons dlen_nil)))) (hnn := rfl)))) (tss_one (ts_never)) (tss_nil)) (tss_one (ts_ret (td_cmp (od_eq hr.units) (td_op od_mod (td_name 1) (td_callB cd_len (by rfl) T.z_len (by decide +kernel) (ta_cons (td_call (n := 1) (ok_told_least T) (hr.mono (by decide)) (by rfl) T.m_told_least T.F_told_least.kp T.b_told_least (ta_cons (td_name 0) (ta_nil)) (hlen' := (dlen_cons dlen_nil)) (hnn := rfl)) (ta_nil)))) (td_int) (nomark _)))))
theorem ok__law_of : FnOk P w K mg base CX0 2 a__law_of fd__law_of ["pot", "some"] (spD K ["pot", "some"].length g__law_of) := ok_def T.F__law_of sc__law_of fun cdv A outer s H E hr =>
  tss_one (ts_ret (td_ix id_ix (td_name 1) (td_callM (i := 0) (n := 1) (ok__law_take T) (hr.mono (by decide)) (by rfl) T.m__law_take T.F__law_take.kp T.b__law_take rfl (by first | exact Or.inl rfl | exact Or.inr (Or.inl rfl) | exact Or.inr (Or.inr rfl)) (ta_cons (td_callB cd_len (by rfl) T.z_len (by decide +kernel) (ta_cons (td_name 1) (ta_nil))) (ta_nil)) (hlen' := (dlen_cons dlen_nil)) (hnn := rfl)) (fun _ _ => rfl)))
theorem ok__law_right : FnOk P w K mg base CX0 8 a__law_right fd__law_right ["pot"] (spD K ["pot"].length g__law_right) := ok_def T.F__law_right sc__law_right fun cdv A outer s H E hr =>
  tss_cons (ts_for PassesOwn.never rfl (ti_range1 (by rfl) T.z_range (ta_cons (td_int) (ta_nil))) (tg_name (i := 1) sc__law_right.nd rfl (by first | exact Or.inl rfl | exact Or.inr rfl)) (tss_cons (ts_set (i := 2) sc__law_right.nd rfl (by first | exact Or.inl rfl | exact Or.inr rfl) (td_callTy cd_tuple (by rfl) T.z_tuple (by decide +kernel) (ta_cons (td_lc (own := [("at", 16)]) rfl sc__law_right.nd (ti_range1 (by rfl) T.z_range (ta_cons (td_op od_add (td_int) (td_callM (i := 0) (n := 1) (ok__law_take T) (hr.mono (by decide)) (by rfl) T.m__law_take T.F__law_take.kp T.b__law_take rfl (by first | exact Or.inl rfl | exact Or.inr (Or.inl rfl) | exact Or.inr (Or.inr rfl)) (ta_cons (td_callM (i := 0) (n := 1) (ok__law_of T) (hr.mono (by decide)) (by rfl) T.m__law_of T.F__law_of.kp T.b__law_of rfl (by first | exact Or.inl rfl | exact Or.inr (Or.inl rfl) | exact Or.inr (Or.inr rfl)) (ta_cons (td_lst (n := 2) (ta_cons (td_int) (ta_cons (td_int) (ta_nil))) (dlen_cons (dlen_cons dlen_nil))) (ta_nil)) (hlen' := (dlen_cons dlen_nil)) (hnn := rfl)) (ta_nil)) (hlen' := (dlen_cons dlen_nil)) (hnn := rfl))) (ta_nil))) (blkOk_by (own := [("at", 16)]) (by kernel_rfl)) (fun _ _ _ _ _ => tg_name (i := 16) sc__law_right.nd rfl (by first | exact Or.inl rfl | exact Or.inr rfl)) (fun _ _ _ _ _ => tts_nil) (fun _ _ _ _ _ => td_callTy cd_int (by rfl) T.z_int (by decide +kernel) (ta_cons (td_callM (i := 0) (n := 1) (ok__law_take T) (hr.mono (by decide)) (by rfl) T.m__law_take T.F__law_take.kp T.b__law_take rfl (by first | exact Or.inl rfl | exact Or.inr (Or.inl rfl) | exact Or.inr (Or.inr rfl)) (ta_cons (td_int) (ta_nil)) (hlen' := (dlen_cons dlen_nil)) (hnn := rfl)) (ta_nil)))) (ta_nil)))) (tss_cons (ts_set (i := 3) sc__law_right.nd rfl (by first | exact Or.inl rfl | exact Or.inr rfl) (td_op od_mul (td_name 2) (td_callTy cd_int (by rfl) T.z_int (by decide +kernel) (ta_cons (td_op od_add (td_int) (td_callM (i := 0) (n := 1) (ok__law_take T) (hr.mono (by decide)) (by rfl) T.m__law_take T.F__law_take.kp T.b__law_take rfl (by first | exact Or.inl rfl | exact Or.inr (Or.inl rfl) | exact Or.inr (Or.inr rfl)) (ta_cons (td_op od_div (td_int) (td_callB cd_len (by rfl) T.z_len (by decide +kernel) (ta_cons (td_name 2) (ta_nil)))) (ta_nil)) (hlen' := (dlen_cons dlen_nil)) (hnn := rfl))) (ta_nil))))) (tss_cons (ts_par (i := 4) (j := 5) rfl sc__law_right.nd rfl rfl (by decide) rfl rfl (ta_cons (td_call (n := 1) (ok_least_rib T) (hr.mono (by decide)) (by rfl) T.m_least_rib T.F_least_rib.kp T.b_least_rib (ta_cons (td_name 3) (ta_nil)) (hlen' := (dlen_cons dlen_nil)) (hnn := rfl)) (ta_cons (td_callTy cd_int (by rfl) T.z_int (by decide +kernel) (ta_cons (td_callM (i := 0) (n := 1) (ok__law_take T) (hr.mono (by decide)) (by rfl) T.m__law_take T.F__law_take.kp T.b__law_take rfl (by first | exact Or.inl rfl | exact Or.inr (Or.inl rfl) | exact Or.inr (Or.inr rfl)) (ta_cons (td_int) (ta_nil)) (hlen' := (dlen_cons dlen_nil)) (hnn := rfl)) (ta_nil))) (ta_nil))) (by rfl)) (tss_cons (ts_if ((tt_or (tt_cmp (od_ne hr.units) (td_name 3) (td_op od_mul (td_name 4) (td_op od_div (td_callB cd_len (by rfl) T.z_len (by decide +kernel) (ta_cons (td_name 3) (ta_nil))) (td_callB cd_len (by rfl) T.z_len (by decide +kernel) (ta_cons (td_name 4) (ta_nil))))) (nomark _)) (tt_or (tt_cmp (od_ne hr.units) (td_call (n := 1) (ok_least_rib T) (hr.mono (by decide)) (by rfl) T.m_least_rib T.F_least_rib.kp T.b_least_rib (ta_cons (td_name 4) (ta_nil)) (hlen' := (dlen_cons dlen_nil)) (hnn := rfl)) (td_name 4) (nomark _)) (tt_or1 (tt_cmp (od_ne hr.units) (td_call (n := 1) (ok_least_rib T) (hr.mono (by decide)) (by rfl) T.m_least_rib T.F_least_rib.kp T.b_least_rib (ta_cons (td_name 2) (ta_nil)) (hlen' := (dlen_cons dlen_nil)) (hnn := rfl)) (td_name 4) (nomark _))))).pt) (tss_one (ts_ret (td_bl))) (tss_nil)) (tss_cons (ts_set (i := 6) sc__law_right.nd rfl (by first | exact Or.inl rfl | exact Or.inr rfl) (td_call (n := 2) (ok__law_moved T) (hr.mono (by decide)) (by rfl) T.m__law_moved T.F__law_moved.kp T.b__law_moved (ta_cons (td_name 3) (ta_cons (td_name 5) (ta_nil))) (hlen' := (dlen_cons (dlen_cons dlen_nil))) (hnn := rfl))) (tss_cons (ts_if ((tt_or (tt_cmp od_isNot (td_call (n := 2) (ok_are_same_ribs T) (hr.mono (by decide)) (by rfl) T.m_are_same_ribs T.F_are_same_ribs.kp T.b_are_same_ribs (ta_cons (td_name 3) (ta_cons (td_name 6) (ta_nil))) (hlen' := (dlen_cons (dlen_cons dlen_nil))) (hnn := rfl)) (td_bl) (nomark _)) (tt_or1 (tt_cmp od_isNot (td_call (n := 2) (ok_are_same_ribs T) (hr.mono (by decide)) (by rfl) T.m_are_same_ribs T.F_are_same_ribs.kp T.b_are_same_ribs (ta_cons (td_name 2) (ta_cons (td_name 6) (ta_nil))) (hlen' := (dlen_cons (dlen_cons dlen_nil))) (hnn := rfl)) (td_bl) (nomark _)))).pt) (tss_one (ts_ret (td_bl))) (tss_nil)) (tss_cons (ts_if ((tt_or (tt_cmp (od_ne hr.units) (td_call (n := 1) (ok_back_of T) (hr.mono (by decide)) (by rfl) T.m_back_of T.F_back_of.kp T.b_back_of (ta_cons (td_call (n := 1) (ok_back_of T) (hr.mono (by decide)) (by rfl) T.m_back_of T.F_back_of.kp T.b_back_of (ta_cons (td_name 3) (ta_nil)) (hlen' := (dlen_cons dlen_nil)) (hnn := rfl)) (ta_nil)) (hlen' := (dlen_cons dlen_nil)) (hnn := rfl)) (td_name 3) (nomark _)) (tt_or1 (tt_cmp (od_ne hr.units) (td_call (n := 1) (ok_back_of T) (hr.mono (by decide)) (by rfl) T.m_back_of T.F_back_of.kp T.b_back_of (ta_cons (td_name 6) (ta_nil)) (hlen' := (dlen_cons dlen_nil)) (hnn := rfl)) (td_call (n := 2) (ok__law_moved T) (hr.mono (by decide)) (by rfl) T.m__law_moved T.F__law_moved.kp T.b__law_moved (ta_cons (td_call (n := 1) (ok_back_of T) (hr.mono (by decide)) (by rfl) T.m_back_of T.F_back_of.kp T.b_back_of (ta_cons (td_name 3) (ta_nil)) (hlen' := (dlen_cons dlen_nil)) (hnn := rfl)) (ta_cons (td_un ud_neg (td_name 5)) (ta_nil))) (hlen' := (dlen_cons (dlen_cons dlen_nil))) (hnn := rfl)) (nomark _)))).pt) (tss_one (ts_ret (td_bl))) (tss_nil)) (tss_cons (ts_set (i := 7) sc__law_right.nd rfl (by first | exact Or.inl rfl | exact Or.inr rfl) (td_callTy cd_tuple (by rfl) T.z_tuple (by decide +kernel) (ta_cons (td_lc (own := [("at", 16)]) rfl sc__law_right.nd (ti_range1 (by rfl) T.z_range (ta_cons (td_op od_add (td_int) (td_callM (i := 0) (n := 1) (ok__law_take T) (hr.mono (by decide)) (by rfl) T.m__law_take T.F__law_take.kp T.b__law_take rfl (by first | exact Or.inl rfl | exact Or.inr (Or.inl rfl) | exact Or.inr (Or.inr rfl)) (ta_cons (td_int) (ta_nil)) (hlen' := (dlen_cons dlen_nil)) (hnn := rfl))) (ta_nil))) (blkOk_by (own := [("at", 16)]) (by kernel_rfl)) (fun _ _ _ _ _ => tg_name (i := 16) sc__law_right.nd rfl (by first | exact Or.inl rfl | exact Or.inr rfl)) (fun _ _ _ _ _ => tts_nil) (fun _ _ _ _ _ => td_callTy cd_int (by rfl) T.z_int (by decide +kernel) (ta_cons (td_callM (i := 0) (n := 1) (ok__law_take T) (hr.mono (by decide)) (by rfl) T.m__law_take T.F__law_take.kp T.b__law_take rfl (by first | exact Or.inl rfl | exact Or.inr (Or.inl rfl) | exact Or.inr (Or.inr rfl)) (ta_cons (td_int) (ta_nil)) (hlen' := (dlen_cons dlen_nil)) (hnn := rfl)) (ta_nil)))) (ta_nil)))) (tss_cons (ts_set (i := 8) sc__law_right.nd rfl (by first | exact Or.inl rfl | exact Or.inr rfl) (td_op od_add (td_name 7) (td_call (n := 1) (ok_back_of T) (hr.mono (by decide)) (by rfl) T.m_back_of T.F_back_of.kp T.b_back_of (ta_cons (td_name 7) (ta_nil)) (hlen' := (dlen_cons dlen_nil)) (hnn := rfl)))) (tss_cons (ts_if ((tt_or (tt_cmp od_isNot (td_call (n := 1) (ok_is_two_faced T) (hr.mono (by decide)) (by rfl) T.m_is_two_faced T.F_is_two_faced.kp T.b_is_two_faced (ta_cons (td_call (n := 2) (ok__law_moved T) (hr.mono (by decide)) (by rfl) T.m__law_moved T.F__law_moved.kp T.b__law_moved (ta_cons (td_name 8) (ta_cons (td_name 5) (ta_nil))) (hlen' := (dlen_cons (dlen_cons dlen_nil))) (hnn := rfl)) (ta_nil)) (hlen' := (dlen_cons dlen_nil)) (hnn := rfl)) (td_bl) (nomark _)) (tt_or1 (tt_cmp (od_ne hr.units) (td_op od_mul (td_callB (cd_sum rfl) (by rfl) T.z_sum (by decide +kernel) (ta_cons (td_name 8) (ta_nil))) (td_int)) (td_callB cd_len (by rfl) T.z_len (by decide +kernel) (ta_cons (td_name 8) (ta_nil))) (nomark _)))).pt) (tss_one (ts_ret (td_bl))) (tss_nil)) (tss_cons (ts_if ((tt_and (tt_val (td_call (n := 1) (ok_is_two_faced T) (hr.mono (by decide)) (by rfl) T.m_is_two_faced T.F_is_two_faced.kp T.b_is_two_faced (ta_cons (td_name 3) (ta_nil)) (hlen' := (dlen_cons dlen_nil)) (hnn := rfl))) (tt_and1 (tt_cmp (od_ne hr.units) (td_op od_mul (td_int) (td_callB (cd_sum rfl) (by rfl) T.z_sum (by decide +kernel) (ta_cons (td_name 3) (ta_nil)))) (td_callB cd_len (by rfl) T.z_len (by decide +kernel) (ta_cons (td_name 3) (ta_nil))) (nomark _)))).pt) (tss_one (ts_ret (td_bl))) (tss_nil)) (tss_cons (ts_if (tt_not (tt_val (td_call (n := 2) (ok__law_is_bool T) (hr.mono (by decide)) (by rfl) T.m__law_is_bool T.F__law_is_bool.kp T.b__law_is_bool (ta_cons (td_call (n := 1) (ok_is_two_faced T) (hr.mono (by decide)) (by rfl) T.m_is_two_faced T.F_is_two_faced.kp T.b_is_two_faced (ta_cons (td_name 3) (ta_nil)) (hlen' := (dlen_cons dlen_nil)) (hnn := rfl)) (ta_cons (td_call (n := 2) (ok_are_same_ribs T) (hr.mono (by decide)) (by rfl) T.m_are_same_ribs T.F_are_same_ribs.kp T.b_are_same_ribs (ta_cons (td_name 3) (ta_cons (td_call (n := 1) (ok_back_of T) (hr.mono (by decide)) (by rfl) T.m_back_of T.F_back_of.kp T.b_back_of (ta_cons (td_name 3) (ta_nil)) (hlen' := (dlen_cons dlen_nil)) (hnn := rfl)) (ta_nil))) (hlen' := (dlen_cons (dlen_cons dlen_nil))) (hnn := rfl)) (ta_nil))) (hlen' := (dlen_cons (dlen_cons dlen_nil))) (hnn := rfl)))) (tss_one (ts_ret (td_bl))) (tss_nil)) (tss_cons (ts_if (tt_not (tt_val (td_callM (i := 0) (n := 3) (ok__law_are_flows_right T) (hr.mono (by decide)) (by rfl) T.m__law_are_flows_right T.F__law_are_flows_right.kp T.b__law_are_flows_right rfl (by first | exact Or.inl rfl | exact Or.inr (Or.inl rfl) | exact Or.inr (Or.inr rfl)) (ta_cons (td_name 3) (ta_cons (td_name 6) (ta_cons (td_name 5) (ta_nil)))) (hlen' := (dlen_cons (dlen_cons (dlen_cons dlen_nil)))) (hnn := rfl)))) (tss_one (ts_ret (td_bl))) (tss_nil)) (tss_cons (ts_set (i := 9) sc__law_right.nd rfl (by first | exact Or.inl rfl | exact Or.inr rfl) (td_callTy cd_int (by rfl) T.z_int (by decide +kernel) (ta_cons (td_callM (i := 0) (n := 1) (ok__law_take T) (hr.mono (by decide)) (by rfl) T.m__law_take T.F__law_take.kp T.b__law_take rfl (by first | exact Or.inl rfl | exact Or.inr (Or.inl rfl) | exact Or.inr (Or.inr rfl)) (ta_cons (td_int) (ta_nil)) (hlen' := (dlen_cons dlen_nil)) (hnn := rfl)) (ta_nil)))) (tss_cons (ts_if (tt_cmp od_gt (td_name 9) (td_int) (nomark _)) (tss_cons (ts_set (i := 15) sc__law_right.nd rfl (by first | exact Or.inl rfl | exact Or.inr rfl) (td_call (n := 2) (ok_nearest_round T) (hr.mono (by decide)) (by rfl) T.m_nearest_round T.F_nearest_round.kp T.b_nearest_round (ta_cons (td_name 3) (ta_cons (td_name 9) (ta_nil))) (hlen' := (dlen_cons (dlen_cons dlen_nil))) (hnn := rfl))) (tss_cons (ts_if ((tt_or (tt_not (tt_val (td_call (n := 2) (ok__law_is_bool T) (hr.mono (by decide)) (by rfl) T.m__law_is_bool T.F__law_is_bool.kp T.b__law_is_bool (ta_cons (td_call (n := 2) (ok_fits_round T) (hr.mono (by decide)) (by rfl) T.m_fits_round T.F_fits_round.kp T.b_fits_round (ta_cons (td_name 3) (ta_cons (td_name 9) (ta_nil))) (hlen' := (dlen_cons (dlen_cons dlen_nil))) (hnn := rfl)) (ta_cons (td_cmp (od_eq hr.units) (td_op od_mod (td_name 9) (td_callB cd_len (by rfl) T.z_len (by decide +kernel) (ta_cons (td_name 4) (ta_nil)))) (td_int) (nomark _)) (ta_nil))) (hlen' := (dlen_cons (dlen_cons dlen_nil))) (hnn := rfl)))) (tt_or (tt_cmp (od_ne hr.units) (td_op od_mod (td_name 15) (td_callB cd_len (by rfl) T.z_len (by decide +kernel) (ta_cons (td_name 4) (ta_nil)))) (td_int) (nomark _)) (tt_or1 (tt_cmp od_lt (td_name 15) (td_int) (nomark _))))).pt) (tss_one (ts_ret (td_bl))) (tss_nil)) (tss_one (ts_if ((tt_and (tt_cmp od_gt (td_op od_mul (td_int) (td_callB cd_abs (by rfl) T.z_abs (by decide +kernel) (ta_cons (td_op od_sub (td_name 15) (td_name 9)) (ta_nil)))) (td_callB cd_len (by rfl) T.z_len (by decide +kernel) (ta_cons (td_name 4) (ta_nil))) (nomark _)) (tt_and1 (tt_cmp (od_ne hr.units) (td_name 15) (td_callB cd_len (by rfl) T.z_len (by decide +kernel) (ta_cons (td_name 4) (ta_nil))) (nomark _)))).pt) (tss_one (ts_ret (td_bl))) (tss_nil))))) (tss_nil)) (tss_cons (ts_asg (td_call (n := 2) (ok_columns_of T) (hr.mono (by decide)) (by rfl) T.m_columns_of T.F_columns_of.kp T.b_columns_of (ta_cons (td_name 3) (ta_cons (td_name 9) (ta_nil))) (hlen' := (dlen_cons (dlen_cons dlen_nil))) (hnn := rfl)) (tg_tup rfl (tgs_cons (tg_name (i := 10) sc__law_right.nd rfl (by first | exact Or.inl rfl | exact Or.inr rfl)) (tgs_cons (tg_name (i := 11) sc__law_right.nd rfl (by first | exact Or.inl rfl | exact Or.inr rfl)) (tgs_nil))))) (tss_cons (ts_par (i := 12) (j := 13) rfl sc__law_right.nd rfl rfl (by decide) rfl rfl (ta_cons (td_op od_div (td_name 9) (td_callB cd_len (by rfl) T.z_len (by decide +kernel) (ta_cons (td_name 3) (ta_nil)))) (ta_cons (td_op od_mod (td_name 9) (td_callB cd_len (by rfl) T.z_len (by decide +kernel) (ta_cons (td_name 3) (ta_nil)))) (ta_nil))) (by rfl)) (tss_cons (ts_if ((tt_or (tt_cmp (od_ne hr.units) (td_op od_add (td_name 10) (td_name 11)) (td_name 9) (nomark _)) (tt_or1 (tt_cmp (od_ne hr.units) (td_name 10) (td_op od_add (td_op od_mul (td_name 12) (td_callB (cd_sum rfl) (by rfl) T.z_sum (by decide +kernel) (ta_cons (td_name 3) (ta_nil)))) (td_callB (cd_sum rfl) (by rfl) T.z_sum (by decide +kernel) (ta_cons (td_slice (td_name 3) to_none (to_some (td_name 13))) (ta_nil)))) (nomark _)))).pt) (tss_one (ts_ret (td_bl))) (tss_nil)) (tss_cons (ts_set (i := 14) sc__law_right.nd rfl (by first | exact Or.inl rfl | exact Or.inr rfl) (td_callTy cd_int (by rfl) T.z_int (by decide +kernel) (ta_cons (td_op od_add (td_int) (td_callM (i := 0) (n := 1) (ok__law_take T) (hr.mono (by decide)) (by rfl) T.m__law_take T.F__law_take.kp T.b__law_take rfl (by first | exact Or.inl rfl | exact Or.inr (Or.inl rfl) | exact Or.inr (Or.inr rfl)) (ta_cons (td_int) (ta_nil)) (hlen' := (dlen_cons dlen_nil)) (hnn := rfl))) (ta_nil)))) (tss_one (ts_if ((tt_or (tt_cmp (od_ne hr.units) (td_call (n := 2) (ok_plain_rib T) (hr.mono (by decide)) (by rfl) T.m_plain_rib T.F_plain_rib.kp T.b_plain_rib (ta_cons (td_name 14) (ta_cons (td_name 14) (ta_nil))) (hlen' := (dlen_cons (dlen_cons dlen_nil))) (hnn := rfl)) (td_call (n := 1) (ok_back_of T) (hr.mono (by decide)) (by rfl) T.m_back_of T.F_back_of.kp T.b_back_of (ta_cons (td_call (n := 2) (ok_plain_rib T) (hr.mono (by decide)) (by rfl) T.m_plain_rib T.F_plain_rib.kp T.b_plain_rib (ta_cons (td_name 14) (ta_cons (td_name 14) (ta_nil))) (hlen' := (dlen_cons (dlen_cons dlen_nil))) (hnn := rfl)) (ta_nil)) (hlen' := (dlen_cons dlen_nil)) (hnn := rfl)) (nomark _)) (tt_or1 (tt_cmp od_isNot (td_call (n := 1) (ok_is_two_faced T) (hr.mono (by decide)) (by rfl) T.m_is_two_faced T.F_is_two_faced.kp T.b_is_two_faced (ta_cons (td_call (n := 2) (ok_plain_rib T) (hr.mono (by decide)) (by rfl) T.m_plain_rib T.F_plain_rib.kp T.b_plain_rib (ta_cons (td_name 14) (ta_cons (td_name 14) (ta_nil))) (hlen' := (dlen_cons (dlen_cons dlen_nil))) (hnn := rfl)) (ta_nil)) (hlen' := (dlen_cons dlen_nil)) (hnn := rfl)) (td_bl) (nomark _)))).pt) (tss_one (ts_ret (td_bl))) (tss_nil))))))))))))))))))))))) (tss_one (ts_ret (td_bl)))
theorem ok__law_pot : FnOk P w K mg base CX0 1 a__law_pot fd__law_pot ["script", "place"] (spD K ["script", "place"].length g__law_pot) := ok_def T.F__law_pot sc__law_pot fun cdv A outer s H E hr =>
  tss_cons (ts_set (i := 2) sc__law_pot.nd rfl (by first | exact Or.inl rfl | exact Or.inr rfl) (td_ifE (tt_cmp od_lt (td_name 1) (td_callB cd_len (by rfl) T.z_len (by decide +kernel) (ta_cons (td_name 0) (ta_nil))) (nomark _)) (td_ix id_ix (td_name 0) (td_name 1) (fun _ _ => rfl)) (td_op od_add (td_op od_add (td_op od_mod (td_callTy cd_int (by rfl) T.z_int (by decide +kernel) (ta_cons (td_callB (cd_sum rfl) (by rfl) T.z_sum (by decide +kernel) (ta_cons (td_slice (td_name 0) to_none (to_some (td_int))) (ta_nil))) (ta_nil))) (td_int)) (td_op od_mul (td_int) (td_name 1))) (td_int)))) (tss_cons (ts_set (i := 3) sc__law_pot.nd rfl (by first | exact Or.inl rfl | exact Or.inr rfl) (td_op od_mul (td_op od_mod (td_callTy cd_int (by rfl) T.z_int (by decide +kernel) (ta_cons (td_callB cd_abs (by rfl) T.z_abs (by decide +kernel) (ta_cons (td_name 2) (ta_nil))) (ta_nil))) (td_op od_pow (td_op od_pow (td_int) (td_int)) (td_int))) (td_callTy cd_int (by rfl) T.z_int (by decide +kernel) (ta_cons (td_cmp od_ge (td_callB cd_abs (by rfl) T.z_abs (by decide +kernel) (ta_cons (td_name 2) (ta_nil))) (td_op od_pow (td_int) (td_int)) (nomark _)) (ta_nil))))) (tss_cons (ts_set (i := 4) sc__law_pot.nd rfl (by first | exact Or.inl rfl | exact Or.inr rfl) (td_op od_mod (td_callTy cd_int (by rfl) T.z_int (by decide +kernel) (ta_cons (td_name 2) (ta_nil))) (td_int))) (tss_one (ts_ret (td_lst (n := 3) (ta_cons (td_name 3) (ta_cons (td_op od_mod (td_callTy cd_int (by rfl) T.z_int (by decide +kernel) (ta_cons (td_op od_add (td_op od_add (td_op od_mul (td_name 4) (td_int)) (td_op od_mul (td_op od_mul (td_int) (td_name 1)) (td_name 1))) (td_int)) (ta_nil))) (td_int)) (ta_cons (td_int) (ta_nil)))) (dlen_cons (dlen_cons (dlen_cons dlen_nil))))))))
theorem ok__law_cells : FnOk P w K mg base CX0 1 a__law_cells fd__law_cells ["script", "most"] (spD K ["script", "most"].length g__law_cells) := ok_def T.F__law_cells sc__law_cells fun cdv A outer s H E hr =>
  tss_one (ts_ret (td_listRg1 rfl (by rfl) T.z_list (by rfl) T.z_range (td_callB (cd_max2 rfl) (by rfl) T.z_max (by decide +kernel) (ta_cons (td_int) (ta_cons (td_callB (cd_min2 rfl) (by rfl) T.z_min (by decide +kernel) (ta_cons (td_name 1) (ta_cons (td_callB cd_len (by rfl) T.z_len (by decide +kernel) (ta_cons (td_name 0) (ta_nil))) (ta_nil)))) (ta_nil))))))
theorem ok_law : FnOk P w K mg base CX0 9 a_law fd_law ["script"] (spD K ["script"].length g_law) := ok_def T.F_law sc_law fun cdv A outer s H E hr =>
  tss_one (ts_ret (td_callB (cd_all rfl) (by rfl) T.z_all (by decide +kernel) (ta_cons (td_lc (own := [("place", 1)]) rfl sc_law.nd (ti_it (td_call (n := 2) (ok__law_cells T) (hr.mono (by decide)) (by rfl) T.m__law_cells T.F__law_cells.kp T.b__law_cells (ta_cons (td_name 0) (ta_cons (td_int) (ta_nil))) (hlen' := (dlen_cons (dlen_cons dlen_nil))) (hnn := rfl))) (blkOk_by (own := [("place", 1)]) (by kernel_rfl)) (fun _ _ _ _ _ => tg_name (i := 1) sc_law.nd rfl (by first | exact Or.inl rfl | exact Or.inr rfl)) (fun _ _ _ _ _ => tts_nil) (fun _ _ _ _ _ => td_callT (ok__law_right T) (hr.mono (by decide)) (by rfl) T.m__law_right T.F__law_right.kp T.b__law_right rfl (td_call (n := 2) (ok__law_pot T) (hr.mono (by decide)) (by rfl) T.m__law_pot T.F__law_pot.kp T.b__law_pot (ta_cons (td_name 0) (ta_cons (td_name 1) (ta_nil))) (hlen' := (dlen_cons (dlen_cons dlen_nil))) (hnn := rfl)))) (ta_nil))))
end
set_option maxHeartbeats 0 in
theorem all_mk {l : PySem.W.OpenLaw} {w : World} {K : PySem.W.Frag} {h : Heap} {mg : Str → Option Value} {fa a__law_moved a_is_int a_are_ints a_is_rib a_look_at_rib a_columns_of a_told_least a_least_rib a_back_of a_told_moves a_is_two_faced a__law_is_bool a_look_at_ribs a_told_unlike a_told_best a_flows_on a_first_unlike a_unlike_stitches a__law_take a_is_told a_shows_flows_on a__law_are_flows_right a_nearest_round a_are_same_ribs a_plain_rib a_fits_round a__law_of a__law_right a__law_pot a__law_cells a_law : Addr} (X : K.In h) (G : h.Ns mainGlobals mg) (hfa : mg "law" = some (.ref fa))
    {od__law_moved od_is_int od_are_ints od_is_rib od_look_at_rib od_columns_of od_told_least od_least_rib od_back_of od_told_moves od_is_two_faced od__law_is_bool od_look_at_ribs od_told_unlike od_told_best od_flows_on od_first_unlike od_unlike_stitches od__law_take od_is_told od_shows_flows_on od__law_are_flows_right od_nearest_round od_are_same_ribs od_plain_rib od_fits_round od__law_of od__law_right od__law_pot od__law_cells od_law an__law_moved an_is_int an_are_ints an_is_rib an_look_at_rib an_columns_of an_told_least an_least_rib an_back_of an_told_moves an_is_two_faced an__law_is_bool an_look_at_ribs an_told_unlike an_told_best an_flows_on an_first_unlike an_unlike_stitches an__law_take an_is_told an_shows_flows_on an__law_are_flows_right an_nearest_round an_are_same_ribs an_plain_rib an_fits_round an__law_of an__law_right an__law_pot an__law_cells an_law : Option Addr} {sl__law_moved sl_is_int sl_are_ints sl_is_rib sl_look_at_rib sl_columns_of sl_told_least sl_least_rib sl_back_of sl_told_moves sl_is_two_faced sl__law_is_bool sl_look_at_ribs sl_told_unlike sl_told_best sl_flows_on sl_first_unlike sl_unlike_stitches sl__law_take sl_is_told sl_shows_flows_on sl__law_are_flows_right sl_nearest_round sl_are_same_ribs sl_plain_rib sl_fits_round sl__law_of sl__law_right sl__law_pot sl__law_cells sl_law : Array (Option Value)} {oc__law_moved kV__law_moved dc__law_moved pm__law_moved cd__law_moved ct__law_moved oc_is_int kV_is_int dc_is_int pm_is_int cd_is_int ct_is_int oc_are_ints kV_are_ints dc_are_ints pm_are_ints cd_are_ints ct_are_ints oc_is_rib kV_is_rib dc_is_rib pm_is_rib cd_is_rib ct_is_rib oc_look_at_rib kV_look_at_rib dc_look_at_rib pm_look_at_rib cd_look_at_rib ct_look_at_rib oc_columns_of kV_columns_of dc_columns_of pm_columns_of cd_columns_of ct_columns_of oc_told_least kV_told_least dc_told_least pm_told_least cd_told_least ct_told_least oc_least_rib kV_least_rib dc_least_rib pm_least_rib cd_least_rib ct_least_rib oc_back_of kV_back_of dc_back_of pm_back_of cd_back_of ct_back_of oc_told_moves kV_told_moves dc_told_moves pm_told_moves cd_told_moves ct_told_moves oc_is_two_faced kV_is_two_faced dc_is_two_faced pm_is_two_faced cd_is_two_faced ct_is_two_faced oc__law_is_bool kV__law_is_bool dc__law_is_bool pm__law_is_bool cd__law_is_bool ct__law_is_bool oc_look_at_ribs kV_look_at_ribs dc_look_at_ribs pm_look_at_ribs cd_look_at_ribs ct_look_at_ribs oc_told_unlike kV_told_unlike dc_told_unlike pm_told_unlike cd_told_unlike ct_told_unlike oc_told_best kV_told_best dc_told_best pm_told_best cd_told_best ct_told_best oc_flows_on kV_flows_on dc_flows_on pm_flows_on cd_flows_on ct_flows_on oc_first_unlike kV_first_unlike dc_first_unlike pm_first_unlike cd_first_unlike ct_first_unlike oc_unlike_stitches kV_unlike_stitches dc_unlike_stitches pm_unlike_stitches cd_unlike_stitches ct_unlike_stitches oc__law_take kV__law_take dc__law_take pm__law_take cd__law_take ct__law_take oc_is_told kV_is_told dc_is_told pm_is_told cd_is_told ct_is_told oc_shows_flows_on kV_shows_flows_on dc_shows_flows_on pm_shows_flows_on cd_shows_flows_on ct_shows_flows_on oc__law_are_flows_right kV__law_are_flows_right dc__law_are_flows_right pm__law_are_flows_right cd__law_are_flows_right ct__law_are_flows_right oc_nearest_round kV_nearest_round dc_nearest_round pm_nearest_round cd_nearest_round ct_nearest_round oc_are_same_ribs kV_are_same_ribs dc_are_same_ribs pm_are_same_ribs cd_are_same_ribs ct_are_same_ribs oc_plain_rib kV_plain_rib dc_plain_rib pm_plain_rib cd_plain_rib ct_plain_rib oc_fits_round kV_fits_round dc_fits_round pm_fits_round cd_fits_round ct_fits_round oc__law_of kV__law_of dc__law_of pm__law_of cd__law_of ct__law_of oc__law_right kV__law_right dc__law_right pm__law_right cd__law_right ct__law_right oc__law_pot kV__law_pot dc__law_pot pm__law_pot cd__law_pot ct__law_pot oc__law_cells kV__law_cells dc__law_cells pm__law_cells cd__law_cells ct__law_cells oc_law kV_law dc_law pm_law cd_law ct_law : Value} {t_MOST_RIB t_MOST_STITCHES t_SHIFT : Tok}
    (q__law_moved : PySem.W.nsIn K mainGlobals "_law_moved" = some (some (.ref a__law_moved))) (l__law_moved : K.lookup a__law_moved = some ⟨oc__law_moved, od__law_moved, .func (PySem.W.fnOf "_law_moved" "_law_moved" (defArgs s__law_moved) (defBody s__law_moved) (defScope s__law_moved) .none kV__law_moved dc__law_moved pm__law_moved an__law_moved cd__law_moved ct__law_moved), sl__law_moved⟩) (e__law_moved : PySem.W.codeIn K cd__law_moved "_law_moved" = true) (k__law_moved : PySem.W.keepIn K (.ref a__law_moved) = true)
    (q_is_int : PySem.W.nsIn K mainGlobals "is_int" = some (some (.ref a_is_int))) (l_is_int : K.lookup a_is_int = some ⟨oc_is_int, od_is_int, .func (PySem.W.fnOf "is_int" "is_int" (defArgs s_is_int) (defBody s_is_int) (defScope s_is_int) .none kV_is_int dc_is_int pm_is_int an_is_int cd_is_int ct_is_int), sl_is_int⟩) (e_is_int : PySem.W.codeIn K cd_is_int "is_int" = true) (k_is_int : PySem.W.keepIn K (.ref a_is_int) = true)
    (q_are_ints : PySem.W.nsIn K mainGlobals "are_ints" = some (some (.ref a_are_ints))) (l_are_ints : K.lookup a_are_ints = some ⟨oc_are_ints, od_are_ints, .func (PySem.W.fnOf "are_ints" "are_ints" (defArgs s_are_ints) (defBody s_are_ints) (defScope s_are_ints) .none kV_are_ints dc_are_ints pm_are_ints an_are_ints cd_are_ints ct_are_ints), sl_are_ints⟩) (e_are_ints : PySem.W.codeIn K cd_are_ints "are_ints" = true) (k_are_ints : PySem.W.keepIn K (.ref a_are_ints) = true)
    (q_is_rib : PySem.W.nsIn K mainGlobals "is_rib" = some (some (.ref a_is_rib))) (l_is_rib : K.lookup a_is_rib = some ⟨oc_is_rib, od_is_rib, .func (PySem.W.fnOf "is_rib" "is_rib" (defArgs s_is_rib) (defBody s_is_rib) (defScope s_is_rib) .none kV_is_rib dc_is_rib pm_is_rib an_is_rib cd_is_rib ct_is_rib), sl_is_rib⟩) (e_is_rib : PySem.W.codeIn K cd_is_rib "is_rib" = true) (k_is_rib : PySem.W.keepIn K (.ref a_is_rib) = true)
    (q_look_at_rib : PySem.W.nsIn K mainGlobals "look_at_rib" = some (some (.ref a_look_at_rib))) (l_look_at_rib : K.lookup a_look_at_rib = some ⟨oc_look_at_rib, od_look_at_rib, .func (PySem.W.fnOf "look_at_rib" "look_at_rib" (defArgs s_look_at_rib) (defBody s_look_at_rib) (defScope s_look_at_rib) .none kV_look_at_rib dc_look_at_rib pm_look_at_rib an_look_at_rib cd_look_at_rib ct_look_at_rib), sl_look_at_rib⟩) (e_look_at_rib : PySem.W.codeIn K cd_look_at_rib "look_at_rib" = true) (k_look_at_rib : PySem.W.keepIn K (.ref a_look_at_rib) = true)
    (q_columns_of : PySem.W.nsIn K mainGlobals "columns_of" = some (some (.ref a_columns_of))) (l_columns_of : K.lookup a_columns_of = some ⟨oc_columns_of, od_columns_of, .func (PySem.W.fnOf "columns_of" "columns_of" (defArgs s_columns_of) (defBody s_columns_of) (defScope s_columns_of) .none kV_columns_of dc_columns_of pm_columns_of an_columns_of cd_columns_of ct_columns_of), sl_columns_of⟩) (e_columns_of : PySem.W.codeIn K cd_columns_of "columns_of" = true) (k_columns_of : PySem.W.keepIn K (.ref a_columns_of) = true)
    (q_told_least : PySem.W.nsIn K mainGlobals "told_least" = some (some (.ref a_told_least))) (l_told_least : K.lookup a_told_least = some ⟨oc_told_least, od_told_least, .func (PySem.W.fnOf "told_least" "told_least" (defArgs s_told_least) (defBody s_told_least) (defScope s_told_least) .none kV_told_least dc_told_least pm_told_least an_told_least cd_told_least ct_told_least), sl_told_least⟩) (e_told_least : PySem.W.codeIn K cd_told_least "told_least" = true) (k_told_least : PySem.W.keepIn K (.ref a_told_least) = true)
    (q_least_rib : PySem.W.nsIn K mainGlobals "least_rib" = some (some (.ref a_least_rib))) (l_least_rib : K.lookup a_least_rib = some ⟨oc_least_rib, od_least_rib, .func (PySem.W.fnOf "least_rib" "least_rib" (defArgs s_least_rib) (defBody s_least_rib) (defScope s_least_rib) .none kV_least_rib dc_least_rib pm_least_rib an_least_rib cd_least_rib ct_least_rib), sl_least_rib⟩) (e_least_rib : PySem.W.codeIn K cd_least_rib "least_rib" = true) (k_least_rib : PySem.W.keepIn K (.ref a_least_rib) = true)
    (q_back_of : PySem.W.nsIn K mainGlobals "back_of" = some (some (.ref a_back_of))) (l_back_of : K.lookup a_back_of = some ⟨oc_back_of, od_back_of, .func (PySem.W.fnOf "back_of" "back_of" (defArgs s_back_of) (defBody s_back_of) (defScope s_back_of) .none kV_back_of dc_back_of pm_back_of an_back_of cd_back_of ct_back_of), sl_back_of⟩) (e_back_of : PySem.W.codeIn K cd_back_of "back_of" = true) (k_back_of : PySem.W.keepIn K (.ref a_back_of) = true)
    (q_told_moves : PySem.W.nsIn K mainGlobals "told_moves" = some (some (.ref a_told_moves))) (l_told_moves : K.lookup a_told_moves = some ⟨oc_told_moves, od_told_moves, .func (PySem.W.fnOf "told_moves" "told_moves" (defArgs s_told_moves) (defBody s_told_moves) (defScope s_told_moves) .none kV_told_moves dc_told_moves pm_told_moves an_told_moves cd_told_moves ct_told_moves), sl_told_moves⟩) (e_told_moves : PySem.W.codeIn K cd_told_moves "told_moves" = true) (k_told_moves : PySem.W.keepIn K (.ref a_told_moves) = true)
    (q_is_two_faced : PySem.W.nsIn K mainGlobals "is_two_faced" = some (some (.ref a_is_two_faced))) (l_is_two_faced : K.lookup a_is_two_faced = some ⟨oc_is_two_faced, od_is_two_faced, .func (PySem.W.fnOf "is_two_faced" "is_two_faced" (defArgs s_is_two_faced) (defBody s_is_two_faced) (defScope s_is_two_faced) .none kV_is_two_faced dc_is_two_faced pm_is_two_faced an_is_two_faced cd_is_two_faced ct_is_two_faced), sl_is_two_faced⟩) (e_is_two_faced : PySem.W.codeIn K cd_is_two_faced "is_two_faced" = true) (k_is_two_faced : PySem.W.keepIn K (.ref a_is_two_faced) = true)
    (q__law_is_bool : PySem.W.nsIn K mainGlobals "_law_is_bool" = some (some (.ref a__law_is_bool))) (l__law_is_bool : K.lookup a__law_is_bool = some ⟨oc__law_is_bool, od__law_is_bool, .func (PySem.W.fnOf "_law_is_bool" "_law_is_bool" (defArgs s__law_is_bool) (defBody s__law_is_bool) (defScope s__law_is_bool) .none kV__law_is_bool dc__law_is_bool pm__law_is_bool an__law_is_bool cd__law_is_bool ct__law_is_bool), sl__law_is_bool⟩) (e__law_is_bool : PySem.W.codeIn K cd__law_is_bool "_law_is_bool" = true) (k__law_is_bool : PySem.W.keepIn K (.ref a__law_is_bool) = true)
    (q_look_at_ribs : PySem.W.nsIn K mainGlobals "look_at_ribs" = some (some (.ref a_look_at_ribs))) (l_look_at_ribs : K.lookup a_look_at_ribs = some ⟨oc_look_at_ribs, od_look_at_ribs, .func (PySem.W.fnOf "look_at_ribs" "look_at_ribs" (defArgs s_look_at_ribs) (defBody s_look_at_ribs) (defScope s_look_at_ribs) .none kV_look_at_ribs dc_look_at_ribs pm_look_at_ribs an_look_at_ribs cd_look_at_ribs ct_look_at_ribs), sl_look_at_ribs⟩) (e_look_at_ribs : PySem.W.codeIn K cd_look_at_ribs "look_at_ribs" = true) (k_look_at_ribs : PySem.W.keepIn K (.ref a_look_at_ribs) = true)
    (q_told_unlike : PySem.W.nsIn K mainGlobals "told_unlike" = some (some (.ref a_told_unlike))) (l_told_unlike : K.lookup a_told_unlike = some ⟨oc_told_unlike, od_told_unlike, .func (PySem.W.fnOf "told_unlike" "told_unlike" (defArgs s_told_unlike) (defBody s_told_unlike) (defScope s_told_unlike) .none kV_told_unlike dc_told_unlike pm_told_unlike an_told_unlike cd_told_unlike ct_told_unlike), sl_told_unlike⟩) (e_told_unlike : PySem.W.codeIn K cd_told_unlike "told_unlike" = true) (k_told_unlike : PySem.W.keepIn K (.ref a_told_unlike) = true)
    (q_told_best : PySem.W.nsIn K mainGlobals "told_best" = some (some (.ref a_told_best))) (l_told_best : K.lookup a_told_best = some ⟨oc_told_best, od_told_best, .func (PySem.W.fnOf "told_best" "told_best" (defArgs s_told_best) (defBody s_told_best) (defScope s_told_best) .none kV_told_best dc_told_best pm_told_best an_told_best cd_told_best ct_told_best), sl_told_best⟩) (e_told_best : PySem.W.codeIn K cd_told_best "told_best" = true) (k_told_best : PySem.W.keepIn K (.ref a_told_best) = true)
    (q_flows_on : PySem.W.nsIn K mainGlobals "flows_on" = some (some (.ref a_flows_on))) (l_flows_on : K.lookup a_flows_on = some ⟨oc_flows_on, od_flows_on, .func (PySem.W.fnOf "flows_on" "flows_on" (defArgs s_flows_on) (defBody s_flows_on) (defScope s_flows_on) .none kV_flows_on dc_flows_on pm_flows_on an_flows_on cd_flows_on ct_flows_on), sl_flows_on⟩) (e_flows_on : PySem.W.codeIn K cd_flows_on "flows_on" = true) (k_flows_on : PySem.W.keepIn K (.ref a_flows_on) = true)
    (q_first_unlike : PySem.W.nsIn K mainGlobals "first_unlike" = some (some (.ref a_first_unlike))) (l_first_unlike : K.lookup a_first_unlike = some ⟨oc_first_unlike, od_first_unlike, .func (PySem.W.fnOf "first_unlike" "first_unlike" (defArgs s_first_unlike) (defBody s_first_unlike) (defScope s_first_unlike) .none kV_first_unlike dc_first_unlike pm_first_unlike an_first_unlike cd_first_unlike ct_first_unlike), sl_first_unlike⟩) (e_first_unlike : PySem.W.codeIn K cd_first_unlike "first_unlike" = true) (k_first_unlike : PySem.W.keepIn K (.ref a_first_unlike) = true)
    (q_unlike_stitches : PySem.W.nsIn K mainGlobals "unlike_stitches" = some (some (.ref a_unlike_stitches))) (l_unlike_stitches : K.lookup a_unlike_stitches = some ⟨oc_unlike_stitches, od_unlike_stitches, .func (PySem.W.fnOf "unlike_stitches" "unlike_stitches" (defArgs s_unlike_stitches) (defBody s_unlike_stitches) (defScope s_unlike_stitches) .none kV_unlike_stitches dc_unlike_stitches pm_unlike_stitches an_unlike_stitches cd_unlike_stitches ct_unlike_stitches), sl_unlike_stitches⟩) (e_unlike_stitches : PySem.W.codeIn K cd_unlike_stitches "unlike_stitches" = true) (k_unlike_stitches : PySem.W.keepIn K (.ref a_unlike_stitches) = true)
    (q__law_take : PySem.W.nsIn K mainGlobals "_law_take" = some (some (.ref a__law_take))) (l__law_take : K.lookup a__law_take = some ⟨oc__law_take, od__law_take, .func (PySem.W.fnOf "_law_take" "_law_take" (defArgs s__law_take) (defBody s__law_take) (defScope s__law_take) .none kV__law_take dc__law_take pm__law_take an__law_take cd__law_take ct__law_take), sl__law_take⟩) (e__law_take : PySem.W.codeIn K cd__law_take "_law_take" = true) (k__law_take : PySem.W.keepIn K (.ref a__law_take) = true)
    (q_is_told : PySem.W.nsIn K mainGlobals "is_told" = some (some (.ref a_is_told))) (l_is_told : K.lookup a_is_told = some ⟨oc_is_told, od_is_told, .func (PySem.W.fnOf "is_told" "is_told" (defArgs s_is_told) (defBody s_is_told) (defScope s_is_told) .none kV_is_told dc_is_told pm_is_told an_is_told cd_is_told ct_is_told), sl_is_told⟩) (e_is_told : PySem.W.codeIn K cd_is_told "is_told" = true) (k_is_told : PySem.W.keepIn K (.ref a_is_told) = true)
    (q_shows_flows_on : PySem.W.nsIn K mainGlobals "shows_flows_on" = some (some (.ref a_shows_flows_on))) (l_shows_flows_on : K.lookup a_shows_flows_on = some ⟨oc_shows_flows_on, od_shows_flows_on, .func (PySem.W.fnOf "shows_flows_on" "shows_flows_on" (defArgs s_shows_flows_on) (defBody s_shows_flows_on) (defScope s_shows_flows_on) .none kV_shows_flows_on dc_shows_flows_on pm_shows_flows_on an_shows_flows_on cd_shows_flows_on ct_shows_flows_on), sl_shows_flows_on⟩) (e_shows_flows_on : PySem.W.codeIn K cd_shows_flows_on "shows_flows_on" = true) (k_shows_flows_on : PySem.W.keepIn K (.ref a_shows_flows_on) = true)
    (q__law_are_flows_right : PySem.W.nsIn K mainGlobals "_law_are_flows_right" = some (some (.ref a__law_are_flows_right))) (l__law_are_flows_right : K.lookup a__law_are_flows_right = some ⟨oc__law_are_flows_right, od__law_are_flows_right, .func (PySem.W.fnOf "_law_are_flows_right" "_law_are_flows_right" (defArgs s__law_are_flows_right) (defBody s__law_are_flows_right) (defScope s__law_are_flows_right) .none kV__law_are_flows_right dc__law_are_flows_right pm__law_are_flows_right an__law_are_flows_right cd__law_are_flows_right ct__law_are_flows_right), sl__law_are_flows_right⟩) (e__law_are_flows_right : PySem.W.codeIn K cd__law_are_flows_right "_law_are_flows_right" = true) (k__law_are_flows_right : PySem.W.keepIn K (.ref a__law_are_flows_right) = true)
    (q_nearest_round : PySem.W.nsIn K mainGlobals "nearest_round" = some (some (.ref a_nearest_round))) (l_nearest_round : K.lookup a_nearest_round = some ⟨oc_nearest_round, od_nearest_round, .func (PySem.W.fnOf "nearest_round" "nearest_round" (defArgs s_nearest_round) (defBody s_nearest_round) (defScope s_nearest_round) .none kV_nearest_round dc_nearest_round pm_nearest_round an_nearest_round cd_nearest_round ct_nearest_round), sl_nearest_round⟩) (e_nearest_round : PySem.W.codeIn K cd_nearest_round "nearest_round" = true) (k_nearest_round : PySem.W.keepIn K (.ref a_nearest_round) = true)
    (q_are_same_ribs : PySem.W.nsIn K mainGlobals "are_same_ribs" = some (some (.ref a_are_same_ribs))) (l_are_same_ribs : K.lookup a_are_same_ribs = some ⟨oc_are_same_ribs, od_are_same_ribs, .func (PySem.W.fnOf "are_same_ribs" "are_same_ribs" (defArgs s_are_same_ribs) (defBody s_are_same_ribs) (defScope s_are_same_ribs) .none kV_are_same_ribs dc_are_same_ribs pm_are_same_ribs an_are_same_ribs cd_are_same_ribs ct_are_same_ribs), sl_are_same_ribs⟩) (e_are_same_ribs : PySem.W.codeIn K cd_are_same_ribs "are_same_ribs" = true) (k_are_same_ribs : PySem.W.keepIn K (.ref a_are_same_ribs) = true)
    (q_plain_rib : PySem.W.nsIn K mainGlobals "plain_rib" = some (some (.ref a_plain_rib))) (l_plain_rib : K.lookup a_plain_rib = some ⟨oc_plain_rib, od_plain_rib, .func (PySem.W.fnOf "plain_rib" "plain_rib" (defArgs s_plain_rib) (defBody s_plain_rib) (defScope s_plain_rib) .none kV_plain_rib dc_plain_rib pm_plain_rib an_plain_rib cd_plain_rib ct_plain_rib), sl_plain_rib⟩) (e_plain_rib : PySem.W.codeIn K cd_plain_rib "plain_rib" = true) (k_plain_rib : PySem.W.keepIn K (.ref a_plain_rib) = true)
    (q_fits_round : PySem.W.nsIn K mainGlobals "fits_round" = some (some (.ref a_fits_round))) (l_fits_round : K.lookup a_fits_round = some ⟨oc_fits_round, od_fits_round, .func (PySem.W.fnOf "fits_round" "fits_round" (defArgs s_fits_round) (defBody s_fits_round) (defScope s_fits_round) .none kV_fits_round dc_fits_round pm_fits_round an_fits_round cd_fits_round ct_fits_round), sl_fits_round⟩) (e_fits_round : PySem.W.codeIn K cd_fits_round "fits_round" = true) (k_fits_round : PySem.W.keepIn K (.ref a_fits_round) = true)
    (q__law_of : PySem.W.nsIn K mainGlobals "_law_of" = some (some (.ref a__law_of))) (l__law_of : K.lookup a__law_of = some ⟨oc__law_of, od__law_of, .func (PySem.W.fnOf "_law_of" "_law_of" (defArgs s__law_of) (defBody s__law_of) (defScope s__law_of) .none kV__law_of dc__law_of pm__law_of an__law_of cd__law_of ct__law_of), sl__law_of⟩) (e__law_of : PySem.W.codeIn K cd__law_of "_law_of" = true) (k__law_of : PySem.W.keepIn K (.ref a__law_of) = true)
    (q__law_right : PySem.W.nsIn K mainGlobals "_law_right" = some (some (.ref a__law_right))) (l__law_right : K.lookup a__law_right = some ⟨oc__law_right, od__law_right, .func (PySem.W.fnOf "_law_right" "_law_right" (defArgs s__law_right) (defBody s__law_right) (defScope s__law_right) .none kV__law_right dc__law_right pm__law_right an__law_right cd__law_right ct__law_right), sl__law_right⟩) (e__law_right : PySem.W.codeIn K cd__law_right "_law_right" = true) (k__law_right : PySem.W.keepIn K (.ref a__law_right) = true)
    (q__law_pot : PySem.W.nsIn K mainGlobals "_law_pot" = some (some (.ref a__law_pot))) (l__law_pot : K.lookup a__law_pot = some ⟨oc__law_pot, od__law_pot, .func (PySem.W.fnOf "_law_pot" "_law_pot" (defArgs s__law_pot) (defBody s__law_pot) (defScope s__law_pot) .none kV__law_pot dc__law_pot pm__law_pot an__law_pot cd__law_pot ct__law_pot), sl__law_pot⟩) (e__law_pot : PySem.W.codeIn K cd__law_pot "_law_pot" = true) (k__law_pot : PySem.W.keepIn K (.ref a__law_pot) = true)
    (q__law_cells : PySem.W.nsIn K mainGlobals "_law_cells" = some (some (.ref a__law_cells))) (l__law_cells : K.lookup a__law_cells = some ⟨oc__law_cells, od__law_cells, .func (PySem.W.fnOf "_law_cells" "_law_cells" (defArgs s__law_cells) (defBody s__law_cells) (defScope s__law_cells) .none kV__law_cells dc__law_cells pm__law_cells an__law_cells cd__law_cells ct__law_cells), sl__law_cells⟩) (e__law_cells : PySem.W.codeIn K cd__law_cells "_law_cells" = true) (k__law_cells : PySem.W.keepIn K (.ref a__law_cells) = true)
    (q_law : PySem.W.nsIn K mainGlobals "law" = some (some (.ref a_law))) (l_law : K.lookup a_law = some ⟨oc_law, od_law, .func (PySem.W.fnOf "law" "law" (defArgs s_law) (defBody s_law) (defScope s_law) .none kV_law dc_law pm_law an_law cd_law ct_law), sl_law⟩) (e_law : PySem.W.codeIn K cd_law "law" = true) (k_law : PySem.W.keepIn K (.ref a_law) = true)
    (c_MOST_RIB : PySem.W.nsIn K mainGlobals "MOST_RIB" = some (some (.int 24 t_MOST_RIB)))
    (c_MOST_STITCHES : PySem.W.nsIn K mainGlobals "MOST_STITCHES" = some (some (.int 600 t_MOST_STITCHES)))
    (c_SHIFT : PySem.W.nsIn K mainGlobals "SHIFT" = some (some (.str "shift" t_SHIFT)))
    (z_abs : PySem.W.nsIn K mainGlobals "abs" = some none)
    (z_all : PySem.W.nsIn K mainGlobals "all" = some none)
    (z_bool : PySem.W.nsIn K mainGlobals "bool" = some none)
    (z_int : PySem.W.nsIn K mainGlobals "int" = some none)
    (z_isinstance : PySem.W.nsIn K mainGlobals "isinstance" = some none)
    (z_len : PySem.W.nsIn K mainGlobals "len" = some none)
    (z_list : PySem.W.nsIn K mainGlobals "list" = some none)
    (z_max : PySem.W.nsIn K mainGlobals "max" = some none)
    (z_min : PySem.W.nsIn K mainGlobals "min" = some none)
    (z_range : PySem.W.nsIn K mainGlobals "range" = some none)
    (z_str : PySem.W.nsIn K mainGlobals "str" = some none)
    (z_sum : PySem.W.nsIn K mainGlobals "sum" = some none)
    (z_tuple : PySem.W.nsIn K mainGlobals "tuple" = some none)
    : ∃ fd : FuncData, (∀ (s : Shared) (v : Value), BindsTo s fd ⟨[v], []⟩ [("script", v)]) ∧ ∀ base : Heap, K.In base → base.Ns mainGlobals mg → FnOk l.prog w K mg base CX0 9 fa fd ["script"] (spD K 1 g_law) := by
  have e := hfa.symm.trans (PySem.W.mg_of X G q_law)
  cases e
  have F__law_moved := fun_mk (st := s__law_moved) l__law_moved e__law_moved k__law_moved
  have b__law_moved := F__law_moved.binds (ps := ["rib", "shift"]) fun _ _ _ _ _ _ us hl => match us, hl with | [_, _], _ => rfl
  have F_is_int := fun_mk (st := s_is_int) l_is_int e_is_int k_is_int
  have b_is_int := F_is_int.binds (ps := ["value", "low", "high"]) fun _ _ _ _ _ _ us hl => match us, hl with | [_, _, _], _ => rfl
  have F_are_ints := fun_mk (st := s_are_ints) l_are_ints e_are_ints k_are_ints
  have b_are_ints := F_are_ints.binds (ps := ["value", "low", "high"]) fun _ _ _ _ _ _ us hl => match us, hl with | [_, _, _], _ => rfl
  have F_is_rib := fun_mk (st := s_is_rib) l_is_rib e_is_rib k_is_rib
  have b_is_rib := F_is_rib.binds (ps := ["value"]) fun _ _ _ _ _ _ us hl => match us, hl with | [_], _ => rfl
  have F_look_at_rib := fun_mk (st := s_look_at_rib) l_look_at_rib e_look_at_rib k_look_at_rib
  have b_look_at_rib := F_look_at_rib.binds (ps := ["rib"]) fun _ _ _ _ _ _ us hl => match us, hl with | [_], _ => rfl
  have F_columns_of := fun_mk (st := s_columns_of) l_columns_of e_columns_of k_columns_of
  have b_columns_of := F_columns_of.binds (ps := ["rib", "wide"]) fun _ _ _ _ _ _ us hl => match us, hl with | [_, _], _ => rfl
  have F_told_least := fun_mk (st := s_told_least) l_told_least e_told_least k_told_least
  have b_told_least := F_told_least.binds (ps := ["rib"]) fun _ _ _ _ _ _ us hl => match us, hl with | [_], _ => rfl
  have F_least_rib := fun_mk (st := s_least_rib) l_least_rib e_least_rib k_least_rib
  have b_least_rib := F_least_rib.binds (ps := ["rib"]) fun _ _ _ _ _ _ us hl => match us, hl with | [_], _ => rfl
  have F_back_of := fun_mk (st := s_back_of) l_back_of e_back_of k_back_of
  have b_back_of := F_back_of.binds (ps := ["rib"]) fun _ _ _ _ _ _ us hl => match us, hl with | [_], _ => rfl
  have F_told_moves := fun_mk (st := s_told_moves) l_told_moves e_told_moves k_told_moves
  have b_told_moves := F_told_moves.binds (ps := ["rib"]) fun _ _ _ _ _ _ us hl => match us, hl with | [_], _ => rfl
  have F_is_two_faced := fun_mk (st := s_is_two_faced) l_is_two_faced e_is_two_faced k_is_two_faced
  have b_is_two_faced := F_is_two_faced.binds (ps := ["rib"]) fun _ _ _ _ _ _ us hl => match us, hl with | [_], _ => rfl
  have F__law_is_bool := fun_mk (st := s__law_is_bool) l__law_is_bool e__law_is_bool k__law_is_bool
  have b__law_is_bool := F__law_is_bool.binds (ps := ["told", "due"]) fun _ _ _ _ _ _ us hl => match us, hl with | [_, _], _ => rfl
  have F_look_at_ribs := fun_mk (st := s_look_at_ribs) l_look_at_ribs e_look_at_ribs k_look_at_ribs
  have b_look_at_ribs := F_look_at_ribs.binds (ps := ["one", "other", "wide"]) fun _ _ _ _ _ _ us hl => match us, hl with | [_, _, _], _ => rfl
  have F_told_unlike := fun_mk (st := s_told_unlike) l_told_unlike e_told_unlike k_told_unlike
  have b_told_unlike := F_told_unlike.binds (ps := ["one", "other", "wide", "shift"]) fun _ _ _ _ _ _ us hl => match us, hl with | [_, _, _, _], _ => rfl
  have F_told_best := fun_mk (st := s_told_best) l_told_best e_told_best k_told_best
  have b_told_best := F_told_best.binds (ps := ["one", "other", "wide"]) fun _ _ _ _ _ _ us hl => match us, hl with | [_, _, _], _ => rfl
  have F_flows_on := fun_mk (st := s_flows_on) l_flows_on e_flows_on k_flows_on
  have b_flows_on := F_flows_on.binds (ps := ["one", "other", "wide"]) fun _ _ _ _ _ _ us hl => match us, hl with | [_, _, _], _ => rfl
  have F_first_unlike := fun_mk (st := s_first_unlike) l_first_unlike e_first_unlike k_first_unlike
  have b_first_unlike := F_first_unlike.binds (ps := ["one", "other"]) fun _ _ _ _ _ _ us hl => match us, hl with | [_, _], _ => rfl
  have F_unlike_stitches := fun_mk (st := s_unlike_stitches) l_unlike_stitches e_unlike_stitches k_unlike_stitches
  have b_unlike_stitches := F_unlike_stitches.binds (ps := ["one", "other", "wide", "shift"]) fun _ _ _ _ _ _ us hl => match us, hl with | [_, _, _, _], _ => rfl
  have F__law_take := fun_mk (st := s__law_take) l__law_take e__law_take k__law_take
  have b__law_take := F__law_take.binds (ps := ["pot", "upto"]) fun _ _ _ _ _ _ us hl => match us, hl with | [_, _], _ => rfl
  have F_is_told := fun_mk (st := s_is_told) l_is_told e_is_told k_is_told
  have b_is_told := F_is_told.binds (ps := ["value", "sizes"]) fun _ _ _ _ _ _ us hl => match us, hl with | [_, _], _ => rfl
  have F_shows_flows_on := fun_mk (st := s_shows_flows_on) l_shows_flows_on e_shows_flows_on k_shows_flows_on
  have b_shows_flows_on := F_shows_flows_on.binds (ps := ["one", "other", "wide", "value"]) fun _ _ _ _ _ _ us hl => match us, hl with | [_, _, _, _], _ => rfl
  have F__law_are_flows_right := fun_mk (st := s__law_are_flows_right) l__law_are_flows_right e__law_are_flows_right k__law_are_flows_right
  have b__law_are_flows_right := F__law_are_flows_right.binds (ps := ["pot", "rib", "moved", "shift"]) fun _ _ _ _ _ _ us hl => match us, hl with | [_, _, _, _], _ => rfl
  have F_nearest_round := fun_mk (st := s_nearest_round) l_nearest_round e_nearest_round k_nearest_round
  have b_nearest_round := F_nearest_round.binds (ps := ["rib", "wide"]) fun _ _ _ _ _ _ us hl => match us, hl with | [_, _], _ => rfl
  have F_are_same_ribs := fun_mk (st := s_are_same_ribs) l_are_same_ribs e_are_same_ribs k_are_same_ribs
  have b_are_same_ribs := F_are_same_ribs.binds (ps := ["one", "other"]) fun _ _ _ _ _ _ us hl => match us, hl with | [_, _], _ => rfl
  have F_plain_rib := fun_mk (st := s_plain_rib) l_plain_rib e_plain_rib k_plain_rib
  have b_plain_rib := F_plain_rib.binds (ps := ["knit", "purl"]) fun _ _ _ _ _ _ us hl => match us, hl with | [_, _], _ => rfl
  have F_fits_round := fun_mk (st := s_fits_round) l_fits_round e_fits_round k_fits_round
  have b_fits_round := F_fits_round.binds (ps := ["rib", "wide"]) fun _ _ _ _ _ _ us hl => match us, hl with | [_, _], _ => rfl
  have F__law_of := fun_mk (st := s__law_of) l__law_of e__law_of k__law_of
  have b__law_of := F__law_of.binds (ps := ["pot", "some"]) fun _ _ _ _ _ _ us hl => match us, hl with | [_, _], _ => rfl
  have F__law_right := fun_mk (st := s__law_right) l__law_right e__law_right k__law_right
  have b__law_right := F__law_right.binds (ps := ["pot"]) fun _ _ _ _ _ _ us hl => match us, hl with | [_], _ => rfl
  have F__law_pot := fun_mk (st := s__law_pot) l__law_pot e__law_pot k__law_pot
  have b__law_pot := F__law_pot.binds (ps := ["script", "place"]) fun _ _ _ _ _ _ us hl => match us, hl with | [_, _], _ => rfl
  have F__law_cells := fun_mk (st := s__law_cells) l__law_cells e__law_cells k__law_cells
  have b__law_cells := F__law_cells.binds (ps := ["script", "most"]) fun _ _ _ _ _ _ us hl => match us, hl with | [_, _], _ => rfl
  have F_law := fun_mk (st := s_law) l_law e_law k_law
  have b_law := F_law.binds (ps := ["script"]) fun _ _ _ _ _ _ us hl => match us, hl with | [_], _ => rfl
  exact ⟨PySem.W.fnOf "law" "law" (defArgs s_law) (defBody s_law) (defScope s_law) .none kV_law dc_law pm_law an_law cd_law ct_law, fun s v => .of_eq rfl, fun base _ _ => ok_law ⟨F__law_moved, PySem.W.mg_of X G q__law_moved, b__law_moved, F_is_int, PySem.W.mg_of X G q_is_int, b_is_int, F_are_ints, PySem.W.mg_of X G q_are_ints, b_are_ints, F_is_rib, PySem.W.mg_of X G q_is_rib, b_is_rib, F_look_at_rib, PySem.W.mg_of X G q_look_at_rib, b_look_at_rib, F_columns_of, PySem.W.mg_of X G q_columns_of, b_columns_of, F_told_least, PySem.W.mg_of X G q_told_least, b_told_least, F_least_rib, PySem.W.mg_of X G q_least_rib, b_least_rib, F_back_of, PySem.W.mg_of X G q_back_of, b_back_of, F_told_moves, PySem.W.mg_of X G q_told_moves, b_told_moves, F_is_two_faced, PySem.W.mg_of X G q_is_two_faced, b_is_two_faced, F__law_is_bool, PySem.W.mg_of X G q__law_is_bool, b__law_is_bool, F_look_at_ribs, PySem.W.mg_of X G q_look_at_ribs, b_look_at_ribs, F_told_unlike, PySem.W.mg_of X G q_told_unlike, b_told_unlike, F_told_best, PySem.W.mg_of X G q_told_best, b_told_best, F_flows_on, PySem.W.mg_of X G q_flows_on, b_flows_on, F_first_unlike, PySem.W.mg_of X G q_first_unlike, b_first_unlike, F_unlike_stitches, PySem.W.mg_of X G q_unlike_stitches, b_unlike_stitches, F__law_take, PySem.W.mg_of X G q__law_take, b__law_take, F_is_told, PySem.W.mg_of X G q_is_told, b_is_told, F_shows_flows_on, PySem.W.mg_of X G q_shows_flows_on, b_shows_flows_on, F__law_are_flows_right, PySem.W.mg_of X G q__law_are_flows_right, b__law_are_flows_right, F_nearest_round, PySem.W.mg_of X G q_nearest_round, b_nearest_round, F_are_same_ribs, PySem.W.mg_of X G q_are_same_ribs, b_are_same_ribs, F_plain_rib, PySem.W.mg_of X G q_plain_rib, b_plain_rib, F_fits_round, PySem.W.mg_of X G q_fits_round, b_fits_round, F__law_of, PySem.W.mg_of X G q__law_of, b__law_of, F__law_right, PySem.W.mg_of X G q__law_right, b__law_right, F__law_pot, PySem.W.mg_of X G q__law_pot, b__law_pot, F__law_cells, PySem.W.mg_of X G q__law_cells, b__law_cells, F_law, PySem.W.mg_of X G q_law, b_law, PySem.W.mg_of X G c_MOST_RIB, PySem.W.mg_of X G c_MOST_STITCHES, PySem.W.mg_of X G c_SHIFT, PySem.W.mg_none_of X G z_abs, PySem.W.mg_none_of X G z_all, PySem.W.mg_none_of X G z_bool, PySem.W.mg_none_of X G z_int, PySem.W.mg_none_of X G z_isinstance, PySem.W.mg_none_of X G z_len, PySem.W.mg_none_of X G z_list, PySem.W.mg_none_of X G z_max, PySem.W.mg_none_of X G z_min, PySem.W.mg_none_of X G z_range, PySem.W.mg_none_of X G z_str, PySem.W.mg_none_of X G z_sum, PySem.W.mg_none_of X G z_tuple⟩⟩
end Lw

namespace Lw
open PySem Pu
/-! words by functions -/
theorem row_cyc (xs : List Int) : rowF xs.length (cyc xs) = xs := by
  refine List.ext_getElem? fun i => ?_
  by_cases hi : i < xs.length
  · rw [rowF_get hi, cyc_small hi, List.getD_eq_getElem?_getD, List.getElem?_eq_getElem hi]
    rfl
  · rw [List.getElem?_eq_none (by rw [rowF_len]; omega), List.getElem?_eq_none (by omega)]
theorem row_getD {n : Nat} {f : Int → Int} {i : Nat} (hi : i < n) : (rowF n f).getD i 0 = f i := by
  rw [List.getD_eq_getElem?_getD, rowF_get hi]
  rfl
theorem cyc_row {f : Int → Int} {n : Nat} (hn : 0 < n) (hp : Per f n) : ∀ i, cyc (rowF n f) i = f i := fun i => by
  have l : (rowF n f).length = n := rowF_len n f
  exact (cyc_ext (xs := rowF n f) (by rw [l]; exact hn) (by rw [l]; exact hp) (fun j hj => by rw [l] at hj; exact (row_getD hj).symm) i).symm
theorem row_inj {f g : Int → Int} {n : Nat} (hn : 0 < n) (hf : Per f n) (hg : Per g n) (e : rowF n f = rowF n g) : ∀ i, f i = g i := fun i => by rw [← cyc_row hn hf i, e, cyc_row hn hg i]
theorem pwr_row {f : Int → Int} {n : Nat} (hn : 0 < n) (hp : Per f n) (k : Nat) : pwr k (rowF n f) = rowF (k * n) f := by
  refine List.ext_getElem? fun i => ?_
  have l : (pwr k (rowF n f)).length = k * n := by rw [pwr_len, rowF_len]
  by_cases hi : i < k * n
  · have g := pwr_get (rowF n f) k i (by rw [rowF_len]; exact hi)
    rw [rowF_len, row_getD (Nat.mod_lt _ hn), Int.natCast_emod, hp.at_mod] at g
    rw [rowF_get hi, List.getElem?_eq_getElem (by omega)]
    rw [List.getD_eq_getElem?_getD, List.getElem?_eq_getElem (by omega)] at g
    exact congrArg some g
  · rw [List.getElem?_eq_none (by omega), List.getElem?_eq_none (by rw [rowF_len]; omega)]
theorem row_take {f : Int → Int} {n k : Nat} (h : k ≤ n) : (rowF n f).take k = rowF k f := by
  refine List.ext_getElem? fun i => ?_
  by_cases hi : i < k
  · rw [List.getElem?_take_of_lt hi, rowF_get hi, rowF_get (by omega)]
  · rw [List.getElem?_eq_none (by rw [List.length_take, rowF_len]; omega), List.getElem?_eq_none (by rw [rowF_len]; omega)]
theorem row_drop {f : Int → Int} {n k : Nat} (h : k ≤ n) : (rowF n f).drop k = rowF (n - k) fun i => f (i + k) := by
  refine List.ext_getElem? fun i => ?_
  by_cases hi : i < n - k
  · rw [List.getElem?_drop, rowF_get hi, rowF_get (by omega)]
    congr 2
    omega
  · rw [List.getElem?_eq_none (by rw [List.length_drop, rowF_len]; omega), List.getElem?_eq_none (by rw [rowF_len]; omega)]
theorem row_app {f g : Int → Int} {n m : Nat} (h : ∀ i : Nat, i < m → g i = f ((n : Int) + i)) : rowF n f ++ rowF m g = rowF (n + m) f := by
  refine List.ext_getElem? fun i => ?_
  by_cases h1 : i < n
  · rw [List.getElem?_append_left (by rw [rowF_len]; exact h1), rowF_get h1, rowF_get (by omega)]
  · by_cases h2 : i < n + m
    · rw [List.getElem?_append_right (by rw [rowF_len]; omega), rowF_len, rowF_get (by omega), rowF_get h2, h (i - n) (by omega)]
      congr 2
      omega
    · rw [List.getElem?_eq_none (by rw [List.length_append, rowF_len, rowF_len]; omega), List.getElem?_eq_none (by rw [rowF_len]; omega)]
theorem row_rot {f : Int → Int} {n k : Nat} (hp : Per f n) (h : k ≤ n) : (rowF n f).drop k ++ (rowF n f).take k = rowF n fun i => f (i + k) := by
  rw [row_drop h, row_take h, row_app (f := fun i => f (i + k)) (g := f) (n := n - k) (m := k)]
  · congr 1
    omega
  · intro i hi
    have := hp i
    rw [← this]
    congr 1
    omega
theorem row_rev {f : Int → Int} {n : Nat} : (rowF n f).reverse = rowF n fun i => f (n - 1 - i) := by
  refine List.ext_getElem? fun i => ?_
  by_cases hi : i < n
  · rw [List.getElem?_reverse (by rw [rowF_len]; exact hi), rowF_len, rowF_get (by omega), rowF_get hi]
    congr 2
    omega
  · rw [List.getElem?_eq_none (by rw [List.length_reverse, rowF_len]; omega), List.getElem?_eq_none (by rw [rowF_len]; omega)]
theorem row_map {f : Int → Int} {n : Nat} (h : Int → Int) : (rowF n f).map h = rowF n fun i => h (f i) := by
  unfold rowF
  rw [List.map_map]
  rfl
/-- the back -/
def bk (xs : List Int) : List Int := xs.reverse.map fun v => 1 - v
theorem bk_bk (xs : List Int) : bk (bk xs) = xs := by
  unfold bk
  rw [← List.map_reverse, List.reverse_reverse, List.map_map]
  have : ((fun v : Int => 1 - v) ∘ fun v : Int => 1 - v) = id := funext fun v => by
    show 1 - (1 - v) = v
    omega
  rw [this, List.map_id]
theorem bk_app (xs ys : List Int) : bk (xs ++ ys) = bk ys ++ bk xs := by
  unfold bk
  rw [List.reverse_append, List.map_append]
theorem bk_len (xs : List Int) : (bk xs).length = xs.length := by
  unfold bk
  rw [List.length_map, List.length_reverse]
def bf (f : Int → Int) (i : Int) : Int := 1 - f (-1 - i)
theorem bk_row {f : Int → Int} {n : Nat} (hp : Per f n) : bk (rowF n f) = rowF n (bf f) := by
  unfold bk
  rw [row_rev, row_map, rowF_ext]
  intro i hi
  unfold bf
  have := hp (-1 - (i : Int))
  rw [← this]
  congr 2
  omega
theorem bf_per {f : Int → Int} {p : Int} (hp : Per f p) : Per (bf f) p := fun i => by
  unfold bf
  have := hp (-1 - i - p)
  have e : -1 - i - p + p = -1 - i := by omega
  rw [e] at this
  rw [this]
  congr 2
  omega
theorem bf_bf (f : Int → Int) : bf (bf f) = f := funext fun i => by
  unfold bf
  have : -1 - (-1 - i) = i := by omega
  rw [this]
  omega
def sh (f : Int → Int) (a : Int) (i : Int) : Int := f (i + a)
theorem sh_per {f : Int → Int} {p a : Int} (hp : Per f p) : Per (sh f a) p := fun i => by
  unfold sh
  have : i + p + a = i + a + p := by omega
  rw [this, hp]
theorem sh_sh (f : Int → Int) (a b : Int) : sh (sh f a) b = sh f (a + b) := funext fun i => by
  unfold sh
  congr 1
  omega
theorem sh_zero (f : Int → Int) : sh f 0 = f := funext fun i => by
  unfold sh
  rw [Int.add_zero]
theorem bf_sh (f : Int → Int) (a : Int) : bf (sh f a) = sh (bf f) (-a) := funext fun i => by
  show 1 - f (-1 - i + a) = 1 - f (-1 - (i + -a))
  congr 2
  omega
theorem sh_mod {f : Int → Int} {p : Int} (hp : Per f p) (a : Int) : sh f (a % p) = sh f a := funext fun i => by
  unfold sh
  rw [← hp.at_mod (i + a % p), ← hp.at_mod (i + a), Int.add_emod_emod]
/-- a rib -/
structure Rb (f : Int → Int) (n L : Nat) : Prop where
  n1 : 1 ≤ n
  n2 : n ≤ 24
  val : ∀ i, 0 ≤ f i ∧ f i ≤ 1
  per : Per f n
  l0 : 0 < L
  lper : Per f L
  lmin : ∀ m : Nat, 0 < m → Per f m → L ≤ m
section
variable {f : Int → Int} {n L : Nat} (h : Rb f n L)
include h
theorem Rb.dvd {p : Int} (hp : Per f p) : (L : Int) ∣ p := least_dvd h.l0 h.lper h.lmin hp
theorem Rb.ndvd : L ∣ n := Int.natCast_dvd_natCast.mp (h.dvd h.per)
theorem Rb.le : L ≤ n := Nat.le_of_dvd h.n1 h.ndvd
theorem Rb.least : Rb f L L := ⟨h.l0, Nat.le_trans h.le h.n2, h.val, h.lper, h.l0, h.lper, h.lmin⟩
theorem Rb.times {k : Nat} (k1 : 1 ≤ k) (k2 : k * n ≤ 24) : Rb f (k * n) L := ⟨Nat.mul_pos k1 h.n1, k2, h.val, by rw [Int.natCast_mul]; exact h.per.mul _, h.l0, h.lper, h.lmin⟩
theorem Rb.sh (a : Int) : Rb (sh f a) n L := ⟨h.n1, h.n2, fun i => h.val _, sh_per h.per, h.l0, sh_per h.lper, fun m hm hp => h.lmin m hm (by
  have := sh_per (a := -a) hp
  rw [sh_sh, Int.add_right_neg, sh_zero] at this
  exact this)⟩
theorem Rb.bf : Rb (bf f) n L := ⟨h.n1, h.n2, fun i => by
  have := h.val (-1 - i)
  unfold Lw.bf
  omega, bf_per h.per, h.l0, bf_per h.lper, fun m hm hp => h.lmin m hm (by
  have := bf_per hp
  rw [bf_bf] at this
  exact this)⟩
theorem Rb.uniq {m M : Nat} (h' : Rb f m M) : L = M := Nat.le_antisymm (h.lmin M h'.l0 h'.lper) (h'.lmin L h.l0 h.lper)
theorem Rb.len : (rowF n f).length = n := rowF_len n f
theorem Rb.vals : ∀ v ∈ rowF n f, 0 ≤ v ∧ v ≤ 1 := fun v hv => by
  unfold rowF at hv
  obtain ⟨i, _, rfl⟩ := List.mem_map.mp hv
  exact h.val _
end
theorem rb_of {xs : List Int} (h1 : 1 ≤ xs.length) (h2 : xs.length ≤ 24) (hv : ∀ v ∈ xs, 0 ≤ v ∧ v ≤ 1) : ∃ L, Rb (cyc xs) xs.length L := by
  obtain ⟨L, a, b, c, d⟩ := least_per (f := cyc xs) xs.length h1 (cyc_per xs)
  refine ⟨L, h1, h2, fun i => ?_, cyc_per xs, a, c, d⟩
  unfold cyc
  have a1 := Int.emod_nonneg i (show (xs.length : Int) ≠ 0 by omega)
  have a2 := Int.emod_lt_of_pos i (show (0 : Int) < xs.length by omega)
  have hm : (i % (xs.length : Int)).toNat < xs.length := by omega
  rw [List.getD_eq_getElem?_getD, List.getElem?_eq_getElem hm]
  exact hv _ (List.getElem_mem hm)
/-- two words with short periods that go along for a while are one -/
theorem fine_wilf : ∀ (k p q : Nat) (f g : Int → Int), p + q ≤ k → 0 < p → 0 < q → Per f p → Per g q → (∀ i : Nat, i + 1 < p + q → f i = g i) → ∀ i, f i = g i
  | 0, p, q, f, g, hk, hp, hq, _, _, _ => by omega
  | k + 1, p, q, f, g, hk, hp, hq, pf, pg, hh => by
    -- the step, for p < q
    have step : ∀ (p q : Nat) (f g : Int → Int), p + q ≤ k + 1 → 0 < p → p < q → Per f p → Per g q → (∀ i : Nat, i + 1 < p + q → f i = g i) → ∀ i, f i = g i := by
      intro p q f g hk hp hlt pf pg hh
      have hd : 0 < q - p := by omega
      have hx : ∀ i : Nat, i + 1 < p → f i = f ((i : Int) + ((q - p : Nat) : Int)) := fun i hi => by
        have e1 := hh i (by omega)
        have e2 := pg i
        have e3 := hh (i + q) (by omega)
        have e4 := pf ((i : Int) + ((q - p : Nat) : Int))
        have z : (i : Int) + ((q - p : Nat) : Int) + p = ((i + q : Nat) : Int) := by omega
        rw [z] at e4
        have z2 : (i : Int) + (q : Int) = ((i + q : Nat) : Int) := by omega
        rw [z2] at e2
        rw [e1, ← e2, ← e3, e4]
      have hc : ∀ i : Nat, i + 1 < q → f i = cyc (rowF (q - p) f) i := by
        intro i
        induction i using Nat.strongRecOn with
        | _ i ih =>
          intro hi
          by_cases h1 : i < q - p
          · have := cyc_small (xs := rowF (q - p) f) (i := i) (by rw [rowF_len]; exact h1)
            rw [this, row_getD h1]
          · have h2 := ih (i - (q - p)) (by omega) (by omega)
            have h3 := hx (i - (q - p)) (by omega)
            have h4 := cyc_per (rowF (q - p) f) ((i - (q - p) : Nat) : Int)
            rw [rowF_len] at h4
            have z : ((i - (q - p) : Nat) : Int) + ((q - p : Nat) : Int) = (i : Int) := by omega
            rw [z] at h3 h4
            rw [← h3, h2, h4]
      have hpc : Per (cyc (rowF (q - p) f)) ((q - p : Nat) : Int) := by
        have := cyc_per (rowF (q - p) f)
        rw [rowF_len] at this
        exact this
      have e := fine_wilf k p (q - p) f (cyc (rowF (q - p) f)) (by omega) hp hd pf hpc fun i hi => hc i (by omega)
      have pf2 : Per f ((q - p : Nat) : Int) := fun i => by rw [e, e, hpc]
      have pf3 : Per f (q : Int) := by
        have := pf.add pf2
        have z : (p : Int) + ((q - p : Nat) : Int) = q := by omega
        rw [z] at this
        exact this
      intro i
      have a1 := Int.emod_nonneg i (show (q : Int) ≠ 0 by omega)
      have a2 := Int.emod_lt_of_pos i (show (0 : Int) < q by omega)
      obtain ⟨m, em⟩ := Int.eq_ofNat_of_zero_le a1
      rw [← pf3.at_mod i, ← pg.at_mod i, em]
      exact hh m (by omega)
    rcases Nat.lt_trichotomy p q with z | z | z
    · exact step p q f g hk hp z pf pg hh
    · subst z
      intro i
      have a1 := Int.emod_nonneg i (show (p : Int) ≠ 0 by omega)
      have a2 := Int.emod_lt_of_pos i (show (0 : Int) < p by omega)
      obtain ⟨m, em⟩ := Int.eq_ofNat_of_zero_le a1
      rw [← pf.at_mod i, ← pg.at_mod i, em]
      exact hh m (by omega)
    · intro i
      exact (step q p g f (by omega) hq z pg pf (fun i hi => (hh i (by omega)).symm) i).symm
/-! unlike stitches -/
def U (f g : Int → Int) (w : Nat) (s : Int) : Nat := ((List.range w).filter fun i : Nat => decide (f i ≠ g ((i : Int) + s))).length
theorem U_zero (f g : Int → Int) (s : Int) : U f g 0 s = 0 := rfl
theorem U_succ (f g : Int → Int) (w : Nat) (s : Int) : U f g (w + 1) s = U f g w s + (if f w ≠ g ((w : Int) + s) then 1 else 0) := by
  unfold U
  rw [List.range_succ, List.filter_append, List.length_append]
  congr 1
  by_cases hz : f w ≠ g ((w : Int) + s)
  · rw [if_pos hz, List.filter_cons_of_pos (by exact decide_eq_true hz)]
    rfl
  · rw [if_neg hz, List.filter_cons_of_neg (by rw [decide_eq_false hz]; exact Bool.false_ne_true)]
    rfl
theorem U_add (f g : Int → Int) (a : Nat) (s : Int) : ∀ b : Nat, U f g (a + b) s = U f g a s + U (sh f a) g b (s + a)
  | 0 => by rw [U_zero]; rfl
  | b + 1 => by
    have e : (b : Int) + (a : Int) = ((a + b : Nat) : Int) := by omega
    have e2 : (b : Int) + (s + (a : Int)) = ((a + b : Nat) : Int) + s := by omega
    rw [← Nat.add_assoc, U_succ, U_succ, U_add f g a s b, Nat.add_assoc]
    unfold sh
    rw [e, e2]
theorem U_none {f g : Int → Int} {w : Nat} {s : Int} (h : ∀ i : Nat, i < w → f i = g ((i : Int) + s)) : U f g w s = 0 := by
  unfold U
  rw [List.length_eq_zero_iff, List.filter_eq_nil_iff]
  intro i hi
  simp only [decide_eq_true_eq]
  exact fun z => z (h i (List.mem_range.mp hi))
theorem U_comm (f g : Int → Int) (w : Nat) : U f g w 0 = U g f w 0 := by
  unfold U
  congr 1
  refine List.filter_congr fun i hi => ?_
  rw [Int.add_zero]
  exact decide_eq_decide.mpr ⟨fun z e => z e.symm, fun z e => z e.symm⟩
theorem U_le (f g : Int → Int) (w : Nat) (s : Int) : U f g w s ≤ w := by
  unfold U
  have := List.length_filter_le (fun i : Nat => decide (f i ≠ g ((i : Int) + s))) (List.range w)
  rw [List.length_range] at this
  exact this
theorem U_mod {f g : Int → Int} {w : Nat} {p : Int} (hp : Per g p) (s : Int) : U f g w (s % p) = U f g w s := by
  unfold U
  congr 1
  refine List.filter_congr fun i hi => ?_
  have := congrFun (sh_mod hp s) (i : Int)
  unfold sh at this
  rw [this]
/-! sums -/
def Sm (f : Int → Int) : Nat → Int
  | 0 => 0
  | n + 1 => Sm f n + f n
theorem Sm_row (f : Int → Int) : ∀ n : Nat, (rowF n f).sum = Sm f n
  | 0 => rfl
  | n + 1 => by
    unfold rowF
    rw [List.range_succ, List.map_append, List.sum_append]
    have := Sm_row f n
    unfold rowF at this
    rw [this]
    simp [Sm]
theorem Sm_add (f : Int → Int) (a : Nat) : ∀ b : Nat, Sm f (a + b) = Sm f a + Sm (sh f a) b
  | 0 => by simp [Sm]
  | b + 1 => by
    show Sm f (a + b) + f ((a + b : Nat) : Int) = Sm f a + (Sm (sh f a) b + f ((b : Int) + (a : Int)))
    rw [Sm_add f a b]
    have e : (b : Int) + (a : Int) = ((a + b : Nat) : Int) := by omega
    rw [e]
    omega
theorem Sm_times {f : Int → Int} {n : Nat} (hp : Per f n) : ∀ k : Nat, Sm f (k * n) = k * Sm f n
  | 0 => by simp [Sm]
  | k + 1 => by
    have e : sh f ((k * n : Nat) : Int) = f := funext fun i => by
      unfold sh
      rw [Int.natCast_mul]
      exact hp.mul _ i
    rw [Nat.add_mul, Nat.one_mul, Sm_add, e, Sm_times hp k]
    push_cast
    rw [Int.add_mul, Int.one_mul]
theorem Sm_sh1 {f : Int → Int} {n : Nat} (hp : Per f n) : Sm (sh f 1) n = Sm f n := by
  have h1 := Sm_add f 1 n
  have h2 := Sm_add f n 1
  have e : sh f (n : Int) = f := funext fun i => hp i
  rw [e] at h2
  rw [Nat.add_comm] at h1
  have z : Sm f 1 = f 0 := by simp [Sm]
  have e1 : sh f ((1 : Nat) : Int) = sh f 1 := rfl
  rw [e1] at h1
  omega
theorem Sm_shN {f : Int → Int} {n : Nat} (hp : Per f n) : ∀ a : Nat, Sm (sh f a) n = Sm f n
  | 0 => by
    have : sh f ((0 : Nat) : Int) = f := sh_zero f
    rw [this]
  | a + 1 => by
    have e : sh f ((a + 1 : Nat) : Int) = sh (sh f a) 1 := by
      rw [sh_sh]
      rfl
    rw [e, Sm_sh1 (sh_per hp), Sm_shN hp a]
theorem Sm_sh {f : Int → Int} {n : Nat} (hn : 0 < n) (hp : Per f n) (a : Int) : Sm (sh f a) n = Sm f n := by
  rw [← sh_mod hp a]
  have a1 := Int.emod_nonneg a (show (n : Int) ≠ 0 by omega)
  obtain ⟨m, em⟩ := Int.eq_ofNat_of_zero_le a1
  rw [em]
  exact Sm_shN hp m
theorem Sm_rev (f : Int → Int) : ∀ n : Nat, Sm (fun i => f ((n : Int) - 1 - i)) n = Sm f n := fun n => by
  have h := congrArg List.sum (row_rev (f := f) (n := n))
  rw [List.sum_reverse, Sm_row, Sm_row] at h
  exact h.symm
theorem Sm_bf {f : Int → Int} {n : Nat} (hp : Per f n) : Sm (bf f) n = n - Sm f n := by
  have e : ∀ m : Nat, Sm (bf f) m = m - Sm (fun i => f (-1 - i)) m := fun m => by
    induction m with
    | zero => rfl
    | succ m ih =>
      unfold Sm
      rw [ih]
      unfold bf
      push_cast
      omega
  rw [e, ← Sm_rev f n]
  congr 2
  funext i
  rw [← hp (-1 - i)]
  congr 1
  omega
/-- two faces -/
def Two (f : Int → Int) : Prop := ∃ a : Int, f = sh (bf f) a
theorem Two.half {f : Int → Int} {n : Nat} (hn : 0 < n) (hp : Per f n) (h : Two f) : 2 * Sm f n = n := by
  obtain ⟨a, e⟩ := h
  have h1 := Sm_sh hn (bf_per hp) a
  rw [← e, Sm_bf hp] at h1
  omega
theorem Two.sh {f : Int → Int} (h : Two f) (s : Int) : Two (sh f s) := by
  obtain ⟨a, e⟩ := h
  refine ⟨a + s + s, ?_⟩
  rw [bf_sh, sh_sh]
  have e2 := congrArg (fun g => Lw.sh g s) e
  simp only [sh_sh] at e2
  rw [e2]
  congr 1
  omega
def Same (f g : Int → Int) : Prop := ∃ a : Int, g = sh f a
theorem two_same (f : Int → Int) : Two f ↔ Same f (bf f) := by
  constructor
  · rintro ⟨a, e⟩
    refine ⟨-a, ?_⟩
    have := congrArg (fun g => Lw.sh g (-a)) e
    simp only [sh_sh, Int.add_right_neg, sh_zero] at this
    exact this.symm
  · rintro ⟨a, e⟩
    refine ⟨-a, ?_⟩
    have := congrArg (fun g => Lw.sh g (-a)) e
    simp only [sh_sh, Int.add_right_neg, sh_zero] at this
    exact this.symm
theorem two_of {f : Int → Int} {n : Nat} (hn : 0 < n) (hp : Per f n) (e : bk (rowF n f) = rowF n f) : Two f := by
  rw [bk_row hp] at e
  refine ⟨0, ?_⟩
  rw [sh_zero]
  exact funext fun i => (row_inj hn (bf_per hp) hp e i).symm
end Lw

namespace Lw
open PySem Pu
theorem is_int_g : g_is_int = gIsInt := rfl
theorem are_ints_g : g_are_ints = gAreInts := rfl
theorem law_take_g : g__law_take = gTake := rfl
theorem law_of_g : g__law_of = gOf := rfl
theorem is_told_g : g_is_told = gIsTold := rfl
theorem is_bool_g : g__law_is_bool = gIsBool := rfl
theorem mul_row {ys : List Int} {k : Nat} (hy : ys ≠ []) (hy2 : ys.length ≤ 1000) (k1 : 1 ≤ k) (k2 : k ≤ 1000) : gMul (rowD ys) (.int (k : Int)) = some (.fz (rowD (pwr k ys))) := by
  have e : (pwr k ys).map D.int = (List.replicate k (ys.map D.int)).flatten := by
    unfold pwr
    rw [List.map_flatten, List.map_replicate]
  unfold rowD
  rw [e]
  show (if 2 ≤ (k : Int) ∧ (k : Int) ≤ 1000 ∧ (ys.map D.int).length ≤ 1000 ∧ ys.map D.int ≠ [] then some (Res.fz (.tup (List.replicate (k : Int).toNat (ys.map D.int)).flatten)) else if (k : Int) = 1 ∨ (ys.map D.int = [] ∧ -(2 ^ 63) ≤ (k : Int) ∧ (k : Int) < 2 ^ 63) then some (Res.fz (.tup (ys.map D.int))) else none) = _
  by_cases hk : k = 1
  · subst hk
    rw [if_neg (by omega), if_pos (.inl rfl)]
    simp
  · rw [if_pos ⟨by omega, by omega, by rw [List.length_map]; exact hy2, by simpa using hy⟩, Int.toNat_natCast]
theorem rib_x {xs : List Int} (l1 : 1 ≤ xs.length) (l2 : xs.length ≤ 24) (hv : ∀ v ∈ xs, 0 ≤ v ∧ v ≤ 1) : g_look_at_rib [.fz (rowD xs)] = some (.fz .non, [.no]) := by
  refine W.out ?_
  have b1 : (1 : Int) ≤ (((xs.map D.int).length : Nat) : Int) := by rw [List.length_map]; omega
  have b2 : (((xs.map D.int).length : Nat) : Int) ≤ 24 := by rw [List.length_map]; omega
  unfold g_look_at_rib b_look_at_rib g_is_rib b_is_rib rowD
  simp -dsimp -implicitDefEqProofs only [e_lc, e_wipeN, e_wipeC, e_restN, e_restC, e_getD, e_seq, e_set, e_ret, e_retN, e_if, e_next, e_never, e_bk, e_ct, e_drop, e_asg, e_many, e_setIx, e_for, e_while, e_aug, e_test, e_andT, e_orT, e_notT, e_and, e_or, e_not, e_ifE, e_chain, e_name, e_c, e_op1, e_op2, e_opn, e_cons, e_nil, e_tup, e_lst, e_slice, e_partN, e_partS, e_gName, e_gNil, e_gCons, e_gTup, e_rng1, e_rngA, e_rng2, e_rngB, e_it, e_zip, e_contsN, e_contsC, e_frzsN, e_frzsC, e_normsN, e_normsC, e_normB, e_normF, e_normO, e_manyN, e_manyC, e_outsN, e_outsP, e_outsF, e_outN, e_outF, e_outO, e_ixL, e_ixT, e_ixS, e_yes, e_fn, e_call, e_callM, e_callT, e_listRg, e_sortedSet, ob_some, ob_none, W_ob, W_some, W_none, Int.reduceLT, Int.reduceLE, Int.reduceNeg, Int.reduceAdd, Int.reduceMul, Int.reduceSub, Nat.reduceLT, Nat.reduceLeDiff, Int.reduceToNat, W_ite, andN, ixN_0, ixN_1, ixN_2, ixN_3, at0, at1, at2, at3, isB, gSl, nameR, cont, slotC, setSlot, frz, retR, noBr, updSlot, ownC, zipD, plainE, itemsD, gAdd, gAddI, gSub, e_mulI, gMod, gDiv, gPow, gNeg, gLt, gLe, gGt, gGe, gLen, gAbs, gInt, gMax2, gMin2, gTuple, gList, gIsi, isTy, isNon, gIs, gIsNot, mAppend, headPm, noBrs, solidR, isBr, isLst, List.getElem?_cons_zero, List.getElem?_cons_succ, List.getElem?_nil, List.set_cons_zero, List.set_cons_succ, List.cons_append, List.nil_append, List.length_cons, List.length_nil, List.replicate_succ, List.replicate_zero, Nat.reduceAdd, Nat.reduceSub, List.map_cons, List.map_nil, List.all_cons, List.all_nil, List.any_cons, List.any_nil, Bool.and_true, Bool.true_and, Bool.or_true, Bool.true_or, Bool.false_or, Bool.or_false, Bool.not_true, Bool.not_false, Bool.false_eq_true, if_true, if_false, ite_true, ite_false, true_and, and_true, decide_eq_true_eq, Int.cast_ofNat_Int, decide_true, decide_false, ne_eq, reduceCtorEq, eq_self, not_true_eq_false, not_false_eq_true, false_implies, true_implies, implies_true, true_or, or_true, false_or, or_false, Bool.not_eq_true', decide_eq_false_iff_not, Option.bind_some, Option.bind_none, reduceIte, e_star, e_tupS, e_lstS, e_methA, e_append, e_isLst, e_extend, e_st, e_revT, e_revL, e_enum, enumD, e_rng3, e_rngT, e_fzI, fzS, are_ints_g]
  refine W.eq (areInts_ok hv (by omega)) ?_
  simp -dsimp -implicitDefEqProofs only [e_lc, e_wipeN, e_wipeC, e_restN, e_restC, e_getD, e_seq, e_set, e_ret, e_retN, e_if, e_next, e_never, e_bk, e_ct, e_drop, e_asg, e_many, e_setIx, e_for, e_while, e_aug, e_test, e_andT, e_orT, e_notT, e_and, e_or, e_not, e_ifE, e_chain, e_name, e_c, e_op1, e_op2, e_opn, e_cons, e_nil, e_tup, e_lst, e_slice, e_partN, e_partS, e_gName, e_gNil, e_gCons, e_gTup, e_rng1, e_rngA, e_rng2, e_rngB, e_it, e_zip, e_contsN, e_contsC, e_frzsN, e_frzsC, e_normsN, e_normsC, e_normB, e_normF, e_normO, e_manyN, e_manyC, e_outsN, e_outsP, e_outsF, e_outN, e_outF, e_outO, e_ixL, e_ixT, e_ixS, e_yes, e_fn, e_call, e_callM, e_callT, e_listRg, e_sortedSet, ob_some, ob_none, W_ob, W_some, W_none, Int.reduceLT, Int.reduceLE, Int.reduceNeg, Int.reduceAdd, Int.reduceMul, Int.reduceSub, Nat.reduceLT, Nat.reduceLeDiff, Int.reduceToNat, W_ite, andN, ixN_0, ixN_1, ixN_2, ixN_3, at0, at1, at2, at3, isB, gSl, nameR, cont, slotC, setSlot, frz, retR, noBr, updSlot, ownC, zipD, plainE, itemsD, gAdd, gAddI, gSub, e_mulI, gMod, gDiv, gPow, gNeg, gLt, gLe, gGt, gGe, gLen, gAbs, gInt, gMax2, gMin2, gTuple, gList, gIsi, isTy, isNon, gIs, gIsNot, mAppend, headPm, noBrs, solidR, isBr, isLst, List.getElem?_cons_zero, List.getElem?_cons_succ, List.getElem?_nil, List.set_cons_zero, List.set_cons_succ, List.cons_append, List.nil_append, List.length_cons, List.length_nil, List.replicate_succ, List.replicate_zero, Nat.reduceAdd, Nat.reduceSub, List.map_cons, List.map_nil, List.all_cons, List.all_nil, List.any_cons, List.any_nil, Bool.and_true, Bool.true_and, Bool.or_true, Bool.true_or, Bool.false_or, Bool.or_false, Bool.not_true, Bool.not_false, Bool.false_eq_true, if_true, if_false, ite_true, ite_false, true_and, and_true, decide_eq_true_eq, Int.cast_ofNat_Int, decide_true, decide_false, ne_eq, reduceCtorEq, eq_self, not_true_eq_false, not_false_eq_true, false_implies, true_implies, implies_true, true_or, or_true, false_or, or_false, Bool.not_eq_true', decide_eq_false_iff_not, Option.bind_some, Option.bind_none, reduceIte, e_star, e_tupS, e_lstS, e_methA, e_append, e_isLst, e_extend, e_st, e_revT, e_revL, e_enum, enumD, e_rng3, e_rngT, e_fzI, fzS, b1, b2]
section
variable {f : Int → Int} {n L : Nat} (h : Rb f n L)
include h
theorem rib_ok : g_look_at_rib [.fz (rowD (rowF n f))] = some (.fz .non, [.no]) := rib_x (by rw [h.len]; exact h.n1) (by rw [h.len]; exact h.n2) h.vals
theorem told_least_ok : g_told_least [.fz (rowD (rowF n f))] = some (.fz (rowD (rowF L f)), [.no]) := by
  refine W.out ?_
  have n1 := h.n1
  have n2 := h.n2
  have hl := h.len
  have hle := h.le
  have hlm : ((rowF n f).map D.int).length = n := by rw [List.length_map, hl]
  have hsm : (smallI 1 && smallI ((n : Int) + 1)) = true := sm2 (by decide) (by omega)
  have hN : (((n : Nat) : Int) + 1 - 1).toNat = n := by omega
  unfold g_told_least b_told_least rowD
  simp -dsimp -implicitDefEqProofs only [e_lc, e_wipeN, e_wipeC, e_restN, e_restC, e_getD, e_seq, e_set, e_ret, e_retN, e_if, e_next, e_never, e_bk, e_ct, e_drop, e_asg, e_many, e_setIx, e_for, e_while, e_aug, e_test, e_andT, e_orT, e_notT, e_and, e_or, e_not, e_ifE, e_chain, e_name, e_c, e_op1, e_op2, e_opn, e_cons, e_nil, e_tup, e_lst, e_slice, e_partN, e_partS, e_gName, e_gNil, e_gCons, e_gTup, e_rng1, e_rngA, e_rng2, e_rngB, e_it, e_zip, e_contsN, e_contsC, e_frzsN, e_frzsC, e_normsN, e_normsC, e_normB, e_normF, e_normO, e_manyN, e_manyC, e_outsN, e_outsP, e_outsF, e_outN, e_outF, e_outO, e_ixL, e_ixT, e_ixS, e_yes, e_fn, e_call, e_callM, e_callT, e_listRg, e_sortedSet, ob_some, ob_none, W_ob, W_some, W_none, Int.reduceLT, Int.reduceLE, Int.reduceNeg, Int.reduceAdd, Int.reduceMul, Int.reduceSub, Nat.reduceLT, Nat.reduceLeDiff, Int.reduceToNat, W_ite, andN, ixN_0, ixN_1, ixN_2, ixN_3, at0, at1, at2, at3, isB, gSl, nameR, cont, slotC, setSlot, frz, retR, noBr, updSlot, ownC, zipD, plainE, itemsD, gAdd, gAddI, gSub, e_mulI, gMod, gDiv, gPow, gNeg, gLt, gLe, gGt, gGe, gLen, gAbs, gInt, gMax2, gMin2, gTuple, gList, gIsi, isTy, isNon, gIs, gIsNot, mAppend, headPm, noBrs, solidR, isBr, isLst, List.getElem?_cons_zero, List.getElem?_cons_succ, List.getElem?_nil, List.set_cons_zero, List.set_cons_succ, List.cons_append, List.nil_append, List.length_cons, List.length_nil, List.replicate_succ, List.replicate_zero, Nat.reduceAdd, Nat.reduceSub, List.map_cons, List.map_nil, List.all_cons, List.all_nil, List.any_cons, List.any_nil, Bool.and_true, Bool.true_and, Bool.or_true, Bool.true_or, Bool.false_or, Bool.or_false, Bool.not_true, Bool.not_false, Bool.false_eq_true, if_true, if_false, ite_true, ite_false, true_and, and_true, decide_eq_true_eq, Int.cast_ofNat_Int, decide_true, decide_false, ne_eq, reduceCtorEq, eq_self, not_true_eq_false, not_false_eq_true, false_implies, true_implies, implies_true, true_or, or_true, false_or, or_false, Bool.not_eq_true', decide_eq_false_iff_not, Option.bind_some, Option.bind_none, reduceIte, e_star, e_tupS, e_lstS, e_methA, e_append, e_isLst, e_extend, e_st, e_revT, e_revL, e_enum, enumD, e_rng3, e_rngT, e_fzI, fzS, hlm, hsm, hN]
  refine for_exit (fun pre ρ => ∃ x1 : Pu.Slot, ρ = [.fz (.tup ((rowF n f).map D.int)), x1] ∧ pre.length < L) ⟨_, rfl, h.l0⟩ (fun pre d post ρ e ⟨x1, e1, hj⟩ => ?_) fun ρ ⟨x1, e1, hj⟩ => ?_
  · subst e1
    obtain ⟨rfl, hlt⟩ := rng_at1 e
    have e1 : (1 + (pre.length : Int)) = ((pre.length + 1 : Nat) : Int) := by omega
    rw [e1]
    have hp0 : (0 : Int) < ((pre.length + 1 : Nat) : Int) := by omega
    have eD : ((n : Nat) : Int) / ((pre.length + 1 : Nat) : Int) = ((n / (pre.length + 1) : Nat) : Int) := by rw [Int.natCast_ediv]
    have dv := div_ok (j := ((pre.length + 1 : Nat) : Int)) (n := 100) hp0 (Bd.of (by omega) (by omega))
    by_cases hd : ((n : Nat) : Int) % ((pre.length + 1 : Nat) : Int) = 0
    · have hdv : (pre.length + 1) ∣ n := Int.natCast_dvd_natCast.mp (Int.dvd_of_emod_eq_zero hd)
      have hk : 1 ≤ n / (pre.length + 1) := Nat.div_pos (by omega) (by omega)
      have hk2 : n / (pre.length + 1) ≤ 1000 := Nat.le_trans (Nat.div_le_self _ _) (by omega)
      have et : (rowF n f).take (pre.length + 1) = rowF (pre.length + 1) f := row_take (by omega)
      have mr := mul_row (ys := rowF (pre.length + 1) f) (k := n / (pre.length + 1)) (fun z => by
        have := congrArg List.length z
        rw [rowF_len, List.length_nil] at this
        omega) (by rw [rowF_len]; omega) hk hk2
      have hq := gq_row (r := pwr (n / (pre.length + 1)) (rowF (pre.length + 1) f)) (s := rowF n f)
      have hri := root_iff (xs := rowF n f) (p := pre.length + 1) (by omega) (by omega) (by rw [hl]; exact hdv)
      rw [hl, et] at hri
      have hcf : cyc (rowF n f) = f := funext (cyc_row n1 h.per)
      rw [hcf] at hri
      have ec : ((rowF n f).map D.int).take (pre.length + 1) = (rowF (pre.length + 1) f).map D.int := by rw [← List.map_take, et]
      unfold rowD at mr hq
      by_cases hP : Per f ((pre.length + 1 : Nat) : Int)
      · have hL : L = pre.length + 1 := by
          have := h.lmin _ (Nat.succ_pos _) hP
          omega
        have hh : decide (pwr (n / (pre.length + 1)) (rowF (pre.length + 1) f) = rowF n f) = true := decide_eq_true (hri.mpr hP).symm
        simp -dsimp -implicitDefEqProofs only [e_lc, e_wipeN, e_wipeC, e_restN, e_restC, e_getD, e_seq, e_set, e_ret, e_retN, e_if, e_next, e_never, e_bk, e_ct, e_drop, e_asg, e_many, e_setIx, e_for, e_while, e_aug, e_test, e_andT, e_orT, e_notT, e_and, e_or, e_not, e_ifE, e_chain, e_name, e_c, e_op1, e_op2, e_opn, e_cons, e_nil, e_tup, e_lst, e_slice, e_partN, e_partS, e_gName, e_gNil, e_gCons, e_gTup, e_rng1, e_rngA, e_rng2, e_rngB, e_it, e_zip, e_contsN, e_contsC, e_frzsN, e_frzsC, e_normsN, e_normsC, e_normB, e_normF, e_normO, e_manyN, e_manyC, e_outsN, e_outsP, e_outsF, e_outN, e_outF, e_outO, e_ixL, e_ixT, e_ixS, e_yes, e_fn, e_call, e_callM, e_callT, e_listRg, e_sortedSet, ob_some, ob_none, W_ob, W_some, W_none, Int.reduceLT, Int.reduceLE, Int.reduceNeg, Int.reduceAdd, Int.reduceMul, Int.reduceSub, Nat.reduceLT, Nat.reduceLeDiff, Int.reduceToNat, W_ite, andN, ixN_0, ixN_1, ixN_2, ixN_3, at0, at1, at2, at3, isB, gSl, nameR, cont, slotC, setSlot, frz, retR, noBr, updSlot, ownC, zipD, plainE, itemsD, gAdd, gAddI, gSub, e_mulI, gMod, gDiv, gPow, gNeg, gLt, gLe, gGt, gGe, gLen, gAbs, gInt, gMax2, gMin2, gTuple, gList, gIsi, isTy, isNon, gIs, gIsNot, mAppend, headPm, noBrs, solidR, isBr, isLst, List.getElem?_cons_zero, List.getElem?_cons_succ, List.getElem?_nil, List.set_cons_zero, List.set_cons_succ, List.cons_append, List.nil_append, List.length_cons, List.length_nil, List.replicate_succ, List.replicate_zero, Nat.reduceAdd, Nat.reduceSub, List.map_cons, List.map_nil, List.all_cons, List.all_nil, List.any_cons, List.any_nil, Bool.and_true, Bool.true_and, Bool.or_true, Bool.true_or, Bool.false_or, Bool.or_false, Bool.not_true, Bool.not_false, Bool.false_eq_true, if_true, if_false, ite_true, ite_false, true_and, and_true, decide_eq_true_eq, Int.cast_ofNat_Int, decide_true, decide_false, ne_eq, reduceCtorEq, eq_self, not_true_eq_false, not_false_eq_true, false_implies, true_implies, implies_true, true_or, or_true, false_or, or_false, Bool.not_eq_true', decide_eq_false_iff_not, Option.bind_some, Option.bind_none, reduceIte, e_star, e_tupS, e_lstS, e_methA, e_append, e_isLst, e_extend, e_st, e_revT, e_revL, e_enum, enumD, e_rng3, e_rngT, e_fzI, fzS, hlm, hd, dv, hp0, eD, gq_int, cutD_to, mr, hq, ec, hh]
        refine .inr (.inr ⟨_, rfl, ?_⟩)
        simp -dsimp -implicitDefEqProofs only [e_lc, e_wipeN, e_wipeC, e_restN, e_restC, e_getD, e_seq, e_set, e_ret, e_retN, e_if, e_next, e_never, e_bk, e_ct, e_drop, e_asg, e_many, e_setIx, e_for, e_while, e_aug, e_test, e_andT, e_orT, e_notT, e_and, e_or, e_not, e_ifE, e_chain, e_name, e_c, e_op1, e_op2, e_opn, e_cons, e_nil, e_tup, e_lst, e_slice, e_partN, e_partS, e_gName, e_gNil, e_gCons, e_gTup, e_rng1, e_rngA, e_rng2, e_rngB, e_it, e_zip, e_contsN, e_contsC, e_frzsN, e_frzsC, e_normsN, e_normsC, e_normB, e_normF, e_normO, e_manyN, e_manyC, e_outsN, e_outsP, e_outsF, e_outN, e_outF, e_outO, e_ixL, e_ixT, e_ixS, e_yes, e_fn, e_call, e_callM, e_callT, e_listRg, e_sortedSet, ob_some, ob_none, W_ob, W_some, W_none, Int.reduceLT, Int.reduceLE, Int.reduceNeg, Int.reduceAdd, Int.reduceMul, Int.reduceSub, Nat.reduceLT, Nat.reduceLeDiff, Int.reduceToNat, W_ite, andN, ixN_0, ixN_1, ixN_2, ixN_3, at0, at1, at2, at3, isB, gSl, nameR, cont, slotC, setSlot, frz, retR, noBr, updSlot, ownC, zipD, plainE, itemsD, gAdd, gAddI, gSub, e_mulI, gMod, gDiv, gPow, gNeg, gLt, gLe, gGt, gGe, gLen, gAbs, gInt, gMax2, gMin2, gTuple, gList, gIsi, isTy, isNon, gIs, gIsNot, mAppend, headPm, noBrs, solidR, isBr, isLst, List.getElem?_cons_zero, List.getElem?_cons_succ, List.getElem?_nil, List.set_cons_zero, List.set_cons_succ, List.cons_append, List.nil_append, List.length_cons, List.length_nil, List.replicate_succ, List.replicate_zero, Nat.reduceAdd, Nat.reduceSub, List.map_cons, List.map_nil, List.all_cons, List.all_nil, List.any_cons, List.any_nil, Bool.and_true, Bool.true_and, Bool.or_true, Bool.true_or, Bool.false_or, Bool.or_false, Bool.not_true, Bool.not_false, Bool.false_eq_true, if_true, if_false, ite_true, ite_false, true_and, and_true, decide_eq_true_eq, Int.cast_ofNat_Int, decide_true, decide_false, ne_eq, reduceCtorEq, eq_self, not_true_eq_false, not_false_eq_true, false_implies, true_implies, implies_true, true_or, or_true, false_or, or_false, Bool.not_eq_true', decide_eq_false_iff_not, Option.bind_some, Option.bind_none, reduceIte, e_star, e_tupS, e_lstS, e_methA, e_append, e_isLst, e_extend, e_st, e_revT, e_revL, e_enum, enumD, e_rng3, e_rngT, e_fzI, fzS]
        rw [hL]
      · have hh : decide (pwr (n / (pre.length + 1)) (rowF (pre.length + 1) f) = rowF n f) = false := decide_eq_false fun z => hP (hri.mp z.symm)
        simp -dsimp -implicitDefEqProofs only [e_lc, e_wipeN, e_wipeC, e_restN, e_restC, e_getD, e_seq, e_set, e_ret, e_retN, e_if, e_next, e_never, e_bk, e_ct, e_drop, e_asg, e_many, e_setIx, e_for, e_while, e_aug, e_test, e_andT, e_orT, e_notT, e_and, e_or, e_not, e_ifE, e_chain, e_name, e_c, e_op1, e_op2, e_opn, e_cons, e_nil, e_tup, e_lst, e_slice, e_partN, e_partS, e_gName, e_gNil, e_gCons, e_gTup, e_rng1, e_rngA, e_rng2, e_rngB, e_it, e_zip, e_contsN, e_contsC, e_frzsN, e_frzsC, e_normsN, e_normsC, e_normB, e_normF, e_normO, e_manyN, e_manyC, e_outsN, e_outsP, e_outsF, e_outN, e_outF, e_outO, e_ixL, e_ixT, e_ixS, e_yes, e_fn, e_call, e_callM, e_callT, e_listRg, e_sortedSet, ob_some, ob_none, W_ob, W_some, W_none, Int.reduceLT, Int.reduceLE, Int.reduceNeg, Int.reduceAdd, Int.reduceMul, Int.reduceSub, Nat.reduceLT, Nat.reduceLeDiff, Int.reduceToNat, W_ite, andN, ixN_0, ixN_1, ixN_2, ixN_3, at0, at1, at2, at3, isB, gSl, nameR, cont, slotC, setSlot, frz, retR, noBr, updSlot, ownC, zipD, plainE, itemsD, gAdd, gAddI, gSub, e_mulI, gMod, gDiv, gPow, gNeg, gLt, gLe, gGt, gGe, gLen, gAbs, gInt, gMax2, gMin2, gTuple, gList, gIsi, isTy, isNon, gIs, gIsNot, mAppend, headPm, noBrs, solidR, isBr, isLst, List.getElem?_cons_zero, List.getElem?_cons_succ, List.getElem?_nil, List.set_cons_zero, List.set_cons_succ, List.cons_append, List.nil_append, List.length_cons, List.length_nil, List.replicate_succ, List.replicate_zero, Nat.reduceAdd, Nat.reduceSub, List.map_cons, List.map_nil, List.all_cons, List.all_nil, List.any_cons, List.any_nil, Bool.and_true, Bool.true_and, Bool.or_true, Bool.true_or, Bool.false_or, Bool.or_false, Bool.not_true, Bool.not_false, Bool.false_eq_true, if_true, if_false, ite_true, ite_false, true_and, and_true, decide_eq_true_eq, Int.cast_ofNat_Int, decide_true, decide_false, ne_eq, reduceCtorEq, eq_self, not_true_eq_false, not_false_eq_true, false_implies, true_implies, implies_true, true_or, or_true, false_or, or_false, Bool.not_eq_true', decide_eq_false_iff_not, Option.bind_some, Option.bind_none, reduceIte, e_star, e_tupS, e_lstS, e_methA, e_append, e_isLst, e_extend, e_st, e_revT, e_revL, e_enum, enumD, e_rng3, e_rngT, e_fzI, fzS, hlm, hd, dv, hp0, eD, gq_int, cutD_to, mr, hq, ec, hh]
        refine .inl ⟨_, rfl, ?_⟩
        rw [List.length_append]
        have : L ≠ pre.length + 1 := fun z => hP (by rw [← z]; exact h.lper)
        simp
        omega
    · simp -dsimp -implicitDefEqProofs only [e_lc, e_wipeN, e_wipeC, e_restN, e_restC, e_getD, e_seq, e_set, e_ret, e_retN, e_if, e_next, e_never, e_bk, e_ct, e_drop, e_asg, e_many, e_setIx, e_for, e_while, e_aug, e_test, e_andT, e_orT, e_notT, e_and, e_or, e_not, e_ifE, e_chain, e_name, e_c, e_op1, e_op2, e_opn, e_cons, e_nil, e_tup, e_lst, e_slice, e_partN, e_partS, e_gName, e_gNil, e_gCons, e_gTup, e_rng1, e_rngA, e_rng2, e_rngB, e_it, e_zip, e_contsN, e_contsC, e_frzsN, e_frzsC, e_normsN, e_normsC, e_normB, e_normF, e_normO, e_manyN, e_manyC, e_outsN, e_outsP, e_outsF, e_outN, e_outF, e_outO, e_ixL, e_ixT, e_ixS, e_yes, e_fn, e_call, e_callM, e_callT, e_listRg, e_sortedSet, ob_some, ob_none, W_ob, W_some, W_none, Int.reduceLT, Int.reduceLE, Int.reduceNeg, Int.reduceAdd, Int.reduceMul, Int.reduceSub, Nat.reduceLT, Nat.reduceLeDiff, Int.reduceToNat, W_ite, andN, ixN_0, ixN_1, ixN_2, ixN_3, at0, at1, at2, at3, isB, gSl, nameR, cont, slotC, setSlot, frz, retR, noBr, updSlot, ownC, zipD, plainE, itemsD, gAdd, gAddI, gSub, e_mulI, gMod, gDiv, gPow, gNeg, gLt, gLe, gGt, gGe, gLen, gAbs, gInt, gMax2, gMin2, gTuple, gList, gIsi, isTy, isNon, gIs, gIsNot, mAppend, headPm, noBrs, solidR, isBr, isLst, List.getElem?_cons_zero, List.getElem?_cons_succ, List.getElem?_nil, List.set_cons_zero, List.set_cons_succ, List.cons_append, List.nil_append, List.length_cons, List.length_nil, List.replicate_succ, List.replicate_zero, Nat.reduceAdd, Nat.reduceSub, List.map_cons, List.map_nil, List.all_cons, List.all_nil, List.any_cons, List.any_nil, Bool.and_true, Bool.true_and, Bool.or_true, Bool.true_or, Bool.false_or, Bool.or_false, Bool.not_true, Bool.not_false, Bool.false_eq_true, if_true, if_false, ite_true, ite_false, true_and, and_true, decide_eq_true_eq, Int.cast_ofNat_Int, decide_true, decide_false, ne_eq, reduceCtorEq, eq_self, not_true_eq_false, not_false_eq_true, false_implies, true_implies, implies_true, true_or, or_true, false_or, or_false, Bool.not_eq_true', decide_eq_false_iff_not, Option.bind_some, Option.bind_none, reduceIte, e_star, e_tupS, e_lstS, e_methA, e_append, e_isLst, e_extend, e_st, e_revT, e_revL, e_enum, enumD, e_rng3, e_rngT, e_fzI, fzS, hlm, hd, dv, hp0, eD, gq_int, cutD_to]
      refine .inl ⟨_, rfl, ?_⟩
      rw [List.length_append]
      have : L ≠ pre.length + 1 := fun z => hd (by rw [← z]; exact Int.emod_eq_zero_of_dvd (h.dvd h.per))
      simp
      omega
  · exfalso
    rw [rngD_len] at hj
    omega
theorem least_ok : g_least_rib [.fz (rowD (rowF n f))] = some (.fz (rowD (rowF L f)), [.no]) := by
  refine W.out ?_
  have a := rib_ok h
  have b := told_least_ok h
  unfold g_least_rib b_least_rib
  simp -dsimp -implicitDefEqProofs only [e_lc, e_wipeN, e_wipeC, e_restN, e_restC, e_getD, e_seq, e_set, e_ret, e_retN, e_if, e_next, e_never, e_bk, e_ct, e_drop, e_asg, e_many, e_setIx, e_for, e_while, e_aug, e_test, e_andT, e_orT, e_notT, e_and, e_or, e_not, e_ifE, e_chain, e_name, e_c, e_op1, e_op2, e_opn, e_cons, e_nil, e_tup, e_lst, e_slice, e_partN, e_partS, e_gName, e_gNil, e_gCons, e_gTup, e_rng1, e_rngA, e_rng2, e_rngB, e_it, e_zip, e_contsN, e_contsC, e_frzsN, e_frzsC, e_normsN, e_normsC, e_normB, e_normF, e_normO, e_manyN, e_manyC, e_outsN, e_outsP, e_outsF, e_outN, e_outF, e_outO, e_ixL, e_ixT, e_ixS, e_yes, e_fn, e_call, e_callM, e_callT, e_listRg, e_sortedSet, ob_some, ob_none, W_ob, W_some, W_none, Int.reduceLT, Int.reduceLE, Int.reduceNeg, Int.reduceAdd, Int.reduceMul, Int.reduceSub, Nat.reduceLT, Nat.reduceLeDiff, Int.reduceToNat, W_ite, andN, ixN_0, ixN_1, ixN_2, ixN_3, at0, at1, at2, at3, isB, gSl, nameR, cont, slotC, setSlot, frz, retR, noBr, updSlot, ownC, zipD, plainE, itemsD, gAdd, gAddI, gSub, e_mulI, gMod, gDiv, gPow, gNeg, gLt, gLe, gGt, gGe, gLen, gAbs, gInt, gMax2, gMin2, gTuple, gList, gIsi, isTy, isNon, gIs, gIsNot, mAppend, headPm, noBrs, solidR, isBr, isLst, List.getElem?_cons_zero, List.getElem?_cons_succ, List.getElem?_nil, List.set_cons_zero, List.set_cons_succ, List.cons_append, List.nil_append, List.length_cons, List.length_nil, List.replicate_succ, List.replicate_zero, Nat.reduceAdd, Nat.reduceSub, List.map_cons, List.map_nil, List.all_cons, List.all_nil, List.any_cons, List.any_nil, Bool.and_true, Bool.true_and, Bool.or_true, Bool.true_or, Bool.false_or, Bool.or_false, Bool.not_true, Bool.not_false, Bool.false_eq_true, if_true, if_false, ite_true, ite_false, true_and, and_true, decide_eq_true_eq, Int.cast_ofNat_Int, decide_true, decide_false, ne_eq, reduceCtorEq, eq_self, not_true_eq_false, not_false_eq_true, false_implies, true_implies, implies_true, true_or, or_true, false_or, or_false, Bool.not_eq_true', decide_eq_false_iff_not, Option.bind_some, Option.bind_none, reduceIte, e_star, e_tupS, e_lstS, e_methA, e_append, e_isLst, e_extend, e_st, e_revT, e_revL, e_enum, enumD, e_rng3, e_rngT, e_fzI, fzS, a, b]
end
def negH : D → D
  | .int i => .int (1 - i)
  | d => d
theorem neg_map (xs : List Int) : ((xs.map D.int).reverse.map negH) = (bk xs).map D.int := by
  unfold bk
  rw [← List.map_reverse, List.map_map, List.map_map]
  rfl
theorem back_x {xs : List Int} (l1 : 1 ≤ xs.length) (l2 : xs.length ≤ 24) (hv : ∀ v ∈ xs, 0 ≤ v ∧ v ≤ 1) : g_back_of [.fz (rowD xs)] = some (.fz (rowD (bk xs)), [.no]) := by
  refine W.out ?_
  have a := rib_x l1 l2 hv
  unfold g_back_of b_back_of
  simp -dsimp -implicitDefEqProofs only [e_lc, e_wipeN, e_wipeC, e_restN, e_restC, e_getD, e_seq, e_set, e_ret, e_retN, e_if, e_next, e_never, e_bk, e_ct, e_drop, e_asg, e_many, e_setIx, e_for, e_while, e_aug, e_test, e_andT, e_orT, e_notT, e_and, e_or, e_not, e_ifE, e_chain, e_name, e_c, e_op1, e_op2, e_opn, e_cons, e_nil, e_tup, e_lst, e_slice, e_partN, e_partS, e_gName, e_gNil, e_gCons, e_gTup, e_rng1, e_rngA, e_rng2, e_rngB, e_it, e_zip, e_contsN, e_contsC, e_frzsN, e_frzsC, e_normsN, e_normsC, e_normB, e_normF, e_normO, e_manyN, e_manyC, e_outsN, e_outsP, e_outsF, e_outN, e_outF, e_outO, e_ixL, e_ixT, e_ixS, e_yes, e_fn, e_call, e_callM, e_callT, e_listRg, e_sortedSet, ob_some, ob_none, W_ob, W_some, W_none, Int.reduceLT, Int.reduceLE, Int.reduceNeg, Int.reduceAdd, Int.reduceMul, Int.reduceSub, Nat.reduceLT, Nat.reduceLeDiff, Int.reduceToNat, W_ite, andN, ixN_0, ixN_1, ixN_2, ixN_3, at0, at1, at2, at3, isB, gSl, nameR, cont, slotC, setSlot, frz, retR, noBr, updSlot, ownC, zipD, plainE, itemsD, gAdd, gAddI, gSub, e_mulI, gMod, gDiv, gPow, gNeg, gLt, gLe, gGt, gGe, gLen, gAbs, gInt, gMax2, gMin2, gTuple, gList, gIsi, isTy, isNon, gIs, gIsNot, mAppend, headPm, noBrs, solidR, isBr, isLst, List.getElem?_cons_zero, List.getElem?_cons_succ, List.getElem?_nil, List.set_cons_zero, List.set_cons_succ, List.cons_append, List.nil_append, List.length_cons, List.length_nil, List.replicate_succ, List.replicate_zero, Nat.reduceAdd, Nat.reduceSub, List.map_cons, List.map_nil, List.all_cons, List.all_nil, List.any_cons, List.any_nil, Bool.and_true, Bool.true_and, Bool.or_true, Bool.true_or, Bool.false_or, Bool.or_false, Bool.not_true, Bool.not_false, Bool.false_eq_true, if_true, if_false, ite_true, ite_false, true_and, and_true, decide_eq_true_eq, Int.cast_ofNat_Int, decide_true, decide_false, ne_eq, reduceCtorEq, eq_self, not_true_eq_false, not_false_eq_true, false_implies, true_implies, implies_true, true_or, or_true, false_or, or_false, Bool.not_eq_true', decide_eq_false_iff_not, Option.bind_some, Option.bind_none, reduceIte, e_star, e_tupS, e_lstS, e_methA, e_append, e_isLst, e_extend, e_st, e_revT, e_revL, e_enum, enumD, e_rng3, e_rngT, e_fzI, fzS, a]
  unfold rowD
  simp -dsimp -implicitDefEqProofs only [e_lc, e_wipeN, e_wipeC, e_restN, e_restC, e_getD, e_seq, e_set, e_ret, e_retN, e_if, e_next, e_never, e_bk, e_ct, e_drop, e_asg, e_many, e_setIx, e_for, e_while, e_aug, e_test, e_andT, e_orT, e_notT, e_and, e_or, e_not, e_ifE, e_chain, e_name, e_c, e_op1, e_op2, e_opn, e_cons, e_nil, e_tup, e_lst, e_slice, e_partN, e_partS, e_gName, e_gNil, e_gCons, e_gTup, e_rng1, e_rngA, e_rng2, e_rngB, e_it, e_zip, e_contsN, e_contsC, e_frzsN, e_frzsC, e_normsN, e_normsC, e_normB, e_normF, e_normO, e_manyN, e_manyC, e_outsN, e_outsP, e_outsF, e_outN, e_outF, e_outO, e_ixL, e_ixT, e_ixS, e_yes, e_fn, e_call, e_callM, e_callT, e_listRg, e_sortedSet, ob_some, ob_none, W_ob, W_some, W_none, Int.reduceLT, Int.reduceLE, Int.reduceNeg, Int.reduceAdd, Int.reduceMul, Int.reduceSub, Nat.reduceLT, Nat.reduceLeDiff, Int.reduceToNat, W_ite, andN, ixN_0, ixN_1, ixN_2, ixN_3, at0, at1, at2, at3, isB, gSl, nameR, cont, slotC, setSlot, frz, retR, noBr, updSlot, ownC, zipD, plainE, itemsD, gAdd, gAddI, gSub, e_mulI, gMod, gDiv, gPow, gNeg, gLt, gLe, gGt, gGe, gLen, gAbs, gInt, gMax2, gMin2, gTuple, gList, gIsi, isTy, isNon, gIs, gIsNot, mAppend, headPm, noBrs, solidR, isBr, isLst, List.getElem?_cons_zero, List.getElem?_cons_succ, List.getElem?_nil, List.set_cons_zero, List.set_cons_succ, List.cons_append, List.nil_append, List.length_cons, List.length_nil, List.replicate_succ, List.replicate_zero, Nat.reduceAdd, Nat.reduceSub, List.map_cons, List.map_nil, List.all_cons, List.all_nil, List.any_cons, List.any_nil, Bool.and_true, Bool.true_and, Bool.or_true, Bool.true_or, Bool.false_or, Bool.or_false, Bool.not_true, Bool.not_false, Bool.false_eq_true, if_true, if_false, ite_true, ite_false, true_and, and_true, decide_eq_true_eq, Int.cast_ofNat_Int, decide_true, decide_false, ne_eq, reduceCtorEq, eq_self, not_true_eq_false, not_false_eq_true, false_implies, true_implies, implies_true, true_or, or_true, false_or, or_false, Bool.not_eq_true', decide_eq_false_iff_not, Option.bind_some, Option.bind_none, reduceIte, e_star, e_tupS, e_lstS, e_methA, e_append, e_isLst, e_extend, e_st, e_revT, e_revL, e_enum, enumD, e_rng3, e_rngT, e_fzI, fzS]
  refine lc_map negH (fun d hd => ?_) fun ρ' hρ => ?_
  · obtain ⟨v, hv', rfl⟩ := List.mem_map.mp (List.mem_reverse.mp hd)
    obtain ⟨v1, v2⟩ := hv v hv'
    simp -dsimp -implicitDefEqProofs only [e_lc, e_wipeN, e_wipeC, e_restN, e_restC, e_getD, e_seq, e_set, e_ret, e_retN, e_if, e_next, e_never, e_bk, e_ct, e_drop, e_asg, e_many, e_setIx, e_for, e_while, e_aug, e_test, e_andT, e_orT, e_notT, e_and, e_or, e_not, e_ifE, e_chain, e_name, e_c, e_op1, e_op2, e_opn, e_cons, e_nil, e_tup, e_lst, e_slice, e_partN, e_partS, e_gName, e_gNil, e_gCons, e_gTup, e_rng1, e_rngA, e_rng2, e_rngB, e_it, e_zip, e_contsN, e_contsC, e_frzsN, e_frzsC, e_normsN, e_normsC, e_normB, e_normF, e_normO, e_manyN, e_manyC, e_outsN, e_outsP, e_outsF, e_outN, e_outF, e_outO, e_ixL, e_ixT, e_ixS, e_yes, e_fn, e_call, e_callM, e_callT, e_listRg, e_sortedSet, ob_some, ob_none, W_ob, W_some, W_none, Int.reduceLT, Int.reduceLE, Int.reduceNeg, Int.reduceAdd, Int.reduceMul, Int.reduceSub, Nat.reduceLT, Nat.reduceLeDiff, Int.reduceToNat, W_ite, andN, ixN_0, ixN_1, ixN_2, ixN_3, at0, at1, at2, at3, isB, gSl, nameR, cont, slotC, setSlot, frz, retR, noBr, updSlot, ownC, zipD, plainE, itemsD, gAdd, gAddI, gSub, e_mulI, gMod, gDiv, gPow, gNeg, gLt, gLe, gGt, gGe, gLen, gAbs, gInt, gMax2, gMin2, gTuple, gList, gIsi, isTy, isNon, gIs, gIsNot, mAppend, headPm, noBrs, solidR, isBr, isLst, List.getElem?_cons_zero, List.getElem?_cons_succ, List.getElem?_nil, List.set_cons_zero, List.set_cons_succ, List.cons_append, List.nil_append, List.length_cons, List.length_nil, List.replicate_succ, List.replicate_zero, Nat.reduceAdd, Nat.reduceSub, List.map_cons, List.map_nil, List.all_cons, List.all_nil, List.any_cons, List.any_nil, Bool.and_true, Bool.true_and, Bool.or_true, Bool.true_or, Bool.false_or, Bool.or_false, Bool.not_true, Bool.not_false, Bool.false_eq_true, if_true, if_false, ite_true, ite_false, true_and, and_true, decide_eq_true_eq, Int.cast_ofNat_Int, decide_true, decide_false, ne_eq, reduceCtorEq, eq_self, not_true_eq_false, not_false_eq_true, false_implies, true_implies, implies_true, true_or, or_true, false_or, or_false, Bool.not_eq_true', decide_eq_false_iff_not, Option.bind_some, Option.bind_none, reduceIte, e_star, e_tupS, e_lstS, e_methA, e_append, e_isLst, e_extend, e_st, e_revT, e_revL, e_enum, enumD, e_rng3, e_rngT, e_fzI, fzS]
    rfl
  · have l : ((bk xs).map D.int).length ≤ sizeLine := by rw [List.length_map, bk_len, sizeLine_eq]; omega
    rw [neg_map]
    simp -dsimp -implicitDefEqProofs only [e_lc, e_wipeN, e_wipeC, e_restN, e_restC, e_getD, e_seq, e_set, e_ret, e_retN, e_if, e_next, e_never, e_bk, e_ct, e_drop, e_asg, e_many, e_setIx, e_for, e_while, e_aug, e_test, e_andT, e_orT, e_notT, e_and, e_or, e_not, e_ifE, e_chain, e_name, e_c, e_op1, e_op2, e_opn, e_cons, e_nil, e_tup, e_lst, e_slice, e_partN, e_partS, e_gName, e_gNil, e_gCons, e_gTup, e_rng1, e_rngA, e_rng2, e_rngB, e_it, e_zip, e_contsN, e_contsC, e_frzsN, e_frzsC, e_normsN, e_normsC, e_normB, e_normF, e_normO, e_manyN, e_manyC, e_outsN, e_outsP, e_outsF, e_outN, e_outF, e_outO, e_ixL, e_ixT, e_ixS, e_yes, e_fn, e_call, e_callM, e_callT, e_listRg, e_sortedSet, ob_some, ob_none, W_ob, W_some, W_none, Int.reduceLT, Int.reduceLE, Int.reduceNeg, Int.reduceAdd, Int.reduceMul, Int.reduceSub, Nat.reduceLT, Nat.reduceLeDiff, Int.reduceToNat, W_ite, andN, ixN_0, ixN_1, ixN_2, ixN_3, at0, at1, at2, at3, isB, gSl, nameR, cont, slotC, setSlot, frz, retR, noBr, updSlot, ownC, zipD, plainE, itemsD, gAdd, gAddI, gSub, e_mulI, gMod, gDiv, gPow, gNeg, gLt, gLe, gGt, gGe, gLen, gAbs, gInt, gMax2, gMin2, gTuple, gList, gIsi, isTy, isNon, gIs, gIsNot, mAppend, headPm, noBrs, solidR, isBr, isLst, List.getElem?_cons_zero, List.getElem?_cons_succ, List.getElem?_nil, List.set_cons_zero, List.set_cons_succ, List.cons_append, List.nil_append, List.length_cons, List.length_nil, List.replicate_succ, List.replicate_zero, Nat.reduceAdd, Nat.reduceSub, List.map_cons, List.map_nil, List.all_cons, List.all_nil, List.any_cons, List.any_nil, Bool.and_true, Bool.true_and, Bool.or_true, Bool.true_or, Bool.false_or, Bool.or_false, Bool.not_true, Bool.not_false, Bool.false_eq_true, if_true, if_false, ite_true, ite_false, true_and, and_true, decide_eq_true_eq, Int.cast_ofNat_Int, decide_true, decide_false, ne_eq, reduceCtorEq, eq_self, not_true_eq_false, not_false_eq_true, false_implies, true_implies, implies_true, true_or, or_true, false_or, or_false, Bool.not_eq_true', decide_eq_false_iff_not, Option.bind_some, Option.bind_none, reduceIte, e_star, e_tupS, e_lstS, e_methA, e_append, e_isLst, e_extend, e_st, e_revT, e_revL, e_enum, enumD, e_rng3, e_rngT, e_fzI, fzS, hρ, l]
theorem back_ok {f : Int → Int} {n L : Nat} (h : Rb f n L) : g_back_of [.fz (rowD (rowF n f))] = some (.fz (rowD (rowF n (bf f))), [.no]) := by
  rw [back_x (by rw [h.len]; exact h.n1) (by rw [h.len]; exact h.n2) h.vals, bk_row h.per]
def mvH (n : Nat) (f : Int → Int) : D → D
  | .int a => rowD (rowF n (sh f a))
  | d => d
theorem moves_ok {f : Int → Int} {n L : Nat} (h : Rb f n L) : g_told_moves [.fz (rowD (rowF n f))] = some (.ow (.lst ((rngD 0 n).map (mvH n f))), [.no]) := by
  refine W.out ?_
  have n2 := h.n2
  have hl := h.len
  have hlm : ((rowF n f).map D.int).length = n := by rw [List.length_map, hl]
  have hs := sm1 (i := (n : Int)) (by omega)
  have hN : ((n : Nat) : Int).toNat = n := by omega
  unfold g_told_moves b_told_moves rowD
  simp -dsimp -implicitDefEqProofs only [e_lc, e_wipeN, e_wipeC, e_restN, e_restC, e_getD, e_seq, e_set, e_ret, e_retN, e_if, e_next, e_never, e_bk, e_ct, e_drop, e_asg, e_many, e_setIx, e_for, e_while, e_aug, e_test, e_andT, e_orT, e_notT, e_and, e_or, e_not, e_ifE, e_chain, e_name, e_c, e_op1, e_op2, e_opn, e_cons, e_nil, e_tup, e_lst, e_slice, e_partN, e_partS, e_gName, e_gNil, e_gCons, e_gTup, e_rng1, e_rngA, e_rng2, e_rngB, e_it, e_zip, e_contsN, e_contsC, e_frzsN, e_frzsC, e_normsN, e_normsC, e_normB, e_normF, e_normO, e_manyN, e_manyC, e_outsN, e_outsP, e_outsF, e_outN, e_outF, e_outO, e_ixL, e_ixT, e_ixS, e_yes, e_fn, e_call, e_callM, e_callT, e_listRg, e_sortedSet, ob_some, ob_none, W_ob, W_some, W_none, Int.reduceLT, Int.reduceLE, Int.reduceNeg, Int.reduceAdd, Int.reduceMul, Int.reduceSub, Nat.reduceLT, Nat.reduceLeDiff, Int.reduceToNat, W_ite, andN, ixN_0, ixN_1, ixN_2, ixN_3, at0, at1, at2, at3, isB, gSl, nameR, cont, slotC, setSlot, frz, retR, noBr, updSlot, ownC, zipD, plainE, itemsD, gAdd, gAddI, gSub, e_mulI, gMod, gDiv, gPow, gNeg, gLt, gLe, gGt, gGe, gLen, gAbs, gInt, gMax2, gMin2, gTuple, gList, gIsi, isTy, isNon, gIs, gIsNot, mAppend, headPm, noBrs, solidR, isBr, isLst, List.getElem?_cons_zero, List.getElem?_cons_succ, List.getElem?_nil, List.set_cons_zero, List.set_cons_succ, List.cons_append, List.nil_append, List.length_cons, List.length_nil, List.replicate_succ, List.replicate_zero, Nat.reduceAdd, Nat.reduceSub, List.map_cons, List.map_nil, List.all_cons, List.all_nil, List.any_cons, List.any_nil, Bool.and_true, Bool.true_and, Bool.or_true, Bool.true_or, Bool.false_or, Bool.or_false, Bool.not_true, Bool.not_false, Bool.false_eq_true, if_true, if_false, ite_true, ite_false, true_and, and_true, decide_eq_true_eq, Int.cast_ofNat_Int, decide_true, decide_false, ne_eq, reduceCtorEq, eq_self, not_true_eq_false, not_false_eq_true, false_implies, true_implies, implies_true, true_or, or_true, false_or, or_false, Bool.not_eq_true', decide_eq_false_iff_not, Option.bind_some, Option.bind_none, reduceIte, e_star, e_tupS, e_lstS, e_methA, e_append, e_isLst, e_extend, e_st, e_revT, e_revL, e_enum, enumD, e_rng3, e_rngT, e_fzI, fzS, hlm, hs, hN]
  refine lc_map (mvH n f) (fun d hd => ?_) fun ρ' hρ => ?_
  · obtain ⟨i, hi, rfl⟩ := rngD_mem.mp hd
    rw [Int.zero_add]
    have er : ((rowF n f).map D.int).drop i ++ ((rowF n f).map D.int).take i = (rowF n (sh f i)).map D.int := by
      rw [← List.map_drop, ← List.map_take, ← List.map_append, row_rot h.per (by omega)]
      rfl
    have el : (((rowF n f).map D.int).drop i).length + (((rowF n f).map D.int).take i).length ≤ sizeLine := by
      rw [List.length_drop, List.length_take, hlm, sizeLine_eq]
      omega
    simp -dsimp -implicitDefEqProofs only [e_lc, e_wipeN, e_wipeC, e_restN, e_restC, e_getD, e_seq, e_set, e_ret, e_retN, e_if, e_next, e_never, e_bk, e_ct, e_drop, e_asg, e_many, e_setIx, e_for, e_while, e_aug, e_test, e_andT, e_orT, e_notT, e_and, e_or, e_not, e_ifE, e_chain, e_name, e_c, e_op1, e_op2, e_opn, e_cons, e_nil, e_tup, e_lst, e_slice, e_partN, e_partS, e_gName, e_gNil, e_gCons, e_gTup, e_rng1, e_rngA, e_rng2, e_rngB, e_it, e_zip, e_contsN, e_contsC, e_frzsN, e_frzsC, e_normsN, e_normsC, e_normB, e_normF, e_normO, e_manyN, e_manyC, e_outsN, e_outsP, e_outsF, e_outN, e_outF, e_outO, e_ixL, e_ixT, e_ixS, e_yes, e_fn, e_call, e_callM, e_callT, e_listRg, e_sortedSet, ob_some, ob_none, W_ob, W_some, W_none, Int.reduceLT, Int.reduceLE, Int.reduceNeg, Int.reduceAdd, Int.reduceMul, Int.reduceSub, Nat.reduceLT, Nat.reduceLeDiff, Int.reduceToNat, W_ite, andN, ixN_0, ixN_1, ixN_2, ixN_3, at0, at1, at2, at3, isB, gSl, nameR, cont, slotC, setSlot, frz, retR, noBr, updSlot, ownC, zipD, plainE, itemsD, gAdd, gAddI, gSub, e_mulI, gMod, gDiv, gPow, gNeg, gLt, gLe, gGt, gGe, gLen, gAbs, gInt, gMax2, gMin2, gTuple, gList, gIsi, isTy, isNon, gIs, gIsNot, mAppend, headPm, noBrs, solidR, isBr, isLst, List.getElem?_cons_zero, List.getElem?_cons_succ, List.getElem?_nil, List.set_cons_zero, List.set_cons_succ, List.cons_append, List.nil_append, List.length_cons, List.length_nil, List.replicate_succ, List.replicate_zero, Nat.reduceAdd, Nat.reduceSub, List.map_cons, List.map_nil, List.all_cons, List.all_nil, List.any_cons, List.any_nil, Bool.and_true, Bool.true_and, Bool.or_true, Bool.true_or, Bool.false_or, Bool.or_false, Bool.not_true, Bool.not_false, Bool.false_eq_true, if_true, if_false, ite_true, ite_false, true_and, and_true, decide_eq_true_eq, Int.cast_ofNat_Int, decide_true, decide_false, ne_eq, reduceCtorEq, eq_self, not_true_eq_false, not_false_eq_true, false_implies, true_implies, implies_true, true_or, or_true, false_or, or_false, Bool.not_eq_true', decide_eq_false_iff_not, Option.bind_some, Option.bind_none, reduceIte, e_star, e_tupS, e_lstS, e_methA, e_append, e_isLst, e_extend, e_st, e_revT, e_revL, e_enum, enumD, e_rng3, e_rngT, e_fzI, fzS, cutD_from, cutD_to, er, el]
    rfl
  · have l : ((rngD 0 n).map (mvH n f)).length ≤ sizeLine := by rw [List.length_map, rngD_len, sizeLine_eq]; omega
    simp -dsimp -implicitDefEqProofs only [e_lc, e_wipeN, e_wipeC, e_restN, e_restC, e_getD, e_seq, e_set, e_ret, e_retN, e_if, e_next, e_never, e_bk, e_ct, e_drop, e_asg, e_many, e_setIx, e_for, e_while, e_aug, e_test, e_andT, e_orT, e_notT, e_and, e_or, e_not, e_ifE, e_chain, e_name, e_c, e_op1, e_op2, e_opn, e_cons, e_nil, e_tup, e_lst, e_slice, e_partN, e_partS, e_gName, e_gNil, e_gCons, e_gTup, e_rng1, e_rngA, e_rng2, e_rngB, e_it, e_zip, e_contsN, e_contsC, e_frzsN, e_frzsC, e_normsN, e_normsC, e_normB, e_normF, e_normO, e_manyN, e_manyC, e_outsN, e_outsP, e_outsF, e_outN, e_outF, e_outO, e_ixL, e_ixT, e_ixS, e_yes, e_fn, e_call, e_callM, e_callT, e_listRg, e_sortedSet, ob_some, ob_none, W_ob, W_some, W_none, Int.reduceLT, Int.reduceLE, Int.reduceNeg, Int.reduceAdd, Int.reduceMul, Int.reduceSub, Nat.reduceLT, Nat.reduceLeDiff, Int.reduceToNat, W_ite, andN, ixN_0, ixN_1, ixN_2, ixN_3, at0, at1, at2, at3, isB, gSl, nameR, cont, slotC, setSlot, frz, retR, noBr, updSlot, ownC, zipD, plainE, itemsD, gAdd, gAddI, gSub, e_mulI, gMod, gDiv, gPow, gNeg, gLt, gLe, gGt, gGe, gLen, gAbs, gInt, gMax2, gMin2, gTuple, gList, gIsi, isTy, isNon, gIs, gIsNot, mAppend, headPm, noBrs, solidR, isBr, isLst, List.getElem?_cons_zero, List.getElem?_cons_succ, List.getElem?_nil, List.set_cons_zero, List.set_cons_succ, List.cons_append, List.nil_append, List.length_cons, List.length_nil, List.replicate_succ, List.replicate_zero, Nat.reduceAdd, Nat.reduceSub, List.map_cons, List.map_nil, List.all_cons, List.all_nil, List.any_cons, List.any_nil, Bool.and_true, Bool.true_and, Bool.or_true, Bool.true_or, Bool.false_or, Bool.or_false, Bool.not_true, Bool.not_false, Bool.false_eq_true, if_true, if_false, ite_true, ite_false, true_and, and_true, decide_eq_true_eq, Int.cast_ofNat_Int, decide_true, decide_false, ne_eq, reduceCtorEq, eq_self, not_true_eq_false, not_false_eq_true, false_implies, true_implies, implies_true, true_or, or_true, false_or, or_false, Bool.not_eq_true', decide_eq_false_iff_not, Option.bind_some, Option.bind_none, reduceIte, e_star, e_tupS, e_lstS, e_methA, e_append, e_isLst, e_extend, e_st, e_revT, e_revL, e_enum, enumD, e_rng3, e_rngT, e_fzI, fzS, hρ, l]
/-- a rib among the moved ones -/
theorem in_moves {f g : Int → Int} {n m L M : Nat} (h : Rb f n L) (h' : Rb g m M) : ∃ b : Bool, gIn (rowD (rowF M g)) (.lst ((rngD 0 L).map (mvH L f))) = some (.fz (.bl b)) ∧ (b = true ↔ Same f g) := by
  have e0 : ((rngD 0 L).map (mvH L f)) = ((List.range L).map fun i : Nat => rowF L (sh f i)).map rowD := by
    unfold rngD
    rw [List.map_map, List.map_map]
    refine List.map_congr_left fun i hi => ?_
    show mvH L f (.int (0 + (i : Int))) = _
    rw [Int.zero_add]
    rfl
  rw [e0]
  have s1 : shp 8 (rowD (rowF M g)) = true := shp_row 7
  have s2 : shp 8 (.lst (((List.range L).map fun i : Nat => rowF L (sh f i)).map rowD)) = true := by
    show shpL 7 _ = true
    exact shp_rows 6 _
  refine ⟨_, by
    show ((if _ then _ else _ : Option Bool).bind _) = _
    rw [if_pos (.inr (by rw [s1, s2]; rfl))]
    rfl, ?_⟩
  rw [List.any_eq_true]
  have hq : ∀ r s : List Int, PyData.eqv (toPy (rowD r)) (toPy (rowD s)) = decide (r = s) := fun r s => eqvAll_ints r s
  constructor
  · rintro ⟨d, hd, he⟩
    obtain ⟨r, hr, rfl⟩ := List.mem_map.mp hd
    obtain ⟨i, hi, rfl⟩ := List.mem_map.mp hr
    rw [hq] at he
    have he := of_decide_eq_true he
    have eL : L = M := by
      have := congrArg List.length he
      rw [rowF_len, rowF_len] at this
      exact this
    subst eL
    exact ⟨i, funext fun x => (row_inj h.l0 (sh_per h.lper) h'.lper he x).symm⟩
  · rintro ⟨a, rfl⟩
    have eL : L = M := ((h.sh a).uniq h')
    subst eL
    have a1 := Int.emod_nonneg a (show (L : Int) ≠ 0 by have := h.l0; omega)
    have a2 := Int.emod_lt_of_pos a (show (0 : Int) < L by have := h.l0; omega)
    obtain ⟨i, ei⟩ := Int.eq_ofNat_of_zero_le a1
    refine ⟨rowD (rowF L (sh f i)), List.mem_map.mpr ⟨_, List.mem_map.mpr ⟨i, List.mem_range.mpr (by omega), rfl⟩, rfl⟩, ?_⟩
    rw [hq, ← ei, sh_mod h.lper]
    exact decide_eq_true rfl
theorem same_ok {f g : Int → Int} {n m L M : Nat} (h : Rb f n L) (h' : Rb g m M) : ∃ b : Bool, g_are_same_ribs [.fz (rowD (rowF n f)), .fz (rowD (rowF m g))] = some (.fz (.bl b), [.no, .no]) ∧ (b = true ↔ Same f g) := by
  obtain ⟨b, eb, hb⟩ := in_moves h h'
  refine ⟨b, W.out ?_, hb⟩
  have a1 := rib_ok h
  have a2 := rib_ok h'
  have t1 := told_least_ok h
  have t2 := told_least_ok h'
  have mo := moves_ok h.least
  unfold g_are_same_ribs b_are_same_ribs
  simp -dsimp -implicitDefEqProofs only [e_lc, e_wipeN, e_wipeC, e_restN, e_restC, e_getD, e_seq, e_set, e_ret, e_retN, e_if, e_next, e_never, e_bk, e_ct, e_drop, e_asg, e_many, e_setIx, e_for, e_while, e_aug, e_test, e_andT, e_orT, e_notT, e_and, e_or, e_not, e_ifE, e_chain, e_name, e_c, e_op1, e_op2, e_opn, e_cons, e_nil, e_tup, e_lst, e_slice, e_partN, e_partS, e_gName, e_gNil, e_gCons, e_gTup, e_rng1, e_rngA, e_rng2, e_rngB, e_it, e_zip, e_contsN, e_contsC, e_frzsN, e_frzsC, e_normsN, e_normsC, e_normB, e_normF, e_normO, e_manyN, e_manyC, e_outsN, e_outsP, e_outsF, e_outN, e_outF, e_outO, e_ixL, e_ixT, e_ixS, e_yes, e_fn, e_call, e_callM, e_callT, e_listRg, e_sortedSet, ob_some, ob_none, W_ob, W_some, W_none, Int.reduceLT, Int.reduceLE, Int.reduceNeg, Int.reduceAdd, Int.reduceMul, Int.reduceSub, Nat.reduceLT, Nat.reduceLeDiff, Int.reduceToNat, W_ite, andN, ixN_0, ixN_1, ixN_2, ixN_3, at0, at1, at2, at3, isB, gSl, nameR, cont, slotC, setSlot, frz, retR, noBr, updSlot, ownC, zipD, plainE, itemsD, gAdd, gAddI, gSub, e_mulI, gMod, gDiv, gPow, gNeg, gLt, gLe, gGt, gGe, gLen, gAbs, gInt, gMax2, gMin2, gTuple, gList, gIsi, isTy, isNon, gIs, gIsNot, mAppend, headPm, noBrs, solidR, isBr, isLst, List.getElem?_cons_zero, List.getElem?_cons_succ, List.getElem?_nil, List.set_cons_zero, List.set_cons_succ, List.cons_append, List.nil_append, List.length_cons, List.length_nil, List.replicate_succ, List.replicate_zero, Nat.reduceAdd, Nat.reduceSub, List.map_cons, List.map_nil, List.all_cons, List.all_nil, List.any_cons, List.any_nil, Bool.and_true, Bool.true_and, Bool.or_true, Bool.true_or, Bool.false_or, Bool.or_false, Bool.not_true, Bool.not_false, Bool.false_eq_true, if_true, if_false, ite_true, ite_false, true_and, and_true, decide_eq_true_eq, Int.cast_ofNat_Int, decide_true, decide_false, ne_eq, reduceCtorEq, eq_self, not_true_eq_false, not_false_eq_true, false_implies, true_implies, implies_true, true_or, or_true, false_or, or_false, Bool.not_eq_true', decide_eq_false_iff_not, Option.bind_some, Option.bind_none, reduceIte, e_star, e_tupS, e_lstS, e_methA, e_append, e_isLst, e_extend, e_st, e_revT, e_revL, e_enum, enumD, e_rng3, e_rngT, e_fzI, fzS, a1, a2, t1, t2, mo, eb]
theorem two_ok {f : Int → Int} {n L : Nat} (h : Rb f n L) : ∃ b : Bool, g_is_two_faced [.fz (rowD (rowF n f))] = some (.fz (.bl b), [.no]) ∧ (b = true ↔ Two f) := by
  obtain ⟨b, eb, hb⟩ := in_moves h.bf h
  refine ⟨b, W.out ?_, hb⟩
  have n2 := h.n2
  have hle := h.le
  have a1 := rib_ok h
  have t1 := told_least_ok h
  have mo := moves_ok h.bf.least
  unfold g_is_two_faced b_is_two_faced
  simp -dsimp -implicitDefEqProofs only [e_lc, e_wipeN, e_wipeC, e_restN, e_restC, e_getD, e_seq, e_set, e_ret, e_retN, e_if, e_next, e_never, e_bk, e_ct, e_drop, e_asg, e_many, e_setIx, e_for, e_while, e_aug, e_test, e_andT, e_orT, e_notT, e_and, e_or, e_not, e_ifE, e_chain, e_name, e_c, e_op1, e_op2, e_opn, e_cons, e_nil, e_tup, e_lst, e_slice, e_partN, e_partS, e_gName, e_gNil, e_gCons, e_gTup, e_rng1, e_rngA, e_rng2, e_rngB, e_it, e_zip, e_contsN, e_contsC, e_frzsN, e_frzsC, e_normsN, e_normsC, e_normB, e_normF, e_normO, e_manyN, e_manyC, e_outsN, e_outsP, e_outsF, e_outN, e_outF, e_outO, e_ixL, e_ixT, e_ixS, e_yes, e_fn, e_call, e_callM, e_callT, e_listRg, e_sortedSet, ob_some, ob_none, W_ob, W_some, W_none, Int.reduceLT, Int.reduceLE, Int.reduceNeg, Int.reduceAdd, Int.reduceMul, Int.reduceSub, Nat.reduceLT, Nat.reduceLeDiff, Int.reduceToNat, W_ite, andN, ixN_0, ixN_1, ixN_2, ixN_3, at0, at1, at2, at3, isB, gSl, nameR, cont, slotC, setSlot, frz, retR, noBr, updSlot, ownC, zipD, plainE, itemsD, gAdd, gAddI, gSub, e_mulI, gMod, gDiv, gPow, gNeg, gLt, gLe, gGt, gGe, gLen, gAbs, gInt, gMax2, gMin2, gTuple, gList, gIsi, isTy, isNon, gIs, gIsNot, mAppend, headPm, noBrs, solidR, isBr, isLst, List.getElem?_cons_zero, List.getElem?_cons_succ, List.getElem?_nil, List.set_cons_zero, List.set_cons_succ, List.cons_append, List.nil_append, List.length_cons, List.length_nil, List.replicate_succ, List.replicate_zero, Nat.reduceAdd, Nat.reduceSub, List.map_cons, List.map_nil, List.all_cons, List.all_nil, List.any_cons, List.any_nil, Bool.and_true, Bool.true_and, Bool.or_true, Bool.true_or, Bool.false_or, Bool.or_false, Bool.not_true, Bool.not_false, Bool.false_eq_true, if_true, if_false, ite_true, ite_false, true_and, and_true, decide_eq_true_eq, Int.cast_ofNat_Int, decide_true, decide_false, ne_eq, reduceCtorEq, eq_self, not_true_eq_false, not_false_eq_true, false_implies, true_implies, implies_true, true_or, or_true, false_or, or_false, Bool.not_eq_true', decide_eq_false_iff_not, Option.bind_some, Option.bind_none, reduceIte, e_star, e_tupS, e_lstS, e_methA, e_append, e_isLst, e_extend, e_st, e_revT, e_revL, e_enum, enumD, e_rng3, e_rngT, e_fzI, fzS, a1, t1]
  unfold rowD at mo eb ⊢
  simp -dsimp -implicitDefEqProofs only [e_lc, e_wipeN, e_wipeC, e_restN, e_restC, e_getD, e_seq, e_set, e_ret, e_retN, e_if, e_next, e_never, e_bk, e_ct, e_drop, e_asg, e_many, e_setIx, e_for, e_while, e_aug, e_test, e_andT, e_orT, e_notT, e_and, e_or, e_not, e_ifE, e_chain, e_name, e_c, e_op1, e_op2, e_opn, e_cons, e_nil, e_tup, e_lst, e_slice, e_partN, e_partS, e_gName, e_gNil, e_gCons, e_gTup, e_rng1, e_rngA, e_rng2, e_rngB, e_it, e_zip, e_contsN, e_contsC, e_frzsN, e_frzsC, e_normsN, e_normsC, e_normB, e_normF, e_normO, e_manyN, e_manyC, e_outsN, e_outsP, e_outsF, e_outN, e_outF, e_outO, e_ixL, e_ixT, e_ixS, e_yes, e_fn, e_call, e_callM, e_callT, e_listRg, e_sortedSet, ob_some, ob_none, W_ob, W_some, W_none, Int.reduceLT, Int.reduceLE, Int.reduceNeg, Int.reduceAdd, Int.reduceMul, Int.reduceSub, Nat.reduceLT, Nat.reduceLeDiff, Int.reduceToNat, W_ite, andN, ixN_0, ixN_1, ixN_2, ixN_3, at0, at1, at2, at3, isB, gSl, nameR, cont, slotC, setSlot, frz, retR, noBr, updSlot, ownC, zipD, plainE, itemsD, gAdd, gAddI, gSub, e_mulI, gMod, gDiv, gPow, gNeg, gLt, gLe, gGt, gGe, gLen, gAbs, gInt, gMax2, gMin2, gTuple, gList, gIsi, isTy, isNon, gIs, gIsNot, mAppend, headPm, noBrs, solidR, isBr, isLst, List.getElem?_cons_zero, List.getElem?_cons_succ, List.getElem?_nil, List.set_cons_zero, List.set_cons_succ, List.cons_append, List.nil_append, List.length_cons, List.length_nil, List.replicate_succ, List.replicate_zero, Nat.reduceAdd, Nat.reduceSub, List.map_cons, List.map_nil, List.all_cons, List.all_nil, List.any_cons, List.any_nil, Bool.and_true, Bool.true_and, Bool.or_true, Bool.true_or, Bool.false_or, Bool.or_false, Bool.not_true, Bool.not_false, Bool.false_eq_true, if_true, if_false, ite_true, ite_false, true_and, and_true, decide_eq_true_eq, Int.cast_ofNat_Int, decide_true, decide_false, ne_eq, reduceCtorEq, eq_self, not_true_eq_false, not_false_eq_true, false_implies, true_implies, implies_true, true_or, or_true, false_or, or_false, Bool.not_eq_true', decide_eq_false_iff_not, Option.bind_some, Option.bind_none, reduceIte, e_star, e_tupS, e_lstS, e_methA, e_append, e_isLst, e_extend, e_st, e_revT, e_revL, e_enum, enumD, e_rng3, e_rngT, e_fzI, fzS]
  refine lc_map negH (fun d hd => ?_) fun ρ' hρ => ?_
  · obtain ⟨v, hv', rfl⟩ := List.mem_map.mp (List.mem_reverse.mp hd)
    obtain ⟨v1, v2⟩ := h.least.vals v hv'
    simp -dsimp -implicitDefEqProofs only [e_lc, e_wipeN, e_wipeC, e_restN, e_restC, e_getD, e_seq, e_set, e_ret, e_retN, e_if, e_next, e_never, e_bk, e_ct, e_drop, e_asg, e_many, e_setIx, e_for, e_while, e_aug, e_test, e_andT, e_orT, e_notT, e_and, e_or, e_not, e_ifE, e_chain, e_name, e_c, e_op1, e_op2, e_opn, e_cons, e_nil, e_tup, e_lst, e_slice, e_partN, e_partS, e_gName, e_gNil, e_gCons, e_gTup, e_rng1, e_rngA, e_rng2, e_rngB, e_it, e_zip, e_contsN, e_contsC, e_frzsN, e_frzsC, e_normsN, e_normsC, e_normB, e_normF, e_normO, e_manyN, e_manyC, e_outsN, e_outsP, e_outsF, e_outN, e_outF, e_outO, e_ixL, e_ixT, e_ixS, e_yes, e_fn, e_call, e_callM, e_callT, e_listRg, e_sortedSet, ob_some, ob_none, W_ob, W_some, W_none, Int.reduceLT, Int.reduceLE, Int.reduceNeg, Int.reduceAdd, Int.reduceMul, Int.reduceSub, Nat.reduceLT, Nat.reduceLeDiff, Int.reduceToNat, W_ite, andN, ixN_0, ixN_1, ixN_2, ixN_3, at0, at1, at2, at3, isB, gSl, nameR, cont, slotC, setSlot, frz, retR, noBr, updSlot, ownC, zipD, plainE, itemsD, gAdd, gAddI, gSub, e_mulI, gMod, gDiv, gPow, gNeg, gLt, gLe, gGt, gGe, gLen, gAbs, gInt, gMax2, gMin2, gTuple, gList, gIsi, isTy, isNon, gIs, gIsNot, mAppend, headPm, noBrs, solidR, isBr, isLst, List.getElem?_cons_zero, List.getElem?_cons_succ, List.getElem?_nil, List.set_cons_zero, List.set_cons_succ, List.cons_append, List.nil_append, List.length_cons, List.length_nil, List.replicate_succ, List.replicate_zero, Nat.reduceAdd, Nat.reduceSub, List.map_cons, List.map_nil, List.all_cons, List.all_nil, List.any_cons, List.any_nil, Bool.and_true, Bool.true_and, Bool.or_true, Bool.true_or, Bool.false_or, Bool.or_false, Bool.not_true, Bool.not_false, Bool.false_eq_true, if_true, if_false, ite_true, ite_false, true_and, and_true, decide_eq_true_eq, Int.cast_ofNat_Int, decide_true, decide_false, ne_eq, reduceCtorEq, eq_self, not_true_eq_false, not_false_eq_true, false_implies, true_implies, implies_true, true_or, or_true, false_or, or_false, Bool.not_eq_true', decide_eq_false_iff_not, Option.bind_some, Option.bind_none, reduceIte, e_star, e_tupS, e_lstS, e_methA, e_append, e_isLst, e_extend, e_st, e_revT, e_revL, e_enum, enumD, e_rng3, e_rngT, e_fzI, fzS]
    rfl
  · have l : ((rowF L (bf f)).map D.int).length ≤ sizeLine := by rw [List.length_map, rowF_len, sizeLine_eq]; omega
    rw [neg_map, bk_row h.lper]
    simp -dsimp -implicitDefEqProofs only [e_lc, e_wipeN, e_wipeC, e_restN, e_restC, e_getD, e_seq, e_set, e_ret, e_retN, e_if, e_next, e_never, e_bk, e_ct, e_drop, e_asg, e_many, e_setIx, e_for, e_while, e_aug, e_test, e_andT, e_orT, e_notT, e_and, e_or, e_not, e_ifE, e_chain, e_name, e_c, e_op1, e_op2, e_opn, e_cons, e_nil, e_tup, e_lst, e_slice, e_partN, e_partS, e_gName, e_gNil, e_gCons, e_gTup, e_rng1, e_rngA, e_rng2, e_rngB, e_it, e_zip, e_contsN, e_contsC, e_frzsN, e_frzsC, e_normsN, e_normsC, e_normB, e_normF, e_normO, e_manyN, e_manyC, e_outsN, e_outsP, e_outsF, e_outN, e_outF, e_outO, e_ixL, e_ixT, e_ixS, e_yes, e_fn, e_call, e_callM, e_callT, e_listRg, e_sortedSet, ob_some, ob_none, W_ob, W_some, W_none, Int.reduceLT, Int.reduceLE, Int.reduceNeg, Int.reduceAdd, Int.reduceMul, Int.reduceSub, Nat.reduceLT, Nat.reduceLeDiff, Int.reduceToNat, W_ite, andN, ixN_0, ixN_1, ixN_2, ixN_3, at0, at1, at2, at3, isB, gSl, nameR, cont, slotC, setSlot, frz, retR, noBr, updSlot, ownC, zipD, plainE, itemsD, gAdd, gAddI, gSub, e_mulI, gMod, gDiv, gPow, gNeg, gLt, gLe, gGt, gGe, gLen, gAbs, gInt, gMax2, gMin2, gTuple, gList, gIsi, isTy, isNon, gIs, gIsNot, mAppend, headPm, noBrs, solidR, isBr, isLst, List.getElem?_cons_zero, List.getElem?_cons_succ, List.getElem?_nil, List.set_cons_zero, List.set_cons_succ, List.cons_append, List.nil_append, List.length_cons, List.length_nil, List.replicate_succ, List.replicate_zero, Nat.reduceAdd, Nat.reduceSub, List.map_cons, List.map_nil, List.all_cons, List.all_nil, List.any_cons, List.any_nil, Bool.and_true, Bool.true_and, Bool.or_true, Bool.true_or, Bool.false_or, Bool.or_false, Bool.not_true, Bool.not_false, Bool.false_eq_true, if_true, if_false, ite_true, ite_false, true_and, and_true, decide_eq_true_eq, Int.cast_ofNat_Int, decide_true, decide_false, ne_eq, reduceCtorEq, eq_self, not_true_eq_false, not_false_eq_true, false_implies, true_implies, implies_true, true_or, or_true, false_or, or_false, Bool.not_eq_true', decide_eq_false_iff_not, Option.bind_some, Option.bind_none, reduceIte, e_star, e_tupS, e_lstS, e_methA, e_append, e_isLst, e_extend, e_st, e_revT, e_revL, e_enum, enumD, e_rng3, e_rngT, e_fzI, fzS, hρ, l, mo, eb]
end Lw

namespace Lw
open PySem Pu
/-- a stitch, round and round -/
theorem ix_row {f : Int → Int} {n : Nat} (hn : 0 < n) (hp : Per f n) (i : Int) : L2.atI ((rowF n f).map D.int) (i % (n : Int)) = some (.int (f i)) := by
  have a1 := Int.emod_nonneg i (show (n : Int) ≠ 0 by omega)
  have a2 := Int.emod_lt_of_pos i (show (0 : Int) < n by omega)
  obtain ⟨m, em⟩ := Int.eq_ofNat_of_zero_le a1
  refine at_get em ?_
  rw [List.getElem?_map, rowF_get (by omega), ← em, hp.at_mod]
  rfl
def unC (f g : Int → Int) (s : Int) : D → Bool
  | .int i => decide (f i ≠ g (i + s))
  | _ => false
theorem un_len (f g : Int → Int) (s : Int) (w : Nat) : ((rngD 0 w).filter (unC f g s)).length = U f g w s := by
  unfold rngD U
  rw [List.filter_map, List.length_map]
  congr 1
  refine List.filter_congr fun i hi => ?_
  show unC f g s (.int (0 + (i : Int))) = _
  rw [Int.zero_add]
  rfl
theorem ribs_ok {f g : Int → Int} {n m L M : Nat} (h : Rb f n L) (h' : Rb g m M) {w : Nat} (w2 : w ≤ 600) : g_look_at_ribs [.fz (rowD (rowF n f)), .fz (rowD (rowF m g)), .fz (.int w)] = some (.fz .non, [.no, .no, .no]) := by
  refine W.out ?_
  have a1 := rib_ok h
  have a2 := rib_ok h'
  unfold g_look_at_ribs b_look_at_ribs
  simp -dsimp -implicitDefEqProofs only [e_lc, e_wipeN, e_wipeC, e_restN, e_restC, e_getD, e_seq, e_set, e_ret, e_retN, e_if, e_next, e_never, e_bk, e_ct, e_drop, e_asg, e_many, e_setIx, e_for, e_while, e_aug, e_test, e_andT, e_orT, e_notT, e_and, e_or, e_not, e_ifE, e_chain, e_name, e_c, e_op1, e_op2, e_opn, e_cons, e_nil, e_tup, e_lst, e_slice, e_partN, e_partS, e_gName, e_gNil, e_gCons, e_gTup, e_rng1, e_rngA, e_rng2, e_rngB, e_it, e_zip, e_contsN, e_contsC, e_frzsN, e_frzsC, e_normsN, e_normsC, e_normB, e_normF, e_normO, e_manyN, e_manyC, e_outsN, e_outsP, e_outsF, e_outN, e_outF, e_outO, e_ixL, e_ixT, e_ixS, e_yes, e_fn, e_call, e_callM, e_callT, e_listRg, e_sortedSet, ob_some, ob_none, W_ob, W_some, W_none, Int.reduceLT, Int.reduceLE, Int.reduceNeg, Int.reduceAdd, Int.reduceMul, Int.reduceSub, Nat.reduceLT, Nat.reduceLeDiff, Int.reduceToNat, W_ite, andN, ixN_0, ixN_1, ixN_2, ixN_3, at0, at1, at2, at3, isB, gSl, nameR, cont, slotC, setSlot, frz, retR, noBr, updSlot, ownC, zipD, plainE, itemsD, gAdd, gAddI, gSub, e_mulI, gMod, gDiv, gPow, gNeg, gLt, gLe, gGt, gGe, gLen, gAbs, gInt, gMax2, gMin2, gTuple, gList, gIsi, isTy, isNon, gIs, gIsNot, mAppend, headPm, noBrs, solidR, isBr, isLst, List.getElem?_cons_zero, List.getElem?_cons_succ, List.getElem?_nil, List.set_cons_zero, List.set_cons_succ, List.cons_append, List.nil_append, List.length_cons, List.length_nil, List.replicate_succ, List.replicate_zero, Nat.reduceAdd, Nat.reduceSub, List.map_cons, List.map_nil, List.all_cons, List.all_nil, List.any_cons, List.any_nil, Bool.and_true, Bool.true_and, Bool.or_true, Bool.true_or, Bool.false_or, Bool.or_false, Bool.not_true, Bool.not_false, Bool.false_eq_true, if_true, if_false, ite_true, ite_false, true_and, and_true, decide_eq_true_eq, Int.cast_ofNat_Int, decide_true, decide_false, ne_eq, reduceCtorEq, eq_self, not_true_eq_false, not_false_eq_true, false_implies, true_implies, implies_true, true_or, or_true, false_or, or_false, Bool.not_eq_true', decide_eq_false_iff_not, Option.bind_some, Option.bind_none, reduceIte, e_star, e_tupS, e_lstS, e_methA, e_append, e_isLst, e_extend, e_st, e_revT, e_revL, e_enum, enumD, e_rng3, e_rngT, e_fzI, fzS, a1, a2, is_int_g]
  refine W.eq (isInt_ok (by omega) (by omega)) ?_
  simp -dsimp -implicitDefEqProofs only [e_lc, e_wipeN, e_wipeC, e_restN, e_restC, e_getD, e_seq, e_set, e_ret, e_retN, e_if, e_next, e_never, e_bk, e_ct, e_drop, e_asg, e_many, e_setIx, e_for, e_while, e_aug, e_test, e_andT, e_orT, e_notT, e_and, e_or, e_not, e_ifE, e_chain, e_name, e_c, e_op1, e_op2, e_opn, e_cons, e_nil, e_tup, e_lst, e_slice, e_partN, e_partS, e_gName, e_gNil, e_gCons, e_gTup, e_rng1, e_rngA, e_rng2, e_rngB, e_it, e_zip, e_contsN, e_contsC, e_frzsN, e_frzsC, e_normsN, e_normsC, e_normB, e_normF, e_normO, e_manyN, e_manyC, e_outsN, e_outsP, e_outsF, e_outN, e_outF, e_outO, e_ixL, e_ixT, e_ixS, e_yes, e_fn, e_call, e_callM, e_callT, e_listRg, e_sortedSet, ob_some, ob_none, W_ob, W_some, W_none, Int.reduceLT, Int.reduceLE, Int.reduceNeg, Int.reduceAdd, Int.reduceMul, Int.reduceSub, Nat.reduceLT, Nat.reduceLeDiff, Int.reduceToNat, W_ite, andN, ixN_0, ixN_1, ixN_2, ixN_3, at0, at1, at2, at3, isB, gSl, nameR, cont, slotC, setSlot, frz, retR, noBr, updSlot, ownC, zipD, plainE, itemsD, gAdd, gAddI, gSub, e_mulI, gMod, gDiv, gPow, gNeg, gLt, gLe, gGt, gGe, gLen, gAbs, gInt, gMax2, gMin2, gTuple, gList, gIsi, isTy, isNon, gIs, gIsNot, mAppend, headPm, noBrs, solidR, isBr, isLst, List.getElem?_cons_zero, List.getElem?_cons_succ, List.getElem?_nil, List.set_cons_zero, List.set_cons_succ, List.cons_append, List.nil_append, List.length_cons, List.length_nil, List.replicate_succ, List.replicate_zero, Nat.reduceAdd, Nat.reduceSub, List.map_cons, List.map_nil, List.all_cons, List.all_nil, List.any_cons, List.any_nil, Bool.and_true, Bool.true_and, Bool.or_true, Bool.true_or, Bool.false_or, Bool.or_false, Bool.not_true, Bool.not_false, Bool.false_eq_true, if_true, if_false, ite_true, ite_false, true_and, and_true, decide_eq_true_eq, Int.cast_ofNat_Int, decide_true, decide_false, ne_eq, reduceCtorEq, eq_self, not_true_eq_false, not_false_eq_true, false_implies, true_implies, implies_true, true_or, or_true, false_or, or_false, Bool.not_eq_true', decide_eq_false_iff_not, Option.bind_some, Option.bind_none, reduceIte, e_star, e_tupS, e_lstS, e_methA, e_append, e_isLst, e_extend, e_st, e_revT, e_revL, e_enum, enumD, e_rng3, e_rngT, e_fzI, fzS]
theorem unlike_ok {f g : Int → Int} {n m L M : Nat} (h : Rb f n L) (h' : Rb g m M) {w : Nat} (w2 : w ≤ 600) {s : Int} (s1 : -1000 ≤ s) (s2 : s ≤ 1000) : g_told_unlike [.fz (rowD (rowF n f)), .fz (rowD (rowF m g)), .fz (.int w), .fz (.int s)] = some (.fz (.int (U f g w s)), [.no, .no, .no, .no]) := by
  refine W.out ?_
  have n1 := h.n1
  have m1 := h'.n1
  have n2 := h.n2
  have m2 := h'.n2
  have hn0 : (0 : Int) < n := by omega
  have hm0 : (0 : Int) < m := by omega
  have hl1 : ((rowF n f).map D.int).length = n := by rw [List.length_map, rowF_len]
  have hl2 : ((rowF m g).map D.int).length = m := by rw [List.length_map, rowF_len]
  have sw := sm1 (i := (w : Int)) (by omega)
  have tw : ((w : Nat) : Int).toNat = w := by omega
  unfold g_told_unlike b_told_unlike rowD
  simp -dsimp -implicitDefEqProofs only [e_lc, e_wipeN, e_wipeC, e_restN, e_restC, e_getD, e_seq, e_set, e_ret, e_retN, e_if, e_next, e_never, e_bk, e_ct, e_drop, e_asg, e_many, e_setIx, e_for, e_while, e_aug, e_test, e_andT, e_orT, e_notT, e_and, e_or, e_not, e_ifE, e_chain, e_name, e_c, e_op1, e_op2, e_opn, e_cons, e_nil, e_tup, e_lst, e_slice, e_partN, e_partS, e_gName, e_gNil, e_gCons, e_gTup, e_rng1, e_rngA, e_rng2, e_rngB, e_it, e_zip, e_contsN, e_contsC, e_frzsN, e_frzsC, e_normsN, e_normsC, e_normB, e_normF, e_normO, e_manyN, e_manyC, e_outsN, e_outsP, e_outsF, e_outN, e_outF, e_outO, e_ixL, e_ixT, e_ixS, e_yes, e_fn, e_call, e_callM, e_callT, e_listRg, e_sortedSet, ob_some, ob_none, W_ob, W_some, W_none, Int.reduceLT, Int.reduceLE, Int.reduceNeg, Int.reduceAdd, Int.reduceMul, Int.reduceSub, Nat.reduceLT, Nat.reduceLeDiff, Int.reduceToNat, W_ite, andN, ixN_0, ixN_1, ixN_2, ixN_3, at0, at1, at2, at3, isB, gSl, nameR, cont, slotC, setSlot, frz, retR, noBr, updSlot, ownC, zipD, plainE, itemsD, gAdd, gAddI, gSub, e_mulI, gMod, gDiv, gPow, gNeg, gLt, gLe, gGt, gGe, gLen, gAbs, gInt, gMax2, gMin2, gTuple, gList, gIsi, isTy, isNon, gIs, gIsNot, mAppend, headPm, noBrs, solidR, isBr, isLst, List.getElem?_cons_zero, List.getElem?_cons_succ, List.getElem?_nil, List.set_cons_zero, List.set_cons_succ, List.cons_append, List.nil_append, List.length_cons, List.length_nil, List.replicate_succ, List.replicate_zero, Nat.reduceAdd, Nat.reduceSub, List.map_cons, List.map_nil, List.all_cons, List.all_nil, List.any_cons, List.any_nil, Bool.and_true, Bool.true_and, Bool.or_true, Bool.true_or, Bool.false_or, Bool.or_false, Bool.not_true, Bool.not_false, Bool.false_eq_true, if_true, if_false, ite_true, ite_false, true_and, and_true, decide_eq_true_eq, Int.cast_ofNat_Int, decide_true, decide_false, ne_eq, reduceCtorEq, eq_self, not_true_eq_false, not_false_eq_true, false_implies, true_implies, implies_true, true_or, or_true, false_or, or_false, Bool.not_eq_true', decide_eq_false_iff_not, Option.bind_some, Option.bind_none, reduceIte, e_star, e_tupS, e_lstS, e_methA, e_append, e_isLst, e_extend, e_st, e_revT, e_revL, e_enum, enumD, e_rng3, e_rngT, e_fzI, fzS, sw, tw]
  refine lc_pure (unC f g s) id (fun d hd => ?_) fun ρ' hρ => ?_
  · obtain ⟨i, hi, rfl⟩ := rngD_mem.mp hd
    rw [Int.zero_add]
    have x1 := ix_row n1 h.per (i : Int)
    have x2 := ix_row m1 h'.per ((i : Int) + s)
    have d1 := div_ok (j := (n : Int)) (n := 100) (by omega) (Bd.of (by omega) (by omega))
    have d2 := div_ok (j := (m : Int)) (n := 100) (by omega) (Bd.of (by omega) (by omega))
    have eu : unC f g s (.int (i : Int)) = decide (f i ≠ g ((i : Int) + s)) := rfl
    rw [eu]
    simp -dsimp -implicitDefEqProofs only [e_lc, e_wipeN, e_wipeC, e_restN, e_restC, e_getD, e_seq, e_set, e_ret, e_retN, e_if, e_next, e_never, e_bk, e_ct, e_drop, e_asg, e_many, e_setIx, e_for, e_while, e_aug, e_test, e_andT, e_orT, e_notT, e_and, e_or, e_not, e_ifE, e_chain, e_name, e_c, e_op1, e_op2, e_opn, e_cons, e_nil, e_tup, e_lst, e_slice, e_partN, e_partS, e_gName, e_gNil, e_gCons, e_gTup, e_rng1, e_rngA, e_rng2, e_rngB, e_it, e_zip, e_contsN, e_contsC, e_frzsN, e_frzsC, e_normsN, e_normsC, e_normB, e_normF, e_normO, e_manyN, e_manyC, e_outsN, e_outsP, e_outsF, e_outN, e_outF, e_outO, e_ixL, e_ixT, e_ixS, e_yes, e_fn, e_call, e_callM, e_callT, e_listRg, e_sortedSet, ob_some, ob_none, W_ob, W_some, W_none, Int.reduceLT, Int.reduceLE, Int.reduceNeg, Int.reduceAdd, Int.reduceMul, Int.reduceSub, Nat.reduceLT, Nat.reduceLeDiff, Int.reduceToNat, W_ite, andN, ixN_0, ixN_1, ixN_2, ixN_3, at0, at1, at2, at3, isB, gSl, nameR, cont, slotC, setSlot, frz, retR, noBr, updSlot, ownC, zipD, plainE, itemsD, gAdd, gAddI, gSub, e_mulI, gMod, gDiv, gPow, gNeg, gLt, gLe, gGt, gGe, gLen, gAbs, gInt, gMax2, gMin2, gTuple, gList, gIsi, isTy, isNon, gIs, gIsNot, mAppend, headPm, noBrs, solidR, isBr, isLst, List.getElem?_cons_zero, List.getElem?_cons_succ, List.getElem?_nil, List.set_cons_zero, List.set_cons_succ, List.cons_append, List.nil_append, List.length_cons, List.length_nil, List.replicate_succ, List.replicate_zero, Nat.reduceAdd, Nat.reduceSub, List.map_cons, List.map_nil, List.all_cons, List.all_nil, List.any_cons, List.any_nil, Bool.and_true, Bool.true_and, Bool.or_true, Bool.true_or, Bool.false_or, Bool.or_false, Bool.not_true, Bool.not_false, Bool.false_eq_true, if_true, if_false, ite_true, ite_false, true_and, and_true, decide_eq_true_eq, Int.cast_ofNat_Int, decide_true, decide_false, ne_eq, reduceCtorEq, eq_self, not_true_eq_false, not_false_eq_true, false_implies, true_implies, implies_true, true_or, or_true, false_or, or_false, Bool.not_eq_true', decide_eq_false_iff_not, Option.bind_some, Option.bind_none, reduceIte, e_star, e_tupS, e_lstS, e_methA, e_append, e_isLst, e_extend, e_st, e_revT, e_revL, e_enum, enumD, e_rng3, e_rngT, e_fzI, fzS, hl1, hl2, x1, x2, d1, d2, hn0, hm0, gn_int]
    exact fun _ => rfl
  · have l : ((rngD 0 w).filter (unC f g s)).length ≤ sizeLine := by
      refine Nat.le_trans (List.length_filter_le _ _) ?_
      rw [rngD_len, sizeLine_eq]
      omega
    rw [List.map_id]
    rw [un_len] at l
    simp -dsimp -implicitDefEqProofs only [e_lc, e_wipeN, e_wipeC, e_restN, e_restC, e_getD, e_seq, e_set, e_ret, e_retN, e_if, e_next, e_never, e_bk, e_ct, e_drop, e_asg, e_many, e_setIx, e_for, e_while, e_aug, e_test, e_andT, e_orT, e_notT, e_and, e_or, e_not, e_ifE, e_chain, e_name, e_c, e_op1, e_op2, e_opn, e_cons, e_nil, e_tup, e_lst, e_slice, e_partN, e_partS, e_gName, e_gNil, e_gCons, e_gTup, e_rng1, e_rngA, e_rng2, e_rngB, e_it, e_zip, e_contsN, e_contsC, e_frzsN, e_frzsC, e_normsN, e_normsC, e_normB, e_normF, e_normO, e_manyN, e_manyC, e_outsN, e_outsP, e_outsF, e_outN, e_outF, e_outO, e_ixL, e_ixT, e_ixS, e_yes, e_fn, e_call, e_callM, e_callT, e_listRg, e_sortedSet, ob_some, ob_none, W_ob, W_some, W_none, Int.reduceLT, Int.reduceLE, Int.reduceNeg, Int.reduceAdd, Int.reduceMul, Int.reduceSub, Nat.reduceLT, Nat.reduceLeDiff, Int.reduceToNat, W_ite, andN, ixN_0, ixN_1, ixN_2, ixN_3, at0, at1, at2, at3, isB, gSl, nameR, cont, slotC, setSlot, frz, retR, noBr, updSlot, ownC, zipD, plainE, itemsD, gAdd, gAddI, gSub, e_mulI, gMod, gDiv, gPow, gNeg, gLt, gLe, gGt, gGe, gLen, gAbs, gInt, gMax2, gMin2, gTuple, gList, gIsi, isTy, isNon, gIs, gIsNot, mAppend, headPm, noBrs, solidR, isBr, isLst, List.getElem?_cons_zero, List.getElem?_cons_succ, List.getElem?_nil, List.set_cons_zero, List.set_cons_succ, List.cons_append, List.nil_append, List.length_cons, List.length_nil, List.replicate_succ, List.replicate_zero, Nat.reduceAdd, Nat.reduceSub, List.map_cons, List.map_nil, List.all_cons, List.all_nil, List.any_cons, List.any_nil, Bool.and_true, Bool.true_and, Bool.or_true, Bool.true_or, Bool.false_or, Bool.or_false, Bool.not_true, Bool.not_false, Bool.false_eq_true, if_true, if_false, ite_true, ite_false, true_and, and_true, decide_eq_true_eq, Int.cast_ofNat_Int, decide_true, decide_false, ne_eq, reduceCtorEq, eq_self, not_true_eq_false, not_false_eq_true, false_implies, true_implies, implies_true, true_or, or_true, false_or, or_false, Bool.not_eq_true', decide_eq_false_iff_not, Option.bind_some, Option.bind_none, reduceIte, e_star, e_tupS, e_lstS, e_methA, e_append, e_isLst, e_extend, e_st, e_revT, e_revL, e_enum, enumD, e_rng3, e_rngT, e_fzI, fzS, hρ, un_len, l]
theorem unlikeS_ok {f g : Int → Int} {n m L M : Nat} (h : Rb f n L) (h' : Rb g m M) {w : Nat} (w2 : w ≤ 600) {s : Int} (s1 : 0 ≤ s) (s2 : s ≤ 600) : g_unlike_stitches [.fz (rowD (rowF n f)), .fz (rowD (rowF m g)), .fz (.int w), .fz (.int s)] = some (.fz (.int (U f g w s)), [.no, .no, .no, .no]) := by
  refine W.out ?_
  have a1 := ribs_ok h h' w2
  have a2 := unlike_ok h h' w2 (s := s) (by omega) (by omega)
  unfold g_unlike_stitches b_unlike_stitches
  simp -dsimp -implicitDefEqProofs only [e_lc, e_wipeN, e_wipeC, e_restN, e_restC, e_getD, e_seq, e_set, e_ret, e_retN, e_if, e_next, e_never, e_bk, e_ct, e_drop, e_asg, e_many, e_setIx, e_for, e_while, e_aug, e_test, e_andT, e_orT, e_notT, e_and, e_or, e_not, e_ifE, e_chain, e_name, e_c, e_op1, e_op2, e_opn, e_cons, e_nil, e_tup, e_lst, e_slice, e_partN, e_partS, e_gName, e_gNil, e_gCons, e_gTup, e_rng1, e_rngA, e_rng2, e_rngB, e_it, e_zip, e_contsN, e_contsC, e_frzsN, e_frzsC, e_normsN, e_normsC, e_normB, e_normF, e_normO, e_manyN, e_manyC, e_outsN, e_outsP, e_outsF, e_outN, e_outF, e_outO, e_ixL, e_ixT, e_ixS, e_yes, e_fn, e_call, e_callM, e_callT, e_listRg, e_sortedSet, ob_some, ob_none, W_ob, W_some, W_none, Int.reduceLT, Int.reduceLE, Int.reduceNeg, Int.reduceAdd, Int.reduceMul, Int.reduceSub, Nat.reduceLT, Nat.reduceLeDiff, Int.reduceToNat, W_ite, andN, ixN_0, ixN_1, ixN_2, ixN_3, at0, at1, at2, at3, isB, gSl, nameR, cont, slotC, setSlot, frz, retR, noBr, updSlot, ownC, zipD, plainE, itemsD, gAdd, gAddI, gSub, e_mulI, gMod, gDiv, gPow, gNeg, gLt, gLe, gGt, gGe, gLen, gAbs, gInt, gMax2, gMin2, gTuple, gList, gIsi, isTy, isNon, gIs, gIsNot, mAppend, headPm, noBrs, solidR, isBr, isLst, List.getElem?_cons_zero, List.getElem?_cons_succ, List.getElem?_nil, List.set_cons_zero, List.set_cons_succ, List.cons_append, List.nil_append, List.length_cons, List.length_nil, List.replicate_succ, List.replicate_zero, Nat.reduceAdd, Nat.reduceSub, List.map_cons, List.map_nil, List.all_cons, List.all_nil, List.any_cons, List.any_nil, Bool.and_true, Bool.true_and, Bool.or_true, Bool.true_or, Bool.false_or, Bool.or_false, Bool.not_true, Bool.not_false, Bool.false_eq_true, if_true, if_false, ite_true, ite_false, true_and, and_true, decide_eq_true_eq, Int.cast_ofNat_Int, decide_true, decide_false, ne_eq, reduceCtorEq, eq_self, not_true_eq_false, not_false_eq_true, false_implies, true_implies, implies_true, true_or, or_true, false_or, or_false, Bool.not_eq_true', decide_eq_false_iff_not, Option.bind_some, Option.bind_none, reduceIte, e_star, e_tupS, e_lstS, e_methA, e_append, e_isLst, e_extend, e_st, e_revT, e_revL, e_enum, enumD, e_rng3, e_rngT, e_fzI, fzS, a1, is_int_g]
  refine W.eq (isInt_ok s1 s2) ?_
  simp -dsimp -implicitDefEqProofs only [e_lc, e_wipeN, e_wipeC, e_restN, e_restC, e_getD, e_seq, e_set, e_ret, e_retN, e_if, e_next, e_never, e_bk, e_ct, e_drop, e_asg, e_many, e_setIx, e_for, e_while, e_aug, e_test, e_andT, e_orT, e_notT, e_and, e_or, e_not, e_ifE, e_chain, e_name, e_c, e_op1, e_op2, e_opn, e_cons, e_nil, e_tup, e_lst, e_slice, e_partN, e_partS, e_gName, e_gNil, e_gCons, e_gTup, e_rng1, e_rngA, e_rng2, e_rngB, e_it, e_zip, e_contsN, e_contsC, e_frzsN, e_frzsC, e_normsN, e_normsC, e_normB, e_normF, e_normO, e_manyN, e_manyC, e_outsN, e_outsP, e_outsF, e_outN, e_outF, e_outO, e_ixL, e_ixT, e_ixS, e_yes, e_fn, e_call, e_callM, e_callT, e_listRg, e_sortedSet, ob_some, ob_none, W_ob, W_some, W_none, Int.reduceLT, Int.reduceLE, Int.reduceNeg, Int.reduceAdd, Int.reduceMul, Int.reduceSub, Nat.reduceLT, Nat.reduceLeDiff, Int.reduceToNat, W_ite, andN, ixN_0, ixN_1, ixN_2, ixN_3, at0, at1, at2, at3, isB, gSl, nameR, cont, slotC, setSlot, frz, retR, noBr, updSlot, ownC, zipD, plainE, itemsD, gAdd, gAddI, gSub, e_mulI, gMod, gDiv, gPow, gNeg, gLt, gLe, gGt, gGe, gLen, gAbs, gInt, gMax2, gMin2, gTuple, gList, gIsi, isTy, isNon, gIs, gIsNot, mAppend, headPm, noBrs, solidR, isBr, isLst, List.getElem?_cons_zero, List.getElem?_cons_succ, List.getElem?_nil, List.set_cons_zero, List.set_cons_succ, List.cons_append, List.nil_append, List.length_cons, List.length_nil, List.replicate_succ, List.replicate_zero, Nat.reduceAdd, Nat.reduceSub, List.map_cons, List.map_nil, List.all_cons, List.all_nil, List.any_cons, List.any_nil, Bool.and_true, Bool.true_and, Bool.or_true, Bool.true_or, Bool.false_or, Bool.or_false, Bool.not_true, Bool.not_false, Bool.false_eq_true, if_true, if_false, ite_true, ite_false, true_and, and_true, decide_eq_true_eq, Int.cast_ofNat_Int, decide_true, decide_false, ne_eq, reduceCtorEq, eq_self, not_true_eq_false, not_false_eq_true, false_implies, true_implies, implies_true, true_or, or_true, false_or, or_false, Bool.not_eq_true', decide_eq_false_iff_not, Option.bind_some, Option.bind_none, reduceIte, e_star, e_tupS, e_lstS, e_methA, e_append, e_isLst, e_extend, e_st, e_revT, e_revL, e_enum, enumD, e_rng3, e_rngT, e_fzI, fzS, a2]
def prH (f g : Int → Int) (w : Nat) : D → D
  | .int s => .tup [.int (U f g w s), .int s]
  | d => d
/-- the least of all shifts -/
def Few (f g : Int → Int) (m w : Nat) (k s : Int) : Prop := 0 ≤ s ∧ s < m ∧ k = U f g w s ∧ ∀ a : Nat, a < m → k ≤ U f g w a
theorem few_uniq {f g : Int → Int} {m w : Nat} {k s k' s' : Int} (a : Few f g m w k s) (b : Few f g m w k' s') : k = k' := by
  obtain ⟨a1, a2, a3, a4⟩ := a
  obtain ⟨b1, b2, b3, b4⟩ := b
  obtain ⟨x, rfl⟩ := Int.eq_ofNat_of_zero_le a1
  obtain ⟨y, rfl⟩ := Int.eq_ofNat_of_zero_le b1
  have c1 := a4 y (by omega)
  have c2 := b4 x (by omega)
  omega
theorem best_ok {f g : Int → Int} {n m L M : Nat} (h : Rb f n L) (h' : Rb g m M) {w : Nat} (w2 : w ≤ 600) : ∃ k s, Few f g m w k s ∧ g_told_best [.fz (rowD (rowF n f)), .fz (rowD (rowF m g)), .fz (.int w)] = some (.fz (.tup [.int k, .int s]), [.no, .no, .no]) := by
  have m1 := h'.n1
  have m2 := h'.n2
  have hl2 : ((rowF m g).map D.int).length = m := by rw [List.length_map, rowF_len]
  have sm := sm1 (i := (m : Int)) (by omega)
  have tm : ((m : Nat) : Int).toNat = m := by omega
  have eP : (rngD 0 m).map (prH f g w) = ((List.range m).map fun i : Nat => (((U f g w i : Nat) : Int), ((i : Nat) : Int))).map fun p => D.tup [.int p.1, .int p.2] := by
    unfold rngD
    rw [List.map_map, List.map_map]
    refine List.map_congr_left fun i hi => ?_
    show prH f g w (.int (0 + (i : Int))) = _
    rw [Int.zero_add]
    rfl
  obtain ⟨p, hp, hl⟩ : ∃ p ∈ ((List.range m).map fun i : Nat => (((U f g w i : Nat) : Int), ((i : Nat) : Int))), ∀ q ∈ ((List.range m).map fun i : Nat => (((U f g w i : Nat) : Int), ((i : Nat) : Int))), ¬ ltP q p := by
    have : ∃ a r, ((List.range m).map fun i : Nat => (((U f g w i : Nat) : Int), ((i : Nat) : Int))) = a :: r := by
      cases hh : ((List.range m).map fun i : Nat => (((U f g w i : Nat) : Int), ((i : Nat) : Int))) with
      | nil =>
        have := congrArg List.length hh
        rw [List.length_map, List.length_range] at this
        simp at this
        omega
      | cons a r => exact ⟨a, r, rfl⟩
    obtain ⟨a, r, e⟩ := this
    rw [e]
    exact ⟨_, (fold_minP r a).1, (fold_minP r a).2⟩
  have mn := gMinP_of hp hl
  obtain ⟨i, hi, rfl⟩ := List.mem_map.mp hp
  have hi := List.mem_range.mp hi
  refine ⟨_, (i : Int), ⟨by omega, by omega, rfl, fun a ha => ?_⟩, W.out ?_⟩
  · have := hl _ (List.mem_map.mpr ⟨a, List.mem_range.mpr ha, rfl⟩)
    unfold ltP at this
    omega
  unfold g_told_best b_told_best
  unfold rowD
  simp -dsimp -implicitDefEqProofs only [e_lc, e_wipeN, e_wipeC, e_restN, e_restC, e_getD, e_seq, e_set, e_ret, e_retN, e_if, e_next, e_never, e_bk, e_ct, e_drop, e_asg, e_many, e_setIx, e_for, e_while, e_aug, e_test, e_andT, e_orT, e_notT, e_and, e_or, e_not, e_ifE, e_chain, e_name, e_c, e_op1, e_op2, e_opn, e_cons, e_nil, e_tup, e_lst, e_slice, e_partN, e_partS, e_gName, e_gNil, e_gCons, e_gTup, e_rng1, e_rngA, e_rng2, e_rngB, e_it, e_zip, e_contsN, e_contsC, e_frzsN, e_frzsC, e_normsN, e_normsC, e_normB, e_normF, e_normO, e_manyN, e_manyC, e_outsN, e_outsP, e_outsF, e_outN, e_outF, e_outO, e_ixL, e_ixT, e_ixS, e_yes, e_fn, e_call, e_callM, e_callT, e_listRg, e_sortedSet, ob_some, ob_none, W_ob, W_some, W_none, Int.reduceLT, Int.reduceLE, Int.reduceNeg, Int.reduceAdd, Int.reduceMul, Int.reduceSub, Nat.reduceLT, Nat.reduceLeDiff, Int.reduceToNat, W_ite, andN, ixN_0, ixN_1, ixN_2, ixN_3, at0, at1, at2, at3, isB, gSl, nameR, cont, slotC, setSlot, frz, retR, noBr, updSlot, ownC, zipD, plainE, itemsD, gAdd, gAddI, gSub, e_mulI, gMod, gDiv, gPow, gNeg, gLt, gLe, gGt, gGe, gLen, gAbs, gInt, gMax2, gMin2, gTuple, gList, gIsi, isTy, isNon, gIs, gIsNot, mAppend, headPm, noBrs, solidR, isBr, isLst, List.getElem?_cons_zero, List.getElem?_cons_succ, List.getElem?_nil, List.set_cons_zero, List.set_cons_succ, List.cons_append, List.nil_append, List.length_cons, List.length_nil, List.replicate_succ, List.replicate_zero, Nat.reduceAdd, Nat.reduceSub, List.map_cons, List.map_nil, List.all_cons, List.all_nil, List.any_cons, List.any_nil, Bool.and_true, Bool.true_and, Bool.or_true, Bool.true_or, Bool.false_or, Bool.or_false, Bool.not_true, Bool.not_false, Bool.false_eq_true, if_true, if_false, ite_true, ite_false, true_and, and_true, decide_eq_true_eq, Int.cast_ofNat_Int, decide_true, decide_false, ne_eq, reduceCtorEq, eq_self, not_true_eq_false, not_false_eq_true, false_implies, true_implies, implies_true, true_or, or_true, false_or, or_false, Bool.not_eq_true', decide_eq_false_iff_not, Option.bind_some, Option.bind_none, reduceIte, e_star, e_tupS, e_lstS, e_methA, e_append, e_isLst, e_extend, e_st, e_revT, e_revL, e_enum, enumD, e_rng3, e_rngT, e_fzI, fzS, hl2, sm, tm]
  refine lc_map (prH f g w) (fun d hd => ?_) fun ρ' hρ => ?_
  · obtain ⟨i, hi, rfl⟩ := rngD_mem.mp hd
    rw [Int.zero_add]
    have a2 := unlike_ok h h' w2 (s := (i : Int)) (by omega) (by omega)
    unfold rowD at a2
    simp -dsimp -implicitDefEqProofs only [e_lc, e_wipeN, e_wipeC, e_restN, e_restC, e_getD, e_seq, e_set, e_ret, e_retN, e_if, e_next, e_never, e_bk, e_ct, e_drop, e_asg, e_many, e_setIx, e_for, e_while, e_aug, e_test, e_andT, e_orT, e_notT, e_and, e_or, e_not, e_ifE, e_chain, e_name, e_c, e_op1, e_op2, e_opn, e_cons, e_nil, e_tup, e_lst, e_slice, e_partN, e_partS, e_gName, e_gNil, e_gCons, e_gTup, e_rng1, e_rngA, e_rng2, e_rngB, e_it, e_zip, e_contsN, e_contsC, e_frzsN, e_frzsC, e_normsN, e_normsC, e_normB, e_normF, e_normO, e_manyN, e_manyC, e_outsN, e_outsP, e_outsF, e_outN, e_outF, e_outO, e_ixL, e_ixT, e_ixS, e_yes, e_fn, e_call, e_callM, e_callT, e_listRg, e_sortedSet, ob_some, ob_none, W_ob, W_some, W_none, Int.reduceLT, Int.reduceLE, Int.reduceNeg, Int.reduceAdd, Int.reduceMul, Int.reduceSub, Nat.reduceLT, Nat.reduceLeDiff, Int.reduceToNat, W_ite, andN, ixN_0, ixN_1, ixN_2, ixN_3, at0, at1, at2, at3, isB, gSl, nameR, cont, slotC, setSlot, frz, retR, noBr, updSlot, ownC, zipD, plainE, itemsD, gAdd, gAddI, gSub, e_mulI, gMod, gDiv, gPow, gNeg, gLt, gLe, gGt, gGe, gLen, gAbs, gInt, gMax2, gMin2, gTuple, gList, gIsi, isTy, isNon, gIs, gIsNot, mAppend, headPm, noBrs, solidR, isBr, isLst, List.getElem?_cons_zero, List.getElem?_cons_succ, List.getElem?_nil, List.set_cons_zero, List.set_cons_succ, List.cons_append, List.nil_append, List.length_cons, List.length_nil, List.replicate_succ, List.replicate_zero, Nat.reduceAdd, Nat.reduceSub, List.map_cons, List.map_nil, List.all_cons, List.all_nil, List.any_cons, List.any_nil, Bool.and_true, Bool.true_and, Bool.or_true, Bool.true_or, Bool.false_or, Bool.or_false, Bool.not_true, Bool.not_false, Bool.false_eq_true, if_true, if_false, ite_true, ite_false, true_and, and_true, decide_eq_true_eq, Int.cast_ofNat_Int, decide_true, decide_false, ne_eq, reduceCtorEq, eq_self, not_true_eq_false, not_false_eq_true, false_implies, true_implies, implies_true, true_or, or_true, false_or, or_false, Bool.not_eq_true', decide_eq_false_iff_not, Option.bind_some, Option.bind_none, reduceIte, e_star, e_tupS, e_lstS, e_methA, e_append, e_isLst, e_extend, e_st, e_revT, e_revL, e_enum, enumD, e_rng3, e_rngT, e_fzI, fzS, a2]
    rfl
  · have l : ((rngD 0 m).map (prH f g w)).length ≤ sizeLine := by rw [List.length_map, rngD_len, sizeLine_eq]; omega
    rw [eP] at l ⊢
    simp -dsimp -implicitDefEqProofs only [e_lc, e_wipeN, e_wipeC, e_restN, e_restC, e_getD, e_seq, e_set, e_ret, e_retN, e_if, e_next, e_never, e_bk, e_ct, e_drop, e_asg, e_many, e_setIx, e_for, e_while, e_aug, e_test, e_andT, e_orT, e_notT, e_and, e_or, e_not, e_ifE, e_chain, e_name, e_c, e_op1, e_op2, e_opn, e_cons, e_nil, e_tup, e_lst, e_slice, e_partN, e_partS, e_gName, e_gNil, e_gCons, e_gTup, e_rng1, e_rngA, e_rng2, e_rngB, e_it, e_zip, e_contsN, e_contsC, e_frzsN, e_frzsC, e_normsN, e_normsC, e_normB, e_normF, e_normO, e_manyN, e_manyC, e_outsN, e_outsP, e_outsF, e_outN, e_outF, e_outO, e_ixL, e_ixT, e_ixS, e_yes, e_fn, e_call, e_callM, e_callT, e_listRg, e_sortedSet, ob_some, ob_none, W_ob, W_some, W_none, Int.reduceLT, Int.reduceLE, Int.reduceNeg, Int.reduceAdd, Int.reduceMul, Int.reduceSub, Nat.reduceLT, Nat.reduceLeDiff, Int.reduceToNat, W_ite, andN, ixN_0, ixN_1, ixN_2, ixN_3, at0, at1, at2, at3, isB, gSl, nameR, cont, slotC, setSlot, frz, retR, noBr, updSlot, ownC, zipD, plainE, itemsD, gAdd, gAddI, gSub, e_mulI, gMod, gDiv, gPow, gNeg, gLt, gLe, gGt, gGe, gLen, gAbs, gInt, gMax2, gMin2, gTuple, gList, gIsi, isTy, isNon, gIs, gIsNot, mAppend, headPm, noBrs, solidR, isBr, isLst, List.getElem?_cons_zero, List.getElem?_cons_succ, List.getElem?_nil, List.set_cons_zero, List.set_cons_succ, List.cons_append, List.nil_append, List.length_cons, List.length_nil, List.replicate_succ, List.replicate_zero, Nat.reduceAdd, Nat.reduceSub, List.map_cons, List.map_nil, List.all_cons, List.all_nil, List.any_cons, List.any_nil, Bool.and_true, Bool.true_and, Bool.or_true, Bool.true_or, Bool.false_or, Bool.or_false, Bool.not_true, Bool.not_false, Bool.false_eq_true, if_true, if_false, ite_true, ite_false, true_and, and_true, decide_eq_true_eq, Int.cast_ofNat_Int, decide_true, decide_false, ne_eq, reduceCtorEq, eq_self, not_true_eq_false, not_false_eq_true, false_implies, true_implies, implies_true, true_or, or_true, false_or, or_false, Bool.not_eq_true', decide_eq_false_iff_not, Option.bind_some, Option.bind_none, reduceIte, e_star, e_tupS, e_lstS, e_methA, e_append, e_isLst, e_extend, e_st, e_revT, e_revL, e_enum, enumD, e_rng3, e_rngT, e_fzI, fzS, hρ, l, mn]
abbrev shT (k s : Int) : D := .tup [.str (Str.ofString "shift"), .int s, .int k]
theorem flows_ok {f g : Int → Int} {n m L M : Nat} (h : Rb f n L) (h' : Rb g m M) {w : Nat} (w2 : w ≤ 600) : ∃ k s, Few f g m w k s ∧ g_flows_on [.fz (rowD (rowF n f)), .fz (rowD (rowF m g)), .fz (.int w)] = some (.fz (shT k s), [.no, .no, .no]) := by
  obtain ⟨k, s, hf, eb⟩ := best_ok h h' w2
  refine ⟨k, s, hf, W.out ?_⟩
  have a1 := ribs_ok h h' w2
  unfold g_flows_on b_flows_on
  simp -dsimp -implicitDefEqProofs only [e_lc, e_wipeN, e_wipeC, e_restN, e_restC, e_getD, e_seq, e_set, e_ret, e_retN, e_if, e_next, e_never, e_bk, e_ct, e_drop, e_asg, e_many, e_setIx, e_for, e_while, e_aug, e_test, e_andT, e_orT, e_notT, e_and, e_or, e_not, e_ifE, e_chain, e_name, e_c, e_op1, e_op2, e_opn, e_cons, e_nil, e_tup, e_lst, e_slice, e_partN, e_partS, e_gName, e_gNil, e_gCons, e_gTup, e_rng1, e_rngA, e_rng2, e_rngB, e_it, e_zip, e_contsN, e_contsC, e_frzsN, e_frzsC, e_normsN, e_normsC, e_normB, e_normF, e_normO, e_manyN, e_manyC, e_outsN, e_outsP, e_outsF, e_outN, e_outF, e_outO, e_ixL, e_ixT, e_ixS, e_yes, e_fn, e_call, e_callM, e_callT, e_listRg, e_sortedSet, ob_some, ob_none, W_ob, W_some, W_none, Int.reduceLT, Int.reduceLE, Int.reduceNeg, Int.reduceAdd, Int.reduceMul, Int.reduceSub, Nat.reduceLT, Nat.reduceLeDiff, Int.reduceToNat, W_ite, andN, ixN_0, ixN_1, ixN_2, ixN_3, at0, at1, at2, at3, isB, gSl, nameR, cont, slotC, setSlot, frz, retR, noBr, updSlot, ownC, zipD, plainE, itemsD, gAdd, gAddI, gSub, e_mulI, gMod, gDiv, gPow, gNeg, gLt, gLe, gGt, gGe, gLen, gAbs, gInt, gMax2, gMin2, gTuple, gList, gIsi, isTy, isNon, gIs, gIsNot, mAppend, headPm, noBrs, solidR, isBr, isLst, List.getElem?_cons_zero, List.getElem?_cons_succ, List.getElem?_nil, List.set_cons_zero, List.set_cons_succ, List.cons_append, List.nil_append, List.length_cons, List.length_nil, List.replicate_succ, List.replicate_zero, Nat.reduceAdd, Nat.reduceSub, List.map_cons, List.map_nil, List.all_cons, List.all_nil, List.any_cons, List.any_nil, Bool.and_true, Bool.true_and, Bool.or_true, Bool.true_or, Bool.false_or, Bool.or_false, Bool.not_true, Bool.not_false, Bool.false_eq_true, if_true, if_false, ite_true, ite_false, true_and, and_true, decide_eq_true_eq, Int.cast_ofNat_Int, decide_true, decide_false, ne_eq, reduceCtorEq, eq_self, not_true_eq_false, not_false_eq_true, false_implies, true_implies, implies_true, true_or, or_true, false_or, or_false, Bool.not_eq_true', decide_eq_false_iff_not, Option.bind_some, Option.bind_none, reduceIte, e_star, e_tupS, e_lstS, e_methA, e_append, e_isLst, e_extend, e_st, e_revT, e_revL, e_enum, enumD, e_rng3, e_rngT, e_fzI, fzS, a1, eb]
theorem shows_ok {f g : Int → Int} {n m L M : Nat} (h : Rb f n L) (h' : Rb g m M) {w : Nat} (w2 : w ≤ 600) {k s : Int} (hf : Few f g m w k s) : g_shows_flows_on [.fz (rowD (rowF n f)), .fz (rowD (rowF m g)), .fz (.int w), .fz (shT k s)] = some (.fz (.bl true), [.no, .no, .no, .no]) := by
  obtain ⟨k', s', hf', eb⟩ := best_ok h h' w2
  have ek := few_uniq hf' hf
  subst ek
  obtain ⟨f1, f2, f3, f4⟩ := hf
  refine W.out ?_
  have m2 := h'.n2
  have a1 := ribs_ok h h' w2
  have a2 := unlike_ok h h' w2 (s := s) (by omega) (by omega)
  have hl2 : ((rowF m g).map D.int).length = m := by rw [List.length_map, rowF_len]
  have it := isTold_ok (s := Str.ofString "shift") (r := [.int s, .int k']) (ns := [3])
  have dec : decide ((((2 : Nat) + 1 : Nat) : Int) ∈ [(3 : Int)]) = true := by decide
  simp only [List.length_cons, List.length_nil, Nat.zero_add, List.map_cons, List.map_nil] at it
  have dec2 : decide (((1 + 1 + 1 : Nat) : Int) ∈ [(3 : Int)]) = true := by decide
  rw [dec2] at it
  unfold g_shows_flows_on b_shows_flows_on
  simp -dsimp -implicitDefEqProofs only [e_lc, e_wipeN, e_wipeC, e_restN, e_restC, e_getD, e_seq, e_set, e_ret, e_retN, e_if, e_next, e_never, e_bk, e_ct, e_drop, e_asg, e_many, e_setIx, e_for, e_while, e_aug, e_test, e_andT, e_orT, e_notT, e_and, e_or, e_not, e_ifE, e_chain, e_name, e_c, e_op1, e_op2, e_opn, e_cons, e_nil, e_tup, e_lst, e_slice, e_partN, e_partS, e_gName, e_gNil, e_gCons, e_gTup, e_rng1, e_rngA, e_rng2, e_rngB, e_it, e_zip, e_contsN, e_contsC, e_frzsN, e_frzsC, e_normsN, e_normsC, e_normB, e_normF, e_normO, e_manyN, e_manyC, e_outsN, e_outsP, e_outsF, e_outN, e_outF, e_outO, e_ixL, e_ixT, e_ixS, e_yes, e_fn, e_call, e_callM, e_callT, e_listRg, e_sortedSet, ob_some, ob_none, W_ob, W_some, W_none, Int.reduceLT, Int.reduceLE, Int.reduceNeg, Int.reduceAdd, Int.reduceMul, Int.reduceSub, Nat.reduceLT, Nat.reduceLeDiff, Int.reduceToNat, W_ite, andN, ixN_0, ixN_1, ixN_2, ixN_3, at0, at1, at2, at3, isB, gSl, nameR, cont, slotC, setSlot, frz, retR, noBr, updSlot, ownC, zipD, plainE, itemsD, gAdd, gAddI, gSub, e_mulI, gMod, gDiv, gPow, gNeg, gLt, gLe, gGt, gGe, gLen, gAbs, gInt, gMax2, gMin2, gTuple, gList, gIsi, isTy, isNon, gIs, gIsNot, mAppend, headPm, noBrs, solidR, isBr, isLst, List.getElem?_cons_zero, List.getElem?_cons_succ, List.getElem?_nil, List.set_cons_zero, List.set_cons_succ, List.cons_append, List.nil_append, List.length_cons, List.length_nil, List.replicate_succ, List.replicate_zero, Nat.reduceAdd, Nat.reduceSub, List.map_cons, List.map_nil, List.all_cons, List.all_nil, List.any_cons, List.any_nil, Bool.and_true, Bool.true_and, Bool.or_true, Bool.true_or, Bool.false_or, Bool.or_false, Bool.not_true, Bool.not_false, Bool.false_eq_true, if_true, if_false, ite_true, ite_false, true_and, and_true, decide_eq_true_eq, Int.cast_ofNat_Int, decide_true, decide_false, ne_eq, reduceCtorEq, eq_self, not_true_eq_false, not_false_eq_true, false_implies, true_implies, implies_true, true_or, or_true, false_or, or_false, Bool.not_eq_true', decide_eq_false_iff_not, Option.bind_some, Option.bind_none, reduceIte, e_star, e_tupS, e_lstS, e_methA, e_append, e_isLst, e_extend, e_st, e_revT, e_revL, e_enum, enumD, e_rng3, e_rngT, e_fzI, fzS, a1, is_told_g, it, gn_str, is_int_g]
  unfold rowD at eb a2 ⊢
  simp -dsimp -implicitDefEqProofs only [e_lc, e_wipeN, e_wipeC, e_restN, e_restC, e_getD, e_seq, e_set, e_ret, e_retN, e_if, e_next, e_never, e_bk, e_ct, e_drop, e_asg, e_many, e_setIx, e_for, e_while, e_aug, e_test, e_andT, e_orT, e_notT, e_and, e_or, e_not, e_ifE, e_chain, e_name, e_c, e_op1, e_op2, e_opn, e_cons, e_nil, e_tup, e_lst, e_slice, e_partN, e_partS, e_gName, e_gNil, e_gCons, e_gTup, e_rng1, e_rngA, e_rng2, e_rngB, e_it, e_zip, e_contsN, e_contsC, e_frzsN, e_frzsC, e_normsN, e_normsC, e_normB, e_normF, e_normO, e_manyN, e_manyC, e_outsN, e_outsP, e_outsF, e_outN, e_outF, e_outO, e_ixL, e_ixT, e_ixS, e_yes, e_fn, e_call, e_callM, e_callT, e_listRg, e_sortedSet, ob_some, ob_none, W_ob, W_some, W_none, Int.reduceLT, Int.reduceLE, Int.reduceNeg, Int.reduceAdd, Int.reduceMul, Int.reduceSub, Nat.reduceLT, Nat.reduceLeDiff, Int.reduceToNat, W_ite, andN, ixN_0, ixN_1, ixN_2, ixN_3, at0, at1, at2, at3, isB, gSl, nameR, cont, slotC, setSlot, frz, retR, noBr, updSlot, ownC, zipD, plainE, itemsD, gAdd, gAddI, gSub, e_mulI, gMod, gDiv, gPow, gNeg, gLt, gLe, gGt, gGe, gLen, gAbs, gInt, gMax2, gMin2, gTuple, gList, gIsi, isTy, isNon, gIs, gIsNot, mAppend, headPm, noBrs, solidR, isBr, isLst, List.getElem?_cons_zero, List.getElem?_cons_succ, List.getElem?_nil, List.set_cons_zero, List.set_cons_succ, List.cons_append, List.nil_append, List.length_cons, List.length_nil, List.replicate_succ, List.replicate_zero, Nat.reduceAdd, Nat.reduceSub, List.map_cons, List.map_nil, List.all_cons, List.all_nil, List.any_cons, List.any_nil, Bool.and_true, Bool.true_and, Bool.or_true, Bool.true_or, Bool.false_or, Bool.or_false, Bool.not_true, Bool.not_false, Bool.false_eq_true, if_true, if_false, ite_true, ite_false, true_and, and_true, decide_eq_true_eq, Int.cast_ofNat_Int, decide_true, decide_false, ne_eq, reduceCtorEq, eq_self, not_true_eq_false, not_false_eq_true, false_implies, true_implies, implies_true, true_or, or_true, false_or, or_false, Bool.not_eq_true', decide_eq_false_iff_not, Option.bind_some, Option.bind_none, reduceIte, e_star, e_tupS, e_lstS, e_methA, e_append, e_isLst, e_extend, e_st, e_revT, e_revL, e_enum, enumD, e_rng3, e_rngT, e_fzI, fzS, hl2]
  refine W.eq (isInt_ok (by omega) (by omega)) ?_
  simp -dsimp -implicitDefEqProofs only [e_lc, e_wipeN, e_wipeC, e_restN, e_restC, e_getD, e_seq, e_set, e_ret, e_retN, e_if, e_next, e_never, e_bk, e_ct, e_drop, e_asg, e_many, e_setIx, e_for, e_while, e_aug, e_test, e_andT, e_orT, e_notT, e_and, e_or, e_not, e_ifE, e_chain, e_name, e_c, e_op1, e_op2, e_opn, e_cons, e_nil, e_tup, e_lst, e_slice, e_partN, e_partS, e_gName, e_gNil, e_gCons, e_gTup, e_rng1, e_rngA, e_rng2, e_rngB, e_it, e_zip, e_contsN, e_contsC, e_frzsN, e_frzsC, e_normsN, e_normsC, e_normB, e_normF, e_normO, e_manyN, e_manyC, e_outsN, e_outsP, e_outsF, e_outN, e_outF, e_outO, e_ixL, e_ixT, e_ixS, e_yes, e_fn, e_call, e_callM, e_callT, e_listRg, e_sortedSet, ob_some, ob_none, W_ob, W_some, W_none, Int.reduceLT, Int.reduceLE, Int.reduceNeg, Int.reduceAdd, Int.reduceMul, Int.reduceSub, Nat.reduceLT, Nat.reduceLeDiff, Int.reduceToNat, W_ite, andN, ixN_0, ixN_1, ixN_2, ixN_3, at0, at1, at2, at3, isB, gSl, nameR, cont, slotC, setSlot, frz, retR, noBr, updSlot, ownC, zipD, plainE, itemsD, gAdd, gAddI, gSub, e_mulI, gMod, gDiv, gPow, gNeg, gLt, gLe, gGt, gGe, gLen, gAbs, gInt, gMax2, gMin2, gTuple, gList, gIsi, isTy, isNon, gIs, gIsNot, mAppend, headPm, noBrs, solidR, isBr, isLst, List.getElem?_cons_zero, List.getElem?_cons_succ, List.getElem?_nil, List.set_cons_zero, List.set_cons_succ, List.cons_append, List.nil_append, List.length_cons, List.length_nil, List.replicate_succ, List.replicate_zero, Nat.reduceAdd, Nat.reduceSub, List.map_cons, List.map_nil, List.all_cons, List.all_nil, List.any_cons, List.any_nil, Bool.and_true, Bool.true_and, Bool.or_true, Bool.true_or, Bool.false_or, Bool.or_false, Bool.not_true, Bool.not_false, Bool.false_eq_true, if_true, if_false, ite_true, ite_false, true_and, and_true, decide_eq_true_eq, Int.cast_ofNat_Int, decide_true, decide_false, ne_eq, reduceCtorEq, eq_self, not_true_eq_false, not_false_eq_true, false_implies, true_implies, implies_true, true_or, or_true, false_or, or_false, Bool.not_eq_true', decide_eq_false_iff_not, Option.bind_some, Option.bind_none, reduceIte, e_star, e_tupS, e_lstS, e_methA, e_append, e_isLst, e_extend, e_st, e_revT, e_revL, e_enum, enumD, e_rng3, e_rngT, e_fzI, fzS, eb]
  refine W.eq (isInt_ok (by omega) (by omega)) ?_
  simp -dsimp -implicitDefEqProofs only [e_lc, e_wipeN, e_wipeC, e_restN, e_restC, e_getD, e_seq, e_set, e_ret, e_retN, e_if, e_next, e_never, e_bk, e_ct, e_drop, e_asg, e_many, e_setIx, e_for, e_while, e_aug, e_test, e_andT, e_orT, e_notT, e_and, e_or, e_not, e_ifE, e_chain, e_name, e_c, e_op1, e_op2, e_opn, e_cons, e_nil, e_tup, e_lst, e_slice, e_partN, e_partS, e_gName, e_gNil, e_gCons, e_gTup, e_rng1, e_rngA, e_rng2, e_rngB, e_it, e_zip, e_contsN, e_contsC, e_frzsN, e_frzsC, e_normsN, e_normsC, e_normB, e_normF, e_normO, e_manyN, e_manyC, e_outsN, e_outsP, e_outsF, e_outN, e_outF, e_outO, e_ixL, e_ixT, e_ixS, e_yes, e_fn, e_call, e_callM, e_callT, e_listRg, e_sortedSet, ob_some, ob_none, W_ob, W_some, W_none, Int.reduceLT, Int.reduceLE, Int.reduceNeg, Int.reduceAdd, Int.reduceMul, Int.reduceSub, Nat.reduceLT, Nat.reduceLeDiff, Int.reduceToNat, W_ite, andN, ixN_0, ixN_1, ixN_2, ixN_3, at0, at1, at2, at3, isB, gSl, nameR, cont, slotC, setSlot, frz, retR, noBr, updSlot, ownC, zipD, plainE, itemsD, gAdd, gAddI, gSub, e_mulI, gMod, gDiv, gPow, gNeg, gLt, gLe, gGt, gGe, gLen, gAbs, gInt, gMax2, gMin2, gTuple, gList, gIsi, isTy, isNon, gIs, gIsNot, mAppend, headPm, noBrs, solidR, isBr, isLst, List.getElem?_cons_zero, List.getElem?_cons_succ, List.getElem?_nil, List.set_cons_zero, List.set_cons_succ, List.cons_append, List.nil_append, List.length_cons, List.length_nil, List.replicate_succ, List.replicate_zero, Nat.reduceAdd, Nat.reduceSub, List.map_cons, List.map_nil, List.all_cons, List.all_nil, List.any_cons, List.any_nil, Bool.and_true, Bool.true_and, Bool.or_true, Bool.true_or, Bool.false_or, Bool.or_false, Bool.not_true, Bool.not_false, Bool.false_eq_true, if_true, if_false, ite_true, ite_false, true_and, and_true, decide_eq_true_eq, Int.cast_ofNat_Int, decide_true, decide_false, ne_eq, reduceCtorEq, eq_self, not_true_eq_false, not_false_eq_true, false_implies, true_implies, implies_true, true_or, or_true, false_or, or_false, Bool.not_eq_true', decide_eq_false_iff_not, Option.bind_some, Option.bind_none, reduceIte, e_star, e_tupS, e_lstS, e_methA, e_append, e_isLst, e_extend, e_st, e_revT, e_revL, e_enum, enumD, e_rng3, e_rngT, e_fzI, fzS, a2, gq_int]
  rw [decide_eq_true f3.symm]
/-- what first_unlike tells -/
theorem first_ok {f g : Int → Int} {n m L M : Nat} (h : Rb f n L) (h' : Rb g m M) : ((∀ i, f i = g i) ∧ g_first_unlike [.fz (rowD (rowF n f)), .fz (rowD (rowF m g))] = some (.fz .non, [.no, .no])) ∨
    ∃ a : Nat, a < n + m ∧ f a ≠ g a ∧ (∀ i : Nat, i < a → f i = g i) ∧ g_first_unlike [.fz (rowD (rowF n f)), .fz (rowD (rowF m g))] = some (.fz (.int a), [.no, .no]) := by
  have n1 := h.n1
  have m1 := h'.n1
  have n2 := h.n2
  have m2 := h'.n2
  have hn0 : (0 : Int) < n := by omega
  have hm0 : (0 : Int) < m := by omega
  have hl1 : ((rowF n f).map D.int).length = n := by rw [List.length_map, rowF_len]
  have hl2 : ((rowF m g).map D.int).length = m := by rw [List.length_map, rowF_len]
  have a1 := rib_ok h
  have a2 := rib_ok h'
  have ss := sm1 (i := (n : Int) + (m : Int)) (by omega)
  have ts : ((n : Int) + (m : Int)).toNat = n + m := by omega
  have key : W (g_first_unlike [.fz (rowD (rowF n f)), .fz (rowD (rowF m g))]) fun w => w.2 = [.no, .no] ∧ (((∀ i, f i = g i) ∧ w.1 = .fz .non) ∨ ∃ a : Nat, a < n + m ∧ f a ≠ g a ∧ (∀ i : Nat, i < a → f i = g i) ∧ w.1 = .fz (.int a)) := by
    unfold rowD at a1 a2 ⊢
    unfold g_first_unlike b_first_unlike
    simp -dsimp -implicitDefEqProofs only [e_lc, e_wipeN, e_wipeC, e_restN, e_restC, e_getD, e_seq, e_set, e_ret, e_retN, e_if, e_next, e_never, e_bk, e_ct, e_drop, e_asg, e_many, e_setIx, e_for, e_while, e_aug, e_test, e_andT, e_orT, e_notT, e_and, e_or, e_not, e_ifE, e_chain, e_name, e_c, e_op1, e_op2, e_opn, e_cons, e_nil, e_tup, e_lst, e_slice, e_partN, e_partS, e_gName, e_gNil, e_gCons, e_gTup, e_rng1, e_rngA, e_rng2, e_rngB, e_it, e_zip, e_contsN, e_contsC, e_frzsN, e_frzsC, e_normsN, e_normsC, e_normB, e_normF, e_normO, e_manyN, e_manyC, e_outsN, e_outsP, e_outsF, e_outN, e_outF, e_outO, e_ixL, e_ixT, e_ixS, e_yes, e_fn, e_call, e_callM, e_callT, e_listRg, e_sortedSet, ob_some, ob_none, W_ob, W_some, W_none, Int.reduceLT, Int.reduceLE, Int.reduceNeg, Int.reduceAdd, Int.reduceMul, Int.reduceSub, Nat.reduceLT, Nat.reduceLeDiff, Int.reduceToNat, W_ite, andN, ixN_0, ixN_1, ixN_2, ixN_3, at0, at1, at2, at3, isB, gSl, nameR, cont, slotC, setSlot, frz, retR, noBr, updSlot, ownC, zipD, plainE, itemsD, gAdd, gAddI, gSub, e_mulI, gMod, gDiv, gPow, gNeg, gLt, gLe, gGt, gGe, gLen, gAbs, gInt, gMax2, gMin2, gTuple, gList, gIsi, isTy, isNon, gIs, gIsNot, mAppend, headPm, noBrs, solidR, isBr, isLst, List.getElem?_cons_zero, List.getElem?_cons_succ, List.getElem?_nil, List.set_cons_zero, List.set_cons_succ, List.cons_append, List.nil_append, List.length_cons, List.length_nil, List.replicate_succ, List.replicate_zero, Nat.reduceAdd, Nat.reduceSub, List.map_cons, List.map_nil, List.all_cons, List.all_nil, List.any_cons, List.any_nil, Bool.and_true, Bool.true_and, Bool.or_true, Bool.true_or, Bool.false_or, Bool.or_false, Bool.not_true, Bool.not_false, Bool.false_eq_true, if_true, if_false, ite_true, ite_false, true_and, and_true, decide_eq_true_eq, Int.cast_ofNat_Int, decide_true, decide_false, ne_eq, reduceCtorEq, eq_self, not_true_eq_false, not_false_eq_true, false_implies, true_implies, implies_true, true_or, or_true, false_or, or_false, Bool.not_eq_true', decide_eq_false_iff_not, Option.bind_some, Option.bind_none, reduceIte, e_star, e_tupS, e_lstS, e_methA, e_append, e_isLst, e_extend, e_st, e_revT, e_revL, e_enum, enumD, e_rng3, e_rngT, e_fzI, fzS, a1, a2, hl1, hl2, ss, ts]
    refine for_exit (fun pre ρ => ∃ x2 : Pu.Slot, ρ = [.fz (.tup ((rowF n f).map D.int)), .fz (.tup ((rowF m g).map D.int)), x2] ∧ ∀ i : Nat, i < pre.length → f i = g i) ⟨_, rfl, fun i hi => absurd hi (Nat.not_lt_zero _)⟩ (fun pre d post ρ e ⟨x2, e1, hj⟩ => ?_) fun ρ ⟨x2, e1, hj⟩ => ?_
    · subst e1
      obtain ⟨rfl, hlt⟩ := rng_at e
      have x1 := ix_row n1 h.per (pre.length : Int)
      have x2 := ix_row m1 h'.per (pre.length : Int)
      have d1 := div_ok (j := (n : Int)) (n := 100) (by omega) (Bd.of (by omega) (by omega))
      have d2 := div_ok (j := (m : Int)) (n := 100) (by omega) (Bd.of (by omega) (by omega))
      by_cases hc : f pre.length = g pre.length
      · simp -dsimp -implicitDefEqProofs only [e_lc, e_wipeN, e_wipeC, e_restN, e_restC, e_getD, e_seq, e_set, e_ret, e_retN, e_if, e_next, e_never, e_bk, e_ct, e_drop, e_asg, e_many, e_setIx, e_for, e_while, e_aug, e_test, e_andT, e_orT, e_notT, e_and, e_or, e_not, e_ifE, e_chain, e_name, e_c, e_op1, e_op2, e_opn, e_cons, e_nil, e_tup, e_lst, e_slice, e_partN, e_partS, e_gName, e_gNil, e_gCons, e_gTup, e_rng1, e_rngA, e_rng2, e_rngB, e_it, e_zip, e_contsN, e_contsC, e_frzsN, e_frzsC, e_normsN, e_normsC, e_normB, e_normF, e_normO, e_manyN, e_manyC, e_outsN, e_outsP, e_outsF, e_outN, e_outF, e_outO, e_ixL, e_ixT, e_ixS, e_yes, e_fn, e_call, e_callM, e_callT, e_listRg, e_sortedSet, ob_some, ob_none, W_ob, W_some, W_none, Int.reduceLT, Int.reduceLE, Int.reduceNeg, Int.reduceAdd, Int.reduceMul, Int.reduceSub, Nat.reduceLT, Nat.reduceLeDiff, Int.reduceToNat, W_ite, andN, ixN_0, ixN_1, ixN_2, ixN_3, at0, at1, at2, at3, isB, gSl, nameR, cont, slotC, setSlot, frz, retR, noBr, updSlot, ownC, zipD, plainE, itemsD, gAdd, gAddI, gSub, e_mulI, gMod, gDiv, gPow, gNeg, gLt, gLe, gGt, gGe, gLen, gAbs, gInt, gMax2, gMin2, gTuple, gList, gIsi, isTy, isNon, gIs, gIsNot, mAppend, headPm, noBrs, solidR, isBr, isLst, List.getElem?_cons_zero, List.getElem?_cons_succ, List.getElem?_nil, List.set_cons_zero, List.set_cons_succ, List.cons_append, List.nil_append, List.length_cons, List.length_nil, List.replicate_succ, List.replicate_zero, Nat.reduceAdd, Nat.reduceSub, List.map_cons, List.map_nil, List.all_cons, List.all_nil, List.any_cons, List.any_nil, Bool.and_true, Bool.true_and, Bool.or_true, Bool.true_or, Bool.false_or, Bool.or_false, Bool.not_true, Bool.not_false, Bool.false_eq_true, if_true, if_false, ite_true, ite_false, true_and, and_true, decide_eq_true_eq, Int.cast_ofNat_Int, decide_true, decide_false, ne_eq, reduceCtorEq, eq_self, not_true_eq_false, not_false_eq_true, false_implies, true_implies, implies_true, true_or, or_true, false_or, or_false, Bool.not_eq_true', decide_eq_false_iff_not, Option.bind_some, Option.bind_none, reduceIte, e_star, e_tupS, e_lstS, e_methA, e_append, e_isLst, e_extend, e_st, e_revT, e_revL, e_enum, enumD, e_rng3, e_rngT, e_fzI, fzS, hl1, hl2, x1, x2, d1, d2, hn0, hm0, gn_int, hc]
        refine .inl ⟨_, rfl, fun i hi => ?_⟩
        rw [List.length_append] at hi
        by_cases hi2 : i < pre.length
        · exact hj i hi2
        · have : i = pre.length := by simp at hi; omega
          rw [this]
          exact hc
      · simp -dsimp -implicitDefEqProofs only [e_lc, e_wipeN, e_wipeC, e_restN, e_restC, e_getD, e_seq, e_set, e_ret, e_retN, e_if, e_next, e_never, e_bk, e_ct, e_drop, e_asg, e_many, e_setIx, e_for, e_while, e_aug, e_test, e_andT, e_orT, e_notT, e_and, e_or, e_not, e_ifE, e_chain, e_name, e_c, e_op1, e_op2, e_opn, e_cons, e_nil, e_tup, e_lst, e_slice, e_partN, e_partS, e_gName, e_gNil, e_gCons, e_gTup, e_rng1, e_rngA, e_rng2, e_rngB, e_it, e_zip, e_contsN, e_contsC, e_frzsN, e_frzsC, e_normsN, e_normsC, e_normB, e_normF, e_normO, e_manyN, e_manyC, e_outsN, e_outsP, e_outsF, e_outN, e_outF, e_outO, e_ixL, e_ixT, e_ixS, e_yes, e_fn, e_call, e_callM, e_callT, e_listRg, e_sortedSet, ob_some, ob_none, W_ob, W_some, W_none, Int.reduceLT, Int.reduceLE, Int.reduceNeg, Int.reduceAdd, Int.reduceMul, Int.reduceSub, Nat.reduceLT, Nat.reduceLeDiff, Int.reduceToNat, W_ite, andN, ixN_0, ixN_1, ixN_2, ixN_3, at0, at1, at2, at3, isB, gSl, nameR, cont, slotC, setSlot, frz, retR, noBr, updSlot, ownC, zipD, plainE, itemsD, gAdd, gAddI, gSub, e_mulI, gMod, gDiv, gPow, gNeg, gLt, gLe, gGt, gGe, gLen, gAbs, gInt, gMax2, gMin2, gTuple, gList, gIsi, isTy, isNon, gIs, gIsNot, mAppend, headPm, noBrs, solidR, isBr, isLst, List.getElem?_cons_zero, List.getElem?_cons_succ, List.getElem?_nil, List.set_cons_zero, List.set_cons_succ, List.cons_append, List.nil_append, List.length_cons, List.length_nil, List.replicate_succ, List.replicate_zero, Nat.reduceAdd, Nat.reduceSub, List.map_cons, List.map_nil, List.all_cons, List.all_nil, List.any_cons, List.any_nil, Bool.and_true, Bool.true_and, Bool.or_true, Bool.true_or, Bool.false_or, Bool.or_false, Bool.not_true, Bool.not_false, Bool.false_eq_true, if_true, if_false, ite_true, ite_false, true_and, and_true, decide_eq_true_eq, Int.cast_ofNat_Int, decide_true, decide_false, ne_eq, reduceCtorEq, eq_self, not_true_eq_false, not_false_eq_true, false_implies, true_implies, implies_true, true_or, or_true, false_or, or_false, Bool.not_eq_true', decide_eq_false_iff_not, Option.bind_some, Option.bind_none, reduceIte, e_star, e_tupS, e_lstS, e_methA, e_append, e_isLst, e_extend, e_st, e_revT, e_revL, e_enum, enumD, e_rng3, e_rngT, e_fzI, fzS, hl1, hl2, x1, x2, d1, d2, hn0, hm0, gn_int, hc]
        refine .inr (.inr ⟨_, rfl, ?_⟩)
        simp -dsimp -implicitDefEqProofs only [e_lc, e_wipeN, e_wipeC, e_restN, e_restC, e_getD, e_seq, e_set, e_ret, e_retN, e_if, e_next, e_never, e_bk, e_ct, e_drop, e_asg, e_many, e_setIx, e_for, e_while, e_aug, e_test, e_andT, e_orT, e_notT, e_and, e_or, e_not, e_ifE, e_chain, e_name, e_c, e_op1, e_op2, e_opn, e_cons, e_nil, e_tup, e_lst, e_slice, e_partN, e_partS, e_gName, e_gNil, e_gCons, e_gTup, e_rng1, e_rngA, e_rng2, e_rngB, e_it, e_zip, e_contsN, e_contsC, e_frzsN, e_frzsC, e_normsN, e_normsC, e_normB, e_normF, e_normO, e_manyN, e_manyC, e_outsN, e_outsP, e_outsF, e_outN, e_outF, e_outO, e_ixL, e_ixT, e_ixS, e_yes, e_fn, e_call, e_callM, e_callT, e_listRg, e_sortedSet, ob_some, ob_none, W_ob, W_some, W_none, Int.reduceLT, Int.reduceLE, Int.reduceNeg, Int.reduceAdd, Int.reduceMul, Int.reduceSub, Nat.reduceLT, Nat.reduceLeDiff, Int.reduceToNat, W_ite, andN, ixN_0, ixN_1, ixN_2, ixN_3, at0, at1, at2, at3, isB, gSl, nameR, cont, slotC, setSlot, frz, retR, noBr, updSlot, ownC, zipD, plainE, itemsD, gAdd, gAddI, gSub, e_mulI, gMod, gDiv, gPow, gNeg, gLt, gLe, gGt, gGe, gLen, gAbs, gInt, gMax2, gMin2, gTuple, gList, gIsi, isTy, isNon, gIs, gIsNot, mAppend, headPm, noBrs, solidR, isBr, isLst, List.getElem?_cons_zero, List.getElem?_cons_succ, List.getElem?_nil, List.set_cons_zero, List.set_cons_succ, List.cons_append, List.nil_append, List.length_cons, List.length_nil, List.replicate_succ, List.replicate_zero, Nat.reduceAdd, Nat.reduceSub, List.map_cons, List.map_nil, List.all_cons, List.all_nil, List.any_cons, List.any_nil, Bool.and_true, Bool.true_and, Bool.or_true, Bool.true_or, Bool.false_or, Bool.or_false, Bool.not_true, Bool.not_false, Bool.false_eq_true, if_true, if_false, ite_true, ite_false, true_and, and_true, decide_eq_true_eq, Int.cast_ofNat_Int, decide_true, decide_false, ne_eq, reduceCtorEq, eq_self, not_true_eq_false, not_false_eq_true, false_implies, true_implies, implies_true, true_or, or_true, false_or, or_false, Bool.not_eq_true', decide_eq_false_iff_not, Option.bind_some, Option.bind_none, reduceIte, e_star, e_tupS, e_lstS, e_methA, e_append, e_isLst, e_extend, e_st, e_revT, e_revL, e_enum, enumD, e_rng3, e_rngT, e_fzI, fzS]
        exact .inr ⟨pre.length, hlt, hc, hj, rfl⟩
    · subst e1
      rw [rngD_len] at hj
      simp -dsimp -implicitDefEqProofs only [e_lc, e_wipeN, e_wipeC, e_restN, e_restC, e_getD, e_seq, e_set, e_ret, e_retN, e_if, e_next, e_never, e_bk, e_ct, e_drop, e_asg, e_many, e_setIx, e_for, e_while, e_aug, e_test, e_andT, e_orT, e_notT, e_and, e_or, e_not, e_ifE, e_chain, e_name, e_c, e_op1, e_op2, e_opn, e_cons, e_nil, e_tup, e_lst, e_slice, e_partN, e_partS, e_gName, e_gNil, e_gCons, e_gTup, e_rng1, e_rngA, e_rng2, e_rngB, e_it, e_zip, e_contsN, e_contsC, e_frzsN, e_frzsC, e_normsN, e_normsC, e_normB, e_normF, e_normO, e_manyN, e_manyC, e_outsN, e_outsP, e_outsF, e_outN, e_outF, e_outO, e_ixL, e_ixT, e_ixS, e_yes, e_fn, e_call, e_callM, e_callT, e_listRg, e_sortedSet, ob_some, ob_none, W_ob, W_some, W_none, Int.reduceLT, Int.reduceLE, Int.reduceNeg, Int.reduceAdd, Int.reduceMul, Int.reduceSub, Nat.reduceLT, Nat.reduceLeDiff, Int.reduceToNat, W_ite, andN, ixN_0, ixN_1, ixN_2, ixN_3, at0, at1, at2, at3, isB, gSl, nameR, cont, slotC, setSlot, frz, retR, noBr, updSlot, ownC, zipD, plainE, itemsD, gAdd, gAddI, gSub, e_mulI, gMod, gDiv, gPow, gNeg, gLt, gLe, gGt, gGe, gLen, gAbs, gInt, gMax2, gMin2, gTuple, gList, gIsi, isTy, isNon, gIs, gIsNot, mAppend, headPm, noBrs, solidR, isBr, isLst, List.getElem?_cons_zero, List.getElem?_cons_succ, List.getElem?_nil, List.set_cons_zero, List.set_cons_succ, List.cons_append, List.nil_append, List.length_cons, List.length_nil, List.replicate_succ, List.replicate_zero, Nat.reduceAdd, Nat.reduceSub, List.map_cons, List.map_nil, List.all_cons, List.all_nil, List.any_cons, List.any_nil, Bool.and_true, Bool.true_and, Bool.or_true, Bool.true_or, Bool.false_or, Bool.or_false, Bool.not_true, Bool.not_false, Bool.false_eq_true, if_true, if_false, ite_true, ite_false, true_and, and_true, decide_eq_true_eq, Int.cast_ofNat_Int, decide_true, decide_false, ne_eq, reduceCtorEq, eq_self, not_true_eq_false, not_false_eq_true, false_implies, true_implies, implies_true, true_or, or_true, false_or, or_false, Bool.not_eq_true', decide_eq_false_iff_not, Option.bind_some, Option.bind_none, reduceIte, e_star, e_tupS, e_lstS, e_methA, e_append, e_isLst, e_extend, e_st, e_revT, e_revL, e_enum, enumD, e_rng3, e_rngT, e_fzI, fzS]
      exact .inl <| fine_wilf (n + m) n m f g (Nat.le_refl _) n1 m1 h.per h'.per fun i hi => hj i (by omega)
  obtain ⟨⟨r, ρ⟩, e, e1, e2⟩ := key
  have e1 : ρ = _ := e1
  subst e1
  rcases e2 with ⟨e2, e3⟩ | ⟨a, e2, e3, e4, e5⟩
  · have e3 : r = _ := e3
    subst e3
    exact .inl ⟨e2, e⟩
  · have e5 : r = _ := e5
    subst e5
    exact .inr ⟨a, e2, e3, e4, e⟩
end Lw

namespace Lw
open PySem Pu
section
variable {f : Int → Int} {n L : Nat} (h : Rb f n L)
include h
theorem moved_ok {s : Int} (s1 : -1000 ≤ s) (s2 : s ≤ 1000) : g__law_moved [.fz (rowD (rowF n f)), .fz (.int s)] = some (.fz (rowD (rowF n (sh f s))), [.no, .no]) := by
  refine W.out ?_
  have n1 := h.n1
  have n2 := h.n2
  have hn0 : (0 : Int) < n := by omega
  have hl1 : ((rowF n f).map D.int).length = n := by rw [List.length_map, rowF_len]
  have d1 := div_ok (j := (n : Int)) (n := 100) (by omega) (Bd.of (by omega) (by omega))
  have a1 := Int.emod_nonneg s (show (n : Int) ≠ 0 by omega)
  have a2 := Int.emod_lt_of_pos s hn0
  obtain ⟨m, em⟩ := Int.eq_ofNat_of_zero_le a1
  have er : ((rowF n f).map D.int).drop m ++ ((rowF n f).map D.int).take m = (rowF n (sh f s)).map D.int := by
    rw [← List.map_drop, ← List.map_take, ← List.map_append, row_rot h.per (by omega), ← sh_mod h.per s, em]
    rfl
  have el : (((rowF n f).map D.int).drop m).length + (((rowF n f).map D.int).take m).length ≤ sizeLine := by
    rw [List.length_drop, List.length_take, hl1, sizeLine_eq]
    omega
  unfold g__law_moved b__law_moved rowD
  simp -dsimp -implicitDefEqProofs only [e_lc, e_wipeN, e_wipeC, e_restN, e_restC, e_getD, e_seq, e_set, e_ret, e_retN, e_if, e_next, e_never, e_bk, e_ct, e_drop, e_asg, e_many, e_setIx, e_for, e_while, e_aug, e_test, e_andT, e_orT, e_notT, e_and, e_or, e_not, e_ifE, e_chain, e_name, e_c, e_op1, e_op2, e_opn, e_cons, e_nil, e_tup, e_lst, e_slice, e_partN, e_partS, e_gName, e_gNil, e_gCons, e_gTup, e_rng1, e_rngA, e_rng2, e_rngB, e_it, e_zip, e_contsN, e_contsC, e_frzsN, e_frzsC, e_normsN, e_normsC, e_normB, e_normF, e_normO, e_manyN, e_manyC, e_outsN, e_outsP, e_outsF, e_outN, e_outF, e_outO, e_ixL, e_ixT, e_ixS, e_yes, e_fn, e_call, e_callM, e_callT, e_listRg, e_sortedSet, ob_some, ob_none, W_ob, W_some, W_none, Int.reduceLT, Int.reduceLE, Int.reduceNeg, Int.reduceAdd, Int.reduceMul, Int.reduceSub, Nat.reduceLT, Nat.reduceLeDiff, Int.reduceToNat, W_ite, andN, ixN_0, ixN_1, ixN_2, ixN_3, at0, at1, at2, at3, isB, gSl, nameR, cont, slotC, setSlot, frz, retR, noBr, updSlot, ownC, zipD, plainE, itemsD, gAdd, gAddI, gSub, e_mulI, gMod, gDiv, gPow, gNeg, gLt, gLe, gGt, gGe, gLen, gAbs, gInt, gMax2, gMin2, gTuple, gList, gIsi, isTy, isNon, gIs, gIsNot, mAppend, headPm, noBrs, solidR, isBr, isLst, List.getElem?_cons_zero, List.getElem?_cons_succ, List.getElem?_nil, List.set_cons_zero, List.set_cons_succ, List.cons_append, List.nil_append, List.length_cons, List.length_nil, List.replicate_succ, List.replicate_zero, Nat.reduceAdd, Nat.reduceSub, List.map_cons, List.map_nil, List.all_cons, List.all_nil, List.any_cons, List.any_nil, Bool.and_true, Bool.true_and, Bool.or_true, Bool.true_or, Bool.false_or, Bool.or_false, Bool.not_true, Bool.not_false, Bool.false_eq_true, if_true, if_false, ite_true, ite_false, true_and, and_true, decide_eq_true_eq, Int.cast_ofNat_Int, decide_true, decide_false, ne_eq, reduceCtorEq, eq_self, not_true_eq_false, not_false_eq_true, false_implies, true_implies, implies_true, true_or, or_true, false_or, or_false, Bool.not_eq_true', decide_eq_false_iff_not, Option.bind_some, Option.bind_none, reduceIte, e_star, e_tupS, e_lstS, e_methA, e_append, e_isLst, e_extend, e_st, e_revT, e_revL, e_enum, enumD, e_rng3, e_rngT, e_fzI, fzS, hl1, d1, hn0, em, cutD_from, cutD_to, er, el]
theorem fits_ok {w : Int} (w1 : 1 ≤ w) (w2 : w ≤ 600) : g_fits_round [.fz (rowD (rowF n f)), .fz (.int w)] = some (.fz (.bl (decide (w % (L : Int) = 0))), [.no, .no]) := by
  refine W.out ?_
  have l0 := h.l0
  have hle := h.le
  have n2 := h.n2
  have a1 := rib_ok h
  have a2 := told_least_ok h
  have hL0 : (0 : Int) < L := by omega
  have hl1 : ((rowF L f).map D.int).length = L := by rw [List.length_map, rowF_len]
  have d1 := div_ok (j := (L : Int)) (n := 100) (by omega) (Bd.of (by omega) (by omega))
  unfold g_fits_round b_fits_round
  simp -dsimp -implicitDefEqProofs only [e_lc, e_wipeN, e_wipeC, e_restN, e_restC, e_getD, e_seq, e_set, e_ret, e_retN, e_if, e_next, e_never, e_bk, e_ct, e_drop, e_asg, e_many, e_setIx, e_for, e_while, e_aug, e_test, e_andT, e_orT, e_notT, e_and, e_or, e_not, e_ifE, e_chain, e_name, e_c, e_op1, e_op2, e_opn, e_cons, e_nil, e_tup, e_lst, e_slice, e_partN, e_partS, e_gName, e_gNil, e_gCons, e_gTup, e_rng1, e_rngA, e_rng2, e_rngB, e_it, e_zip, e_contsN, e_contsC, e_frzsN, e_frzsC, e_normsN, e_normsC, e_normB, e_normF, e_normO, e_manyN, e_manyC, e_outsN, e_outsP, e_outsF, e_outN, e_outF, e_outO, e_ixL, e_ixT, e_ixS, e_yes, e_fn, e_call, e_callM, e_callT, e_listRg, e_sortedSet, ob_some, ob_none, W_ob, W_some, W_none, Int.reduceLT, Int.reduceLE, Int.reduceNeg, Int.reduceAdd, Int.reduceMul, Int.reduceSub, Nat.reduceLT, Nat.reduceLeDiff, Int.reduceToNat, W_ite, andN, ixN_0, ixN_1, ixN_2, ixN_3, at0, at1, at2, at3, isB, gSl, nameR, cont, slotC, setSlot, frz, retR, noBr, updSlot, ownC, zipD, plainE, itemsD, gAdd, gAddI, gSub, e_mulI, gMod, gDiv, gPow, gNeg, gLt, gLe, gGt, gGe, gLen, gAbs, gInt, gMax2, gMin2, gTuple, gList, gIsi, isTy, isNon, gIs, gIsNot, mAppend, headPm, noBrs, solidR, isBr, isLst, List.getElem?_cons_zero, List.getElem?_cons_succ, List.getElem?_nil, List.set_cons_zero, List.set_cons_succ, List.cons_append, List.nil_append, List.length_cons, List.length_nil, List.replicate_succ, List.replicate_zero, Nat.reduceAdd, Nat.reduceSub, List.map_cons, List.map_nil, List.all_cons, List.all_nil, List.any_cons, List.any_nil, Bool.and_true, Bool.true_and, Bool.or_true, Bool.true_or, Bool.false_or, Bool.or_false, Bool.not_true, Bool.not_false, Bool.false_eq_true, if_true, if_false, ite_true, ite_false, true_and, and_true, decide_eq_true_eq, Int.cast_ofNat_Int, decide_true, decide_false, ne_eq, reduceCtorEq, eq_self, not_true_eq_false, not_false_eq_true, false_implies, true_implies, implies_true, true_or, or_true, false_or, or_false, Bool.not_eq_true', decide_eq_false_iff_not, Option.bind_some, Option.bind_none, reduceIte, e_star, e_tupS, e_lstS, e_methA, e_append, e_isLst, e_extend, e_st, e_revT, e_revL, e_enum, enumD, e_rng3, e_rngT, e_fzI, fzS, a1, is_int_g]
  refine W.eq (isInt_ok w1 w2) ?_
  simp -dsimp -implicitDefEqProofs only [e_lc, e_wipeN, e_wipeC, e_restN, e_restC, e_getD, e_seq, e_set, e_ret, e_retN, e_if, e_next, e_never, e_bk, e_ct, e_drop, e_asg, e_many, e_setIx, e_for, e_while, e_aug, e_test, e_andT, e_orT, e_notT, e_and, e_or, e_not, e_ifE, e_chain, e_name, e_c, e_op1, e_op2, e_opn, e_cons, e_nil, e_tup, e_lst, e_slice, e_partN, e_partS, e_gName, e_gNil, e_gCons, e_gTup, e_rng1, e_rngA, e_rng2, e_rngB, e_it, e_zip, e_contsN, e_contsC, e_frzsN, e_frzsC, e_normsN, e_normsC, e_normB, e_normF, e_normO, e_manyN, e_manyC, e_outsN, e_outsP, e_outsF, e_outN, e_outF, e_outO, e_ixL, e_ixT, e_ixS, e_yes, e_fn, e_call, e_callM, e_callT, e_listRg, e_sortedSet, ob_some, ob_none, W_ob, W_some, W_none, Int.reduceLT, Int.reduceLE, Int.reduceNeg, Int.reduceAdd, Int.reduceMul, Int.reduceSub, Nat.reduceLT, Nat.reduceLeDiff, Int.reduceToNat, W_ite, andN, ixN_0, ixN_1, ixN_2, ixN_3, at0, at1, at2, at3, isB, gSl, nameR, cont, slotC, setSlot, frz, retR, noBr, updSlot, ownC, zipD, plainE, itemsD, gAdd, gAddI, gSub, e_mulI, gMod, gDiv, gPow, gNeg, gLt, gLe, gGt, gGe, gLen, gAbs, gInt, gMax2, gMin2, gTuple, gList, gIsi, isTy, isNon, gIs, gIsNot, mAppend, headPm, noBrs, solidR, isBr, isLst, List.getElem?_cons_zero, List.getElem?_cons_succ, List.getElem?_nil, List.set_cons_zero, List.set_cons_succ, List.cons_append, List.nil_append, List.length_cons, List.length_nil, List.replicate_succ, List.replicate_zero, Nat.reduceAdd, Nat.reduceSub, List.map_cons, List.map_nil, List.all_cons, List.all_nil, List.any_cons, List.any_nil, Bool.and_true, Bool.true_and, Bool.or_true, Bool.true_or, Bool.false_or, Bool.or_false, Bool.not_true, Bool.not_false, Bool.false_eq_true, if_true, if_false, ite_true, ite_false, true_and, and_true, decide_eq_true_eq, Int.cast_ofNat_Int, decide_true, decide_false, ne_eq, reduceCtorEq, eq_self, not_true_eq_false, not_false_eq_true, false_implies, true_implies, implies_true, true_or, or_true, false_or, or_false, Bool.not_eq_true', decide_eq_false_iff_not, Option.bind_some, Option.bind_none, reduceIte, e_star, e_tupS, e_lstS, e_methA, e_append, e_isLst, e_extend, e_st, e_revT, e_revL, e_enum, enumD, e_rng3, e_rngT, e_fzI, fzS, a2]
  unfold rowD
  simp -dsimp -implicitDefEqProofs only [e_lc, e_wipeN, e_wipeC, e_restN, e_restC, e_getD, e_seq, e_set, e_ret, e_retN, e_if, e_next, e_never, e_bk, e_ct, e_drop, e_asg, e_many, e_setIx, e_for, e_while, e_aug, e_test, e_andT, e_orT, e_notT, e_and, e_or, e_not, e_ifE, e_chain, e_name, e_c, e_op1, e_op2, e_opn, e_cons, e_nil, e_tup, e_lst, e_slice, e_partN, e_partS, e_gName, e_gNil, e_gCons, e_gTup, e_rng1, e_rngA, e_rng2, e_rngB, e_it, e_zip, e_contsN, e_contsC, e_frzsN, e_frzsC, e_normsN, e_normsC, e_normB, e_normF, e_normO, e_manyN, e_manyC, e_outsN, e_outsP, e_outsF, e_outN, e_outF, e_outO, e_ixL, e_ixT, e_ixS, e_yes, e_fn, e_call, e_callM, e_callT, e_listRg, e_sortedSet, ob_some, ob_none, W_ob, W_some, W_none, Int.reduceLT, Int.reduceLE, Int.reduceNeg, Int.reduceAdd, Int.reduceMul, Int.reduceSub, Nat.reduceLT, Nat.reduceLeDiff, Int.reduceToNat, W_ite, andN, ixN_0, ixN_1, ixN_2, ixN_3, at0, at1, at2, at3, isB, gSl, nameR, cont, slotC, setSlot, frz, retR, noBr, updSlot, ownC, zipD, plainE, itemsD, gAdd, gAddI, gSub, e_mulI, gMod, gDiv, gPow, gNeg, gLt, gLe, gGt, gGe, gLen, gAbs, gInt, gMax2, gMin2, gTuple, gList, gIsi, isTy, isNon, gIs, gIsNot, mAppend, headPm, noBrs, solidR, isBr, isLst, List.getElem?_cons_zero, List.getElem?_cons_succ, List.getElem?_nil, List.set_cons_zero, List.set_cons_succ, List.cons_append, List.nil_append, List.length_cons, List.length_nil, List.replicate_succ, List.replicate_zero, Nat.reduceAdd, Nat.reduceSub, List.map_cons, List.map_nil, List.all_cons, List.all_nil, List.any_cons, List.any_nil, Bool.and_true, Bool.true_and, Bool.or_true, Bool.true_or, Bool.false_or, Bool.or_false, Bool.not_true, Bool.not_false, Bool.false_eq_true, if_true, if_false, ite_true, ite_false, true_and, and_true, decide_eq_true_eq, Int.cast_ofNat_Int, decide_true, decide_false, ne_eq, reduceCtorEq, eq_self, not_true_eq_false, not_false_eq_true, false_implies, true_implies, implies_true, true_or, or_true, false_or, or_false, Bool.not_eq_true', decide_eq_false_iff_not, Option.bind_some, Option.bind_none, reduceIte, e_star, e_tupS, e_lstS, e_methA, e_append, e_isLst, e_extend, e_st, e_revT, e_revL, e_enum, enumD, e_rng3, e_rngT, e_fzI, fzS, hl1, d1, hL0, gq_int]
theorem near_ok {w : Int} (w1 : 1 ≤ w) (w2 : w ≤ 600) : ∃ N : Int, g_nearest_round [.fz (rowD (rowF n f)), .fz (.int w)] = some (.fz (.int N), [.no, .no]) ∧ N % (L : Int) = 0 ∧ 1 ≤ N ∧ N ≤ 1000 ∧ (N = L ∨ (2 * (N - w) ≤ L ∧ 2 * (w - N) ≤ L)) := by
  have l0 := h.l0
  have hle := h.le
  have n2 := h.n2
  have a1 := rib_ok h
  have a2 := told_least_ok h
  have hL0 : (0 : Int) < L := by omega
  have hl1 : ((rowF L f).map D.int).length = L := by rw [List.length_map, rowF_len]
  have d1 := div_ok (j := (L : Int)) (n := 100) (by omega) (Bd.of (by omega) (by omega))
  have q0 : 0 ≤ w / (L : Int) := Int.ediv_nonneg (by omega) (by omega)
  have q1 : w / (L : Int) ≤ w := Int.ediv_le_self _ (by omega)
  have m1 := mul_ok (i := w / (L : Int)) (j := (L : Int)) (n := 1000) (m := 100) (Bd.of (by omega) (by omega)) (Bd.of (by omega) (by omega))
  have e1 := Int.emod_add_mul_ediv w L
  have e2 := Int.emod_nonneg w (show (L : Int) ≠ 0 by omega)
  have e3 := Int.emod_lt_of_pos w hL0
  have hlo : (w / (L : Int) * (L : Int)) % (L : Int) = 0 := Int.mul_emod_left ..
  have hlo0 : 0 ≤ w / (L : Int) * (L : Int) := Int.mul_nonneg q0 (by omega)
  rw [Int.mul_comm (L : Int)] at e1
  have hlo2 : (w / (L : Int) * (L : Int) + (L : Int)) % (L : Int) = 0 := by rw [Int.add_emod_right]; exact hlo
  generalize hlow : w / (L : Int) * (L : Int) = lo at *
  by_cases hc : 0 < lo ∧ w - lo ≤ lo + L - w
  · refine ⟨lo, W.out ?_, hlo, by omega, by omega, by omega⟩
    obtain ⟨c1, c2⟩ := hc
    unfold g_nearest_round b_nearest_round
    simp -dsimp -implicitDefEqProofs only [e_lc, e_wipeN, e_wipeC, e_restN, e_restC, e_getD, e_seq, e_set, e_ret, e_retN, e_if, e_next, e_never, e_bk, e_ct, e_drop, e_asg, e_many, e_setIx, e_for, e_while, e_aug, e_test, e_andT, e_orT, e_notT, e_and, e_or, e_not, e_ifE, e_chain, e_name, e_c, e_op1, e_op2, e_opn, e_cons, e_nil, e_tup, e_lst, e_slice, e_partN, e_partS, e_gName, e_gNil, e_gCons, e_gTup, e_rng1, e_rngA, e_rng2, e_rngB, e_it, e_zip, e_contsN, e_contsC, e_frzsN, e_frzsC, e_normsN, e_normsC, e_normB, e_normF, e_normO, e_manyN, e_manyC, e_outsN, e_outsP, e_outsF, e_outN, e_outF, e_outO, e_ixL, e_ixT, e_ixS, e_yes, e_fn, e_call, e_callM, e_callT, e_listRg, e_sortedSet, ob_some, ob_none, W_ob, W_some, W_none, Int.reduceLT, Int.reduceLE, Int.reduceNeg, Int.reduceAdd, Int.reduceMul, Int.reduceSub, Nat.reduceLT, Nat.reduceLeDiff, Int.reduceToNat, W_ite, andN, ixN_0, ixN_1, ixN_2, ixN_3, at0, at1, at2, at3, isB, gSl, nameR, cont, slotC, setSlot, frz, retR, noBr, updSlot, ownC, zipD, plainE, itemsD, gAdd, gAddI, gSub, e_mulI, gMod, gDiv, gPow, gNeg, gLt, gLe, gGt, gGe, gLen, gAbs, gInt, gMax2, gMin2, gTuple, gList, gIsi, isTy, isNon, gIs, gIsNot, mAppend, headPm, noBrs, solidR, isBr, isLst, List.getElem?_cons_zero, List.getElem?_cons_succ, List.getElem?_nil, List.set_cons_zero, List.set_cons_succ, List.cons_append, List.nil_append, List.length_cons, List.length_nil, List.replicate_succ, List.replicate_zero, Nat.reduceAdd, Nat.reduceSub, List.map_cons, List.map_nil, List.all_cons, List.all_nil, List.any_cons, List.any_nil, Bool.and_true, Bool.true_and, Bool.or_true, Bool.true_or, Bool.false_or, Bool.or_false, Bool.not_true, Bool.not_false, Bool.false_eq_true, if_true, if_false, ite_true, ite_false, true_and, and_true, decide_eq_true_eq, Int.cast_ofNat_Int, decide_true, decide_false, ne_eq, reduceCtorEq, eq_self, not_true_eq_false, not_false_eq_true, false_implies, true_implies, implies_true, true_or, or_true, false_or, or_false, Bool.not_eq_true', decide_eq_false_iff_not, Option.bind_some, Option.bind_none, reduceIte, e_star, e_tupS, e_lstS, e_methA, e_append, e_isLst, e_extend, e_st, e_revT, e_revL, e_enum, enumD, e_rng3, e_rngT, e_fzI, fzS, a1, is_int_g]
    refine W.eq (isInt_ok w1 w2) ?_
    simp -dsimp -implicitDefEqProofs only [e_lc, e_wipeN, e_wipeC, e_restN, e_restC, e_getD, e_seq, e_set, e_ret, e_retN, e_if, e_next, e_never, e_bk, e_ct, e_drop, e_asg, e_many, e_setIx, e_for, e_while, e_aug, e_test, e_andT, e_orT, e_notT, e_and, e_or, e_not, e_ifE, e_chain, e_name, e_c, e_op1, e_op2, e_opn, e_cons, e_nil, e_tup, e_lst, e_slice, e_partN, e_partS, e_gName, e_gNil, e_gCons, e_gTup, e_rng1, e_rngA, e_rng2, e_rngB, e_it, e_zip, e_contsN, e_contsC, e_frzsN, e_frzsC, e_normsN, e_normsC, e_normB, e_normF, e_normO, e_manyN, e_manyC, e_outsN, e_outsP, e_outsF, e_outN, e_outF, e_outO, e_ixL, e_ixT, e_ixS, e_yes, e_fn, e_call, e_callM, e_callT, e_listRg, e_sortedSet, ob_some, ob_none, W_ob, W_some, W_none, Int.reduceLT, Int.reduceLE, Int.reduceNeg, Int.reduceAdd, Int.reduceMul, Int.reduceSub, Nat.reduceLT, Nat.reduceLeDiff, Int.reduceToNat, W_ite, andN, ixN_0, ixN_1, ixN_2, ixN_3, at0, at1, at2, at3, isB, gSl, nameR, cont, slotC, setSlot, frz, retR, noBr, updSlot, ownC, zipD, plainE, itemsD, gAdd, gAddI, gSub, e_mulI, gMod, gDiv, gPow, gNeg, gLt, gLe, gGt, gGe, gLen, gAbs, gInt, gMax2, gMin2, gTuple, gList, gIsi, isTy, isNon, gIs, gIsNot, mAppend, headPm, noBrs, solidR, isBr, isLst, List.getElem?_cons_zero, List.getElem?_cons_succ, List.getElem?_nil, List.set_cons_zero, List.set_cons_succ, List.cons_append, List.nil_append, List.length_cons, List.length_nil, List.replicate_succ, List.replicate_zero, Nat.reduceAdd, Nat.reduceSub, List.map_cons, List.map_nil, List.all_cons, List.all_nil, List.any_cons, List.any_nil, Bool.and_true, Bool.true_and, Bool.or_true, Bool.true_or, Bool.false_or, Bool.or_false, Bool.not_true, Bool.not_false, Bool.false_eq_true, if_true, if_false, ite_true, ite_false, true_and, and_true, decide_eq_true_eq, Int.cast_ofNat_Int, decide_true, decide_false, ne_eq, reduceCtorEq, eq_self, not_true_eq_false, not_false_eq_true, false_implies, true_implies, implies_true, true_or, or_true, false_or, or_false, Bool.not_eq_true', decide_eq_false_iff_not, Option.bind_some, Option.bind_none, reduceIte, e_star, e_tupS, e_lstS, e_methA, e_append, e_isLst, e_extend, e_st, e_revT, e_revL, e_enum, enumD, e_rng3, e_rngT, e_fzI, fzS, a2]
    unfold rowD
    simp -dsimp -implicitDefEqProofs only [e_lc, e_wipeN, e_wipeC, e_restN, e_restC, e_getD, e_seq, e_set, e_ret, e_retN, e_if, e_next, e_never, e_bk, e_ct, e_drop, e_asg, e_many, e_setIx, e_for, e_while, e_aug, e_test, e_andT, e_orT, e_notT, e_and, e_or, e_not, e_ifE, e_chain, e_name, e_c, e_op1, e_op2, e_opn, e_cons, e_nil, e_tup, e_lst, e_slice, e_partN, e_partS, e_gName, e_gNil, e_gCons, e_gTup, e_rng1, e_rngA, e_rng2, e_rngB, e_it, e_zip, e_contsN, e_contsC, e_frzsN, e_frzsC, e_normsN, e_normsC, e_normB, e_normF, e_normO, e_manyN, e_manyC, e_outsN, e_outsP, e_outsF, e_outN, e_outF, e_outO, e_ixL, e_ixT, e_ixS, e_yes, e_fn, e_call, e_callM, e_callT, e_listRg, e_sortedSet, ob_some, ob_none, W_ob, W_some, W_none, Int.reduceLT, Int.reduceLE, Int.reduceNeg, Int.reduceAdd, Int.reduceMul, Int.reduceSub, Nat.reduceLT, Nat.reduceLeDiff, Int.reduceToNat, W_ite, andN, ixN_0, ixN_1, ixN_2, ixN_3, at0, at1, at2, at3, isB, gSl, nameR, cont, slotC, setSlot, frz, retR, noBr, updSlot, ownC, zipD, plainE, itemsD, gAdd, gAddI, gSub, e_mulI, gMod, gDiv, gPow, gNeg, gLt, gLe, gGt, gGe, gLen, gAbs, gInt, gMax2, gMin2, gTuple, gList, gIsi, isTy, isNon, gIs, gIsNot, mAppend, headPm, noBrs, solidR, isBr, isLst, List.getElem?_cons_zero, List.getElem?_cons_succ, List.getElem?_nil, List.set_cons_zero, List.set_cons_succ, List.cons_append, List.nil_append, List.length_cons, List.length_nil, List.replicate_succ, List.replicate_zero, Nat.reduceAdd, Nat.reduceSub, List.map_cons, List.map_nil, List.all_cons, List.all_nil, List.any_cons, List.any_nil, Bool.and_true, Bool.true_and, Bool.or_true, Bool.true_or, Bool.false_or, Bool.or_false, Bool.not_true, Bool.not_false, Bool.false_eq_true, if_true, if_false, ite_true, ite_false, true_and, and_true, decide_eq_true_eq, Int.cast_ofNat_Int, decide_true, decide_false, ne_eq, reduceCtorEq, eq_self, not_true_eq_false, not_false_eq_true, false_implies, true_implies, implies_true, true_or, or_true, false_or, or_false, Bool.not_eq_true', decide_eq_false_iff_not, Option.bind_some, Option.bind_none, reduceIte, e_star, e_tupS, e_lstS, e_methA, e_append, e_isLst, e_extend, e_st, e_revT, e_revL, e_enum, enumD, e_rng3, e_rngT, e_fzI, fzS, hl1, d1, hL0, m1, hlow, c1, c2]
  · refine ⟨lo + L, W.out ?_, hlo2, by omega, by omega, by omega⟩
    unfold g_nearest_round b_nearest_round
    simp -dsimp -implicitDefEqProofs only [e_lc, e_wipeN, e_wipeC, e_restN, e_restC, e_getD, e_seq, e_set, e_ret, e_retN, e_if, e_next, e_never, e_bk, e_ct, e_drop, e_asg, e_many, e_setIx, e_for, e_while, e_aug, e_test, e_andT, e_orT, e_notT, e_and, e_or, e_not, e_ifE, e_chain, e_name, e_c, e_op1, e_op2, e_opn, e_cons, e_nil, e_tup, e_lst, e_slice, e_partN, e_partS, e_gName, e_gNil, e_gCons, e_gTup, e_rng1, e_rngA, e_rng2, e_rngB, e_it, e_zip, e_contsN, e_contsC, e_frzsN, e_frzsC, e_normsN, e_normsC, e_normB, e_normF, e_normO, e_manyN, e_manyC, e_outsN, e_outsP, e_outsF, e_outN, e_outF, e_outO, e_ixL, e_ixT, e_ixS, e_yes, e_fn, e_call, e_callM, e_callT, e_listRg, e_sortedSet, ob_some, ob_none, W_ob, W_some, W_none, Int.reduceLT, Int.reduceLE, Int.reduceNeg, Int.reduceAdd, Int.reduceMul, Int.reduceSub, Nat.reduceLT, Nat.reduceLeDiff, Int.reduceToNat, W_ite, andN, ixN_0, ixN_1, ixN_2, ixN_3, at0, at1, at2, at3, isB, gSl, nameR, cont, slotC, setSlot, frz, retR, noBr, updSlot, ownC, zipD, plainE, itemsD, gAdd, gAddI, gSub, e_mulI, gMod, gDiv, gPow, gNeg, gLt, gLe, gGt, gGe, gLen, gAbs, gInt, gMax2, gMin2, gTuple, gList, gIsi, isTy, isNon, gIs, gIsNot, mAppend, headPm, noBrs, solidR, isBr, isLst, List.getElem?_cons_zero, List.getElem?_cons_succ, List.getElem?_nil, List.set_cons_zero, List.set_cons_succ, List.cons_append, List.nil_append, List.length_cons, List.length_nil, List.replicate_succ, List.replicate_zero, Nat.reduceAdd, Nat.reduceSub, List.map_cons, List.map_nil, List.all_cons, List.all_nil, List.any_cons, List.any_nil, Bool.and_true, Bool.true_and, Bool.or_true, Bool.true_or, Bool.false_or, Bool.or_false, Bool.not_true, Bool.not_false, Bool.false_eq_true, if_true, if_false, ite_true, ite_false, true_and, and_true, decide_eq_true_eq, Int.cast_ofNat_Int, decide_true, decide_false, ne_eq, reduceCtorEq, eq_self, not_true_eq_false, not_false_eq_true, false_implies, true_implies, implies_true, true_or, or_true, false_or, or_false, Bool.not_eq_true', decide_eq_false_iff_not, Option.bind_some, Option.bind_none, reduceIte, e_star, e_tupS, e_lstS, e_methA, e_append, e_isLst, e_extend, e_st, e_revT, e_revL, e_enum, enumD, e_rng3, e_rngT, e_fzI, fzS, a1, is_int_g]
    refine W.eq (isInt_ok w1 w2) ?_
    simp -dsimp -implicitDefEqProofs only [e_lc, e_wipeN, e_wipeC, e_restN, e_restC, e_getD, e_seq, e_set, e_ret, e_retN, e_if, e_next, e_never, e_bk, e_ct, e_drop, e_asg, e_many, e_setIx, e_for, e_while, e_aug, e_test, e_andT, e_orT, e_notT, e_and, e_or, e_not, e_ifE, e_chain, e_name, e_c, e_op1, e_op2, e_opn, e_cons, e_nil, e_tup, e_lst, e_slice, e_partN, e_partS, e_gName, e_gNil, e_gCons, e_gTup, e_rng1, e_rngA, e_rng2, e_rngB, e_it, e_zip, e_contsN, e_contsC, e_frzsN, e_frzsC, e_normsN, e_normsC, e_normB, e_normF, e_normO, e_manyN, e_manyC, e_outsN, e_outsP, e_outsF, e_outN, e_outF, e_outO, e_ixL, e_ixT, e_ixS, e_yes, e_fn, e_call, e_callM, e_callT, e_listRg, e_sortedSet, ob_some, ob_none, W_ob, W_some, W_none, Int.reduceLT, Int.reduceLE, Int.reduceNeg, Int.reduceAdd, Int.reduceMul, Int.reduceSub, Nat.reduceLT, Nat.reduceLeDiff, Int.reduceToNat, W_ite, andN, ixN_0, ixN_1, ixN_2, ixN_3, at0, at1, at2, at3, isB, gSl, nameR, cont, slotC, setSlot, frz, retR, noBr, updSlot, ownC, zipD, plainE, itemsD, gAdd, gAddI, gSub, e_mulI, gMod, gDiv, gPow, gNeg, gLt, gLe, gGt, gGe, gLen, gAbs, gInt, gMax2, gMin2, gTuple, gList, gIsi, isTy, isNon, gIs, gIsNot, mAppend, headPm, noBrs, solidR, isBr, isLst, List.getElem?_cons_zero, List.getElem?_cons_succ, List.getElem?_nil, List.set_cons_zero, List.set_cons_succ, List.cons_append, List.nil_append, List.length_cons, List.length_nil, List.replicate_succ, List.replicate_zero, Nat.reduceAdd, Nat.reduceSub, List.map_cons, List.map_nil, List.all_cons, List.all_nil, List.any_cons, List.any_nil, Bool.and_true, Bool.true_and, Bool.or_true, Bool.true_or, Bool.false_or, Bool.or_false, Bool.not_true, Bool.not_false, Bool.false_eq_true, if_true, if_false, ite_true, ite_false, true_and, and_true, decide_eq_true_eq, Int.cast_ofNat_Int, decide_true, decide_false, ne_eq, reduceCtorEq, eq_self, not_true_eq_false, not_false_eq_true, false_implies, true_implies, implies_true, true_or, or_true, false_or, or_false, Bool.not_eq_true', decide_eq_false_iff_not, Option.bind_some, Option.bind_none, reduceIte, e_star, e_tupS, e_lstS, e_methA, e_append, e_isLst, e_extend, e_st, e_revT, e_revL, e_enum, enumD, e_rng3, e_rngT, e_fzI, fzS, a2]
    unfold rowD
    by_cases c1 : 0 < lo
    · have c2 : ¬ (w - lo ≤ lo + L - w) := fun z => hc ⟨c1, z⟩
      simp -dsimp -implicitDefEqProofs only [e_lc, e_wipeN, e_wipeC, e_restN, e_restC, e_getD, e_seq, e_set, e_ret, e_retN, e_if, e_next, e_never, e_bk, e_ct, e_drop, e_asg, e_many, e_setIx, e_for, e_while, e_aug, e_test, e_andT, e_orT, e_notT, e_and, e_or, e_not, e_ifE, e_chain, e_name, e_c, e_op1, e_op2, e_opn, e_cons, e_nil, e_tup, e_lst, e_slice, e_partN, e_partS, e_gName, e_gNil, e_gCons, e_gTup, e_rng1, e_rngA, e_rng2, e_rngB, e_it, e_zip, e_contsN, e_contsC, e_frzsN, e_frzsC, e_normsN, e_normsC, e_normB, e_normF, e_normO, e_manyN, e_manyC, e_outsN, e_outsP, e_outsF, e_outN, e_outF, e_outO, e_ixL, e_ixT, e_ixS, e_yes, e_fn, e_call, e_callM, e_callT, e_listRg, e_sortedSet, ob_some, ob_none, W_ob, W_some, W_none, Int.reduceLT, Int.reduceLE, Int.reduceNeg, Int.reduceAdd, Int.reduceMul, Int.reduceSub, Nat.reduceLT, Nat.reduceLeDiff, Int.reduceToNat, W_ite, andN, ixN_0, ixN_1, ixN_2, ixN_3, at0, at1, at2, at3, isB, gSl, nameR, cont, slotC, setSlot, frz, retR, noBr, updSlot, ownC, zipD, plainE, itemsD, gAdd, gAddI, gSub, e_mulI, gMod, gDiv, gPow, gNeg, gLt, gLe, gGt, gGe, gLen, gAbs, gInt, gMax2, gMin2, gTuple, gList, gIsi, isTy, isNon, gIs, gIsNot, mAppend, headPm, noBrs, solidR, isBr, isLst, List.getElem?_cons_zero, List.getElem?_cons_succ, List.getElem?_nil, List.set_cons_zero, List.set_cons_succ, List.cons_append, List.nil_append, List.length_cons, List.length_nil, List.replicate_succ, List.replicate_zero, Nat.reduceAdd, Nat.reduceSub, List.map_cons, List.map_nil, List.all_cons, List.all_nil, List.any_cons, List.any_nil, Bool.and_true, Bool.true_and, Bool.or_true, Bool.true_or, Bool.false_or, Bool.or_false, Bool.not_true, Bool.not_false, Bool.false_eq_true, if_true, if_false, ite_true, ite_false, true_and, and_true, decide_eq_true_eq, Int.cast_ofNat_Int, decide_true, decide_false, ne_eq, reduceCtorEq, eq_self, not_true_eq_false, not_false_eq_true, false_implies, true_implies, implies_true, true_or, or_true, false_or, or_false, Bool.not_eq_true', decide_eq_false_iff_not, Option.bind_some, Option.bind_none, reduceIte, e_star, e_tupS, e_lstS, e_methA, e_append, e_isLst, e_extend, e_st, e_revT, e_revL, e_enum, enumD, e_rng3, e_rngT, e_fzI, fzS, hl1, d1, hL0, m1, hlow, c1, c2]
    · simp -dsimp -implicitDefEqProofs only [e_lc, e_wipeN, e_wipeC, e_restN, e_restC, e_getD, e_seq, e_set, e_ret, e_retN, e_if, e_next, e_never, e_bk, e_ct, e_drop, e_asg, e_many, e_setIx, e_for, e_while, e_aug, e_test, e_andT, e_orT, e_notT, e_and, e_or, e_not, e_ifE, e_chain, e_name, e_c, e_op1, e_op2, e_opn, e_cons, e_nil, e_tup, e_lst, e_slice, e_partN, e_partS, e_gName, e_gNil, e_gCons, e_gTup, e_rng1, e_rngA, e_rng2, e_rngB, e_it, e_zip, e_contsN, e_contsC, e_frzsN, e_frzsC, e_normsN, e_normsC, e_normB, e_normF, e_normO, e_manyN, e_manyC, e_outsN, e_outsP, e_outsF, e_outN, e_outF, e_outO, e_ixL, e_ixT, e_ixS, e_yes, e_fn, e_call, e_callM, e_callT, e_listRg, e_sortedSet, ob_some, ob_none, W_ob, W_some, W_none, Int.reduceLT, Int.reduceLE, Int.reduceNeg, Int.reduceAdd, Int.reduceMul, Int.reduceSub, Nat.reduceLT, Nat.reduceLeDiff, Int.reduceToNat, W_ite, andN, ixN_0, ixN_1, ixN_2, ixN_3, at0, at1, at2, at3, isB, gSl, nameR, cont, slotC, setSlot, frz, retR, noBr, updSlot, ownC, zipD, plainE, itemsD, gAdd, gAddI, gSub, e_mulI, gMod, gDiv, gPow, gNeg, gLt, gLe, gGt, gGe, gLen, gAbs, gInt, gMax2, gMin2, gTuple, gList, gIsi, isTy, isNon, gIs, gIsNot, mAppend, headPm, noBrs, solidR, isBr, isLst, List.getElem?_cons_zero, List.getElem?_cons_succ, List.getElem?_nil, List.set_cons_zero, List.set_cons_succ, List.cons_append, List.nil_append, List.length_cons, List.length_nil, List.replicate_succ, List.replicate_zero, Nat.reduceAdd, Nat.reduceSub, List.map_cons, List.map_nil, List.all_cons, List.all_nil, List.any_cons, List.any_nil, Bool.and_true, Bool.true_and, Bool.or_true, Bool.true_or, Bool.false_or, Bool.or_false, Bool.not_true, Bool.not_false, Bool.false_eq_true, if_true, if_false, ite_true, ite_false, true_and, and_true, decide_eq_true_eq, Int.cast_ofNat_Int, decide_true, decide_false, ne_eq, reduceCtorEq, eq_self, not_true_eq_false, not_false_eq_true, false_implies, true_implies, implies_true, true_or, or_true, false_or, or_false, Bool.not_eq_true', decide_eq_false_iff_not, Option.bind_some, Option.bind_none, reduceIte, e_star, e_tupS, e_lstS, e_methA, e_append, e_isLst, e_extend, e_st, e_revT, e_revL, e_enum, enumD, e_rng3, e_rngT, e_fzI, fzS, hl1, d1, hL0, m1, hlow, c1]
def oneC (f : Int → Int) : D → Bool
  | .int i => decide (f i = 1)
  | _ => false
theorem one_len (w : Nat) : (((rngD 0 w).filter (oneC f)).length : Int) = Sm f w := by
  have e : ∀ w : Nat, (((List.range w).filter fun i : Nat => decide (f i = 1)).length : Int) = Sm f w := fun w => by
    induction w with
    | zero => rfl
    | succ w ih =>
      rw [List.range_succ, List.filter_append, List.length_append]
      show _ = Sm f w + f w
      rw [← ih]
      have := h.val w
      by_cases hz : f w = 1
      · rw [List.filter_cons_of_pos (by exact decide_eq_true hz), hz]
        simp
      · rw [List.filter_cons_of_neg (by rw [decide_eq_false hz]; exact Bool.false_ne_true)]
        simp
        omega
  rw [← e]
  unfold rngD
  rw [List.filter_map, List.length_map]
  congr 2
  refine List.filter_congr fun i hi => ?_
  show oneC f (.int (0 + (i : Int))) = _
  rw [Int.zero_add]
  rfl
theorem columns_ok {w : Nat} (w2 : w ≤ 600) : g_columns_of [.fz (rowD (rowF n f)), .fz (.int w)] = some (.fz (.tup [.int (Sm f w), .int ((w : Int) - Sm f w)]), [.no, .no]) := by
  refine W.out ?_
  have n1 := h.n1
  have n2 := h.n2
  have hn0 : (0 : Int) < n := by omega
  have a1 := rib_ok h
  have hl1 : ((rowF n f).map D.int).length = n := by rw [List.length_map, rowF_len]
  have d1 := div_ok (j := (n : Int)) (n := 100) (by omega) (Bd.of (by omega) (by omega))
  have sw := sm1 (i := (w : Int)) (by omega)
  have tw : ((w : Nat) : Int).toNat = w := by omega
  unfold g_columns_of b_columns_of
  simp -dsimp -implicitDefEqProofs only [e_lc, e_wipeN, e_wipeC, e_restN, e_restC, e_getD, e_seq, e_set, e_ret, e_retN, e_if, e_next, e_never, e_bk, e_ct, e_drop, e_asg, e_many, e_setIx, e_for, e_while, e_aug, e_test, e_andT, e_orT, e_notT, e_and, e_or, e_not, e_ifE, e_chain, e_name, e_c, e_op1, e_op2, e_opn, e_cons, e_nil, e_tup, e_lst, e_slice, e_partN, e_partS, e_gName, e_gNil, e_gCons, e_gTup, e_rng1, e_rngA, e_rng2, e_rngB, e_it, e_zip, e_contsN, e_contsC, e_frzsN, e_frzsC, e_normsN, e_normsC, e_normB, e_normF, e_normO, e_manyN, e_manyC, e_outsN, e_outsP, e_outsF, e_outN, e_outF, e_outO, e_ixL, e_ixT, e_ixS, e_yes, e_fn, e_call, e_callM, e_callT, e_listRg, e_sortedSet, ob_some, ob_none, W_ob, W_some, W_none, Int.reduceLT, Int.reduceLE, Int.reduceNeg, Int.reduceAdd, Int.reduceMul, Int.reduceSub, Nat.reduceLT, Nat.reduceLeDiff, Int.reduceToNat, W_ite, andN, ixN_0, ixN_1, ixN_2, ixN_3, at0, at1, at2, at3, isB, gSl, nameR, cont, slotC, setSlot, frz, retR, noBr, updSlot, ownC, zipD, plainE, itemsD, gAdd, gAddI, gSub, e_mulI, gMod, gDiv, gPow, gNeg, gLt, gLe, gGt, gGe, gLen, gAbs, gInt, gMax2, gMin2, gTuple, gList, gIsi, isTy, isNon, gIs, gIsNot, mAppend, headPm, noBrs, solidR, isBr, isLst, List.getElem?_cons_zero, List.getElem?_cons_succ, List.getElem?_nil, List.set_cons_zero, List.set_cons_succ, List.cons_append, List.nil_append, List.length_cons, List.length_nil, List.replicate_succ, List.replicate_zero, Nat.reduceAdd, Nat.reduceSub, List.map_cons, List.map_nil, List.all_cons, List.all_nil, List.any_cons, List.any_nil, Bool.and_true, Bool.true_and, Bool.or_true, Bool.true_or, Bool.false_or, Bool.or_false, Bool.not_true, Bool.not_false, Bool.false_eq_true, if_true, if_false, ite_true, ite_false, true_and, and_true, decide_eq_true_eq, Int.cast_ofNat_Int, decide_true, decide_false, ne_eq, reduceCtorEq, eq_self, not_true_eq_false, not_false_eq_true, false_implies, true_implies, implies_true, true_or, or_true, false_or, or_false, Bool.not_eq_true', decide_eq_false_iff_not, Option.bind_some, Option.bind_none, reduceIte, e_star, e_tupS, e_lstS, e_methA, e_append, e_isLst, e_extend, e_st, e_revT, e_revL, e_enum, enumD, e_rng3, e_rngT, e_fzI, fzS, a1, is_int_g]
  refine W.eq (isInt_ok (by omega) (by omega)) ?_
  unfold rowD
  simp -dsimp -implicitDefEqProofs only [e_lc, e_wipeN, e_wipeC, e_restN, e_restC, e_getD, e_seq, e_set, e_ret, e_retN, e_if, e_next, e_never, e_bk, e_ct, e_drop, e_asg, e_many, e_setIx, e_for, e_while, e_aug, e_test, e_andT, e_orT, e_notT, e_and, e_or, e_not, e_ifE, e_chain, e_name, e_c, e_op1, e_op2, e_opn, e_cons, e_nil, e_tup, e_lst, e_slice, e_partN, e_partS, e_gName, e_gNil, e_gCons, e_gTup, e_rng1, e_rngA, e_rng2, e_rngB, e_it, e_zip, e_contsN, e_contsC, e_frzsN, e_frzsC, e_normsN, e_normsC, e_normB, e_normF, e_normO, e_manyN, e_manyC, e_outsN, e_outsP, e_outsF, e_outN, e_outF, e_outO, e_ixL, e_ixT, e_ixS, e_yes, e_fn, e_call, e_callM, e_callT, e_listRg, e_sortedSet, ob_some, ob_none, W_ob, W_some, W_none, Int.reduceLT, Int.reduceLE, Int.reduceNeg, Int.reduceAdd, Int.reduceMul, Int.reduceSub, Nat.reduceLT, Nat.reduceLeDiff, Int.reduceToNat, W_ite, andN, ixN_0, ixN_1, ixN_2, ixN_3, at0, at1, at2, at3, isB, gSl, nameR, cont, slotC, setSlot, frz, retR, noBr, updSlot, ownC, zipD, plainE, itemsD, gAdd, gAddI, gSub, e_mulI, gMod, gDiv, gPow, gNeg, gLt, gLe, gGt, gGe, gLen, gAbs, gInt, gMax2, gMin2, gTuple, gList, gIsi, isTy, isNon, gIs, gIsNot, mAppend, headPm, noBrs, solidR, isBr, isLst, List.getElem?_cons_zero, List.getElem?_cons_succ, List.getElem?_nil, List.set_cons_zero, List.set_cons_succ, List.cons_append, List.nil_append, List.length_cons, List.length_nil, List.replicate_succ, List.replicate_zero, Nat.reduceAdd, Nat.reduceSub, List.map_cons, List.map_nil, List.all_cons, List.all_nil, List.any_cons, List.any_nil, Bool.and_true, Bool.true_and, Bool.or_true, Bool.true_or, Bool.false_or, Bool.or_false, Bool.not_true, Bool.not_false, Bool.false_eq_true, if_true, if_false, ite_true, ite_false, true_and, and_true, decide_eq_true_eq, Int.cast_ofNat_Int, decide_true, decide_false, ne_eq, reduceCtorEq, eq_self, not_true_eq_false, not_false_eq_true, false_implies, true_implies, implies_true, true_or, or_true, false_or, or_false, Bool.not_eq_true', decide_eq_false_iff_not, Option.bind_some, Option.bind_none, reduceIte, e_star, e_tupS, e_lstS, e_methA, e_append, e_isLst, e_extend, e_st, e_revT, e_revL, e_enum, enumD, e_rng3, e_rngT, e_fzI, fzS, sw, tw]
  refine lc_pure (oneC f) id (fun d hd => ?_) fun ρ' hρ => ?_
  · obtain ⟨i, hi, rfl⟩ := rngD_mem.mp hd
    rw [Int.zero_add]
    have x1 := ix_row n1 h.per (i : Int)
    have eu : oneC f (.int (i : Int)) = decide (f i = 1) := rfl
    rw [eu]
    simp -dsimp -implicitDefEqProofs only [e_lc, e_wipeN, e_wipeC, e_restN, e_restC, e_getD, e_seq, e_set, e_ret, e_retN, e_if, e_next, e_never, e_bk, e_ct, e_drop, e_asg, e_many, e_setIx, e_for, e_while, e_aug, e_test, e_andT, e_orT, e_notT, e_and, e_or, e_not, e_ifE, e_chain, e_name, e_c, e_op1, e_op2, e_opn, e_cons, e_nil, e_tup, e_lst, e_slice, e_partN, e_partS, e_gName, e_gNil, e_gCons, e_gTup, e_rng1, e_rngA, e_rng2, e_rngB, e_it, e_zip, e_contsN, e_contsC, e_frzsN, e_frzsC, e_normsN, e_normsC, e_normB, e_normF, e_normO, e_manyN, e_manyC, e_outsN, e_outsP, e_outsF, e_outN, e_outF, e_outO, e_ixL, e_ixT, e_ixS, e_yes, e_fn, e_call, e_callM, e_callT, e_listRg, e_sortedSet, ob_some, ob_none, W_ob, W_some, W_none, Int.reduceLT, Int.reduceLE, Int.reduceNeg, Int.reduceAdd, Int.reduceMul, Int.reduceSub, Nat.reduceLT, Nat.reduceLeDiff, Int.reduceToNat, W_ite, andN, ixN_0, ixN_1, ixN_2, ixN_3, at0, at1, at2, at3, isB, gSl, nameR, cont, slotC, setSlot, frz, retR, noBr, updSlot, ownC, zipD, plainE, itemsD, gAdd, gAddI, gSub, e_mulI, gMod, gDiv, gPow, gNeg, gLt, gLe, gGt, gGe, gLen, gAbs, gInt, gMax2, gMin2, gTuple, gList, gIsi, isTy, isNon, gIs, gIsNot, mAppend, headPm, noBrs, solidR, isBr, isLst, List.getElem?_cons_zero, List.getElem?_cons_succ, List.getElem?_nil, List.set_cons_zero, List.set_cons_succ, List.cons_append, List.nil_append, List.length_cons, List.length_nil, List.replicate_succ, List.replicate_zero, Nat.reduceAdd, Nat.reduceSub, List.map_cons, List.map_nil, List.all_cons, List.all_nil, List.any_cons, List.any_nil, Bool.and_true, Bool.true_and, Bool.or_true, Bool.true_or, Bool.false_or, Bool.or_false, Bool.not_true, Bool.not_false, Bool.false_eq_true, if_true, if_false, ite_true, ite_false, true_and, and_true, decide_eq_true_eq, Int.cast_ofNat_Int, decide_true, decide_false, ne_eq, reduceCtorEq, eq_self, not_true_eq_false, not_false_eq_true, false_implies, true_implies, implies_true, true_or, or_true, false_or, or_false, Bool.not_eq_true', decide_eq_false_iff_not, Option.bind_some, Option.bind_none, reduceIte, e_star, e_tupS, e_lstS, e_methA, e_append, e_isLst, e_extend, e_st, e_revT, e_revL, e_enum, enumD, e_rng3, e_rngT, e_fzI, fzS, hl1, x1, d1, hn0, gq_int]
    exact fun _ => rfl
  · have l : ((rngD 0 w).filter (oneC f)).length ≤ sizeLine := by
      refine Nat.le_trans (List.length_filter_le _ _) ?_
      rw [rngD_len, sizeLine_eq]
      omega
    have ol := one_len h w
    rw [List.map_id]
    simp -dsimp -implicitDefEqProofs only [e_lc, e_wipeN, e_wipeC, e_restN, e_restC, e_getD, e_seq, e_set, e_ret, e_retN, e_if, e_next, e_never, e_bk, e_ct, e_drop, e_asg, e_many, e_setIx, e_for, e_while, e_aug, e_test, e_andT, e_orT, e_notT, e_and, e_or, e_not, e_ifE, e_chain, e_name, e_c, e_op1, e_op2, e_opn, e_cons, e_nil, e_tup, e_lst, e_slice, e_partN, e_partS, e_gName, e_gNil, e_gCons, e_gTup, e_rng1, e_rngA, e_rng2, e_rngB, e_it, e_zip, e_contsN, e_contsC, e_frzsN, e_frzsC, e_normsN, e_normsC, e_normB, e_normF, e_normO, e_manyN, e_manyC, e_outsN, e_outsP, e_outsF, e_outN, e_outF, e_outO, e_ixL, e_ixT, e_ixS, e_yes, e_fn, e_call, e_callM, e_callT, e_listRg, e_sortedSet, ob_some, ob_none, W_ob, W_some, W_none, Int.reduceLT, Int.reduceLE, Int.reduceNeg, Int.reduceAdd, Int.reduceMul, Int.reduceSub, Nat.reduceLT, Nat.reduceLeDiff, Int.reduceToNat, W_ite, andN, ixN_0, ixN_1, ixN_2, ixN_3, at0, at1, at2, at3, isB, gSl, nameR, cont, slotC, setSlot, frz, retR, noBr, updSlot, ownC, zipD, plainE, itemsD, gAdd, gAddI, gSub, e_mulI, gMod, gDiv, gPow, gNeg, gLt, gLe, gGt, gGe, gLen, gAbs, gInt, gMax2, gMin2, gTuple, gList, gIsi, isTy, isNon, gIs, gIsNot, mAppend, headPm, noBrs, solidR, isBr, isLst, List.getElem?_cons_zero, List.getElem?_cons_succ, List.getElem?_nil, List.set_cons_zero, List.set_cons_succ, List.cons_append, List.nil_append, List.length_cons, List.length_nil, List.replicate_succ, List.replicate_zero, Nat.reduceAdd, Nat.reduceSub, List.map_cons, List.map_nil, List.all_cons, List.all_nil, List.any_cons, List.any_nil, Bool.and_true, Bool.true_and, Bool.or_true, Bool.true_or, Bool.false_or, Bool.or_false, Bool.not_true, Bool.not_false, Bool.false_eq_true, if_true, if_false, ite_true, ite_false, true_and, and_true, decide_eq_true_eq, Int.cast_ofNat_Int, decide_true, decide_false, ne_eq, reduceCtorEq, eq_self, not_true_eq_false, not_false_eq_true, false_implies, true_implies, implies_true, true_or, or_true, false_or, or_false, Bool.not_eq_true', decide_eq_false_iff_not, Option.bind_some, Option.bind_none, reduceIte, e_star, e_tupS, e_lstS, e_methA, e_append, e_isLst, e_extend, e_st, e_revT, e_revL, e_enum, enumD, e_rng3, e_rngT, e_fzI, fzS, hρ, l, ol]
end
/-- knit, then purl -/
def pl (k : Nat) : List Int := pwr k [1] ++ pwr k [0]
theorem pwr_one (k : Nat) (v : Int) : pwr k [v] = List.replicate k v := by
  unfold pwr
  induction k with
  | zero => rfl
  | succ k ih => rw [List.replicate_succ, List.flatten_cons, ih, List.replicate_succ]; rfl
theorem pl_len (k : Nat) : (pl k).length = 2 * k := by
  unfold pl
  rw [List.length_append, pwr_len, pwr_len]
  simp
  omega
theorem pl_bk (k : Nat) : bk (pl k) = pl k := by
  unfold pl
  rw [bk_app, pwr_one, pwr_one]
  unfold bk
  rw [List.reverse_replicate, List.reverse_replicate, List.map_replicate, List.map_replicate]
  rfl
theorem pl_val (k : Nat) : ∀ v ∈ pl k, 0 ≤ v ∧ v ≤ 1 := fun v hv => by
  unfold pl at hv
  rw [pwr_one, pwr_one] at hv
  rcases List.mem_append.mp hv with z | z
  · rw [List.eq_of_mem_replicate z]
    decide
  · rw [List.eq_of_mem_replicate z]
    decide
theorem plain_ok {k : Nat} (k1 : 1 ≤ k) (k2 : k ≤ 12) : g_plain_rib [.fz (.int k), .fz (.int k)] = some (.fz (rowD (pl k)), [.no, .no]) := by
  refine W.out ?_
  have m1 := mul_row (ys := [1]) (k := k) (by simp) (by simp) k1 (by omega)
  have m0 := mul_row (ys := [0]) (k := k) (by simp) (by simp) k1 (by omega)
  have hk : ¬ ((k : Int) + (k : Int) = 0) := by omega
  have el : ((pwr k [1]).map D.int).length + ((pwr k [0]).map D.int).length ≤ sizeLine := by
    rw [List.length_map, List.length_map, pwr_len, pwr_len, sizeLine_eq]
    simp
    omega
  have d2 : divOk 2 = true := by decide
  unfold rowD at m1 m0 ⊢
  rw [List.map_cons, List.map_nil] at m1 m0
  have e12 : (24 : Int) / 2 = 12 := by decide
  unfold g_plain_rib b_plain_rib
  simp -dsimp -implicitDefEqProofs only [e_lc, e_wipeN, e_wipeC, e_restN, e_restC, e_getD, e_seq, e_set, e_ret, e_retN, e_if, e_next, e_never, e_bk, e_ct, e_drop, e_asg, e_many, e_setIx, e_for, e_while, e_aug, e_test, e_andT, e_orT, e_notT, e_and, e_or, e_not, e_ifE, e_chain, e_name, e_c, e_op1, e_op2, e_opn, e_cons, e_nil, e_tup, e_lst, e_slice, e_partN, e_partS, e_gName, e_gNil, e_gCons, e_gTup, e_rng1, e_rngA, e_rng2, e_rngB, e_it, e_zip, e_contsN, e_contsC, e_frzsN, e_frzsC, e_normsN, e_normsC, e_normB, e_normF, e_normO, e_manyN, e_manyC, e_outsN, e_outsP, e_outsF, e_outN, e_outF, e_outO, e_ixL, e_ixT, e_ixS, e_yes, e_fn, e_call, e_callM, e_callT, e_listRg, e_sortedSet, ob_some, ob_none, W_ob, W_some, W_none, Int.reduceLT, Int.reduceLE, Int.reduceNeg, Int.reduceAdd, Int.reduceMul, Int.reduceSub, Nat.reduceLT, Nat.reduceLeDiff, Int.reduceToNat, W_ite, andN, ixN_0, ixN_1, ixN_2, ixN_3, at0, at1, at2, at3, isB, gSl, nameR, cont, slotC, setSlot, frz, retR, noBr, updSlot, ownC, zipD, plainE, itemsD, gAdd, gAddI, gSub, e_mulI, gMod, gDiv, gPow, gNeg, gLt, gLe, gGt, gGe, gLen, gAbs, gInt, gMax2, gMin2, gTuple, gList, gIsi, isTy, isNon, gIs, gIsNot, mAppend, headPm, noBrs, solidR, isBr, isLst, List.getElem?_cons_zero, List.getElem?_cons_succ, List.getElem?_nil, List.set_cons_zero, List.set_cons_succ, List.cons_append, List.nil_append, List.length_cons, List.length_nil, List.replicate_succ, List.replicate_zero, Nat.reduceAdd, Nat.reduceSub, List.map_cons, List.map_nil, List.all_cons, List.all_nil, List.any_cons, List.any_nil, Bool.and_true, Bool.true_and, Bool.or_true, Bool.true_or, Bool.false_or, Bool.or_false, Bool.not_true, Bool.not_false, Bool.false_eq_true, if_true, if_false, ite_true, ite_false, true_and, and_true, decide_eq_true_eq, Int.cast_ofNat_Int, decide_true, decide_false, ne_eq, reduceCtorEq, eq_self, not_true_eq_false, not_false_eq_true, false_implies, true_implies, implies_true, true_or, or_true, false_or, or_false, Bool.not_eq_true', decide_eq_false_iff_not, Option.bind_some, Option.bind_none, reduceIte, e_star, e_tupS, e_lstS, e_methA, e_append, e_isLst, e_extend, e_st, e_revT, e_revL, e_enum, enumD, e_rng3, e_rngT, e_fzI, fzS]
  refine for_inv (fun pre ρ => ∃ x2 : Pu.Slot, ρ = [.fz (.int k), .fz (.int k), x2]) ⟨_, rfl⟩ (fun pre d post ρ e ⟨x2, e1⟩ => ?_) fun ρ ⟨x2, e1⟩ => ?_
  · subst e1
    have hd : d = .int (k : Int) := by
      have : d ∈ [D.int (k : Int), .int (k : Int)] := by rw [e]; simp
      simpa using this
    subst hd
    simp -dsimp -implicitDefEqProofs only [e_lc, e_wipeN, e_wipeC, e_restN, e_restC, e_getD, e_seq, e_set, e_ret, e_retN, e_if, e_next, e_never, e_bk, e_ct, e_drop, e_asg, e_many, e_setIx, e_for, e_while, e_aug, e_test, e_andT, e_orT, e_notT, e_and, e_or, e_not, e_ifE, e_chain, e_name, e_c, e_op1, e_op2, e_opn, e_cons, e_nil, e_tup, e_lst, e_slice, e_partN, e_partS, e_gName, e_gNil, e_gCons, e_gTup, e_rng1, e_rngA, e_rng2, e_rngB, e_it, e_zip, e_contsN, e_contsC, e_frzsN, e_frzsC, e_normsN, e_normsC, e_normB, e_normF, e_normO, e_manyN, e_manyC, e_outsN, e_outsP, e_outsF, e_outN, e_outF, e_outO, e_ixL, e_ixT, e_ixS, e_yes, e_fn, e_call, e_callM, e_callT, e_listRg, e_sortedSet, ob_some, ob_none, W_ob, W_some, W_none, Int.reduceLT, Int.reduceLE, Int.reduceNeg, Int.reduceAdd, Int.reduceMul, Int.reduceSub, Nat.reduceLT, Nat.reduceLeDiff, Int.reduceToNat, W_ite, andN, ixN_0, ixN_1, ixN_2, ixN_3, at0, at1, at2, at3, isB, gSl, nameR, cont, slotC, setSlot, frz, retR, noBr, updSlot, ownC, zipD, plainE, itemsD, gAdd, gAddI, gSub, e_mulI, gMod, gDiv, gPow, gNeg, gLt, gLe, gGt, gGe, gLen, gAbs, gInt, gMax2, gMin2, gTuple, gList, gIsi, isTy, isNon, gIs, gIsNot, mAppend, headPm, noBrs, solidR, isBr, isLst, List.getElem?_cons_zero, List.getElem?_cons_succ, List.getElem?_nil, List.set_cons_zero, List.set_cons_succ, List.cons_append, List.nil_append, List.length_cons, List.length_nil, List.replicate_succ, List.replicate_zero, Nat.reduceAdd, Nat.reduceSub, List.map_cons, List.map_nil, List.all_cons, List.all_nil, List.any_cons, List.any_nil, Bool.and_true, Bool.true_and, Bool.or_true, Bool.true_or, Bool.false_or, Bool.or_false, Bool.not_true, Bool.not_false, Bool.false_eq_true, if_true, if_false, ite_true, ite_false, true_and, and_true, decide_eq_true_eq, Int.cast_ofNat_Int, decide_true, decide_false, ne_eq, reduceCtorEq, eq_self, not_true_eq_false, not_false_eq_true, false_implies, true_implies, implies_true, true_or, or_true, false_or, or_false, Bool.not_eq_true', decide_eq_false_iff_not, Option.bind_some, Option.bind_none, reduceIte, e_star, e_tupS, e_lstS, e_methA, e_append, e_isLst, e_extend, e_st, e_revT, e_revL, e_enum, enumD, e_rng3, e_rngT, e_fzI, fzS, d2, e12, is_int_g]
    refine W.eq (isInt_ok (by omega) (by omega)) ?_
    simp -dsimp -implicitDefEqProofs only [e_lc, e_wipeN, e_wipeC, e_restN, e_restC, e_getD, e_seq, e_set, e_ret, e_retN, e_if, e_next, e_never, e_bk, e_ct, e_drop, e_asg, e_many, e_setIx, e_for, e_while, e_aug, e_test, e_andT, e_orT, e_notT, e_and, e_or, e_not, e_ifE, e_chain, e_name, e_c, e_op1, e_op2, e_opn, e_cons, e_nil, e_tup, e_lst, e_slice, e_partN, e_partS, e_gName, e_gNil, e_gCons, e_gTup, e_rng1, e_rngA, e_rng2, e_rngB, e_it, e_zip, e_contsN, e_contsC, e_frzsN, e_frzsC, e_normsN, e_normsC, e_normB, e_normF, e_normO, e_manyN, e_manyC, e_outsN, e_outsP, e_outsF, e_outN, e_outF, e_outO, e_ixL, e_ixT, e_ixS, e_yes, e_fn, e_call, e_callM, e_callT, e_listRg, e_sortedSet, ob_some, ob_none, W_ob, W_some, W_none, Int.reduceLT, Int.reduceLE, Int.reduceNeg, Int.reduceAdd, Int.reduceMul, Int.reduceSub, Nat.reduceLT, Nat.reduceLeDiff, Int.reduceToNat, W_ite, andN, ixN_0, ixN_1, ixN_2, ixN_3, at0, at1, at2, at3, isB, gSl, nameR, cont, slotC, setSlot, frz, retR, noBr, updSlot, ownC, zipD, plainE, itemsD, gAdd, gAddI, gSub, e_mulI, gMod, gDiv, gPow, gNeg, gLt, gLe, gGt, gGe, gLen, gAbs, gInt, gMax2, gMin2, gTuple, gList, gIsi, isTy, isNon, gIs, gIsNot, mAppend, headPm, noBrs, solidR, isBr, isLst, List.getElem?_cons_zero, List.getElem?_cons_succ, List.getElem?_nil, List.set_cons_zero, List.set_cons_succ, List.cons_append, List.nil_append, List.length_cons, List.length_nil, List.replicate_succ, List.replicate_zero, Nat.reduceAdd, Nat.reduceSub, List.map_cons, List.map_nil, List.all_cons, List.all_nil, List.any_cons, List.any_nil, Bool.and_true, Bool.true_and, Bool.or_true, Bool.true_or, Bool.false_or, Bool.or_false, Bool.not_true, Bool.not_false, Bool.false_eq_true, if_true, if_false, ite_true, ite_false, true_and, and_true, decide_eq_true_eq, Int.cast_ofNat_Int, decide_true, decide_false, ne_eq, reduceCtorEq, eq_self, not_true_eq_false, not_false_eq_true, false_implies, true_implies, implies_true, true_or, or_true, false_or, or_false, Bool.not_eq_true', decide_eq_false_iff_not, Option.bind_some, Option.bind_none, reduceIte, e_star, e_tupS, e_lstS, e_methA, e_append, e_isLst, e_extend, e_st, e_revT, e_revL, e_enum, enumD, e_rng3, e_rngT, e_fzI, fzS]
    exact ⟨_, rfl⟩
  · subst e1
    simp -dsimp -implicitDefEqProofs only [e_lc, e_wipeN, e_wipeC, e_restN, e_restC, e_getD, e_seq, e_set, e_ret, e_retN, e_if, e_next, e_never, e_bk, e_ct, e_drop, e_asg, e_many, e_setIx, e_for, e_while, e_aug, e_test, e_andT, e_orT, e_notT, e_and, e_or, e_not, e_ifE, e_chain, e_name, e_c, e_op1, e_op2, e_opn, e_cons, e_nil, e_tup, e_lst, e_slice, e_partN, e_partS, e_gName, e_gNil, e_gCons, e_gTup, e_rng1, e_rngA, e_rng2, e_rngB, e_it, e_zip, e_contsN, e_contsC, e_frzsN, e_frzsC, e_normsN, e_normsC, e_normB, e_normF, e_normO, e_manyN, e_manyC, e_outsN, e_outsP, e_outsF, e_outN, e_outF, e_outO, e_ixL, e_ixT, e_ixS, e_yes, e_fn, e_call, e_callM, e_callT, e_listRg, e_sortedSet, ob_some, ob_none, W_ob, W_some, W_none, Int.reduceLT, Int.reduceLE, Int.reduceNeg, Int.reduceAdd, Int.reduceMul, Int.reduceSub, Nat.reduceLT, Nat.reduceLeDiff, Int.reduceToNat, W_ite, andN, ixN_0, ixN_1, ixN_2, ixN_3, at0, at1, at2, at3, isB, gSl, nameR, cont, slotC, setSlot, frz, retR, noBr, updSlot, ownC, zipD, plainE, itemsD, gAdd, gAddI, gSub, e_mulI, gMod, gDiv, gPow, gNeg, gLt, gLe, gGt, gGe, gLen, gAbs, gInt, gMax2, gMin2, gTuple, gList, gIsi, isTy, isNon, gIs, gIsNot, mAppend, headPm, noBrs, solidR, isBr, isLst, List.getElem?_cons_zero, List.getElem?_cons_succ, List.getElem?_nil, List.set_cons_zero, List.set_cons_succ, List.cons_append, List.nil_append, List.length_cons, List.length_nil, List.replicate_succ, List.replicate_zero, Nat.reduceAdd, Nat.reduceSub, List.map_cons, List.map_nil, List.all_cons, List.all_nil, List.any_cons, List.any_nil, Bool.and_true, Bool.true_and, Bool.or_true, Bool.true_or, Bool.false_or, Bool.or_false, Bool.not_true, Bool.not_false, Bool.false_eq_true, if_true, if_false, ite_true, ite_false, true_and, and_true, decide_eq_true_eq, Int.cast_ofNat_Int, decide_true, decide_false, ne_eq, reduceCtorEq, eq_self, not_true_eq_false, not_false_eq_true, false_implies, true_implies, implies_true, true_or, or_true, false_or, or_false, Bool.not_eq_true', decide_eq_false_iff_not, Option.bind_some, Option.bind_none, reduceIte, e_star, e_tupS, e_lstS, e_methA, e_append, e_isLst, e_extend, e_st, e_revT, e_revL, e_enum, enumD, e_rng3, e_rngT, e_fzI, fzS, m1, m0, hk, gq_int, el]
    unfold pl
    rw [List.map_append]
end Lw

namespace Lw
open PySem Pu
theorem rib_tup (vs : List Int) : D.tup (vs.map D.int) = rowD (rowF vs.length (cyc vs)) := by
  rw [row_cyc]
  rfl
def unH (f g : Int → Int) (w : Nat) : D → D
  | .int a => .int (U f g w a)
  | d => d
theorem un_map (f g : Int → Int) (w m : Nat) : (rngD 0 m).map (unH f g w) = (List.range m).map fun i : Nat => D.int (U f g w i) := by
  unfold rngD
  rw [List.map_map]
  refine List.map_congr_left fun i hi => ?_
  show unH f g w (.int (0 + (i : Int))) = _
  rw [Int.zero_add]
  rfl
theorem flowsr_ok {f : Int → Int} {n L : Nat} (h : Rb f n L) {N : Nat} {d : D} (hp : Pot N d) (hN : N ≤ 100000) {s : Int} (s1 : 0 ≤ s) (s2 : s ≤ 29) : W (g__law_are_flows_right [.pm d, .fz (rowD (rowF n f)), .fz (rowD (rowF n (sh f s))), .fz (.int s)]) fun w => ∃ d', w = (.fz (.bl true), [.pm d', .no, .no, .no]) ∧ Pot (N + 30) d' := by
  have n1 := h.n1
  have n2 := h.n2
  have l0 := h.l0
  have hle := h.le
  have lo := least_ok h
  unfold g__law_are_flows_right b__law_are_flows_right
  simp -dsimp -implicitDefEqProofs only [e_lc, e_wipeN, e_wipeC, e_restN, e_restC, e_getD, e_seq, e_set, e_ret, e_retN, e_if, e_next, e_never, e_bk, e_ct, e_drop, e_asg, e_many, e_setIx, e_for, e_while, e_aug, e_test, e_andT, e_orT, e_notT, e_and, e_or, e_not, e_ifE, e_chain, e_name, e_c, e_op1, e_op2, e_opn, e_cons, e_nil, e_tup, e_lst, e_slice, e_partN, e_partS, e_gName, e_gNil, e_gCons, e_gTup, e_rng1, e_rngA, e_rng2, e_rngB, e_it, e_zip, e_contsN, e_contsC, e_frzsN, e_frzsC, e_normsN, e_normsC, e_normB, e_normF, e_normO, e_manyN, e_manyC, e_outsN, e_outsP, e_outsF, e_outN, e_outF, e_outO, e_ixL, e_ixT, e_ixS, e_yes, e_fn, e_call, e_callM, e_callT, e_listRg, e_sortedSet, ob_some, ob_none, W_ob, W_some, W_none, Int.reduceLT, Int.reduceLE, Int.reduceNeg, Int.reduceAdd, Int.reduceMul, Int.reduceSub, Nat.reduceLT, Nat.reduceLeDiff, Int.reduceToNat, W_ite, andN, ixN_0, ixN_1, ixN_2, ixN_3, at0, at1, at2, at3, isB, gSl, nameR, cont, slotC, setSlot, frz, retR, noBr, updSlot, ownC, zipD, plainE, itemsD, gAdd, gAddI, gSub, e_mulI, gMod, gDiv, gPow, gNeg, gLt, gLe, gGt, gGe, gLen, gAbs, gInt, gMax2, gMin2, gTuple, gList, gIsi, isTy, isNon, gIs, gIsNot, mAppend, headPm, noBrs, solidR, isBr, isLst, List.getElem?_cons_zero, List.getElem?_cons_succ, List.getElem?_nil, List.set_cons_zero, List.set_cons_succ, List.cons_append, List.nil_append, List.length_cons, List.length_nil, List.replicate_succ, List.replicate_zero, Nat.reduceAdd, Nat.reduceSub, List.map_cons, List.map_nil, List.all_cons, List.all_nil, List.any_cons, List.any_nil, Bool.and_true, Bool.true_and, Bool.or_true, Bool.true_or, Bool.false_or, Bool.or_false, Bool.not_true, Bool.not_false, Bool.false_eq_true, if_true, if_false, ite_true, ite_false, true_and, and_true, decide_eq_true_eq, Int.cast_ofNat_Int, decide_true, decide_false, ne_eq, reduceCtorEq, eq_self, not_true_eq_false, not_false_eq_true, false_implies, true_implies, implies_true, true_or, or_true, false_or, or_false, Bool.not_eq_true', decide_eq_false_iff_not, Option.bind_some, Option.bind_none, reduceIte, e_star, e_tupS, e_lstS, e_methA, e_append, e_isLst, e_extend, e_st, e_revT, e_revL, e_enum, enumD, e_rng3, e_rngT, e_fzI, fzS, lo, law_take_g]
  refine (take_spec hp (by omega) (by decide) (by decide)).mono fun w ⟨z, d1, e1, z1, z2, p1⟩ => ?_
  subst e1
  have sz := sm1 (i := 1 + z) (by omega)
  simp -dsimp -implicitDefEqProofs only [e_lc, e_wipeN, e_wipeC, e_restN, e_restC, e_getD, e_seq, e_set, e_ret, e_retN, e_if, e_next, e_never, e_bk, e_ct, e_drop, e_asg, e_many, e_setIx, e_for, e_while, e_aug, e_test, e_andT, e_orT, e_notT, e_and, e_or, e_not, e_ifE, e_chain, e_name, e_c, e_op1, e_op2, e_opn, e_cons, e_nil, e_tup, e_lst, e_slice, e_partN, e_partS, e_gName, e_gNil, e_gCons, e_gTup, e_rng1, e_rngA, e_rng2, e_rngB, e_it, e_zip, e_contsN, e_contsC, e_frzsN, e_frzsC, e_normsN, e_normsC, e_normB, e_normF, e_normO, e_manyN, e_manyC, e_outsN, e_outsP, e_outsF, e_outN, e_outF, e_outO, e_ixL, e_ixT, e_ixS, e_yes, e_fn, e_call, e_callM, e_callT, e_listRg, e_sortedSet, ob_some, ob_none, W_ob, W_some, W_none, Int.reduceLT, Int.reduceLE, Int.reduceNeg, Int.reduceAdd, Int.reduceMul, Int.reduceSub, Nat.reduceLT, Nat.reduceLeDiff, Int.reduceToNat, W_ite, andN, ixN_0, ixN_1, ixN_2, ixN_3, at0, at1, at2, at3, isB, gSl, nameR, cont, slotC, setSlot, frz, retR, noBr, updSlot, ownC, zipD, plainE, itemsD, gAdd, gAddI, gSub, e_mulI, gMod, gDiv, gPow, gNeg, gLt, gLe, gGt, gGe, gLen, gAbs, gInt, gMax2, gMin2, gTuple, gList, gIsi, isTy, isNon, gIs, gIsNot, mAppend, headPm, noBrs, solidR, isBr, isLst, List.getElem?_cons_zero, List.getElem?_cons_succ, List.getElem?_nil, List.set_cons_zero, List.set_cons_succ, List.cons_append, List.nil_append, List.length_cons, List.length_nil, List.replicate_succ, List.replicate_zero, Nat.reduceAdd, Nat.reduceSub, List.map_cons, List.map_nil, List.all_cons, List.all_nil, List.any_cons, List.any_nil, Bool.and_true, Bool.true_and, Bool.or_true, Bool.true_or, Bool.false_or, Bool.or_false, Bool.not_true, Bool.not_false, Bool.false_eq_true, if_true, if_false, ite_true, ite_false, true_and, and_true, decide_eq_true_eq, Int.cast_ofNat_Int, decide_true, decide_false, ne_eq, reduceCtorEq, eq_self, not_true_eq_false, not_false_eq_true, false_implies, true_implies, implies_true, true_or, or_true, false_or, or_false, Bool.not_eq_true', decide_eq_false_iff_not, Option.bind_some, Option.bind_none, reduceIte, e_star, e_tupS, e_lstS, e_methA, e_append, e_isLst, e_extend, e_st, e_revT, e_revL, e_enum, enumD, e_rng3, e_rngT, e_fzI, fzS, sz]
  refine lc_inv (fun pre out ρ => ∃ (d' : D) (vs : List Int) (x : Pu.Slot), ρ = [.pm d', .fz (rowD (rowF n f)), .fz (rowD (rowF n (sh f s))), .fz (.int s), .fz (rowD (rowF L f)), .no, .no, .no, .no, .no, .no, .no, .no, x] ∧ Pot (N + 1 + pre.length) d' ∧ out = vs.map D.int ∧ vs.length = pre.length ∧ ∀ v ∈ vs, 0 ≤ v ∧ v ≤ 1) ⟨d1, [], _, rfl, p1, rfl, rfl, (fun v hv => nomatch hv)⟩ (fun pre d' post out ρ e ⟨d2, vs, x, e1, p2, eo, lv, hv⟩ => ?_) fun out ρ ⟨d2, vs, x, e1, p2, eo, lv, hv⟩ => ?_
  · subst e1
    obtain ⟨rfl, hlt⟩ := rng_at e
    simp -dsimp -implicitDefEqProofs only [e_lc, e_wipeN, e_wipeC, e_restN, e_restC, e_getD, e_seq, e_set, e_ret, e_retN, e_if, e_next, e_never, e_bk, e_ct, e_drop, e_asg, e_many, e_setIx, e_for, e_while, e_aug, e_test, e_andT, e_orT, e_notT, e_and, e_or, e_not, e_ifE, e_chain, e_name, e_c, e_op1, e_op2, e_opn, e_cons, e_nil, e_tup, e_lst, e_slice, e_partN, e_partS, e_gName, e_gNil, e_gCons, e_gTup, e_rng1, e_rngA, e_rng2, e_rngB, e_it, e_zip, e_contsN, e_contsC, e_frzsN, e_frzsC, e_normsN, e_normsC, e_normB, e_normF, e_normO, e_manyN, e_manyC, e_outsN, e_outsP, e_outsF, e_outN, e_outF, e_outO, e_ixL, e_ixT, e_ixS, e_yes, e_fn, e_call, e_callM, e_callT, e_listRg, e_sortedSet, ob_some, ob_none, W_ob, W_some, W_none, Int.reduceLT, Int.reduceLE, Int.reduceNeg, Int.reduceAdd, Int.reduceMul, Int.reduceSub, Nat.reduceLT, Nat.reduceLeDiff, Int.reduceToNat, W_ite, andN, ixN_0, ixN_1, ixN_2, ixN_3, at0, at1, at2, at3, isB, gSl, nameR, cont, slotC, setSlot, frz, retR, noBr, updSlot, ownC, zipD, plainE, itemsD, gAdd, gAddI, gSub, e_mulI, gMod, gDiv, gPow, gNeg, gLt, gLe, gGt, gGe, gLen, gAbs, gInt, gMax2, gMin2, gTuple, gList, gIsi, isTy, isNon, gIs, gIsNot, mAppend, headPm, noBrs, solidR, isBr, isLst, List.getElem?_cons_zero, List.getElem?_cons_succ, List.getElem?_nil, List.set_cons_zero, List.set_cons_succ, List.cons_append, List.nil_append, List.length_cons, List.length_nil, List.replicate_succ, List.replicate_zero, Nat.reduceAdd, Nat.reduceSub, List.map_cons, List.map_nil, List.all_cons, List.all_nil, List.any_cons, List.any_nil, Bool.and_true, Bool.true_and, Bool.or_true, Bool.true_or, Bool.false_or, Bool.or_false, Bool.not_true, Bool.not_false, Bool.false_eq_true, if_true, if_false, ite_true, ite_false, true_and, and_true, decide_eq_true_eq, Int.cast_ofNat_Int, decide_true, decide_false, ne_eq, reduceCtorEq, eq_self, not_true_eq_false, not_false_eq_true, false_implies, true_implies, implies_true, true_or, or_true, false_or, or_false, Bool.not_eq_true', decide_eq_false_iff_not, Option.bind_some, Option.bind_none, reduceIte, e_star, e_tupS, e_lstS, e_methA, e_append, e_isLst, e_extend, e_st, e_revT, e_revL, e_enum, enumD, e_rng3, e_rngT, e_fzI, fzS, law_take_g]
    refine (take_spec p2 (by omega) (by decide) (by decide)).mono fun w ⟨y, d3, e1, b1, b2, p3⟩ => ?_
    subst e1
    simp -dsimp -implicitDefEqProofs only [e_lc, e_wipeN, e_wipeC, e_restN, e_restC, e_getD, e_seq, e_set, e_ret, e_retN, e_if, e_next, e_never, e_bk, e_ct, e_drop, e_asg, e_many, e_setIx, e_for, e_while, e_aug, e_test, e_andT, e_orT, e_notT, e_and, e_or, e_not, e_ifE, e_chain, e_name, e_c, e_op1, e_op2, e_opn, e_cons, e_nil, e_tup, e_lst, e_slice, e_partN, e_partS, e_gName, e_gNil, e_gCons, e_gTup, e_rng1, e_rngA, e_rng2, e_rngB, e_it, e_zip, e_contsN, e_contsC, e_frzsN, e_frzsC, e_normsN, e_normsC, e_normB, e_normF, e_normO, e_manyN, e_manyC, e_outsN, e_outsP, e_outsF, e_outN, e_outF, e_outO, e_ixL, e_ixT, e_ixS, e_yes, e_fn, e_call, e_callM, e_callT, e_listRg, e_sortedSet, ob_some, ob_none, W_ob, W_some, W_none, Int.reduceLT, Int.reduceLE, Int.reduceNeg, Int.reduceAdd, Int.reduceMul, Int.reduceSub, Nat.reduceLT, Nat.reduceLeDiff, Int.reduceToNat, W_ite, andN, ixN_0, ixN_1, ixN_2, ixN_3, at0, at1, at2, at3, isB, gSl, nameR, cont, slotC, setSlot, frz, retR, noBr, updSlot, ownC, zipD, plainE, itemsD, gAdd, gAddI, gSub, e_mulI, gMod, gDiv, gPow, gNeg, gLt, gLe, gGt, gGe, gLen, gAbs, gInt, gMax2, gMin2, gTuple, gList, gIsi, isTy, isNon, gIs, gIsNot, mAppend, headPm, noBrs, solidR, isBr, isLst, List.getElem?_cons_zero, List.getElem?_cons_succ, List.getElem?_nil, List.set_cons_zero, List.set_cons_succ, List.cons_append, List.nil_append, List.length_cons, List.length_nil, List.replicate_succ, List.replicate_zero, Nat.reduceAdd, Nat.reduceSub, List.map_cons, List.map_nil, List.all_cons, List.all_nil, List.any_cons, List.any_nil, Bool.and_true, Bool.true_and, Bool.or_true, Bool.true_or, Bool.false_or, Bool.or_false, Bool.not_true, Bool.not_false, Bool.false_eq_true, if_true, if_false, ite_true, ite_false, true_and, and_true, decide_eq_true_eq, Int.cast_ofNat_Int, decide_true, decide_false, ne_eq, reduceCtorEq, eq_self, not_true_eq_false, not_false_eq_true, false_implies, true_implies, implies_true, true_or, or_true, false_or, or_false, Bool.not_eq_true', decide_eq_false_iff_not, Option.bind_some, Option.bind_none, reduceIte, e_star, e_tupS, e_lstS, e_methA, e_append, e_isLst, e_extend, e_st, e_revT, e_revL, e_enum, enumD, e_rng3, e_rngT, e_fzI, fzS]
    refine ⟨d3, vs ++ [y], _, rfl, by rw [List.length_append]; exact p3, by rw [eo, List.map_append]; rfl, by rw [List.length_append, List.length_append, lv]; rfl, fun v hv' => ?_⟩
    rcases List.mem_append.mp hv' with q | q
    · exact hv v q
    · have : v = y := by simpa using q
      omega
  · subst e1
    subst eo
    rw [rngD_len] at lv p2
    have l1 : (vs.map D.int).length ≤ sizeLine := by rw [List.length_map, sizeLine_eq]; omega
    obtain ⟨M, hg⟩ := rb_of (xs := vs) (by omega) (by omega) hv
    simp -dsimp -implicitDefEqProofs only [e_lc, e_wipeN, e_wipeC, e_restN, e_restC, e_getD, e_seq, e_set, e_ret, e_retN, e_if, e_next, e_never, e_bk, e_ct, e_drop, e_asg, e_many, e_setIx, e_for, e_while, e_aug, e_test, e_andT, e_orT, e_notT, e_and, e_or, e_not, e_ifE, e_chain, e_name, e_c, e_op1, e_op2, e_opn, e_cons, e_nil, e_tup, e_lst, e_slice, e_partN, e_partS, e_gName, e_gNil, e_gCons, e_gTup, e_rng1, e_rngA, e_rng2, e_rngB, e_it, e_zip, e_contsN, e_contsC, e_frzsN, e_frzsC, e_normsN, e_normsC, e_normB, e_normF, e_normO, e_manyN, e_manyC, e_outsN, e_outsP, e_outsF, e_outN, e_outF, e_outO, e_ixL, e_ixT, e_ixS, e_yes, e_fn, e_call, e_callM, e_callT, e_listRg, e_sortedSet, ob_some, ob_none, W_ob, W_some, W_none, Int.reduceLT, Int.reduceLE, Int.reduceNeg, Int.reduceAdd, Int.reduceMul, Int.reduceSub, Nat.reduceLT, Nat.reduceLeDiff, Int.reduceToNat, W_ite, andN, ixN_0, ixN_1, ixN_2, ixN_3, at0, at1, at2, at3, isB, gSl, nameR, cont, slotC, setSlot, frz, retR, noBr, updSlot, ownC, zipD, plainE, itemsD, gAdd, gAddI, gSub, e_mulI, gMod, gDiv, gPow, gNeg, gLt, gLe, gGt, gGe, gLen, gAbs, gInt, gMax2, gMin2, gTuple, gList, gIsi, isTy, isNon, gIs, gIsNot, mAppend, headPm, noBrs, solidR, isBr, isLst, List.getElem?_cons_zero, List.getElem?_cons_succ, List.getElem?_nil, List.set_cons_zero, List.set_cons_succ, List.cons_append, List.nil_append, List.length_cons, List.length_nil, List.replicate_succ, List.replicate_zero, Nat.reduceAdd, Nat.reduceSub, List.map_cons, List.map_nil, List.all_cons, List.all_nil, List.any_cons, List.any_nil, Bool.and_true, Bool.true_and, Bool.or_true, Bool.true_or, Bool.false_or, Bool.or_false, Bool.not_true, Bool.not_false, Bool.false_eq_true, if_true, if_false, ite_true, ite_false, true_and, and_true, decide_eq_true_eq, Int.cast_ofNat_Int, decide_true, decide_false, ne_eq, reduceCtorEq, eq_self, not_true_eq_false, not_false_eq_true, false_implies, true_implies, implies_true, true_or, or_true, false_or, or_false, Bool.not_eq_true', decide_eq_false_iff_not, Option.bind_some, Option.bind_none, reduceIte, e_star, e_tupS, e_lstS, e_methA, e_append, e_isLst, e_extend, e_st, e_revT, e_revL, e_enum, enumD, e_rng3, e_rngT, e_fzI, fzS, l1]
    rw [rib_tup]
    generalize hcg : cyc vs = g at *
    generalize hm : vs.length = m at *
    clear hcg hv l1
    have m1 := hg.n1
    have m2 := hg.n2
    refine (take_spec p2 (by omega) (by decide) (by decide)).mono fun w' ⟨w, d3, e1, w1, w2, p3⟩ => ?_
    subst e1
    obtain ⟨w, rfl⟩ := Int.eq_ofNat_of_zero_le w1
    simp -dsimp -implicitDefEqProofs only [e_lc, e_wipeN, e_wipeC, e_restN, e_restC, e_getD, e_seq, e_set, e_ret, e_retN, e_if, e_next, e_never, e_bk, e_ct, e_drop, e_asg, e_many, e_setIx, e_for, e_while, e_aug, e_test, e_andT, e_orT, e_notT, e_and, e_or, e_not, e_ifE, e_chain, e_name, e_c, e_op1, e_op2, e_opn, e_cons, e_nil, e_tup, e_lst, e_slice, e_partN, e_partS, e_gName, e_gNil, e_gCons, e_gTup, e_rng1, e_rngA, e_rng2, e_rngB, e_it, e_zip, e_contsN, e_contsC, e_frzsN, e_frzsC, e_normsN, e_normsC, e_normB, e_normF, e_normO, e_manyN, e_manyC, e_outsN, e_outsP, e_outsF, e_outN, e_outF, e_outO, e_ixL, e_ixT, e_ixS, e_yes, e_fn, e_call, e_callM, e_callT, e_listRg, e_sortedSet, ob_some, ob_none, W_ob, W_some, W_none, Int.reduceLT, Int.reduceLE, Int.reduceNeg, Int.reduceAdd, Int.reduceMul, Int.reduceSub, Nat.reduceLT, Nat.reduceLeDiff, Int.reduceToNat, W_ite, andN, ixN_0, ixN_1, ixN_2, ixN_3, at0, at1, at2, at3, isB, gSl, nameR, cont, slotC, setSlot, frz, retR, noBr, updSlot, ownC, zipD, plainE, itemsD, gAdd, gAddI, gSub, e_mulI, gMod, gDiv, gPow, gNeg, gLt, gLe, gGt, gGe, gLen, gAbs, gInt, gMax2, gMin2, gTuple, gList, gIsi, isTy, isNon, gIs, gIsNot, mAppend, headPm, noBrs, solidR, isBr, isLst, List.getElem?_cons_zero, List.getElem?_cons_succ, List.getElem?_nil, List.set_cons_zero, List.set_cons_succ, List.cons_append, List.nil_append, List.length_cons, List.length_nil, List.replicate_succ, List.replicate_zero, Nat.reduceAdd, Nat.reduceSub, List.map_cons, List.map_nil, List.all_cons, List.all_nil, List.any_cons, List.any_nil, Bool.and_true, Bool.true_and, Bool.or_true, Bool.true_or, Bool.false_or, Bool.or_false, Bool.not_true, Bool.not_false, Bool.false_eq_true, if_true, if_false, ite_true, ite_false, true_and, and_true, decide_eq_true_eq, Int.cast_ofNat_Int, decide_true, decide_false, ne_eq, reduceCtorEq, eq_self, not_true_eq_false, not_false_eq_true, false_implies, true_implies, implies_true, true_or, or_true, false_or, or_false, Bool.not_eq_true', decide_eq_false_iff_not, Option.bind_some, Option.bind_none, reduceIte, e_star, e_tupS, e_lstS, e_methA, e_append, e_isLst, e_extend, e_st, e_revT, e_revL, e_enum, enumD, e_rng3, e_rngT, e_fzI, fzS, law_take_g]
    refine (take_spec p3 (by omega) (by decide) (by decide)).mono fun w' ⟨v, d4, e1, v1, v2, p4⟩ => ?_
    subst e1
    obtain ⟨v, rfl⟩ := Int.eq_ofNat_of_zero_le v1
    have u1 := unlikeS_ok h hg (w := w) (by omega) (s := s) (by omega) (by omega)
    have u2 := unlikeS_ok h hg (w := w + v) (by omega) (s := s) (by omega) (by omega)
    have mv := moved_ok h (s := (w : Int)) (by omega) (by omega)
    have u3 := unlikeS_ok (h.sh (w : Int)) hg (w := v) (by omega) (s := s + (w : Int)) (by omega) (by omega)
    have ew : (w : Int) + (v : Int) = ((w + v : Nat) : Int) := by omega
    have eU : ((U f g (w + v) s : Nat) : Int) - (U f g w s : Nat) = (U (sh f w) g v (s + w) : Nat) := by rw [U_add]; omega
    have u4 := unlikeS_ok h h (w := w) (by omega) (s := 0) (by omega) (by omega)
    have z4 : U f f w 0 = 0 := U_none fun i hi => by rw [Int.add_zero]
    rw [z4] at u4
    have u5 := unlikeS_ok hg h (w := w) (by omega) (s := 0) (by omega) (by omega)
    rw [U_comm] at u5
    have u6 := unlikeS_ok h hg (w := w) (by omega) (s := 0) (by omega) (by omega)
    obtain ⟨k, t, hf, ef⟩ := flows_ok h hg (w := w) (by omega)
    have sw := shows_ok h hg (w := w) (by omega) hf
    have hl2 : ((rowF m g).map D.int).length = m := by rw [List.length_map, rowF_len]
    have sm := sm1 (i := (m : Int)) (by omega)
    have tm : ((m : Nat) : Int).toNat = m := by omega
    have c00 : ((0 : Nat) : Int) = 0 := rfl
    have el : (gLen [rowD (rowF m g)]) = some (.fz (.int (m : Int))) := by
      show some (Res.fz (D.int (((rowF m g).map D.int).length : Nat))) = _
      rw [hl2]
    simp -dsimp -implicitDefEqProofs only [e_lc, e_wipeN, e_wipeC, e_restN, e_restC, e_getD, e_seq, e_set, e_ret, e_retN, e_if, e_next, e_never, e_bk, e_ct, e_drop, e_asg, e_many, e_setIx, e_for, e_while, e_aug, e_test, e_andT, e_orT, e_notT, e_and, e_or, e_not, e_ifE, e_chain, e_name, e_c, e_op1, e_op2, e_opn, e_cons, e_nil, e_tup, e_lst, e_slice, e_partN, e_partS, e_gName, e_gNil, e_gCons, e_gTup, e_rng1, e_rngA, e_rng2, e_rngB, e_it, e_zip, e_contsN, e_contsC, e_frzsN, e_frzsC, e_normsN, e_normsC, e_normB, e_normF, e_normO, e_manyN, e_manyC, e_outsN, e_outsP, e_outsF, e_outN, e_outF, e_outO, e_ixL, e_ixT, e_ixS, e_yes, e_fn, e_call, e_callM, e_callT, e_listRg, e_sortedSet, ob_some, ob_none, W_ob, W_some, W_none, Int.reduceLT, Int.reduceLE, Int.reduceNeg, Int.reduceAdd, Int.reduceMul, Int.reduceSub, Nat.reduceLT, Nat.reduceLeDiff, Int.reduceToNat, W_ite, andN, ixN_0, ixN_1, ixN_2, ixN_3, at0, at1, at2, at3, isB, gSl, nameR, cont, slotC, setSlot, frz, retR, noBr, updSlot, ownC, zipD, plainE, itemsD, gAdd, gAddI, gSub, e_mulI, gMod, gDiv, gPow, gNeg, gLt, gLe, gGt, gGe, gAbs, gInt, gMax2, gMin2, gTuple, gList, gIsi, isTy, isNon, gIs, gIsNot, mAppend, headPm, noBrs, solidR, isBr, isLst, List.getElem?_cons_zero, List.getElem?_cons_succ, List.getElem?_nil, List.set_cons_zero, List.set_cons_succ, List.cons_append, List.nil_append, List.length_cons, List.length_nil, List.replicate_succ, List.replicate_zero, Nat.reduceAdd, Nat.reduceSub, List.map_cons, List.map_nil, List.all_cons, List.all_nil, List.any_cons, List.any_nil, Bool.and_true, Bool.true_and, Bool.or_true, Bool.true_or, Bool.false_or, Bool.or_false, Bool.not_true, Bool.not_false, Bool.false_eq_true, if_true, if_false, ite_true, ite_false, true_and, and_true, decide_eq_true_eq, Int.cast_ofNat_Int, decide_true, decide_false, ne_eq, reduceCtorEq, eq_self, not_true_eq_false, not_false_eq_true, false_implies, true_implies, implies_true, true_or, or_true, false_or, or_false, Bool.not_eq_true', decide_eq_false_iff_not, Option.bind_some, Option.bind_none, reduceIte, e_star, e_tupS, e_lstS, e_methA, e_append, e_isLst, e_extend, e_st, e_revT, e_revL, e_enum, enumD, e_rng3, e_rngT, e_fzI, fzS, u1, u2, u3, mv, ew, gn_int, eU, u4, u5, u6, c00, ef, el, sm, tm]
    refine lc_map (unH f g w) (fun d hd => ?_) fun ρ' hρ => ?_
    · obtain ⟨i, hi, rfl⟩ := rngD_mem.mp hd
      rw [Int.zero_add]
      have a2 := unlikeS_ok h hg (w := w) (by omega) (s := (i : Int)) (by omega) (by omega)
      simp -dsimp -implicitDefEqProofs only [e_lc, e_wipeN, e_wipeC, e_restN, e_restC, e_getD, e_seq, e_set, e_ret, e_retN, e_if, e_next, e_never, e_bk, e_ct, e_drop, e_asg, e_many, e_setIx, e_for, e_while, e_aug, e_test, e_andT, e_orT, e_notT, e_and, e_or, e_not, e_ifE, e_chain, e_name, e_c, e_op1, e_op2, e_opn, e_cons, e_nil, e_tup, e_lst, e_slice, e_partN, e_partS, e_gName, e_gNil, e_gCons, e_gTup, e_rng1, e_rngA, e_rng2, e_rngB, e_it, e_zip, e_contsN, e_contsC, e_frzsN, e_frzsC, e_normsN, e_normsC, e_normB, e_normF, e_normO, e_manyN, e_manyC, e_outsN, e_outsP, e_outsF, e_outN, e_outF, e_outO, e_ixL, e_ixT, e_ixS, e_yes, e_fn, e_call, e_callM, e_callT, e_listRg, e_sortedSet, ob_some, ob_none, W_ob, W_some, W_none, Int.reduceLT, Int.reduceLE, Int.reduceNeg, Int.reduceAdd, Int.reduceMul, Int.reduceSub, Nat.reduceLT, Nat.reduceLeDiff, Int.reduceToNat, W_ite, andN, ixN_0, ixN_1, ixN_2, ixN_3, at0, at1, at2, at3, isB, gSl, nameR, cont, slotC, setSlot, frz, retR, noBr, updSlot, ownC, zipD, plainE, itemsD, gAdd, gAddI, gSub, e_mulI, gMod, gDiv, gPow, gNeg, gLt, gLe, gGt, gGe, gLen, gAbs, gInt, gMax2, gMin2, gTuple, gList, gIsi, isTy, isNon, gIs, gIsNot, mAppend, headPm, noBrs, solidR, isBr, isLst, List.getElem?_cons_zero, List.getElem?_cons_succ, List.getElem?_nil, List.set_cons_zero, List.set_cons_succ, List.cons_append, List.nil_append, List.length_cons, List.length_nil, List.replicate_succ, List.replicate_zero, Nat.reduceAdd, Nat.reduceSub, List.map_cons, List.map_nil, List.all_cons, List.all_nil, List.any_cons, List.any_nil, Bool.and_true, Bool.true_and, Bool.or_true, Bool.true_or, Bool.false_or, Bool.or_false, Bool.not_true, Bool.not_false, Bool.false_eq_true, if_true, if_false, ite_true, ite_false, true_and, and_true, decide_eq_true_eq, Int.cast_ofNat_Int, decide_true, decide_false, ne_eq, reduceCtorEq, eq_self, not_true_eq_false, not_false_eq_true, false_implies, true_implies, implies_true, true_or, or_true, false_or, or_false, Bool.not_eq_true', decide_eq_false_iff_not, Option.bind_some, Option.bind_none, reduceIte, e_star, e_tupS, e_lstS, e_methA, e_append, e_isLst, e_extend, e_st, e_revT, e_revL, e_enum, enumD, e_rng3, e_rngT, e_fzI, fzS, a2]
      rfl
    · have l : ((rngD 0 m).map (unH f g w)).length ≤ sizeLine := by rw [List.length_map, rngD_len, sizeLine_eq]; omega
      obtain ⟨t1, t2, kt, kl⟩ := id hf
      obtain ⟨t, rfl⟩ := Int.eq_ofNat_of_zero_le t1
      have ht : t < m := by omega
      have hmin : gMin [.lst ((rngD 0 m).map (unH f g w))] = some (.fz (.int k)) := by
        rw [un_map]
        refine gMin_of (List.mem_map.mpr ⟨t, List.mem_range.mpr ht, by rw [kt]⟩) fun d hd => ?_
        obtain ⟨i, hi, rfl⟩ := List.mem_map.mp hd
        exact ⟨_, rfl, kl i (List.mem_range.mp hi)⟩
      have hat : L2.atI ((rngD 0 m).map (unH f g w)) (t : Int) = some (.int k) := by
        rw [un_map]
        refine at_get rfl ?_
        rw [List.getElem?_map, List.getElem?_range ht, kt]
        rfl
      obtain ⟨k', t', hf', ef'⟩ := flows_ok h (h.sh s) (w := n) (by omega)
      have hk' : k' = 0 := by
        obtain ⟨q1, q2, q3, q4⟩ := hf'
        have b1 := Int.emod_nonneg (-s) (show (n : Int) ≠ 0 by omega)
        have b2 := Int.emod_lt_of_pos (-s) (show (0 : Int) < n by omega)
        obtain ⟨a, ea⟩ := Int.eq_ofNat_of_zero_le b1
        have q5 := q4 a (by omega)
        rw [← ea, U_mod (sh_per h.per), U_none (fun i hi => by
          show f i = f ((i : Int) + -s + s)
          rw [Int.neg_add_cancel_right])] at q5
        omega
      subst hk'
      have eln : (gLen [rowD (rowF n f)]) = some (.fz (.int (n : Int))) := by
        show some (Res.fz (D.int (((rowF n f).map D.int).length : Nat))) = _
        rw [List.length_map, rowF_len]
      have elL : (gLen [rowD (rowF L f)]) = some (.fz (.int (L : Int))) := by
        show some (Res.fz (D.int (((rowF L f).map D.int).length : Nat))) = _
        rw [List.length_map, rowF_len]
      have elM : (gLen [rowD (rowF M g)]) = some (.fz (.int (M : Int))) := by
        show some (Res.fz (D.int (((rowF M g).map D.int).length : Nat))) = _
        rw [List.length_map, rowF_len]
      have lg := least_ok hg
      simp -dsimp -implicitDefEqProofs only [e_lc, e_wipeN, e_wipeC, e_restN, e_restC, e_getD, e_seq, e_set, e_ret, e_retN, e_if, e_next, e_never, e_bk, e_ct, e_drop, e_asg, e_many, e_setIx, e_for, e_while, e_aug, e_test, e_andT, e_orT, e_notT, e_and, e_or, e_not, e_ifE, e_chain, e_name, e_c, e_op1, e_op2, e_opn, e_cons, e_nil, e_tup, e_lst, e_slice, e_partN, e_partS, e_gName, e_gNil, e_gCons, e_gTup, e_rng1, e_rngA, e_rng2, e_rngB, e_it, e_zip, e_contsN, e_contsC, e_frzsN, e_frzsC, e_normsN, e_normsC, e_normB, e_normF, e_normO, e_manyN, e_manyC, e_outsN, e_outsP, e_outsF, e_outN, e_outF, e_outO, e_ixL, e_ixT, e_ixS, e_yes, e_fn, e_call, e_callM, e_callT, e_listRg, e_sortedSet, ob_some, ob_none, W_ob, W_some, W_none, Int.reduceLT, Int.reduceLE, Int.reduceNeg, Int.reduceAdd, Int.reduceMul, Int.reduceSub, Nat.reduceLT, Nat.reduceLeDiff, Int.reduceToNat, W_ite, andN, ixN_0, ixN_1, ixN_2, ixN_3, at0, at1, at2, at3, isB, gSl, nameR, cont, slotC, setSlot, frz, retR, noBr, updSlot, ownC, zipD, plainE, itemsD, gAdd, gAddI, gSub, e_mulI, gMod, gDiv, gPow, gNeg, gLt, gLe, gGt, gGe, gAbs, gInt, gMax2, gMin2, gTuple, gList, gIsi, isTy, isNon, gIs, gIsNot, mAppend, headPm, noBrs, solidR, isBr, isLst, List.getElem?_cons_zero, List.getElem?_cons_succ, List.getElem?_nil, List.set_cons_zero, List.set_cons_succ, List.cons_append, List.nil_append, List.length_cons, List.length_nil, List.replicate_succ, List.replicate_zero, Nat.reduceAdd, Nat.reduceSub, List.map_cons, List.map_nil, List.all_cons, List.all_nil, List.any_cons, List.any_nil, Bool.and_true, Bool.true_and, Bool.or_true, Bool.true_or, Bool.false_or, Bool.or_false, Bool.not_true, Bool.not_false, Bool.false_eq_true, if_true, if_false, ite_true, ite_false, true_and, and_true, decide_eq_true_eq, Int.cast_ofNat_Int, decide_true, decide_false, ne_eq, reduceCtorEq, eq_self, not_true_eq_false, not_false_eq_true, false_implies, true_implies, implies_true, true_or, or_true, false_or, or_false, Bool.not_eq_true', decide_eq_false_iff_not, Option.bind_some, Option.bind_none, reduceIte, e_star, e_tupS, e_lstS, e_methA, e_append, e_isLst, e_extend, e_st, e_revT, e_revL, e_enum, enumD, e_rng3, e_rngT, e_fzI, fzS, hρ, l, hmin, hat, sw, gn_int, eln, ef']
      rcases first_ok h hg with ⟨hfg, ei⟩ | ⟨a, ha, hne, hag, ei⟩
      · have efg : f = g := funext hfg
        subst efg
        have eLM := h.uniq hg
        subst eLM
        simp -dsimp -implicitDefEqProofs only [e_lc, e_wipeN, e_wipeC, e_restN, e_restC, e_getD, e_seq, e_set, e_ret, e_retN, e_if, e_next, e_never, e_bk, e_ct, e_drop, e_asg, e_many, e_setIx, e_for, e_while, e_aug, e_test, e_andT, e_orT, e_notT, e_and, e_or, e_not, e_ifE, e_chain, e_name, e_c, e_op1, e_op2, e_opn, e_cons, e_nil, e_tup, e_lst, e_slice, e_partN, e_partS, e_gName, e_gNil, e_gCons, e_gTup, e_rng1, e_rngA, e_rng2, e_rngB, e_it, e_zip, e_contsN, e_contsC, e_frzsN, e_frzsC, e_normsN, e_normsC, e_normB, e_normF, e_normO, e_manyN, e_manyC, e_outsN, e_outsP, e_outsF, e_outN, e_outF, e_outO, e_ixL, e_ixT, e_ixS, e_yes, e_fn, e_call, e_callM, e_callT, e_listRg, e_sortedSet, ob_some, ob_none, W_ob, W_some, W_none, Int.reduceLT, Int.reduceLE, Int.reduceNeg, Int.reduceAdd, Int.reduceMul, Int.reduceSub, Nat.reduceLT, Nat.reduceLeDiff, Int.reduceToNat, W_ite, andN, ixN_0, ixN_1, ixN_2, ixN_3, at0, at1, at2, at3, isB, gSl, nameR, cont, slotC, setSlot, frz, retR, noBr, updSlot, ownC, zipD, plainE, itemsD, gAdd, gAddI, gSub, e_mulI, gMod, gDiv, gPow, gNeg, gLt, gLe, gGt, gGe, gLen, gAbs, gInt, gMax2, gMin2, gTuple, gList, gIsi, isTy, isNon, gIs, gIsNot, mAppend, headPm, noBrs, solidR, isBr, isLst, List.getElem?_cons_zero, List.getElem?_cons_succ, List.getElem?_nil, List.set_cons_zero, List.set_cons_succ, List.cons_append, List.nil_append, List.length_cons, List.length_nil, List.replicate_succ, List.replicate_zero, Nat.reduceAdd, Nat.reduceSub, List.map_cons, List.map_nil, List.all_cons, List.all_nil, List.any_cons, List.any_nil, Bool.and_true, Bool.true_and, Bool.or_true, Bool.true_or, Bool.false_or, Bool.or_false, Bool.not_true, Bool.not_false, Bool.false_eq_true, if_true, if_false, ite_true, ite_false, true_and, and_true, decide_eq_true_eq, Int.cast_ofNat_Int, decide_true, decide_false, ne_eq, reduceCtorEq, eq_self, not_true_eq_false, not_false_eq_true, false_implies, true_implies, implies_true, true_or, or_true, false_or, or_false, Bool.not_eq_true', decide_eq_false_iff_not, Option.bind_some, Option.bind_none, reduceIte, e_star, e_tupS, e_lstS, e_methA, e_append, e_isLst, e_extend, e_st, e_revT, e_revL, e_enum, enumD, e_rng3, e_rngT, e_fzI, fzS, ei, gn_bool, gq_row, lg]
        exact ⟨_, rfl, p4.mono (by omega)⟩
      · have hrow : ¬ (rowF L f = rowF M g) := fun e => by
          have eL : L = M := by
            have := congrArg List.length e
            rw [rowF_len, rowF_len] at this
            exact this
          subst eL
          exact hne (row_inj h.l0 h.lper hg.lper e a)
        have hfw : ¬ ((L : Int) + (M : Int) - 1 ≤ (a : Int)) := fun e => hne (fine_wilf (L + M) L M f g (Nat.le_refl _) h.l0 hg.l0 h.lper hg.lper (fun i hi => hag i (by omega)) a)
        have u7 := unlikeS_ok h hg (w := a) (by omega) (s := 0) (by omega) (by omega)
        have z7 : U f g a 0 = 0 := U_none fun i hi => by
          rw [Int.add_zero]
          exact hag i hi
        rw [z7] at u7
        simp -dsimp -implicitDefEqProofs only [e_lc, e_wipeN, e_wipeC, e_restN, e_restC, e_getD, e_seq, e_set, e_ret, e_retN, e_if, e_next, e_never, e_bk, e_ct, e_drop, e_asg, e_many, e_setIx, e_for, e_while, e_aug, e_test, e_andT, e_orT, e_notT, e_and, e_or, e_not, e_ifE, e_chain, e_name, e_c, e_op1, e_op2, e_opn, e_cons, e_nil, e_tup, e_lst, e_slice, e_partN, e_partS, e_gName, e_gNil, e_gCons, e_gTup, e_rng1, e_rngA, e_rng2, e_rngB, e_it, e_zip, e_contsN, e_contsC, e_frzsN, e_frzsC, e_normsN, e_normsC, e_normB, e_normF, e_normO, e_manyN, e_manyC, e_outsN, e_outsP, e_outsF, e_outN, e_outF, e_outO, e_ixL, e_ixT, e_ixS, e_yes, e_fn, e_call, e_callM, e_callT, e_listRg, e_sortedSet, ob_some, ob_none, W_ob, W_some, W_none, Int.reduceLT, Int.reduceLE, Int.reduceNeg, Int.reduceAdd, Int.reduceMul, Int.reduceSub, Nat.reduceLT, Nat.reduceLeDiff, Int.reduceToNat, W_ite, andN, ixN_0, ixN_1, ixN_2, ixN_3, at0, at1, at2, at3, isB, gSl, nameR, cont, slotC, setSlot, frz, retR, noBr, updSlot, ownC, zipD, plainE, itemsD, gAdd, gAddI, gSub, e_mulI, gMod, gDiv, gPow, gNeg, gLt, gLe, gGt, gGe, gAbs, gInt, gMax2, gMin2, gTuple, gList, gIsi, isTy, isNon, gIs, gIsNot, mAppend, headPm, noBrs, solidR, isBr, isLst, List.getElem?_cons_zero, List.getElem?_cons_succ, List.getElem?_nil, List.set_cons_zero, List.set_cons_succ, List.cons_append, List.nil_append, List.length_cons, List.length_nil, List.replicate_succ, List.replicate_zero, Nat.reduceAdd, Nat.reduceSub, List.map_cons, List.map_nil, List.all_cons, List.all_nil, List.any_cons, List.any_nil, Bool.and_true, Bool.true_and, Bool.or_true, Bool.true_or, Bool.false_or, Bool.or_false, Bool.not_true, Bool.not_false, Bool.false_eq_true, if_true, if_false, ite_true, ite_false, true_and, and_true, decide_eq_true_eq, Int.cast_ofNat_Int, decide_true, decide_false, ne_eq, reduceCtorEq, eq_self, not_true_eq_false, not_false_eq_true, false_implies, true_implies, implies_true, true_or, or_true, false_or, or_false, Bool.not_eq_true', decide_eq_false_iff_not, Option.bind_some, Option.bind_none, reduceIte, e_star, e_tupS, e_lstS, e_methA, e_append, e_isLst, e_extend, e_st, e_revT, e_revL, e_enum, enumD, e_rng3, e_rngT, e_fzI, fzS, ei, gn_bool, gq_row, lg, hrow, elL, elM, hfw, u7, gn_int, c00]
        exact ⟨_, rfl, p4.mono (by omega)⟩
end Lw

namespace Lw
open PySem Pu
theorem Sm_bd {f : Int → Int} (hv : ∀ i, 0 ≤ f i ∧ f i ≤ 1) : ∀ n : Nat, 0 ≤ Sm f n ∧ Sm f n ≤ n
  | 0 => by simp [Sm]
  | n + 1 => by
    have := Sm_bd hv n
    have := hv n
    show 0 ≤ Sm f n + f n ∧ Sm f n + f n ≤ _
    push_cast
    omega
theorem sum_row (f : Int → Int) (n : Nat) : gSum [rowD (rowF n f)] = some (.fz (.int (Sm f n))) := by
  show ((intsD _).bind _) = _
  rw [intsD_map, ← Sm_row]
  rfl
theorem e_addI {i j : Int} : gAdd (.int i) (.int j) = some (.fz (.int (i + j))) := rfl
theorem len_row (f : Int → Int) (n : Nat) : gLen [rowD (rowF n f)] = some (.fz (.int (n : Int))) := by
  show some (Res.fz (D.int (((rowF n f).map D.int).length : Nat))) = _
  rw [List.length_map, rowF_len]
theorem app_row (xs ys : List Int) (h : xs.length + ys.length ≤ 1000) : gAdd (rowD xs) (rowD ys) = some (.fz (rowD (xs ++ ys))) := by
  show (if (xs.map D.int).length + (ys.map D.int).length ≤ sizeLine then _ else _) = _
  rw [if_pos (by rw [List.length_map, List.length_map, sizeLine_eq]; omega)]
  unfold rowD
  rw [List.map_append]
theorem cut_row {f : Int → Int} {n r : Nat} (h : r ≤ n) : gSl (rowD (rowF n f)) none (some (r : Int)) = some (.fz (rowD (rowF r f))) := by
  rw [← row_take h]
  unfold rowD
  rw [List.map_take]
  show some (Res.fz (.tup (cutD _ _ _))) = _
  rw [cutD_to]
theorem Sm_by {f : Int → Int} {n : Nat} (hp : Per f n) (w : Nat) : Sm f w = ((w / n : Nat) : Int) * Sm f n + Sm f (w % n) := by
  have e : sh f ((w / n * n : Nat) : Int) = f := funext fun i => by
    unfold sh
    rw [Int.natCast_mul]
    exact hp.mul _ i
  have h1 : w = w / n * n + w % n := by
    have := Nat.div_add_mod w n
    rw [Nat.mul_comm] at this
    exact this.symm
  have h2 := Sm_add f (w / n * n) (w % n)
  rw [← h1, e, Sm_times hp] at h2
  exact h2
theorem join {A B C D M X R : Prop} (hm : M) (hc : A → ¬ C) (r : R) : (A → M ∧ (C → X) ∧ (D → R)) ∧ (B → R) := ⟨fun a => ⟨hm, fun c => absurd c (hc a), fun _ => r⟩, fun _ => r⟩
end Lw

namespace Lw
open PySem Pu
theorem right_ok {d : D} (hp : Pot 0 d) : W (g__law_right [.pm d]) (fun w => w.1 = .fz (.bl true)) := by
  have s8 : smallI 8 = true := by decide
  have t8 : (8 : Int).toNat = 8 := rfl
  unfold g__law_right b__law_right
  simp -dsimp -implicitDefEqProofs only [e_lc, e_wipeN, e_wipeC, e_restN, e_restC, e_getD, e_seq, e_set, e_ret, e_retN, e_if, e_next, e_never, e_bk, e_ct, e_drop, e_asg, e_many, e_setIx, e_for, e_while, e_aug, e_test, e_andT, e_orT, e_notT, e_and, e_or, e_not, e_ifE, e_chain, e_name, e_c, e_op1, e_op2, e_opn, e_cons, e_nil, e_tup, e_lst, e_slice, e_partN, e_partS, e_gName, e_gNil, e_gCons, e_gTup, e_rng1, e_rngA, e_rng2, e_rngB, e_it, e_zip, e_contsN, e_contsC, e_frzsN, e_frzsC, e_normsN, e_normsC, e_normB, e_normF, e_normO, e_manyN, e_manyC, e_outsN, e_outsP, e_outsF, e_outN, e_outF, e_outO, e_ixL, e_ixT, e_ixS, e_yes, e_fn, e_call, e_callM, e_callT, e_listRg, e_sortedSet, ob_some, ob_none, W_ob, W_some, W_none, Int.reduceLT, Int.reduceLE, Int.reduceNeg, Int.reduceAdd, Int.reduceMul, Int.reduceSub, Nat.reduceLT, Nat.reduceLeDiff, Int.reduceToNat, W_ite, andN, ixN_0, ixN_1, ixN_2, ixN_3, at0, at1, at2, at3, isB, gSl, nameR, cont, slotC, setSlot, frz, retR, noBr, updSlot, ownC, zipD, plainE, itemsD, gAdd, gAddI, gSub, e_mulI, gMod, gDiv, gPow, gNeg, gLt, gLe, gGt, gGe, gLen, gAbs, gInt, gMax2, gMin2, gTuple, gList, gIsi, isTy, isNon, gIs, gIsNot, mAppend, headPm, noBrs, solidR, isBr, isLst, List.getElem?_cons_zero, List.getElem?_cons_succ, List.getElem?_nil, List.set_cons_zero, List.set_cons_succ, List.cons_append, List.nil_append, List.length_cons, List.length_nil, List.replicate_succ, List.replicate_zero, Nat.reduceAdd, Nat.reduceSub, List.map_cons, List.map_nil, List.all_cons, List.all_nil, List.any_cons, List.any_nil, Bool.and_true, Bool.true_and, Bool.or_true, Bool.true_or, Bool.false_or, Bool.or_false, Bool.not_true, Bool.not_false, Bool.false_eq_true, if_true, if_false, ite_true, ite_false, true_and, and_true, decide_eq_true_eq, Int.cast_ofNat_Int, decide_true, decide_false, ne_eq, reduceCtorEq, eq_self, not_true_eq_false, not_false_eq_true, false_implies, true_implies, implies_true, true_or, or_true, false_or, or_false, Bool.not_eq_true', decide_eq_false_iff_not, Option.bind_some, Option.bind_none, reduceIte, e_star, e_tupS, e_lstS, e_methA, e_append, e_isLst, e_extend, e_st, e_revT, e_revL, e_enum, enumD, e_rng3, e_rngT, e_fzI, fzS, s8, t8]
  refine for_inv (fun pre ρ => ∃ d x1 x2 x3 x4 x5 x6 x7 x8 x9 x10 x11 x12 x13 x14 x15 : _, ρ = [.pm d, x1, x2, x3, x4, x5, x6, x7, x8, x9, x10, x11, x12, x13, x14, x15, .no] ∧ Pot (200 * pre.length) d) ⟨_, _, _, _, _, _, _, _, _, _, _, _, _, _, _, _, rfl, hp⟩ (fun pre dd post ρ e ⟨d0, x1, x2, x3, x4, x5, x6, x7, x8, x9, x10, x11, x12, x13, x14, x15, e1, p0⟩ => ?_) fun ρ ⟨d0, x1, x2, x3, x4, x5, x6, x7, x8, x9, x10, x11, x12, x13, x14, x15, e1, p0⟩ => ?_
  · subst e1
    obtain ⟨rfl, hlt⟩ := rng_at e
    generalize hN : 200 * pre.length = N at p0
    have hN2 : ∀ x : D, 200 * (pre ++ [x]).length = N + 200 := fun x => by rw [List.length_append]; simp; omega
    clear e
    simp -dsimp -implicitDefEqProofs only [e_lc, e_wipeN, e_wipeC, e_restN, e_restC, e_getD, e_seq, e_set, e_ret, e_retN, e_if, e_next, e_never, e_bk, e_ct, e_drop, e_asg, e_many, e_setIx, e_for, e_while, e_aug, e_test, e_andT, e_orT, e_notT, e_and, e_or, e_not, e_ifE, e_chain, e_name, e_c, e_op1, e_op2, e_opn, e_cons, e_nil, e_tup, e_lst, e_slice, e_partN, e_partS, e_gName, e_gNil, e_gCons, e_gTup, e_rng1, e_rngA, e_rng2, e_rngB, e_it, e_zip, e_contsN, e_contsC, e_frzsN, e_frzsC, e_normsN, e_normsC, e_normB, e_normF, e_normO, e_manyN, e_manyC, e_outsN, e_outsP, e_outsF, e_outN, e_outF, e_outO, e_ixL, e_ixT, e_ixS, e_yes, e_fn, e_call, e_callM, e_callT, e_listRg, e_sortedSet, ob_some, ob_none, W_ob, W_some, W_none, Int.reduceLT, Int.reduceLE, Int.reduceNeg, Int.reduceAdd, Int.reduceMul, Int.reduceSub, Nat.reduceLT, Nat.reduceLeDiff, Int.reduceToNat, W_ite, andN, ixN_0, ixN_1, ixN_2, ixN_3, at0, at1, at2, at3, isB, gSl, nameR, cont, slotC, setSlot, frz, retR, noBr, updSlot, ownC, zipD, plainE, itemsD, gAdd, gAddI, gSub, e_mulI, gMod, gDiv, gPow, gNeg, gLt, gLe, gGt, gGe, gLen, gAbs, gInt, gMax2, gMin2, gTuple, gList, gIsi, isTy, isNon, gIs, gIsNot, mAppend, headPm, noBrs, solidR, isBr, isLst, List.getElem?_cons_zero, List.getElem?_cons_succ, List.getElem?_nil, List.set_cons_zero, List.set_cons_succ, List.cons_append, List.nil_append, List.length_cons, List.length_nil, List.replicate_succ, List.replicate_zero, Nat.reduceAdd, Nat.reduceSub, List.map_cons, List.map_nil, List.all_cons, List.all_nil, List.any_cons, List.any_nil, Bool.and_true, Bool.true_and, Bool.or_true, Bool.true_or, Bool.false_or, Bool.or_false, Bool.not_true, Bool.not_false, Bool.false_eq_true, if_true, if_false, ite_true, ite_false, true_and, and_true, decide_eq_true_eq, Int.cast_ofNat_Int, decide_true, decide_false, ne_eq, reduceCtorEq, eq_self, not_true_eq_false, not_false_eq_true, false_implies, true_implies, implies_true, true_or, or_true, false_or, or_false, Bool.not_eq_true', decide_eq_false_iff_not, Option.bind_some, Option.bind_none, reduceIte, e_star, e_tupS, e_lstS, e_methA, e_append, e_isLst, e_extend, e_st, e_revT, e_revL, e_enum, enumD, e_rng3, e_rngT, e_fzI, fzS, law_of_g, law_take_g]
    refine (ofL_ok p0 (by omega) (by simp) (by simp)).mono fun w ⟨x, d1, e1, hx, p1⟩ => ?_
    subst e1
    obtain ⟨u, rfl, u1, u2⟩ : ∃ u : Int, x = .int u ∧ 1 ≤ u ∧ u ≤ 12 := by
      rcases List.mem_cons.mp hx with z | z
      · exact ⟨4, z, by decide, by decide⟩
      · exact ⟨12, by simpa using z, by decide, by decide⟩
    simp -dsimp -implicitDefEqProofs only [e_lc, e_wipeN, e_wipeC, e_restN, e_restC, e_getD, e_seq, e_set, e_ret, e_retN, e_if, e_next, e_never, e_bk, e_ct, e_drop, e_asg, e_many, e_setIx, e_for, e_while, e_aug, e_test, e_andT, e_orT, e_notT, e_and, e_or, e_not, e_ifE, e_chain, e_name, e_c, e_op1, e_op2, e_opn, e_cons, e_nil, e_tup, e_lst, e_slice, e_partN, e_partS, e_gName, e_gNil, e_gCons, e_gTup, e_rng1, e_rngA, e_rng2, e_rngB, e_it, e_zip, e_contsN, e_contsC, e_frzsN, e_frzsC, e_normsN, e_normsC, e_normB, e_normF, e_normO, e_manyN, e_manyC, e_outsN, e_outsP, e_outsF, e_outN, e_outF, e_outO, e_ixL, e_ixT, e_ixS, e_yes, e_fn, e_call, e_callM, e_callT, e_listRg, e_sortedSet, ob_some, ob_none, W_ob, W_some, W_none, Int.reduceLT, Int.reduceLE, Int.reduceNeg, Int.reduceAdd, Int.reduceMul, Int.reduceSub, Nat.reduceLT, Nat.reduceLeDiff, Int.reduceToNat, W_ite, andN, ixN_0, ixN_1, ixN_2, ixN_3, at0, at1, at2, at3, isB, gSl, nameR, cont, slotC, setSlot, frz, retR, noBr, updSlot, ownC, zipD, plainE, itemsD, gAdd, gAddI, gSub, e_mulI, gMod, gDiv, gPow, gNeg, gLt, gLe, gGt, gGe, gLen, gAbs, gInt, gMax2, gMin2, gTuple, gList, gIsi, isTy, isNon, gIs, gIsNot, mAppend, headPm, noBrs, solidR, isBr, isLst, List.getElem?_cons_zero, List.getElem?_cons_succ, List.getElem?_nil, List.set_cons_zero, List.set_cons_succ, List.cons_append, List.nil_append, List.length_cons, List.length_nil, List.replicate_succ, List.replicate_zero, Nat.reduceAdd, Nat.reduceSub, List.map_cons, List.map_nil, List.all_cons, List.all_nil, List.any_cons, List.any_nil, Bool.and_true, Bool.true_and, Bool.or_true, Bool.true_or, Bool.false_or, Bool.or_false, Bool.not_true, Bool.not_false, Bool.false_eq_true, if_true, if_false, ite_true, ite_false, true_and, and_true, decide_eq_true_eq, Int.cast_ofNat_Int, decide_true, decide_false, ne_eq, reduceCtorEq, eq_self, not_true_eq_false, not_false_eq_true, false_implies, true_implies, implies_true, true_or, or_true, false_or, or_false, Bool.not_eq_true', decide_eq_false_iff_not, Option.bind_some, Option.bind_none, reduceIte, e_star, e_tupS, e_lstS, e_methA, e_append, e_isLst, e_extend, e_st, e_revT, e_revL, e_enum, enumD, e_rng3, e_rngT, e_fzI, fzS, law_take_g]
    refine (take_spec p1 (by omega) (by omega) (by omega)).mono fun w ⟨z, d2, e1, z1, z2, p2⟩ => ?_
    subst e1
    have sz := sm1 (i := 1 + z) (by omega)
    simp -dsimp -implicitDefEqProofs only [e_lc, e_wipeN, e_wipeC, e_restN, e_restC, e_getD, e_seq, e_set, e_ret, e_retN, e_if, e_next, e_never, e_bk, e_ct, e_drop, e_asg, e_many, e_setIx, e_for, e_while, e_aug, e_test, e_andT, e_orT, e_notT, e_and, e_or, e_not, e_ifE, e_chain, e_name, e_c, e_op1, e_op2, e_opn, e_cons, e_nil, e_tup, e_lst, e_slice, e_partN, e_partS, e_gName, e_gNil, e_gCons, e_gTup, e_rng1, e_rngA, e_rng2, e_rngB, e_it, e_zip, e_contsN, e_contsC, e_frzsN, e_frzsC, e_normsN, e_normsC, e_normB, e_normF, e_normO, e_manyN, e_manyC, e_outsN, e_outsP, e_outsF, e_outN, e_outF, e_outO, e_ixL, e_ixT, e_ixS, e_yes, e_fn, e_call, e_callM, e_callT, e_listRg, e_sortedSet, ob_some, ob_none, W_ob, W_some, W_none, Int.reduceLT, Int.reduceLE, Int.reduceNeg, Int.reduceAdd, Int.reduceMul, Int.reduceSub, Nat.reduceLT, Nat.reduceLeDiff, Int.reduceToNat, W_ite, andN, ixN_0, ixN_1, ixN_2, ixN_3, at0, at1, at2, at3, isB, gSl, nameR, cont, slotC, setSlot, frz, retR, noBr, updSlot, ownC, zipD, plainE, itemsD, gAdd, gAddI, gSub, e_mulI, gMod, gDiv, gPow, gNeg, gLt, gLe, gGt, gGe, gLen, gAbs, gInt, gMax2, gMin2, gTuple, gList, gIsi, isTy, isNon, gIs, gIsNot, mAppend, headPm, noBrs, solidR, isBr, isLst, List.getElem?_cons_zero, List.getElem?_cons_succ, List.getElem?_nil, List.set_cons_zero, List.set_cons_succ, List.cons_append, List.nil_append, List.length_cons, List.length_nil, List.replicate_succ, List.replicate_zero, Nat.reduceAdd, Nat.reduceSub, List.map_cons, List.map_nil, List.all_cons, List.all_nil, List.any_cons, List.any_nil, Bool.and_true, Bool.true_and, Bool.or_true, Bool.true_or, Bool.false_or, Bool.or_false, Bool.not_true, Bool.not_false, Bool.false_eq_true, if_true, if_false, ite_true, ite_false, true_and, and_true, decide_eq_true_eq, Int.cast_ofNat_Int, decide_true, decide_false, ne_eq, reduceCtorEq, eq_self, not_true_eq_false, not_false_eq_true, false_implies, true_implies, implies_true, true_or, or_true, false_or, or_false, Bool.not_eq_true', decide_eq_false_iff_not, Option.bind_some, Option.bind_none, reduceIte, e_star, e_tupS, e_lstS, e_methA, e_append, e_isLst, e_extend, e_st, e_revT, e_revL, e_enum, enumD, e_rng3, e_rngT, e_fzI, fzS, sz]
    refine lc_inv (fun pre2 out ρ => ∃ (d' : D) (vs : List Int) (x : Pu.Slot), ρ = [.pm d', .fz (.int pre.length), x2, x3, x4, x5, x6, x7, x8, x9, x10, x11, x12, x13, x14, x15, x] ∧ Pot (N + 2 + pre2.length) d' ∧ out = vs.map D.int ∧ vs.length = pre2.length ∧ ∀ v ∈ vs, 0 ≤ v ∧ v ≤ 1) ⟨d2, [], _, rfl, p2, rfl, rfl, (fun v hv => nomatch hv)⟩ (fun pre2 d' post out ρ e ⟨d3, vs, x, e1, p3, eo, lv, hv⟩ => ?_) fun out ρ ⟨d3, vs, x, e1, p3, eo, lv, hv⟩ => ?_
    · subst e1
      obtain ⟨rfl, hlt⟩ := rng_at e
      simp -dsimp -implicitDefEqProofs only [e_lc, e_wipeN, e_wipeC, e_restN, e_restC, e_getD, e_seq, e_set, e_ret, e_retN, e_if, e_next, e_never, e_bk, e_ct, e_drop, e_asg, e_many, e_setIx, e_for, e_while, e_aug, e_test, e_andT, e_orT, e_notT, e_and, e_or, e_not, e_ifE, e_chain, e_name, e_c, e_op1, e_op2, e_opn, e_cons, e_nil, e_tup, e_lst, e_slice, e_partN, e_partS, e_gName, e_gNil, e_gCons, e_gTup, e_rng1, e_rngA, e_rng2, e_rngB, e_it, e_zip, e_contsN, e_contsC, e_frzsN, e_frzsC, e_normsN, e_normsC, e_normB, e_normF, e_normO, e_manyN, e_manyC, e_outsN, e_outsP, e_outsF, e_outN, e_outF, e_outO, e_ixL, e_ixT, e_ixS, e_yes, e_fn, e_call, e_callM, e_callT, e_listRg, e_sortedSet, ob_some, ob_none, W_ob, W_some, W_none, Int.reduceLT, Int.reduceLE, Int.reduceNeg, Int.reduceAdd, Int.reduceMul, Int.reduceSub, Nat.reduceLT, Nat.reduceLeDiff, Int.reduceToNat, W_ite, andN, ixN_0, ixN_1, ixN_2, ixN_3, at0, at1, at2, at3, isB, gSl, nameR, cont, slotC, setSlot, frz, retR, noBr, updSlot, ownC, zipD, plainE, itemsD, gAdd, gAddI, gSub, e_mulI, gMod, gDiv, gPow, gNeg, gLt, gLe, gGt, gGe, gLen, gAbs, gInt, gMax2, gMin2, gTuple, gList, gIsi, isTy, isNon, gIs, gIsNot, mAppend, headPm, noBrs, solidR, isBr, isLst, List.getElem?_cons_zero, List.getElem?_cons_succ, List.getElem?_nil, List.set_cons_zero, List.set_cons_succ, List.cons_append, List.nil_append, List.length_cons, List.length_nil, List.replicate_succ, List.replicate_zero, Nat.reduceAdd, Nat.reduceSub, List.map_cons, List.map_nil, List.all_cons, List.all_nil, List.any_cons, List.any_nil, Bool.and_true, Bool.true_and, Bool.or_true, Bool.true_or, Bool.false_or, Bool.or_false, Bool.not_true, Bool.not_false, Bool.false_eq_true, if_true, if_false, ite_true, ite_false, true_and, and_true, decide_eq_true_eq, Int.cast_ofNat_Int, decide_true, decide_false, ne_eq, reduceCtorEq, eq_self, not_true_eq_false, not_false_eq_true, false_implies, true_implies, implies_true, true_or, or_true, false_or, or_false, Bool.not_eq_true', decide_eq_false_iff_not, Option.bind_some, Option.bind_none, reduceIte, e_star, e_tupS, e_lstS, e_methA, e_append, e_isLst, e_extend, e_st, e_revT, e_revL, e_enum, enumD, e_rng3, e_rngT, e_fzI, fzS, law_take_g]
      refine (take_spec p3 (by omega) (by decide) (by decide)).mono fun w ⟨y, d4, e1, b1, b2, p4⟩ => ?_
      subst e1
      simp -dsimp -implicitDefEqProofs only [e_lc, e_wipeN, e_wipeC, e_restN, e_restC, e_getD, e_seq, e_set, e_ret, e_retN, e_if, e_next, e_never, e_bk, e_ct, e_drop, e_asg, e_many, e_setIx, e_for, e_while, e_aug, e_test, e_andT, e_orT, e_notT, e_and, e_or, e_not, e_ifE, e_chain, e_name, e_c, e_op1, e_op2, e_opn, e_cons, e_nil, e_tup, e_lst, e_slice, e_partN, e_partS, e_gName, e_gNil, e_gCons, e_gTup, e_rng1, e_rngA, e_rng2, e_rngB, e_it, e_zip, e_contsN, e_contsC, e_frzsN, e_frzsC, e_normsN, e_normsC, e_normB, e_normF, e_normO, e_manyN, e_manyC, e_outsN, e_outsP, e_outsF, e_outN, e_outF, e_outO, e_ixL, e_ixT, e_ixS, e_yes, e_fn, e_call, e_callM, e_callT, e_listRg, e_sortedSet, ob_some, ob_none, W_ob, W_some, W_none, Int.reduceLT, Int.reduceLE, Int.reduceNeg, Int.reduceAdd, Int.reduceMul, Int.reduceSub, Nat.reduceLT, Nat.reduceLeDiff, Int.reduceToNat, W_ite, andN, ixN_0, ixN_1, ixN_2, ixN_3, at0, at1, at2, at3, isB, gSl, nameR, cont, slotC, setSlot, frz, retR, noBr, updSlot, ownC, zipD, plainE, itemsD, gAdd, gAddI, gSub, e_mulI, gMod, gDiv, gPow, gNeg, gLt, gLe, gGt, gGe, gLen, gAbs, gInt, gMax2, gMin2, gTuple, gList, gIsi, isTy, isNon, gIs, gIsNot, mAppend, headPm, noBrs, solidR, isBr, isLst, List.getElem?_cons_zero, List.getElem?_cons_succ, List.getElem?_nil, List.set_cons_zero, List.set_cons_succ, List.cons_append, List.nil_append, List.length_cons, List.length_nil, List.replicate_succ, List.replicate_zero, Nat.reduceAdd, Nat.reduceSub, List.map_cons, List.map_nil, List.all_cons, List.all_nil, List.any_cons, List.any_nil, Bool.and_true, Bool.true_and, Bool.or_true, Bool.true_or, Bool.false_or, Bool.or_false, Bool.not_true, Bool.not_false, Bool.false_eq_true, if_true, if_false, ite_true, ite_false, true_and, and_true, decide_eq_true_eq, Int.cast_ofNat_Int, decide_true, decide_false, ne_eq, reduceCtorEq, eq_self, not_true_eq_false, not_false_eq_true, false_implies, true_implies, implies_true, true_or, or_true, false_or, or_false, Bool.not_eq_true', decide_eq_false_iff_not, Option.bind_some, Option.bind_none, reduceIte, e_star, e_tupS, e_lstS, e_methA, e_append, e_isLst, e_extend, e_st, e_revT, e_revL, e_enum, enumD, e_rng3, e_rngT, e_fzI, fzS]
      refine ⟨d4, vs ++ [y], _, rfl, by rw [List.length_append]; exact p4, by rw [eo, List.map_append]; rfl, by rw [List.length_append, List.length_append, lv]; rfl, fun v hv' => ?_⟩
      rcases List.mem_append.mp hv' with q | q
      · exact hv v q
      · have : v = y := by simpa using q
        omega
    subst e1
    subst eo
    rw [rngD_len] at lv p3
    have l1 : (vs.map D.int).length ≤ sizeLine := by rw [List.length_map, sizeLine_eq]; omega
    obtain ⟨L, hb⟩ := rb_of (xs := vs) (by omega) (by omega) hv
    have p3 : Pot (N + 20) d3 := p3.mono (by omega)
    have nb2 : vs.length ≤ 12 := by omega
    have rt := rib_tup vs
    generalize hcg : cyc vs = f at *
    generalize hm : vs.length = nb at *
    clear hcg hv
    have nb1 := hb.n1
    have l0 := hb.l0
    have dnb := div_ok (j := (nb : Int)) (n := 100) (by omega) (Bd.of (by omega) (by omega))
    have k1 : 1 ≤ 24 / nb := Nat.div_pos (by omega) nb1
    have k2 : 24 / nb ≤ 24 := Nat.div_le_self _ _
    have e24 : (24 : Int) / (nb : Int) = ((24 / nb : Nat) : Int) := by rw [Int.natCast_ediv]; rfl
    simp -dsimp -implicitDefEqProofs only [e_lc, e_wipeN, e_wipeC, e_restN, e_restC, e_getD, e_seq, e_set, e_ret, e_retN, e_if, e_next, e_never, e_bk, e_ct, e_drop, e_asg, e_many, e_setIx, e_for, e_while, e_aug, e_test, e_andT, e_orT, e_notT, e_and, e_or, e_not, e_ifE, e_chain, e_name, e_c, e_op1, e_op2, e_opn, e_cons, e_nil, e_tup, e_lst, e_slice, e_partN, e_partS, e_gName, e_gNil, e_gCons, e_gTup, e_rng1, e_rngA, e_rng2, e_rngB, e_it, e_zip, e_contsN, e_contsC, e_frzsN, e_frzsC, e_normsN, e_normsC, e_normB, e_normF, e_normO, e_manyN, e_manyC, e_outsN, e_outsP, e_outsF, e_outN, e_outF, e_outO, e_ixL, e_ixT, e_ixS, e_yes, e_fn, e_call, e_callM, e_callT, e_listRg, e_sortedSet, ob_some, ob_none, W_ob, W_some, W_none, Int.reduceLT, Int.reduceLE, Int.reduceNeg, Int.reduceAdd, Int.reduceMul, Int.reduceSub, Nat.reduceLT, Nat.reduceLeDiff, Int.reduceToNat, W_ite, andN, ixN_0, ixN_1, ixN_2, ixN_3, at0, at1, at2, at3, isB, gSl, nameR, cont, slotC, setSlot, frz, retR, noBr, updSlot, ownC, zipD, plainE, itemsD, gAdd, gAddI, gSub, e_mulI, gMod, gDiv, gPow, gNeg, gLt, gLe, gGt, gGe, gAbs, gInt, gMax2, gMin2, gTuple, gList, gIsi, isTy, isNon, gIs, gIsNot, mAppend, headPm, noBrs, solidR, isBr, isLst, List.getElem?_cons_zero, List.getElem?_cons_succ, List.getElem?_nil, List.set_cons_zero, List.set_cons_succ, List.cons_append, List.nil_append, List.length_cons, List.length_nil, List.replicate_succ, List.replicate_zero, Nat.reduceAdd, Nat.reduceSub, List.map_cons, List.map_nil, List.all_cons, List.all_nil, List.any_cons, List.any_nil, Bool.and_true, Bool.true_and, Bool.or_true, Bool.true_or, Bool.false_or, Bool.or_false, Bool.not_true, Bool.not_false, Bool.false_eq_true, if_true, if_false, ite_true, ite_false, true_and, and_true, decide_eq_true_eq, Int.cast_ofNat_Int, decide_true, decide_false, ne_eq, reduceCtorEq, eq_self, not_true_eq_false, not_false_eq_true, false_implies, true_implies, implies_true, true_or, or_true, false_or, or_false, Bool.not_eq_true', decide_eq_false_iff_not, Option.bind_some, Option.bind_none, reduceIte, e_star, e_tupS, e_lstS, e_methA, e_append, e_isLst, e_extend, e_st, e_revT, e_revL, e_enum, enumD, e_rng3, e_rngT, e_fzI, fzS, l1, rt, len_row, dnb, e24]
    refine (take_spec p3 (by omega) (by omega) (by omega)).mono fun w ⟨z', d4, e1, y1, y2, p4⟩ => ?_
    subst e1
    obtain ⟨z', rfl⟩ := Int.eq_ofNat_of_zero_le y1
    have hk24 : (1 + z') * nb ≤ 24 := by
      have h1 : (1 + z') * nb ≤ 24 / nb * nb := Nat.mul_le_mul_right nb (by omega)
      have h2 := Nat.div_mul_le_self 24 nb
      omega
    have h := hb.times (k := 1 + z') (by omega) hk24
    have mr := mul_row (ys := rowF nb f) (k := 1 + z') (fun z => by
      have := congrArg List.length z
      rw [rowF_len, List.length_nil] at this
      omega) (by rw [rowF_len]; omega) (by omega) (by omega)
    rw [pwr_row nb1 hb.per] at mr
    have ek : (1 : Int) + (z' : Int) = ((1 + z' : Nat) : Int) := by omega
    generalize hn : (1 + z') * nb = n at *
    have n1 := h.n1
    have n2 := h.n2
    have hle := h.le
    have lo := least_ok h
    simp -dsimp -implicitDefEqProofs only [e_lc, e_wipeN, e_wipeC, e_restN, e_restC, e_getD, e_seq, e_set, e_ret, e_retN, e_if, e_next, e_never, e_bk, e_ct, e_drop, e_asg, e_many, e_setIx, e_for, e_while, e_aug, e_test, e_andT, e_orT, e_notT, e_and, e_or, e_not, e_ifE, e_chain, e_name, e_c, e_op1, e_op2, e_opn, e_cons, e_nil, e_tup, e_lst, e_slice, e_partN, e_partS, e_gName, e_gNil, e_gCons, e_gTup, e_rng1, e_rngA, e_rng2, e_rngB, e_it, e_zip, e_contsN, e_contsC, e_frzsN, e_frzsC, e_normsN, e_normsC, e_normB, e_normF, e_normO, e_manyN, e_manyC, e_outsN, e_outsP, e_outsF, e_outN, e_outF, e_outO, e_ixL, e_ixT, e_ixS, e_yes, e_fn, e_call, e_callM, e_callT, e_listRg, e_sortedSet, ob_some, ob_none, W_ob, W_some, W_none, Int.reduceLT, Int.reduceLE, Int.reduceNeg, Int.reduceAdd, Int.reduceMul, Int.reduceSub, Nat.reduceLT, Nat.reduceLeDiff, Int.reduceToNat, W_ite, andN, ixN_0, ixN_1, ixN_2, ixN_3, at0, at1, at2, at3, isB, gSl, nameR, cont, slotC, setSlot, frz, retR, noBr, updSlot, ownC, zipD, plainE, itemsD, gAdd, gAddI, gSub, e_mulI, gMod, gDiv, gPow, gNeg, gLt, gLe, gGt, gGe, gLen, gAbs, gInt, gMax2, gMin2, gTuple, gList, gIsi, isTy, isNon, gIs, gIsNot, mAppend, headPm, noBrs, solidR, isBr, isLst, List.getElem?_cons_zero, List.getElem?_cons_succ, List.getElem?_nil, List.set_cons_zero, List.set_cons_succ, List.cons_append, List.nil_append, List.length_cons, List.length_nil, List.replicate_succ, List.replicate_zero, Nat.reduceAdd, Nat.reduceSub, List.map_cons, List.map_nil, List.all_cons, List.all_nil, List.any_cons, List.any_nil, Bool.and_true, Bool.true_and, Bool.or_true, Bool.true_or, Bool.false_or, Bool.or_false, Bool.not_true, Bool.not_false, Bool.false_eq_true, if_true, if_false, ite_true, ite_false, true_and, and_true, decide_eq_true_eq, Int.cast_ofNat_Int, decide_true, decide_false, ne_eq, reduceCtorEq, eq_self, not_true_eq_false, not_false_eq_true, false_implies, true_implies, implies_true, true_or, or_true, false_or, or_false, Bool.not_eq_true', decide_eq_false_iff_not, Option.bind_some, Option.bind_none, reduceIte, e_star, e_tupS, e_lstS, e_methA, e_append, e_isLst, e_extend, e_st, e_revT, e_revL, e_enum, enumD, e_rng3, e_rngT, e_fzI, fzS, ek, mr, lo]
    refine (take_spec p4 (by omega) (by decide) (by decide)).mono fun w ⟨s, d5, e1, s1, s2, p5⟩ => ?_
    subst e1
    have hL0 : (0 : Int) < L := by omega
    have dL := div_ok (j := (L : Int)) (n := 100) (by omega) (Bd.of (by omega) (by omega))
    have eq : (n : Int) / (L : Int) = ((n / L : Nat) : Int) := by rw [Int.natCast_ediv]
    have hq : n / L * L = n := Nat.div_mul_cancel h.ndvd
    have ml := mul_row (ys := rowF L f) (k := n / L) (fun z => by
      have := congrArg List.length z
      rw [rowF_len, List.length_nil] at this
      omega) (by rw [rowF_len]; omega) (Nat.div_pos hle l0) (Nat.le_trans (Nat.div_le_self _ _) (by omega))
    rw [pwr_row l0 h.lper, hq] at ml
    have ll := least_ok h.least
    have lb := least_ok hb
    have mv := moved_ok h (s := s) (by omega) (by omega)
    obtain ⟨b1, sa1, hb1⟩ := same_ok h (h.sh s)
    have hb1 : b1 = true := hb1.mpr ⟨s, rfl⟩
    subst hb1
    obtain ⟨b2, sa2, hb2⟩ := same_ok hb (h.sh s)
    have hb2 : b2 = true := hb2.mpr ⟨s, rfl⟩
    subst hb2
    have bk1 := back_ok h
    have bk2 := back_ok h.bf
    rw [bf_bf] at bk2
    have bk3 := back_ok (h.sh s)
    rw [bf_sh] at bk3
    have mv2 := moved_ok h.bf (s := -s) (by omega) (by omega)
    simp -dsimp -implicitDefEqProofs only [e_lc, e_wipeN, e_wipeC, e_restN, e_restC, e_getD, e_seq, e_set, e_ret, e_retN, e_if, e_next, e_never, e_bk, e_ct, e_drop, e_asg, e_many, e_setIx, e_for, e_while, e_aug, e_test, e_andT, e_orT, e_notT, e_and, e_or, e_not, e_ifE, e_chain, e_name, e_c, e_op1, e_op2, e_opn, e_cons, e_nil, e_tup, e_lst, e_slice, e_partN, e_partS, e_gName, e_gNil, e_gCons, e_gTup, e_rng1, e_rngA, e_rng2, e_rngB, e_it, e_zip, e_contsN, e_contsC, e_frzsN, e_frzsC, e_normsN, e_normsC, e_normB, e_normF, e_normO, e_manyN, e_manyC, e_outsN, e_outsP, e_outsF, e_outN, e_outF, e_outO, e_ixL, e_ixT, e_ixS, e_yes, e_fn, e_call, e_callM, e_callT, e_listRg, e_sortedSet, ob_some, ob_none, W_ob, W_some, W_none, Int.reduceLT, Int.reduceLE, Int.reduceNeg, Int.reduceAdd, Int.reduceMul, Int.reduceSub, Nat.reduceLT, Nat.reduceLeDiff, Int.reduceToNat, W_ite, andN, ixN_0, ixN_1, ixN_2, ixN_3, at0, at1, at2, at3, isB, gSl, nameR, cont, slotC, setSlot, frz, retR, noBr, updSlot, ownC, zipD, plainE, itemsD, gAdd, gAddI, gSub, e_mulI, gMod, gDiv, gPow, gNeg, gLt, gLe, gGt, gGe, gAbs, gInt, gMax2, gMin2, gTuple, gList, gIsi, isTy, isNon, gIs, gIsNot, mAppend, headPm, noBrs, solidR, isBr, isLst, List.getElem?_cons_zero, List.getElem?_cons_succ, List.getElem?_nil, List.set_cons_zero, List.set_cons_succ, List.cons_append, List.nil_append, List.length_cons, List.length_nil, List.replicate_succ, List.replicate_zero, Nat.reduceAdd, Nat.reduceSub, List.map_cons, List.map_nil, List.all_cons, List.all_nil, List.any_cons, List.any_nil, Bool.and_true, Bool.true_and, Bool.or_true, Bool.true_or, Bool.false_or, Bool.or_false, Bool.not_true, Bool.not_false, Bool.false_eq_true, if_true, if_false, ite_true, ite_false, true_and, and_true, decide_eq_true_eq, Int.cast_ofNat_Int, decide_true, decide_false, ne_eq, reduceCtorEq, eq_self, not_true_eq_false, not_false_eq_true, false_implies, true_implies, implies_true, true_or, or_true, false_or, or_false, Bool.not_eq_true', decide_eq_false_iff_not, Option.bind_some, Option.bind_none, reduceIte, e_star, e_tupS, e_lstS, e_methA, e_append, e_isLst, e_extend, e_st, e_revT, e_revL, e_enum, enumD, e_rng3, e_rngT, e_fzI, fzS, len_row, dL, hL0, eq, ml, ll, lb, lo, gn_row, mv, sa1, sa2, bk1, bk2, bk3, mv2]
    refine (take_spec p5 (by omega) (by decide) (by decide)).mono fun w ⟨y, d6, e1, y1, y2, p6⟩ => ?_
    subst e1
    have sy := sm1 (i := 1 + y) (by omega)
    simp -dsimp -implicitDefEqProofs only [e_lc, e_wipeN, e_wipeC, e_restN, e_restC, e_getD, e_seq, e_set, e_ret, e_retN, e_if, e_next, e_never, e_bk, e_ct, e_drop, e_asg, e_many, e_setIx, e_for, e_while, e_aug, e_test, e_andT, e_orT, e_notT, e_and, e_or, e_not, e_ifE, e_chain, e_name, e_c, e_op1, e_op2, e_opn, e_cons, e_nil, e_tup, e_lst, e_slice, e_partN, e_partS, e_gName, e_gNil, e_gCons, e_gTup, e_rng1, e_rngA, e_rng2, e_rngB, e_it, e_zip, e_contsN, e_contsC, e_frzsN, e_frzsC, e_normsN, e_normsC, e_normB, e_normF, e_normO, e_manyN, e_manyC, e_outsN, e_outsP, e_outsF, e_outN, e_outF, e_outO, e_ixL, e_ixT, e_ixS, e_yes, e_fn, e_call, e_callM, e_callT, e_listRg, e_sortedSet, ob_some, ob_none, W_ob, W_some, W_none, Int.reduceLT, Int.reduceLE, Int.reduceNeg, Int.reduceAdd, Int.reduceMul, Int.reduceSub, Nat.reduceLT, Nat.reduceLeDiff, Int.reduceToNat, W_ite, andN, ixN_0, ixN_1, ixN_2, ixN_3, at0, at1, at2, at3, isB, gSl, nameR, cont, slotC, setSlot, frz, retR, noBr, updSlot, ownC, zipD, plainE, itemsD, gAdd, gAddI, gSub, e_mulI, gMod, gDiv, gPow, gNeg, gLt, gLe, gGt, gGe, gLen, gAbs, gInt, gMax2, gMin2, gTuple, gList, gIsi, isTy, isNon, gIs, gIsNot, mAppend, headPm, noBrs, solidR, isBr, isLst, List.getElem?_cons_zero, List.getElem?_cons_succ, List.getElem?_nil, List.set_cons_zero, List.set_cons_succ, List.cons_append, List.nil_append, List.length_cons, List.length_nil, List.replicate_succ, List.replicate_zero, Nat.reduceAdd, Nat.reduceSub, List.map_cons, List.map_nil, List.all_cons, List.all_nil, List.any_cons, List.any_nil, Bool.and_true, Bool.true_and, Bool.or_true, Bool.true_or, Bool.false_or, Bool.or_false, Bool.not_true, Bool.not_false, Bool.false_eq_true, if_true, if_false, ite_true, ite_false, true_and, and_true, decide_eq_true_eq, Int.cast_ofNat_Int, decide_true, decide_false, ne_eq, reduceCtorEq, eq_self, not_true_eq_false, not_false_eq_true, false_implies, true_implies, implies_true, true_or, or_true, false_or, or_false, Bool.not_eq_true', decide_eq_false_iff_not, Option.bind_some, Option.bind_none, reduceIte, e_star, e_tupS, e_lstS, e_methA, e_append, e_isLst, e_extend, e_st, e_revT, e_revL, e_enum, enumD, e_rng3, e_rngT, e_fzI, fzS, sy]
    refine lc_inv (fun pre2 out ρ => ∃ (d' : D) (vs : List Int) (x : Pu.Slot), ρ = [.pm d', .fz (.int pre.length), .fz (rowD (rowF nb f)), .fz (rowD (rowF n f)), .fz (rowD (rowF L f)), .fz (.int s), .fz (rowD (rowF n (sh f s))), x7, x8, x9, x10, x11, x12, x13, x14, x15, x] ∧ Pot (N + 23 + pre2.length) d' ∧ out = vs.map D.int ∧ vs.length = pre2.length ∧ ∀ v ∈ vs, 0 ≤ v ∧ v ≤ 1) ⟨d6, [], _, rfl, p6, rfl, rfl, (fun v hv => nomatch hv)⟩ (fun pre2 d' post out ρ e ⟨d3, vs, x, e1, p3, eo, lv, hv⟩ => ?_) fun out ρ ⟨d7, vs, x, e1, p7, eo, lv, hv⟩ => ?_
    · subst e1
      obtain ⟨rfl, hlt⟩ := rng_at e
      simp -dsimp -implicitDefEqProofs only [e_lc, e_wipeN, e_wipeC, e_restN, e_restC, e_getD, e_seq, e_set, e_ret, e_retN, e_if, e_next, e_never, e_bk, e_ct, e_drop, e_asg, e_many, e_setIx, e_for, e_while, e_aug, e_test, e_andT, e_orT, e_notT, e_and, e_or, e_not, e_ifE, e_chain, e_name, e_c, e_op1, e_op2, e_opn, e_cons, e_nil, e_tup, e_lst, e_slice, e_partN, e_partS, e_gName, e_gNil, e_gCons, e_gTup, e_rng1, e_rngA, e_rng2, e_rngB, e_it, e_zip, e_contsN, e_contsC, e_frzsN, e_frzsC, e_normsN, e_normsC, e_normB, e_normF, e_normO, e_manyN, e_manyC, e_outsN, e_outsP, e_outsF, e_outN, e_outF, e_outO, e_ixL, e_ixT, e_ixS, e_yes, e_fn, e_call, e_callM, e_callT, e_listRg, e_sortedSet, ob_some, ob_none, W_ob, W_some, W_none, Int.reduceLT, Int.reduceLE, Int.reduceNeg, Int.reduceAdd, Int.reduceMul, Int.reduceSub, Nat.reduceLT, Nat.reduceLeDiff, Int.reduceToNat, W_ite, andN, ixN_0, ixN_1, ixN_2, ixN_3, at0, at1, at2, at3, isB, gSl, nameR, cont, slotC, setSlot, frz, retR, noBr, updSlot, ownC, zipD, plainE, itemsD, gAdd, gAddI, gSub, e_mulI, gMod, gDiv, gPow, gNeg, gLt, gLe, gGt, gGe, gLen, gAbs, gInt, gMax2, gMin2, gTuple, gList, gIsi, isTy, isNon, gIs, gIsNot, mAppend, headPm, noBrs, solidR, isBr, isLst, List.getElem?_cons_zero, List.getElem?_cons_succ, List.getElem?_nil, List.set_cons_zero, List.set_cons_succ, List.cons_append, List.nil_append, List.length_cons, List.length_nil, List.replicate_succ, List.replicate_zero, Nat.reduceAdd, Nat.reduceSub, List.map_cons, List.map_nil, List.all_cons, List.all_nil, List.any_cons, List.any_nil, Bool.and_true, Bool.true_and, Bool.or_true, Bool.true_or, Bool.false_or, Bool.or_false, Bool.not_true, Bool.not_false, Bool.false_eq_true, if_true, if_false, ite_true, ite_false, true_and, and_true, decide_eq_true_eq, Int.cast_ofNat_Int, decide_true, decide_false, ne_eq, reduceCtorEq, eq_self, not_true_eq_false, not_false_eq_true, false_implies, true_implies, implies_true, true_or, or_true, false_or, or_false, Bool.not_eq_true', decide_eq_false_iff_not, Option.bind_some, Option.bind_none, reduceIte, e_star, e_tupS, e_lstS, e_methA, e_append, e_isLst, e_extend, e_st, e_revT, e_revL, e_enum, enumD, e_rng3, e_rngT, e_fzI, fzS, law_take_g]
      refine (take_spec p3 (by omega) (by decide) (by decide)).mono fun w ⟨y, d4, e1, b1, b2, p4⟩ => ?_
      subst e1
      simp -dsimp -implicitDefEqProofs only [e_lc, e_wipeN, e_wipeC, e_restN, e_restC, e_getD, e_seq, e_set, e_ret, e_retN, e_if, e_next, e_never, e_bk, e_ct, e_drop, e_asg, e_many, e_setIx, e_for, e_while, e_aug, e_test, e_andT, e_orT, e_notT, e_and, e_or, e_not, e_ifE, e_chain, e_name, e_c, e_op1, e_op2, e_opn, e_cons, e_nil, e_tup, e_lst, e_slice, e_partN, e_partS, e_gName, e_gNil, e_gCons, e_gTup, e_rng1, e_rngA, e_rng2, e_rngB, e_it, e_zip, e_contsN, e_contsC, e_frzsN, e_frzsC, e_normsN, e_normsC, e_normB, e_normF, e_normO, e_manyN, e_manyC, e_outsN, e_outsP, e_outsF, e_outN, e_outF, e_outO, e_ixL, e_ixT, e_ixS, e_yes, e_fn, e_call, e_callM, e_callT, e_listRg, e_sortedSet, ob_some, ob_none, W_ob, W_some, W_none, Int.reduceLT, Int.reduceLE, Int.reduceNeg, Int.reduceAdd, Int.reduceMul, Int.reduceSub, Nat.reduceLT, Nat.reduceLeDiff, Int.reduceToNat, W_ite, andN, ixN_0, ixN_1, ixN_2, ixN_3, at0, at1, at2, at3, isB, gSl, nameR, cont, slotC, setSlot, frz, retR, noBr, updSlot, ownC, zipD, plainE, itemsD, gAdd, gAddI, gSub, e_mulI, gMod, gDiv, gPow, gNeg, gLt, gLe, gGt, gGe, gLen, gAbs, gInt, gMax2, gMin2, gTuple, gList, gIsi, isTy, isNon, gIs, gIsNot, mAppend, headPm, noBrs, solidR, isBr, isLst, List.getElem?_cons_zero, List.getElem?_cons_succ, List.getElem?_nil, List.set_cons_zero, List.set_cons_succ, List.cons_append, List.nil_append, List.length_cons, List.length_nil, List.replicate_succ, List.replicate_zero, Nat.reduceAdd, Nat.reduceSub, List.map_cons, List.map_nil, List.all_cons, List.all_nil, List.any_cons, List.any_nil, Bool.and_true, Bool.true_and, Bool.or_true, Bool.true_or, Bool.false_or, Bool.or_false, Bool.not_true, Bool.not_false, Bool.false_eq_true, if_true, if_false, ite_true, ite_false, true_and, and_true, decide_eq_true_eq, Int.cast_ofNat_Int, decide_true, decide_false, ne_eq, reduceCtorEq, eq_self, not_true_eq_false, not_false_eq_true, false_implies, true_implies, implies_true, true_or, or_true, false_or, or_false, Bool.not_eq_true', decide_eq_false_iff_not, Option.bind_some, Option.bind_none, reduceIte, e_star, e_tupS, e_lstS, e_methA, e_append, e_isLst, e_extend, e_st, e_revT, e_revL, e_enum, enumD, e_rng3, e_rngT, e_fzI, fzS]
      refine ⟨d4, vs ++ [y], _, rfl, by rw [List.length_append]; exact p4, by rw [eo, List.map_append]; rfl, by rw [List.length_append, List.length_append, lv]; rfl, fun v hv' => ?_⟩
      rcases List.mem_append.mp hv' with q | q
      · exact hv v q
      · have : v = y := by simpa using q
        omega
    subst e1
    subst eo
    rw [rngD_len] at lv p7
    have p7 : Pot (N + 40) d7 := p7.mono (by omega)
    have l1 : (vs.map D.int).length ≤ sizeLine := by rw [List.length_map, sizeLine_eq]; omega
    have hh1 : 1 ≤ vs.length := by omega
    have hh2 : vs.length ≤ 12 := by omega
    have bh := back_x (xs := vs) hh1 (by omega) hv
    have hap := app_row vs (bk vs) (by rw [bk_len]; omega)
    have hfb : bk (vs ++ bk vs) = vs ++ bk vs := by rw [bk_app, bk_bk]
    have hfv : ∀ v ∈ vs ++ bk vs, 0 ≤ v ∧ v ≤ 1 := fun v hv' => by
      rcases List.mem_append.mp hv' with q | q
      · exact hv v q
      · unfold bk at q
        obtain ⟨x, hx, rfl⟩ := List.mem_map.mp q
        have := hv x (List.mem_reverse.mp hx)
        omega
    have hfl : (vs ++ bk vs).length = 2 * vs.length := by rw [List.length_append, bk_len]; omega
    obtain ⟨M, hF⟩ := rb_of (xs := vs ++ bk vs) (by omega) (by omega) hfv
    have hTwo : Two (cyc (vs ++ bk vs)) := two_of hF.n1 hF.per (by rw [row_cyc]; exact hfb)
    have eF := row_cyc (vs ++ bk vs)
    rw [← eF] at hap
    have et : D.tup (vs.map D.int) = rowD vs := rfl
    generalize hcF : cyc (vs ++ bk vs) = F at *
    generalize hmF : (vs ++ bk vs).length = m at *
    have hm2 := hF.n2
    have mvF := moved_ok hF (s := s) (by omega) (by omega)
    obtain ⟨b3, tw3, hb3⟩ := two_ok (hF.sh s)
    have hb3 : b3 = true := hb3.mpr (hTwo.sh s)
    subst hb3
    have suF := hTwo.half hF.n1 hF.per
    have suF : Sm F m * 2 = (m : Int) := by rw [Int.mul_comm]; exact suF
    have sbF := Sm_bd hF.val m
    have mF := mul_ok (i := Sm F m) (j := 2) (n := 100) (m := 100) (Bd.of (by omega) (by omega)) (Bd.of (by omega) (by omega))
    obtain ⟨b4, tw4, hb4⟩ := two_ok h
    obtain ⟨b5, sa5, hb5⟩ := same_ok h h.bf
    have hb45 : b4 = b5 := by
      have : b4 = true ↔ b5 = true := hb4.trans ((two_same f).trans hb5.symm)
      cases b4 <;> cases b5 <;> simp at this ⊢
    subst hb45
    have sbf := Sm_bd h.val n
    have mf := mul_ok (i := 2) (j := Sm f n) (n := 100) (m := 100) (Bd.of (by omega) (by omega)) (Bd.of (by omega) (by omega))
    have ib := isBool_ok (a := b4) (b := b4)
    have hb4f : b4 = true → 2 * Sm f n = (n : Int) := fun e => (hb4.mp e).half h.n1 h.per
    simp -dsimp -implicitDefEqProofs only [e_lc, e_wipeN, e_wipeC, e_restN, e_restC, e_getD, e_seq, e_set, e_ret, e_retN, e_if, e_next, e_never, e_bk, e_ct, e_drop, e_asg, e_many, e_setIx, e_for, e_while, e_aug, e_test, e_andT, e_orT, e_notT, e_and, e_or, e_not, e_ifE, e_chain, e_name, e_c, e_op1, e_op2, e_opn, e_cons, e_nil, e_tup, e_lst, e_slice, e_partN, e_partS, e_gName, e_gNil, e_gCons, e_gTup, e_rng1, e_rngA, e_rng2, e_rngB, e_it, e_zip, e_contsN, e_contsC, e_frzsN, e_frzsC, e_normsN, e_normsC, e_normB, e_normF, e_normO, e_manyN, e_manyC, e_outsN, e_outsP, e_outsF, e_outN, e_outF, e_outO, e_ixL, e_ixT, e_ixS, e_yes, e_fn, e_call, e_callM, e_callT, e_listRg, e_sortedSet, ob_some, ob_none, W_ob, W_some, W_none, Int.reduceLT, Int.reduceLE, Int.reduceNeg, Int.reduceAdd, Int.reduceMul, Int.reduceSub, Nat.reduceLT, Nat.reduceLeDiff, Int.reduceToNat, W_ite, andN, ixN_0, ixN_1, ixN_2, ixN_3, at0, at1, at2, at3, isB, gSl, nameR, cont, slotC, setSlot, frz, retR, noBr, updSlot, ownC, zipD, plainE, itemsD, gAddI, gSub, e_mulI, gMod, gDiv, gPow, gNeg, gLt, gLe, gGt, gGe, gAbs, gInt, gMax2, gMin2, gTuple, gList, gIsi, isTy, isNon, gIs, gIsNot, mAppend, headPm, noBrs, solidR, isBr, isLst, List.getElem?_cons_zero, List.getElem?_cons_succ, List.getElem?_nil, List.set_cons_zero, List.set_cons_succ, List.cons_append, List.nil_append, List.length_cons, List.length_nil, List.replicate_succ, List.replicate_zero, Nat.reduceAdd, Nat.reduceSub, List.map_cons, List.map_nil, List.all_cons, List.all_nil, List.any_cons, List.any_nil, Bool.and_true, Bool.true_and, Bool.or_true, Bool.true_or, Bool.false_or, Bool.or_false, Bool.not_true, Bool.not_false, Bool.false_eq_true, if_true, if_false, ite_true, ite_false, true_and, and_true, decide_eq_true_eq, Int.cast_ofNat_Int, decide_true, decide_false, ne_eq, reduceCtorEq, eq_self, not_true_eq_false, not_false_eq_true, false_implies, true_implies, implies_true, true_or, or_true, false_or, or_false, Bool.not_eq_true', decide_eq_false_iff_not, Option.bind_some, Option.bind_none, reduceIte, e_star, e_tupS, e_lstS, e_methA, e_append, e_isLst, e_extend, e_st, e_revT, e_revL, e_enum, enumD, e_rng3, e_rngT, e_fzI, fzS, l1, et, bh, hap, e_addI, mvF, tw3, sum_row, len_row, mF, suF, gn_int, tw4, sa5, bk1, is_bool_g, ib]
    refine join mf (fun e c => c (hb4f e)) ?_
    refine (flowsr_ok h p7 (by omega) s1 (by omega)).mono fun w ⟨d8, e1, p8⟩ => ?_
    subst e1
    simp -dsimp -implicitDefEqProofs only [e_lc, e_wipeN, e_wipeC, e_restN, e_restC, e_getD, e_seq, e_set, e_ret, e_retN, e_if, e_next, e_never, e_bk, e_ct, e_drop, e_asg, e_many, e_setIx, e_for, e_while, e_aug, e_test, e_andT, e_orT, e_notT, e_and, e_or, e_not, e_ifE, e_chain, e_name, e_c, e_op1, e_op2, e_opn, e_cons, e_nil, e_tup, e_lst, e_slice, e_partN, e_partS, e_gName, e_gNil, e_gCons, e_gTup, e_rng1, e_rngA, e_rng2, e_rngB, e_it, e_zip, e_contsN, e_contsC, e_frzsN, e_frzsC, e_normsN, e_normsC, e_normB, e_normF, e_normO, e_manyN, e_manyC, e_outsN, e_outsP, e_outsF, e_outN, e_outF, e_outO, e_ixL, e_ixT, e_ixS, e_yes, e_fn, e_call, e_callM, e_callT, e_listRg, e_sortedSet, ob_some, ob_none, W_ob, W_some, W_none, Int.reduceLT, Int.reduceLE, Int.reduceNeg, Int.reduceAdd, Int.reduceMul, Int.reduceSub, Nat.reduceLT, Nat.reduceLeDiff, Int.reduceToNat, W_ite, andN, ixN_0, ixN_1, ixN_2, ixN_3, at0, at1, at2, at3, isB, gSl, nameR, cont, slotC, setSlot, frz, retR, noBr, updSlot, ownC, zipD, plainE, itemsD, gAdd, gAddI, gSub, e_mulI, gMod, gDiv, gPow, gNeg, gLt, gLe, gGt, gGe, gLen, gAbs, gInt, gMax2, gMin2, gTuple, gList, gIsi, isTy, isNon, gIs, gIsNot, mAppend, headPm, noBrs, solidR, isBr, isLst, List.getElem?_cons_zero, List.getElem?_cons_succ, List.getElem?_nil, List.set_cons_zero, List.set_cons_succ, List.cons_append, List.nil_append, List.length_cons, List.length_nil, List.replicate_succ, List.replicate_zero, Nat.reduceAdd, Nat.reduceSub, List.map_cons, List.map_nil, List.all_cons, List.all_nil, List.any_cons, List.any_nil, Bool.and_true, Bool.true_and, Bool.or_true, Bool.true_or, Bool.false_or, Bool.or_false, Bool.not_true, Bool.not_false, Bool.false_eq_true, if_true, if_false, ite_true, ite_false, true_and, and_true, decide_eq_true_eq, Int.cast_ofNat_Int, decide_true, decide_false, ne_eq, reduceCtorEq, eq_self, not_true_eq_false, not_false_eq_true, false_implies, true_implies, implies_true, true_or, or_true, false_or, or_false, Bool.not_eq_true', decide_eq_false_iff_not, Option.bind_some, Option.bind_none, reduceIte, e_star, e_tupS, e_lstS, e_methA, e_append, e_isLst, e_extend, e_st, e_revT, e_revL, e_enum, enumD, e_rng3, e_rngT, e_fzI, fzS, law_take_g]
    refine (take_spec p8 (by omega) (by decide) (by decide)).mono fun w' ⟨w, d9, e1, w1, w2, p9⟩ => ?_
    subst e1
    obtain ⟨w, rfl⟩ := Int.eq_ofNat_of_zero_le w1
    have hn0 : (0 : Int) < n := by omega
    have co := columns_ok h (w := w) (by omega)
    have dn := div_ok (j := (n : Int)) (n := 100) (by omega) (Bd.of (by omega) (by omega))
    have eqn : (w : Int) / (n : Int) = ((w / n : Nat) : Int) := by rw [Int.natCast_ediv]
    have ern : (w : Int) % (n : Int) = ((w % n : Nat) : Int) := by rw [Int.natCast_emod]
    have hrn : w % n < n := Nat.mod_lt _ n1
    have hqw : w / n ≤ w := Nat.div_le_self _ _
    have cu := cut_row (f := f) (n := n) (r := w % n) (by omega)
    have c2 := Sm_by h.per w
    generalize w / n = q at *
    generalize w % n = r at *
    have mq := mul_ok (i := (q : Int)) (j := Sm f n) (n := 1000) (m := 100) (Bd.of (by omega) (by omega)) (Bd.of (by omega) (by omega))
    obtain ⟨K, eK⟩ : ∃ K, K = Sm f w := ⟨_, rfl⟩
    rw [← eK] at co c2
    have c1 : K + ((w : Int) - K) = w := by omega
    have c2 : (K = (q : Int) * Sm f n + Sm f r) = True := eq_true c2
    clear eK
    have h3 : (¬ (0 : Int) < w) ∨ (∃ N a : Int, (0 : Int) < w ∧ g_nearest_round [.fz (rowD (rowF n f)), .fz (.int w)] = some (.fz (.int N), [.no, .no]) ∧ N % (L : Int) = 0 ∧ ¬ N < 1 ∧ gAbs [.int (N - w)] = some (.fz (.int a)) ∧ mulOk 2 a = true ∧ ¬ ((L : Int) < 2 * a)) ∨ (∃ a : Int, (0 : Int) < w ∧ g_nearest_round [.fz (rowD (rowF n f)), .fz (.int w)] = some (.fz (.int (L : Int)), [.no, .no]) ∧ ¬ (L : Int) < 1 ∧ gAbs [.int ((L : Int) - w)] = some (.fz (.int a)) ∧ mulOk 2 a = true ∧ ((L : Int) < 2 * a)) := by
      by_cases w0 : (0 : Int) < w
      · obtain ⟨N, n_1, n_2, n_3, n_4, n_5⟩ := near_ok h (w := (w : Int)) (by omega) (by omega)
        have hab : gAbs [.int (N - w)] = some (.fz (.int (if N - w < 0 then -(N - w) else N - w))) := rfl
        have hmo : mulOk 2 (if N - w < 0 then -(N - w) else N - w) = true := mul_ok (n := 10) (m := 100000) (Bd.of (by omega) (by omega)) (Bd.of (by split <;> omega) (by split <;> omega))
        by_cases hc : (L : Int) < 2 * (if N - w < 0 then -(N - w) else N - w)
        · have eN : N = L := by
            rcases n_5 with z | z
            · exact z
            · split at hc <;> omega
          subst eN
          exact .inr (.inr ⟨_, w0, n_1, by omega, hab, hmo, hc⟩)
        · exact .inr (.inl ⟨N, _, w0, n_1, n_2, by omega, hab, hmo, hc⟩)
      · exact .inl w0
    have fi : 0 < w → g_fits_round [.fz (rowD (rowF n f)), .fz (.int w)] = some (.fz (.bl (decide ((w : Int) % (L : Int) = 0))), [.no, .no]) := fun z => fits_ok h (by omega) (by omega)
    have ib2 := isBool_ok (a := decide ((w : Int) % (L : Int) = 0)) (b := decide ((w : Int) % (L : Int) = 0))
    have lm : (L : Int) % (L : Int) = 0 := Int.emod_self
    rcases h3 with w0 | ⟨N, a, w0, n_1, n_2, n_3, n_4, n_5, n_6⟩ | ⟨a, w0, n_1, n_3, n_4, n_5, n_6⟩
    case' inl => simp -dsimp -implicitDefEqProofs only [e_lc, e_wipeN, e_wipeC, e_restN, e_restC, e_getD, e_seq, e_set, e_ret, e_retN, e_if, e_next, e_never, e_bk, e_ct, e_drop, e_asg, e_many, e_setIx, e_for, e_while, e_aug, e_test, e_andT, e_orT, e_notT, e_and, e_or, e_not, e_ifE, e_chain, e_name, e_c, e_op1, e_op2, e_opn, e_cons, e_nil, e_tup, e_lst, e_slice, e_partN, e_partS, e_gName, e_gNil, e_gCons, e_gTup, e_rng1, e_rngA, e_rng2, e_rngB, e_it, e_zip, e_contsN, e_contsC, e_frzsN, e_frzsC, e_normsN, e_normsC, e_normB, e_normF, e_normO, e_manyN, e_manyC, e_outsN, e_outsP, e_outsF, e_outN, e_outF, e_outO, e_ixL, e_ixT, e_ixS, e_yes, e_fn, e_call, e_callM, e_callT, e_listRg, e_sortedSet, ob_some, ob_none, W_ob, W_some, W_none, Int.reduceLT, Int.reduceLE, Int.reduceNeg, Int.reduceAdd, Int.reduceMul, Int.reduceSub, Nat.reduceLT, Nat.reduceLeDiff, Int.reduceToNat, W_ite, andN, ixN_0, ixN_1, ixN_2, ixN_3, at0, at1, at2, at3, isB, nameR, cont, slotC, setSlot, frz, retR, noBr, updSlot, ownC, zipD, plainE, itemsD, gAdd, gAddI, gSub, e_mulI, gMod, gDiv, gPow, gNeg, gLt, gLe, gGt, gGe, gInt, gMax2, gMin2, gTuple, gList, gIsi, isTy, isNon, gIs, gIsNot, mAppend, headPm, noBrs, solidR, isBr, isLst, List.getElem?_cons_zero, List.getElem?_cons_succ, List.getElem?_nil, List.set_cons_zero, List.set_cons_succ, List.cons_append, List.nil_append, List.length_cons, List.length_nil, List.replicate_succ, List.replicate_zero, Nat.reduceAdd, Nat.reduceSub, List.map_cons, List.map_nil, List.all_cons, List.all_nil, List.any_cons, List.any_nil, Bool.and_true, Bool.true_and, Bool.or_true, Bool.true_or, Bool.false_or, Bool.or_false, Bool.not_true, Bool.not_false, Bool.false_eq_true, if_true, if_false, ite_true, ite_false, true_and, and_true, decide_eq_true_eq, Int.cast_ofNat_Int, decide_true, decide_false, ne_eq, reduceCtorEq, eq_self, not_true_eq_false, not_false_eq_true, false_implies, true_implies, implies_true, true_or, or_true, false_or, or_false, Bool.not_eq_true', decide_eq_false_iff_not, Option.bind_some, Option.bind_none, reduceIte, e_star, e_tupS, e_lstS, e_methA, e_append, e_isLst, e_extend, e_st, e_revT, e_revL, e_enum, enumD, e_rng3, e_rngT, e_fzI, fzS, w0, law_take_g, co, dn, hn0, eqn, ern, c1, c2, cu, mq, sum_row, len_row, gn_int]
    case' inr.inl =>
      have fi := fi (by omega)
      simp -dsimp -implicitDefEqProofs only [e_lc, e_wipeN, e_wipeC, e_restN, e_restC, e_getD, e_seq, e_set, e_ret, e_retN, e_if, e_next, e_never, e_bk, e_ct, e_drop, e_asg, e_many, e_setIx, e_for, e_while, e_aug, e_test, e_andT, e_orT, e_notT, e_and, e_or, e_not, e_ifE, e_chain, e_name, e_c, e_op1, e_op2, e_opn, e_cons, e_nil, e_tup, e_lst, e_slice, e_partN, e_partS, e_gName, e_gNil, e_gCons, e_gTup, e_rng1, e_rngA, e_rng2, e_rngB, e_it, e_zip, e_contsN, e_contsC, e_frzsN, e_frzsC, e_normsN, e_normsC, e_normB, e_normF, e_normO, e_manyN, e_manyC, e_outsN, e_outsP, e_outsF, e_outN, e_outF, e_outO, e_ixL, e_ixT, e_ixS, e_yes, e_fn, e_call, e_callM, e_callT, e_listRg, e_sortedSet, ob_some, ob_none, W_ob, W_some, W_none, Int.reduceLT, Int.reduceLE, Int.reduceNeg, Int.reduceAdd, Int.reduceMul, Int.reduceSub, Nat.reduceLT, Nat.reduceLeDiff, Int.reduceToNat, W_ite, andN, ixN_0, ixN_1, ixN_2, ixN_3, at0, at1, at2, at3, isB, nameR, cont, slotC, setSlot, frz, retR, noBr, updSlot, ownC, zipD, plainE, itemsD, gAdd, gAddI, gSub, e_mulI, gMod, gDiv, gPow, gNeg, gLt, gLe, gGt, gGe, gInt, gMax2, gMin2, gTuple, gList, gIsi, isTy, isNon, gIs, gIsNot, mAppend, headPm, noBrs, solidR, isBr, isLst, List.getElem?_cons_zero, List.getElem?_cons_succ, List.getElem?_nil, List.set_cons_zero, List.set_cons_succ, List.cons_append, List.nil_append, List.length_cons, List.length_nil, List.replicate_succ, List.replicate_zero, Nat.reduceAdd, Nat.reduceSub, List.map_cons, List.map_nil, List.all_cons, List.all_nil, List.any_cons, List.any_nil, Bool.and_true, Bool.true_and, Bool.or_true, Bool.true_or, Bool.false_or, Bool.or_false, Bool.not_true, Bool.not_false, Bool.false_eq_true, if_true, if_false, ite_true, ite_false, true_and, and_true, decide_eq_true_eq, Int.cast_ofNat_Int, decide_true, decide_false, ne_eq, reduceCtorEq, eq_self, not_true_eq_false, not_false_eq_true, false_implies, true_implies, implies_true, true_or, or_true, false_or, or_false, Bool.not_eq_true', decide_eq_false_iff_not, Option.bind_some, Option.bind_none, reduceIte, e_star, e_tupS, e_lstS, e_methA, e_append, e_isLst, e_extend, e_st, e_revT, e_revL, e_enum, enumD, e_rng3, e_rngT, e_fzI, fzS, w0, n_1, n_2, n_3, n_4, n_5, n_6, fi, ib2, is_bool_g, dL, hL0, gq_int, law_take_g, co, dn, hn0, eqn, ern, c1, c2, cu, mq, sum_row, len_row, gn_int]
    case' inr.inr =>
      have fi := fi (by omega)
      simp -dsimp -implicitDefEqProofs only [e_lc, e_wipeN, e_wipeC, e_restN, e_restC, e_getD, e_seq, e_set, e_ret, e_retN, e_if, e_next, e_never, e_bk, e_ct, e_drop, e_asg, e_many, e_setIx, e_for, e_while, e_aug, e_test, e_andT, e_orT, e_notT, e_and, e_or, e_not, e_ifE, e_chain, e_name, e_c, e_op1, e_op2, e_opn, e_cons, e_nil, e_tup, e_lst, e_slice, e_partN, e_partS, e_gName, e_gNil, e_gCons, e_gTup, e_rng1, e_rngA, e_rng2, e_rngB, e_it, e_zip, e_contsN, e_contsC, e_frzsN, e_frzsC, e_normsN, e_normsC, e_normB, e_normF, e_normO, e_manyN, e_manyC, e_outsN, e_outsP, e_outsF, e_outN, e_outF, e_outO, e_ixL, e_ixT, e_ixS, e_yes, e_fn, e_call, e_callM, e_callT, e_listRg, e_sortedSet, ob_some, ob_none, W_ob, W_some, W_none, Int.reduceLT, Int.reduceLE, Int.reduceNeg, Int.reduceAdd, Int.reduceMul, Int.reduceSub, Nat.reduceLT, Nat.reduceLeDiff, Int.reduceToNat, W_ite, andN, ixN_0, ixN_1, ixN_2, ixN_3, at0, at1, at2, at3, isB, nameR, cont, slotC, setSlot, frz, retR, noBr, updSlot, ownC, zipD, plainE, itemsD, gAdd, gAddI, gSub, e_mulI, gMod, gDiv, gPow, gNeg, gLt, gLe, gGt, gGe, gInt, gMax2, gMin2, gTuple, gList, gIsi, isTy, isNon, gIs, gIsNot, mAppend, headPm, noBrs, solidR, isBr, isLst, List.getElem?_cons_zero, List.getElem?_cons_succ, List.getElem?_nil, List.set_cons_zero, List.set_cons_succ, List.cons_append, List.nil_append, List.length_cons, List.length_nil, List.replicate_succ, List.replicate_zero, Nat.reduceAdd, Nat.reduceSub, List.map_cons, List.map_nil, List.all_cons, List.all_nil, List.any_cons, List.any_nil, Bool.and_true, Bool.true_and, Bool.or_true, Bool.true_or, Bool.false_or, Bool.or_false, Bool.not_true, Bool.not_false, Bool.false_eq_true, if_true, if_false, ite_true, ite_false, true_and, and_true, decide_eq_true_eq, Int.cast_ofNat_Int, decide_true, decide_false, ne_eq, reduceCtorEq, eq_self, not_true_eq_false, not_false_eq_true, false_implies, true_implies, implies_true, true_or, or_true, false_or, or_false, Bool.not_eq_true', decide_eq_false_iff_not, Option.bind_some, Option.bind_none, reduceIte, e_star, e_tupS, e_lstS, e_methA, e_append, e_isLst, e_extend, e_st, e_revT, e_revL, e_enum, enumD, e_rng3, e_rngT, e_fzI, fzS, w0, n_1, lm, n_3, n_4, n_5, n_6, fi, ib2, is_bool_g, dL, hL0, gq_int, law_take_g, co, dn, hn0, eqn, ern, c1, c2, cu, mq, sum_row, len_row, gn_int]
    all_goals
      refine (take_spec p9 (by omega) (by decide) (by decide)).mono fun w' ⟨k, d10, e1, k1, k2, p10⟩ => ?_
      subst e1
      obtain ⟨k, rfl⟩ := Int.eq_ofNat_of_zero_le k1
      have ek : (1 : Int) + (k : Int) = ((k + 1 : Nat) : Int) := by omega
      have pk := plain_ok (k := k + 1) (by omega) (by omega)
      have pb := back_x (xs := pl (k + 1)) (by rw [pl_len]; omega) (by rw [pl_len]; omega) (pl_val _)
      rw [pl_bk] at pb
      obtain ⟨P, hP⟩ := rb_of (xs := pl (k + 1)) (by rw [pl_len]; omega) (by rw [pl_len]; omega) (pl_val _)
      obtain ⟨b6, tw6, hb6⟩ := two_ok hP
      have hb6 : b6 = true := hb6.mpr (two_of hP.n1 hP.per (by rw [row_cyc]; exact pl_bk _))
      subst hb6
      rw [row_cyc] at tw6
      simp -dsimp -implicitDefEqProofs only [e_lc, e_wipeN, e_wipeC, e_restN, e_restC, e_getD, e_seq, e_set, e_ret, e_retN, e_if, e_next, e_never, e_bk, e_ct, e_drop, e_asg, e_many, e_setIx, e_for, e_while, e_aug, e_test, e_andT, e_orT, e_notT, e_and, e_or, e_not, e_ifE, e_chain, e_name, e_c, e_op1, e_op2, e_opn, e_cons, e_nil, e_tup, e_lst, e_slice, e_partN, e_partS, e_gName, e_gNil, e_gCons, e_gTup, e_rng1, e_rngA, e_rng2, e_rngB, e_it, e_zip, e_contsN, e_contsC, e_frzsN, e_frzsC, e_normsN, e_normsC, e_normB, e_normF, e_normO, e_manyN, e_manyC, e_outsN, e_outsP, e_outsF, e_outN, e_outF, e_outO, e_ixL, e_ixT, e_ixS, e_yes, e_fn, e_call, e_callM, e_callT, e_listRg, e_sortedSet, ob_some, ob_none, W_ob, W_some, W_none, Int.reduceLT, Int.reduceLE, Int.reduceNeg, Int.reduceAdd, Int.reduceMul, Int.reduceSub, Nat.reduceLT, Nat.reduceLeDiff, Int.reduceToNat, W_ite, andN, ixN_0, ixN_1, ixN_2, ixN_3, at0, at1, at2, at3, isB, gSl, nameR, cont, slotC, setSlot, frz, retR, noBr, updSlot, ownC, zipD, plainE, itemsD, gAdd, gAddI, gSub, e_mulI, gMod, gDiv, gPow, gNeg, gLt, gLe, gGt, gGe, gLen, gAbs, gInt, gMax2, gMin2, gTuple, gList, gIsi, isTy, isNon, gIs, gIsNot, mAppend, headPm, noBrs, solidR, isBr, isLst, List.getElem?_cons_zero, List.getElem?_cons_succ, List.getElem?_nil, List.set_cons_zero, List.set_cons_succ, List.cons_append, List.nil_append, List.length_cons, List.length_nil, List.replicate_succ, List.replicate_zero, Nat.reduceAdd, Nat.reduceSub, List.map_cons, List.map_nil, List.all_cons, List.all_nil, List.any_cons, List.any_nil, Bool.and_true, Bool.true_and, Bool.or_true, Bool.true_or, Bool.false_or, Bool.or_false, Bool.not_true, Bool.not_false, Bool.false_eq_true, if_true, if_false, ite_true, ite_false, true_and, and_true, decide_eq_true_eq, Int.cast_ofNat_Int, decide_true, decide_false, ne_eq, reduceCtorEq, eq_self, not_true_eq_false, not_false_eq_true, false_implies, true_implies, implies_true, true_or, or_true, false_or, or_false, Bool.not_eq_true', decide_eq_false_iff_not, Option.bind_some, Option.bind_none, reduceIte, e_star, e_tupS, e_lstS, e_methA, e_append, e_isLst, e_extend, e_st, e_revT, e_revL, e_enum, enumD, e_rng3, e_rngT, e_fzI, fzS, ek, pk, pb, tw6, gn_row]
      exact ⟨d10, _, _, _, _, _, _, _, _, _, _, _, _, _, _, _, rfl, by rw [hN2]; exact p10.mono (by omega)⟩
  · subst e1
    simp -dsimp -implicitDefEqProofs only [e_lc, e_wipeN, e_wipeC, e_restN, e_restC, e_getD, e_seq, e_set, e_ret, e_retN, e_if, e_next, e_never, e_bk, e_ct, e_drop, e_asg, e_many, e_setIx, e_for, e_while, e_aug, e_test, e_andT, e_orT, e_notT, e_and, e_or, e_not, e_ifE, e_chain, e_name, e_c, e_op1, e_op2, e_opn, e_cons, e_nil, e_tup, e_lst, e_slice, e_partN, e_partS, e_gName, e_gNil, e_gCons, e_gTup, e_rng1, e_rngA, e_rng2, e_rngB, e_it, e_zip, e_contsN, e_contsC, e_frzsN, e_frzsC, e_normsN, e_normsC, e_normB, e_normF, e_normO, e_manyN, e_manyC, e_outsN, e_outsP, e_outsF, e_outN, e_outF, e_outO, e_ixL, e_ixT, e_ixS, e_yes, e_fn, e_call, e_callM, e_callT, e_listRg, e_sortedSet, ob_some, ob_none, W_ob, W_some, W_none, Int.reduceLT, Int.reduceLE, Int.reduceNeg, Int.reduceAdd, Int.reduceMul, Int.reduceSub, Nat.reduceLT, Nat.reduceLeDiff, Int.reduceToNat, W_ite, andN, ixN_0, ixN_1, ixN_2, ixN_3, at0, at1, at2, at3, isB, gSl, nameR, cont, slotC, setSlot, frz, retR, noBr, updSlot, ownC, zipD, plainE, itemsD, gAdd, gAddI, gSub, e_mulI, gMod, gDiv, gPow, gNeg, gLt, gLe, gGt, gGe, gLen, gAbs, gInt, gMax2, gMin2, gTuple, gList, gIsi, isTy, isNon, gIs, gIsNot, mAppend, headPm, noBrs, solidR, isBr, isLst, List.getElem?_cons_zero, List.getElem?_cons_succ, List.getElem?_nil, List.set_cons_zero, List.set_cons_succ, List.cons_append, List.nil_append, List.length_cons, List.length_nil, List.replicate_succ, List.replicate_zero, Nat.reduceAdd, Nat.reduceSub, List.map_cons, List.map_nil, List.all_cons, List.all_nil, List.any_cons, List.any_nil, Bool.and_true, Bool.true_and, Bool.or_true, Bool.true_or, Bool.false_or, Bool.or_false, Bool.not_true, Bool.not_false, Bool.false_eq_true, if_true, if_false, ite_true, ite_false, true_and, and_true, decide_eq_true_eq, Int.cast_ofNat_Int, decide_true, decide_false, ne_eq, reduceCtorEq, eq_self, not_true_eq_false, not_false_eq_true, false_implies, true_implies, implies_true, true_or, or_true, false_or, or_false, Bool.not_eq_true', decide_eq_false_iff_not, Option.bind_some, Option.bind_none, reduceIte, e_star, e_tupS, e_lstS, e_methA, e_append, e_isLst, e_extend, e_st, e_revT, e_revL, e_enum, enumD, e_rng3, e_rngT, e_fzI, fzS]
theorem law_true (ns : List Int) (hl : ns.length ≤ 63) (hb : ∀ z ∈ ns, PySem.Builtin.Int.intBits z ≤ 1048576) : ∃ ρ1, g_law [.fz (.scr ns)] = some (.fz (.bl true), ρ1) :=
  law_all (g := g__law_right) (k := 3) (by decide) (by decide) fun d hd => by
    obtain ⟨⟨r, ρ1⟩, e, e1⟩ := right_ok hd
    have e1 : r = .fz (.bl true) := e1
    subst e1
    exact ⟨ρ1, e⟩
end Lw


open PySem PySem.W PyProof.Rows
set_option maxHeartbeats 0 in
theorem PySem.Challenge.cw_comesouteven_k55_whole_ribs_round_and_ro_holds : PySem.Challenge.rw_comesouteven_k55_whole_ribs_round_and_ro.Holds := by
  w_on; o_law; k_head; (case hw => w_witness2)
  k_fill
  refine L2.walk_ofB (l := PySem.Challenge.rw_comesouteven_k55_whole_ribs_round_and_ro) (n := 63) (k := 9) (x := "script") (CX := fun _ => L2.CX0) (sp := fun w => Pu.spD _ 1 Lw.g_law) rfl (by decide) rfl ⟨rfl, by decide, by decide⟩ (fun w h Y => PySem.W.kIn_of Y) ?F (fun _ H a ns hl hb _ hS => Pu.law_end hS (Lw.law_true ns hl hb)) (fun _ _ _ _ _ h => h)
  case F =>
    intro w mg fa h KX G hmg
    refine' Lw.all_mk KX G hmg ?q__law_moved ?l__law_moved ?e__law_moved ?k__law_moved ?q_is_int ?l_is_int ?e_is_int ?k_is_int ?q_are_ints ?l_are_ints ?e_are_ints ?k_are_ints ?q_is_rib ?l_is_rib ?e_is_rib ?k_is_rib ?q_look_at_rib ?l_look_at_rib ?e_look_at_rib ?k_look_at_rib ?q_columns_of ?l_columns_of ?e_columns_of ?k_columns_of ?q_told_least ?l_told_least ?e_told_least ?k_told_least ?q_least_rib ?l_least_rib ?e_least_rib ?k_least_rib ?q_back_of ?l_back_of ?e_back_of ?k_back_of ?q_told_moves ?l_told_moves ?e_told_moves ?k_told_moves ?q_is_two_faced ?l_is_two_faced ?e_is_two_faced ?k_is_two_faced ?q__law_is_bool ?l__law_is_bool ?e__law_is_bool ?k__law_is_bool ?q_look_at_ribs ?l_look_at_ribs ?e_look_at_ribs ?k_look_at_ribs ?q_told_unlike ?l_told_unlike ?e_told_unlike ?k_told_unlike ?q_told_best ?l_told_best ?e_told_best ?k_told_best ?q_flows_on ?l_flows_on ?e_flows_on ?k_flows_on ?q_first_unlike ?l_first_unlike ?e_first_unlike ?k_first_unlike ?q_unlike_stitches ?l_unlike_stitches ?e_unlike_stitches ?k_unlike_stitches ?q__law_take ?l__law_take ?e__law_take ?k__law_take ?q_is_told ?l_is_told ?e_is_told ?k_is_told ?q_shows_flows_on ?l_shows_flows_on ?e_shows_flows_on ?k_shows_flows_on ?q__law_are_flows_right ?l__law_are_flows_right ?e__law_are_flows_right ?k__law_are_flows_right ?q_nearest_round ?l_nearest_round ?e_nearest_round ?k_nearest_round ?q_are_same_ribs ?l_are_same_ribs ?e_are_same_ribs ?k_are_same_ribs ?q_plain_rib ?l_plain_rib ?e_plain_rib ?k_plain_rib ?q_fits_round ?l_fits_round ?e_fits_round ?k_fits_round ?q__law_of ?l__law_of ?e__law_of ?k__law_of ?q__law_right ?l__law_right ?e__law_right ?k__law_right ?q__law_pot ?l__law_pot ?e__law_pot ?k__law_pot ?q__law_cells ?l__law_cells ?e__law_cells ?k__law_cells ?q_law ?l_law ?e_law ?k_law ?c_MOST_RIB ?c_MOST_STITCHES ?c_SHIFT ?z_abs ?z_all ?z_bool ?z_int ?z_isinstance ?z_len ?z_list ?z_max ?z_min ?z_range ?z_str ?z_sum ?z_tuple
    (case q__law_moved => k_is); (case l__law_moved => k_is); (case e__law_moved => k_is); (case k__law_moved => k_is); (case q_is_int => k_is); (case l_is_int => k_is); (case e_is_int => k_is); (case k_is_int => k_is); (case q_are_ints => k_is); (case l_are_ints => k_is); (case e_are_ints => k_is); (case k_are_ints => k_is); (case q_is_rib => k_is); (case l_is_rib => k_is); (case e_is_rib => k_is); (case k_is_rib => k_is); (case q_look_at_rib => k_is); (case l_look_at_rib => k_is); (case e_look_at_rib => k_is); (case k_look_at_rib => k_is); (case q_columns_of => k_is); (case l_columns_of => k_is); (case e_columns_of => k_is); (case k_columns_of => k_is); (case q_told_least => k_is); (case l_told_least => k_is); (case e_told_least => k_is); (case k_told_least => k_is); (case q_least_rib => k_is); (case l_least_rib => k_is); (case e_least_rib => k_is); (case k_least_rib => k_is); (case q_back_of => k_is); (case l_back_of => k_is); (case e_back_of => k_is); (case k_back_of => k_is); (case q_told_moves => k_is); (case l_told_moves => k_is); (case e_told_moves => k_is); (case k_told_moves => k_is); (case q_is_two_faced => k_is); (case l_is_two_faced => k_is); (case e_is_two_faced => k_is); (case k_is_two_faced => k_is); (case q__law_is_bool => k_is); (case l__law_is_bool => k_is); (case e__law_is_bool => k_is); (case k__law_is_bool => k_is); (case q_look_at_ribs => k_is); (case l_look_at_ribs => k_is); (case e_look_at_ribs => k_is); (case k_look_at_ribs => k_is); (case q_told_unlike => k_is); (case l_told_unlike => k_is); (case e_told_unlike => k_is); (case k_told_unlike => k_is); (case q_told_best => k_is); (case l_told_best => k_is); (case e_told_best => k_is); (case k_told_best => k_is); (case q_flows_on => k_is); (case l_flows_on => k_is); (case e_flows_on => k_is); (case k_flows_on => k_is); (case q_first_unlike => k_is); (case l_first_unlike => k_is); (case e_first_unlike => k_is); (case k_first_unlike => k_is); (case q_unlike_stitches => k_is); (case l_unlike_stitches => k_is); (case e_unlike_stitches => k_is); (case k_unlike_stitches => k_is); (case q__law_take => k_is); (case l__law_take => k_is); (case e__law_take => k_is); (case k__law_take => k_is); (case q_is_told => k_is); (case l_is_told => k_is); (case e_is_told => k_is); (case k_is_told => k_is); (case q_shows_flows_on => k_is); (case l_shows_flows_on => k_is); (case e_shows_flows_on => k_is); (case k_shows_flows_on => k_is); (case q__law_are_flows_right => k_is); (case l__law_are_flows_right => k_is); (case e__law_are_flows_right => k_is); (case k__law_are_flows_right => k_is); (case q_nearest_round => k_is); (case l_nearest_round => k_is); (case e_nearest_round => k_is); (case k_nearest_round => k_is); (case q_are_same_ribs => k_is); (case l_are_same_ribs => k_is); (case e_are_same_ribs => k_is); (case k_are_same_ribs => k_is); (case q_plain_rib => k_is); (case l_plain_rib => k_is); (case e_plain_rib => k_is); (case k_plain_rib => k_is); (case q_fits_round => k_is); (case l_fits_round => k_is); (case e_fits_round => k_is); (case k_fits_round => k_is); (case q__law_of => k_is); (case l__law_of => k_is); (case e__law_of => k_is); (case k__law_of => k_is); (case q__law_right => k_is); (case l__law_right => k_is); (case e__law_right => k_is); (case k__law_right => k_is); (case q__law_pot => k_is); (case l__law_pot => k_is); (case e__law_pot => k_is); (case k__law_pot => k_is); (case q__law_cells => k_is); (case l__law_cells => k_is); (case e__law_cells => k_is); (case k__law_cells => k_is); (case q_law => k_is); (case l_law => k_is); (case e_law => k_is); (case k_law => k_is); (case c_MOST_RIB => k_is); (case c_MOST_STITCHES => k_is); (case c_SHIFT => k_is); (case z_abs => k_is); (case z_all => k_is); (case z_bool => k_is); (case z_int => k_is); (case z_isinstance => k_is); (case z_len => k_is); (case z_list => k_is); (case z_max => k_is); (case z_min => k_is); (case z_range => k_is); (case z_str => k_is); (case z_sum => k_is); (case z_tuple => k_is)
