import PyProof.Rows.All
import Wide.All
import OpenK.AllK
import Wide.FinOn
import HandS.ForMost
import HandS.Walk
import HandS.Style
import HandS.Conv
import HandS.Flow
import HandS.Deep
import HandS.TupSets
import KE.SortData
import KE.DataMinMax
import PySem.Challenge.RW_waysflooded_k62_whole_ways_by_two_costs
import HandS.Exc
import HandS.ExcCtx
import HandS.ExcInit
import HandS.ExcField
import HandS.Nested
import HandS.ExcOwn
import KE.KExcSuper
import KE.KSuper
import KE.KExcIs
import HandS.Hot
import HandS.HotCalls
import HandS.Comp
import HandS.ExcInitHot
import HandS.ExcIs
import HandS.Text
import KE.KIsAll
import KE.KTryMore
import KE.DatumOrd
import PyProof.ReprLen
set_option Elab.async false
set_option linter.all false
set_option maxRecDepth 100000
set_option maxHeartbeats 4000000
/-! Z1: a pure reading of defs over the hand layer: data, frozen and own lists, expressions, statements. -/
namespace Z
open PySem PySem.Spec PyProof.Rows L2

/-- plain data -/
inductive D where
  | non | bl (b : Bool) | int (i : Int) | str (x : Str)
  | lst (xs : List D) | tup (xs : List D)
  | scr (ns : List Int)
deriving Inhabited

/-- from (F, H) to (F', H'): F what is frozen, H the heap. Nothing tracked changes, what is frozen anew was free ahead -/
structure Ext (F H F' H' : Hp) : Prop where
  fr : Same F F'
  sub : Same F' H'
  keep : Same H H'
  new : ∀ a, F' a = F a ∨ H a = none
section
variable {F H F1 H1 F2 H2 : Hp} {p : Addr} {o : HO}
theorem Ext.refl (h : Same F H) : Ext F H F H := ⟨.refl _, h, .refl _, fun _ => .inl rfl⟩
theorem Ext.trans (a : Ext F H F1 H1) (b : Ext F1 H1 F2 H2) : Ext F H F2 H2 :=
  ⟨a.fr.trans b.fr, b.sub, a.keep.trans b.keep, fun x => by
    rcases b.new x with e | e
    · rcases a.new x with e' | e'
      · exact .inl (e.trans e')
      · exact .inr e'
    · exact .inr (a.keep.free e)⟩
theorem same_upd (h : H p = none) : Same H (upd H p o) := fun b x e => by
  rw [upd_ne (ne_of_none e h)]
  exact e
theorem same_upd2 (h : Same F H) (n : H p = none) : Same (upd F p o) (upd H p o) := fun b x e => by
  by_cases hb : b = p
  · subst hb
    rw [upd_same] at e ⊢
    exact e
  · rw [upd_ne hb] at e ⊢
    exact h b x e
theorem Ext.alloc (h : Same F H) (n : H p = none) : Ext F H (upd F p o) (upd H p o) :=
  ⟨same_upd (h.free n), same_upd2 h n, same_upd n, fun a => by
    by_cases e : a = p
    · subst e
      exact .inr n
    · exact .inl (upd_ne e)⟩
theorem Ext.allocH (h : Same F H) (n : H p = none) : Ext F H F (upd H p o) :=
  ⟨.refl _, h.trans (same_upd n), same_upd n, fun _ => .inl rfl⟩
end

mutual
inductive Rep (K : PySem.W.Frag) (F : Hp) : V → D → Prop
  | non : Rep K F .non .non
  | bl (b : Bool) : Rep K F (.bl b) (.bl b)
  | int (i : Int) : Rep K F (.int i) (.int i)
  | str (x : Str) : Rep K F (.str x) (.str x)
  | lst {a : Addr} {vs : List V} {ds : List D} : F a = some (.lst vs) → RepL K F vs ds → Rep K F (.ref a) (.lst ds)
  | tup {a : Addr} {vs : List V} {ds : List D} : F a = some (.tup vs) → RepL K F vs ds → Rep K F (.ref a) (.tup ds)
  | scr {a : Addr} {ns : List Int} : SqL K F a (ns.map V.int) → Rep K F (.ref a) (.scr ns)
inductive RepL (K : PySem.W.Frag) (F : Hp) : List V → List D → Prop
  | nil : RepL K F [] []
  | cons {v : V} {vs : List V} {d : D} {ds : List D} : Rep K F v d → RepL K F vs ds → RepL K F (v :: vs) (d :: ds)
end
section
variable {K : PySem.W.Frag} {F F' : Hp}
mutual
theorem Rep.mono (e : Same F F') : ∀ {v : V} {d : D}, Rep K F v d → Rep K F' v d
  | _, _, .non => .non
  | _, _, .bl b => .bl b
  | _, _, .int i => .int i
  | _, _, .str x => .str x
  | _, _, .lst h r => .lst (e _ _ h) (RepL.mono e r)
  | _, _, .tup h r => .tup (e _ _ h) (RepL.mono e r)
  | _, _, .scr h => .scr (e.seq h)
theorem RepL.mono (e : Same F F') : ∀ {vs : List V} {ds : List D}, RepL K F vs ds → RepL K F' vs ds
  | _, _, .nil => .nil
  | _, _, .cons h r => .cons (Rep.mono e h) (RepL.mono e r)
end
theorem RepL.len : ∀ {vs : List V} {ds : List D}, RepL K F vs ds → vs.length = ds.length
  | _, _, .nil => rfl
  | _, _, .cons _ r => by rw [List.length_cons, List.length_cons, r.len]
theorem RepL.get : ∀ {vs : List V} {ds : List D} {i : Nat} {d : D}, RepL K F vs ds → ds[i]? = some d → ∃ v, vs[i]? = some v ∧ Rep K F v d
  | _, _, _, _, .nil, e => by simp at e
  | _, _, 0, _, .cons h _, e => by
    simp at e
    subst e
    exact ⟨_, rfl, h⟩
  | _, _, i + 1, d, .cons _ r, e => by
    obtain ⟨v, h1, h2⟩ := RepL.get (i := i) (d := d) r (by simpa using e)
    exact ⟨v, by simpa using h1, h2⟩
theorem RepL.getV {vs : List V} {ds : List D} {i : Nat} {v : V} (r : RepL K F vs ds) (e : vs[i]? = some v) : ∃ d, ds[i]? = some d ∧ Rep K F v d := by
  have hl := r.len
  obtain ⟨h, _⟩ := List.getElem?_eq_some_iff.mp e
  obtain ⟨w, h1, h2⟩ := r.get (List.getElem?_eq_getElem (show i < ds.length by omega))
  rw [e] at h1
  cases h1
  exact ⟨_, List.getElem?_eq_getElem (show i < ds.length by omega), h2⟩
theorem RepL.of : ∀ {vs : List V} {ds : List D}, vs.length = ds.length → (∀ (i : Nat) v d, vs[i]? = some v → ds[i]? = some d → Rep K F v d) → RepL K F vs ds
  | [], [], _, _ => .nil
  | v :: vs, d :: ds, hl, h => .cons (h 0 v d rfl rfl) (RepL.of (by simpa using hl) fun i v d e1 e2 => h (i + 1) v d (by simpa using e1) (by simpa using e2))
  | [], _ :: _, hl, _ => by simp at hl
  | _ :: _, [], hl, _ => by simp at hl
theorem RepL.append : ∀ {vs ws : List V} {ds es : List D}, RepL K F vs ds → RepL K F ws es → RepL K F (vs ++ ws) (ds ++ es)
  | _, _, _, _, .nil, s => s
  | _, _, _, _, .cons h r, s => .cons h (RepL.append r s)
theorem RepL.set {v : V} {d : D} (h : Rep K F v d) : ∀ {vs : List V} {ds : List D} (i : Nat), RepL K F vs ds → RepL K F (vs.set i v) (ds.set i d)
  | _, _, _, .nil => .nil
  | _, _, 0, .cons _ r => .cons h r
  | _, _, i + 1, .cons q r => .cons q (RepL.set h i r)
theorem RepL.take : ∀ {vs : List V} {ds : List D} (n : Nat), RepL K F vs ds → RepL K F (vs.take n) (ds.take n)
  | _, _, 0, _ => .nil
  | _, _, _ + 1, .nil => .nil
  | _, _, n + 1, .cons h r => .cons h (RepL.take n r)
theorem RepL.drop : ∀ {vs : List V} {ds : List D} (n : Nat), RepL K F vs ds → RepL K F (vs.drop n) (ds.drop n)
  | _, _, 0, r => r
  | _, _, _ + 1, .nil => .nil
  | _, _, n + 1, .cons _ r => RepL.drop n r
theorem RepL.reverse : ∀ {vs : List V} {ds : List D}, RepL K F vs ds → RepL K F vs.reverse ds.reverse
  | _, _, .nil => .nil
  | _, _, .cons h r => by
    rw [List.reverse_cons, List.reverse_cons]
    exact r.reverse.append (.cons h .nil)
theorem RepL.ints (ns : List Int) : RepL K F (ns.map V.int) (ns.map D.int) := by
  induction ns with
  | nil => exact .nil
  | cons n ns ih => exact .cons (.int n) ih
theorem Rep.lst_inv {v : V} {ds : List D} (r : Rep K F v (.lst ds)) : ∃ a vs, v = .ref a ∧ F a = some (.lst vs) ∧ RepL K F vs ds := by
  cases r with
  | lst h q => exact ⟨_, _, rfl, h, q⟩
theorem Rep.tup_inv {v : V} {ds : List D} (r : Rep K F v (.tup ds)) : ∃ a vs, v = .ref a ∧ F a = some (.tup vs) ∧ RepL K F vs ds := by
  cases r with
  | tup h q => exact ⟨_, _, rfl, h, q⟩
end

/-- what a slot holds -/
inductive L where
  | un
  | fro (d : D)
  | own (xs : List D)
deriving Inhabited
abbrev EV := List L

/-- the slots σ and the heap H bear the readings ev; F is frozen; F0, H0: at the entry -/
structure SR (K : PySem.W.Frag) (F0 H0 : Hp) (ev : EV) (σ : L2.St) (F H : Hp) : Prop where
  ext : Ext F0 H0 F H
  len : σ.length = ev.length
  fro : ∀ (i : Nat) d, ev[i]? = some (.fro d) → ∃ v, σ[i]? = some (some v) ∧ Rep K F v d
  own : ∀ (i : Nat) xs, ev[i]? = some (.own xs) → ∃ a vs, σ[i]? = some (some (.ref a)) ∧ H a = some (.lst vs) ∧ F a = none ∧ H0 a = none ∧ RepL K F vs xs
  dis : ∀ (i j : Nat) xs ys a, ev[i]? = some (.own xs) → ev[j]? = some (.own ys) → σ[i]? = some (some (.ref a)) → σ[j]? = some (some (.ref a)) → i = j
section
variable {K : PySem.W.Frag} {F0 H0 F H F' H' : Hp} {ev : EV} {σ : L2.St} {i : Nat}
theorem SR.sub (s : SR K F0 H0 ev σ F H) : Same F H := s.ext.sub
theorem SR.up (s : SR K F0 H0 ev σ F H) (e : Ext F H F' H') : SR K F0 H0 ev σ F' H' := by
  refine ⟨s.ext.trans e, s.len, fun i d h => ?_, fun i xs h => ?_, s.dis⟩
  · obtain ⟨v, h1, h2⟩ := s.fro i d h
    exact ⟨v, h1, h2.mono e.fr⟩
  · obtain ⟨a, vs, h1, h2, h3, h4, h5⟩ := s.own i xs h
    refine ⟨a, vs, h1, e.keep _ _ h2, ?_, h4, h5.mono e.fr⟩
    rcases e.new a with z | z
    · exact z.trans h3
    · rw [z] at h2
      cases h2
theorem get_set {α : Type} {l : List α} {i j : Nat} {x y : α} (h : (l.set i x)[j]? = some y) : (j = i ∧ i < l.length ∧ y = x) ∨ (j ≠ i ∧ l[j]? = some y) := by
  by_cases e : j = i
  · subst e
    by_cases hl : j < l.length
    · rw [List.getElem?_set_self hl] at h
      cases h
      exact .inl ⟨rfl, hl, rfl⟩
    · rw [List.getElem?_eq_none (by simpa using hl)] at h
      cases h
  · rw [List.getElem?_set_ne (Ne.symm e)] at h
    exact .inr ⟨e, h⟩
theorem set_ne_get {α : Type} {l : List α} {i j : Nat} {x : α} (e : j ≠ i) : (l.set i x)[j]? = l[j]? := List.getElem?_set_ne (Ne.symm e)
theorem SR.setFro {v : V} {d : D} (s : SR K F0 H0 ev σ F H) (r : Rep K F v d) : SR K F0 H0 (ev.set i (.fro d)) (σ.set i (some v)) F H := by
  refine ⟨s.ext, by simp [s.len], fun j e h => ?_, fun j xs h => ?_, fun j k xs ys a h1 h2 h3 h4 => ?_⟩
  · rcases get_set h with ⟨rfl, hl, e⟩ | ⟨hj, h⟩
    · cases e
      exact ⟨v, List.getElem?_set_self (by rw [s.len]; exact hl), r⟩
    · rw [set_ne_get hj]
      exact s.fro j e h
  · rcases get_set h with ⟨rfl, hl, e⟩ | ⟨hj, h⟩
    · cases e
    · rw [set_ne_get hj]
      exact s.own j xs h
  · rcases get_set h1 with ⟨_, _, e⟩ | ⟨hj, h1⟩
    · cases e
    · rcases get_set h2 with ⟨_, _, e⟩ | ⟨hk, h2⟩
      · cases e
      · rw [set_ne_get hj] at h3
        rw [set_ne_get hk] at h4
        exact s.dis j k xs ys a h1 h2 h3 h4
theorem SR.setUn {x : Option V} (s : SR K F0 H0 ev σ F H) : SR K F0 H0 (ev.set i .un) (σ.set i x) F H := by
  refine ⟨s.ext, by simp [s.len], fun j e h => ?_, fun j xs h => ?_, fun j k xs ys a h1 h2 h3 h4 => ?_⟩
  · rcases get_set h with ⟨rfl, hl, e⟩ | ⟨hj, h⟩
    · cases e
    · rw [set_ne_get hj]
      exact s.fro j e h
  · rcases get_set h with ⟨rfl, hl, e⟩ | ⟨hj, h⟩
    · cases e
    · rw [set_ne_get hj]
      exact s.own j xs h
  · rcases get_set h1 with ⟨_, _, e⟩ | ⟨hj, h1⟩
    · cases e
    · rcases get_set h2 with ⟨_, _, e⟩ | ⟨hk, h2⟩
      · cases e
      · rw [set_ne_get hj] at h3
        rw [set_ne_get hk] at h4
        exact s.dis j k xs ys a h1 h2 h3 h4
theorem SR.setOwn {a : Addr} {vs : List V} {xs : List D} (s : SR K F0 H0 ev σ F H) (hH : H a = some (.lst vs)) (hF : F a = none) (hH0 : H0 a = none) (r : RepL K F vs xs)
    (hd : ∀ (j : Nat) ys, j ≠ i → ev[j]? = some (.own ys) → σ[j]? ≠ some (some (.ref a))) : SR K F0 H0 (ev.set i (.own xs)) (σ.set i (some (.ref a))) F H := by
  refine ⟨s.ext, by simp [s.len], fun j e h => ?_, fun j zs h => ?_, fun j k ys zs b h1 h2 h3 h4 => ?_⟩
  · rcases get_set h with ⟨rfl, hl, e⟩ | ⟨hj, h⟩
    · cases e
    · rw [set_ne_get hj]
      exact s.fro j e h
  · rcases get_set h with ⟨rfl, hl, e⟩ | ⟨hj, h⟩
    · cases e
      exact ⟨a, vs, List.getElem?_set_self (by rw [s.len]; exact hl), hH, hF, hH0, r⟩
    · rw [set_ne_get hj]
      exact s.own j zs h
  · rcases get_set h1 with ⟨rfl, hl, e⟩ | ⟨hj, g1⟩
    · rw [List.getElem?_set_self (by rw [s.len]; exact hl)] at h3
      cases h3
      rcases get_set h2 with ⟨rfl, _, _⟩ | ⟨hk, h2⟩
      · rfl
      · rw [set_ne_get hk] at h4
        exact absurd h4 (hd k zs hk h2)
    · rcases get_set h2 with ⟨rfl, hl, e⟩ | ⟨hk, g2⟩
      · rw [List.getElem?_set_self (by rw [s.len]; exact hl)] at h4
        cases h4
        rw [set_ne_get hj] at h3
        exact absurd h3 (hd j ys hj g1)
      · rw [set_ne_get hj] at h3
        rw [set_ne_get hk] at h4
        exact s.dis j k ys zs b g1 g2 h3 h4
/-- an own list changed in place -/
theorem SR.mut {a : Addr} {vs vs' : List V} {xs xs' : List D} (s : SR K F0 H0 ev σ F H) (h : ev[i]? = some (.own xs)) (hσ : σ[i]? = some (some (.ref a))) (hH : H a = some (.lst vs)) (r : RepL K F vs' xs') :
    SR K F0 H0 (ev.set i (.own xs')) σ F (upd H a (.lst vs')) := by
  obtain ⟨a', vs0, q1, q2, q3, q4, q5⟩ := s.own i xs h
  rw [hσ] at q1
  cases q1
  have hi : i < ev.length := (List.getElem?_eq_some_iff.mp h).1
  have nF : ∀ b o, F b = some o → b ≠ a := fun b o e => ne_of_none e q3
  have nH0 : ∀ b o, H0 b = some o → b ≠ a := fun b o e => ne_of_none e q4
  refine ⟨⟨s.ext.fr, fun b o e => ?_, fun b o e => ?_, s.ext.new⟩, by simp [s.len], fun j e hj => ?_, fun j zs hj => ?_, fun j k ys zs b h1 h2 h3 h4 => ?_⟩
  · rw [upd_ne (nF b o e)]
    exact s.ext.sub b o e
  · rw [upd_ne (nH0 b o e)]
    exact s.ext.keep b o e
  · rcases get_set hj with ⟨rfl, hl, e⟩ | ⟨hj, h⟩
    · cases e
    · exact s.fro j e h
  · rcases get_set hj with ⟨rfl, hl, e⟩ | ⟨hji, hj⟩
    · cases e
      exact ⟨a, vs', hσ, upd_same, q3, q4, r⟩
    · obtain ⟨b, ws, p1, p2, p3, p4, p5⟩ := s.own j zs hj
      refine ⟨b, ws, p1, ?_, p3, p4, p5⟩
      rw [upd_ne]
      · exact p2
      · intro e
        subst e
        exact hji (s.dis j i zs xs b hj h p1 hσ)
  · have g1 : ∃ ys', ev[j]? = some (.own ys') := by
      rcases get_set h1 with ⟨rfl, _, _⟩ | ⟨_, h1⟩
      · exact ⟨_, h⟩
      · exact ⟨_, h1⟩
    have g2 : ∃ ys', ev[k]? = some (.own ys') := by
      rcases get_set h2 with ⟨rfl, _, _⟩ | ⟨_, h2⟩
      · exact ⟨_, h⟩
      · exact ⟨_, h2⟩
    obtain ⟨_, g1⟩ := g1
    obtain ⟨_, g2⟩ := g2
    exact s.dis j k _ _ b g1 g2 h3 h4
/-- an own list frozen -/
def evFrz (ev : EV) (i : Nat) : EV := match ev[i]? with
  | some (.own xs) => ev.set i (.fro (.lst xs))
  | _ => ev
theorem SR.frz (s : SR K F0 H0 ev σ F H) (i : Nat) : ∃ F', Same F F' ∧ SR K F0 H0 (evFrz ev i) σ F' H := by
  unfold evFrz
  split
  · rename_i xs h
    obtain ⟨a, vs, q1, q2, q3, q4, q5⟩ := s.own i xs h
    have m : Same F (upd F a (.lst vs)) := same_upd q3
    refine ⟨upd F a (.lst vs), m, ⟨s.ext.fr.trans m, fun b o e => ?_, s.ext.keep, fun b => ?_⟩, by simp [s.len], fun j e hj => ?_, fun j zs hj => ?_, fun j k ys zs b h1 h2 h3 h4 => ?_⟩
    · by_cases hb : b = a
      · subst hb
        rw [upd_same] at e
        exact q2.trans e
      · rw [upd_ne hb] at e
        exact s.ext.sub b o e
    · by_cases hb : b = a
      · subst hb
        exact .inr q4
      · rw [upd_ne hb]
        exact s.ext.new b
    · rcases get_set hj with ⟨rfl, hl, e⟩ | ⟨hj, h⟩
      · cases e
        exact ⟨_, q1, .lst upd_same (q5.mono m)⟩
      · obtain ⟨v, p1, p2⟩ := s.fro j e h
        exact ⟨v, p1, p2.mono m⟩
    · rcases get_set hj with ⟨rfl, hl, e⟩ | ⟨hji, hj⟩
      · cases e
      · obtain ⟨b, ws, p1, p2, p3, p4, p5⟩ := s.own j zs hj
        refine ⟨b, ws, p1, p2, ?_, p4, p5.mono m⟩
        rw [upd_ne]
        · exact p3
        · intro e
          subst e
          exact hji (s.dis j i zs xs b hj h p1 q1)
    · rcases get_set h1 with ⟨_, _, e⟩ | ⟨_, h1⟩
      · cases e
      · rcases get_set h2 with ⟨_, _, e⟩ | ⟨_, h2⟩
        · cases e
        · exact s.dis j k _ _ b h1 h2 h3 h4
  · exact ⟨F, .refl _, s⟩
/-- another entry -/
theorem SR.base {F1 : Hp} (s : SR K F0 H0 ev σ F H) (h1 : Same F1 F) (h2 : ∀ a, F a = F1 a ∨ H0 a = none) : SR K F1 H0 ev σ F H :=
  ⟨⟨h1, s.ext.sub, s.ext.keep, h2⟩, s.len, s.fro, s.own, s.dis⟩
def evWipe (ev : EV) : List Nat → EV
  | [] => ev
  | v :: vs => (evWipe ev vs).set v .un
theorem SR.wipe (s : SR K F0 H0 ev σ F H) : ∀ vs : List Nat, SR K F0 H0 (evWipe ev vs) (L2.wipe σ vs) F H
  | [] => s
  | v :: vs => (s.wipe vs).setUn
end

/-! ### the judgements -/
def ERun (K : PySem.W.Frag) (fz : Bool) (f : EV → Option D) (t : TE) : Prop :=
  ∀ (F0 H0 : Hp) (ev : EV) (σ : L2.St) (F H : Hp) (d : D) (Q : VK), SR K F0 H0 ev σ F H → f ev = some d →
    (∀ v F' H', Ext F H F' H' → Rep K H' v d → (fz = true → Rep K F' v d) → Q v H') → t σ H Q
/-- an expression; fz: its value is frozen -/
def EOk (X : Cx) (e : Expr) (fz : Bool) (f : EV → Option D) : Prop := ∃ t, PE X e t ∧ ERun X.K fz f t
def TRun (K : PySem.W.Frag) (f : EV → Option Bool) (t : TT) : Prop :=
  ∀ (F0 H0 : Hp) (ev : EV) (σ : L2.St) (F H : Hp) (b : Bool) (Q : Bool → Hp → Prop), SR K F0 H0 ev σ F H → f ev = some b → (∀ F' H', Ext F H F' H' → Q b H') → t σ H Q
def TOk (X : Cx) (e : Expr) (f : EV → Option Bool) : Prop := ∃ t, PT X e t ∧ TRun X.K f t
def WOk (X : Cx) (e : Expr) (f : EV → Option Bool) : Prop := ∃ t, PW X e t ∧ TRun X.K f t
def TsOk (X : Cx) (es : List Expr) (f : EV → Option Bool) : Prop := ∃ t, PTs X es t ∧ TRun X.K f t
def ARun (K : PySem.W.Frag) (fz : Bool) (f : EV → Option (List D)) (t : TA) : Prop :=
  ∀ (F0 H0 : Hp) (ev : EV) (σ : L2.St) (F H : Hp) (ds : List D) (Q : List V → Hp → Prop), SR K F0 H0 ev σ F H → f ev = some ds →
    (∀ vs F' H', Ext F H F' H' → RepL K H' vs ds → (fz = true → RepL K F' vs ds) → Q vs H') → t σ H Q
def AOk (X : Cx) (es : List Expr) (fz : Bool) (f : EV → Option (List D)) : Prop := ∃ t, PA X es t ∧ ARun X.K fz f t

inductive Fl where
  | nx (e : EV) | rt (d : D) | bk (e : EV) | ct (e : EV) | ex (e : EV) (x : Str) (d : D)
/-- W: what is wished of an exception; an exception of the class named x bears d -/
def Post (K : PySem.W.Frag) (mg : Str → Option Value) (F0 H0 : Hp) (W : WX) (E : Ends) : Fl → Prop
  | .nx e => ∀ σ F H, SR K F0 H0 e σ F H → E.nx σ H
  | .bk e => ∀ σ F H, SR K F0 H0 e σ F H → E.bk σ H
  | .ct e => ∀ σ F H, SR K F0 H0 e σ F H → E.ct σ H
  | .rt d => ∀ v F H, Ext F0 H0 F H → Rep K F v d → E.rt v H
  | .ex e x d => ∀ σ F H C dd v, SR K F0 H0 e σ F H → mg x = some (.ref C) → H dd = some (.xd [("at", v)]) → Rep K F v d → W (.ref C) (some dd) σ H
def SRun (K : PySem.W.Frag) (mg : Str → Option Value) (W : WX) (g : EV → Option Fl) (t : TS) : Prop :=
  ∀ (F0 H0 : Hp) (ev : EV) (σ : L2.St) (F H : Hp) (E : Ends) (r : Fl), SR K F0 H0 ev σ F H → g ev = some r → Post K mg F0 H0 W E r → t E σ H
def SOk (X : Cx) (W : WX) (st : Stmt) (g : EV → Option Fl) : Prop := ∃ t, PS X st t ∧ SRun X.K X.mg W g t
def BOk (X : Cx) (W : WX) (st : List Stmt) (g : EV → Option Fl) : Prop := ∃ t, PSs X st t ∧ SRun X.K X.mg W g t
/-- no exception is wished for -/
def WF : WX := fun _ _ _ _ => False

/-! ### expressions -/
section
variable {X : Cx} {a b c e : Expr} {fz fa fb : Bool} {f g h : EV → Option D} {pos : Pos}
theorem EOk.mono (q : EOk X e fz f) (hf : ∀ ev d, g ev = some d → f ev = some d) : EOk X e fz g := by
  obtain ⟨t, p, r⟩ := q
  exact ⟨t, p, fun F0 H0 ev σ F H d Q s he => r F0 H0 ev σ F H d Q s (hf _ _ he)⟩
def cVar (i : Nat) : EV → Option D := fun ev => match ev[i]? with
  | some (.fro d) => some d
  | _ => none
def cOwn (i : Nat) : EV → Option D := fun ev => match ev[i]? with
  | some (.own xs) => some (.lst xs)
  | _ => none
def cC (d : D) : EV → Option D := fun _ => some d
theorem e_var {i : Nat} {x : Str} (hp : PE X (.Name x pos) (tVar i)) : EOk X (.Name x pos) true (cVar i) := by
  refine ⟨_, hp, fun F0 H0 ev σ F H d Q s he q => ?_⟩
  unfold cVar at he
  split at he
  · rename_i d' h
    cases he
    obtain ⟨v, h1, h2⟩ := s.fro i _ h
    exact ⟨v, h1, q v F H (.refl s.sub) (h2.mono s.sub) fun _ => h2⟩
  · cases he
theorem e_own {i : Nat} {x : Str} (hp : PE X (.Name x pos) (tVar i)) : EOk X (.Name x pos) false (cOwn i) := by
  refine ⟨_, hp, fun F0 H0 ev σ F H d Q s he q => ?_⟩
  unfold cOwn at he
  split at he
  · rename_i xs h
    cases he
    obtain ⟨a, vs, h1, h2, h3, h4, h5⟩ := s.own i _ h
    exact ⟨.ref a, h1, q _ F H (.refl s.sub) (.lst h2 (h5.mono s.sub)) fun z => nomatch z⟩
  · cases he
theorem e_const {v : V} {d : D} (hp : PE X e (tC v)) (r : ∀ F : Hp, Rep X.K F v d) : EOk X e true (cC d) := by
  refine ⟨_, hp, fun F0 H0 ev σ F H d' Q s he q => ?_⟩
  cases he
  exact q v F H (.refl s.sub) (r H) fun _ => r F
theorem e_int {i : Int} {j} : EOk X (.Constant (.int i) j pos) true (cC (.int i)) := e_const pe_int fun _ => .int i
theorem e_bl {i : Bool} {j} : EOk X (.Constant (.bool i) j pos) true (cC (.bl i)) := e_const pe_bl fun _ => .bl i
theorem e_non {j} : EOk X (.Constant .none j pos) true (cC .non) := e_const pe_non fun _ => .non
theorem e_str {x : Str} {j} : EOk X (.Constant (.str x) j pos) true (cC (.str x)) := e_const pe_str fun _ => .str x
theorem e_gint {x : Str} {i : Int} {u : Value} (hg : Gl X x) (hm : X.mg x = some u) (r : RelV (.int i) u) (hd : (x == ("__debug__" : Str)) = false := by decide) : EOk X (.Name x pos) true (cC (.int i)) :=
  e_const (pe_glob hg hm r hd) fun _ => .int i

/-- data without addresses -/
def D.flat : D → Bool
  | .non => true | .bl _ => true | .int _ => true | .str _ => true
  | _ => false
theorem Rep.flat {K : PySem.W.Frag} {F G : Hp} {v : V} {d : D} (h : d.flat = true) (r : Rep K F v d) : Rep K G v d := by
  cases r with
  | non => exact .non
  | bl b => exact .bl b
  | int i => exact .int i
  | str x => exact .str x
  | lst _ _ => cases h
  | tup _ _ => cases h
  | scr _ => cases h
/-- its value is flat, so it is frozen -/
def cFlat (f : EV → Option D) : EV → Option D := fun ev => match f ev with
  | some d => if d.flat then some d else none
  | none => none
theorem e_flat (q : EOk X e fz f) : EOk X e true (cFlat f) := by
  obtain ⟨t, p, r⟩ := q
  refine ⟨t, p, fun F0 H0 ev σ F H d Q s he q => ?_⟩
  unfold cFlat at he
  split at he
  · rename_i d' hd
    by_cases hf : d'.flat = true
    · rw [if_pos hf] at he
      cases he
      exact r F0 H0 ev σ F H _ Q s hd fun v F' H' x r1 _ => q v F' H' x r1 fun _ => r1.flat hf
    · rw [if_neg hf] at he
      cases he
  · cases he

/-- what a rule by values asks, of data -/
def R2Ok (K : PySem.W.Frag) (r : R2) (op : D → D → Option D) : Prop :=
  ∀ (F H : Hp) (x y : V) (dx dy d : D) (Q : VK), Same F H → Rep K H x dx → Rep K H y dy → op dx dy = some d →
    (∀ v F' H', Ext F H F' H' → Rep K H' v d → (Rep K F x dx → Rep K F y dy → Rep K F' v d) → Q v H') → r x y H Q
def c2 (op : D → D → Option D) (f g : EV → Option D) : EV → Option D := fun ev => (f ev).bind fun x => (g ev).bind fun y => op x y
theorem run2 {K : PySem.W.Frag} {ta tb : TE} {r : R2} {op : D → D → Option D} (hr : R2Ok K r op) (ha : ERun K fa f ta) (hb : ERun K fb g tb) : ERun K (fa && fb) (c2 op f g) (tOp r ta tb) := by
  intro F0 H0 ev σ F H d Q s he q
  obtain ⟨x, h1, he⟩ := Option.bind_eq_some_iff.mp he
  obtain ⟨y, h2, h3⟩ := Option.bind_eq_some_iff.mp he
  refine ha F0 H0 ev σ F H x _ s h1 fun v F1 H1 x1 r1 z1 => ?_
  have s1 := s.up x1
  refine hb F0 H0 ev σ F1 H1 y _ s1 h2 fun u F2 H2 x2 r2 z2 => ?_
  have s2 := s1.up x2
  refine hr F2 H2 v u x y d Q s2.sub (r1.mono x2.keep) r2 h3 fun w F3 H3 x3 r3 z3 => ?_
  refine q w F3 H3 ((x1.trans x2).trans x3) r3 fun z => ?_
  rw [Bool.and_eq_true] at z
  exact z3 ((z1 z.1).mono x2.fr) (z2 z.2)
theorem e_op {op : Operator} {r : R2} {k : D → D → Option D} (ho : OpR X (binaryOp op) r) (hr : R2Ok X.K r k) (ha : EOk X a fa f) (hb : EOk X b fb g) : EOk X (.BinOp a op b pos) (fa && fb) (c2 k f g) := by
  obtain ⟨ta, pa, ra⟩ := ha
  obtain ⟨tb, pb, rb⟩ := hb
  exact ⟨_, pe_op ho pa pb, run2 hr ra rb⟩
theorem e_cmp {op : CmpOp} {r : R2} {k : D → D → Option D} (ho : OpR X (compareOp op) r) (hr : R2Ok X.K r k) (ha : EOk X a fa f) (hb : EOk X b fb g) (hm : behindInMarks op b = false := by first | exact nomark _ | rfl) : EOk X (.Compare a [op] [b] pos) (fa && fb) (c2 k f g) := by
  obtain ⟨ta, pa, ra⟩ := ha
  obtain ⟨tb, pb, rb⟩ := hb
  exact ⟨_, pe_cmpR ho pa pb hm, run2 hr ra rb⟩
/-- a bool -/
def asB : Option D → Option Bool
  | some (.bl b) => some b
  | _ => none
def tOf (f : EV → Option D) : EV → Option Bool := fun ev => asB (f ev)
theorem runB {K : PySem.W.Frag} {t : TE} (h : ERun K fz f t) : TRun K (tOf f) (tTest t) := by
  intro F0 H0 ev σ F H d Q s he q
  unfold tOf at he
  cases hf : f ev with
  | none =>
    rw [hf] at he
    cases he
  | some x =>
    rw [hf] at he
    cases x <;> (try cases he)
    refine h F0 H0 ev σ F H _ _ s hf fun v F' H' x r _ => ?_
    cases r
    exact ⟨_, rfl, q F' H' x⟩
theorem t_cmp {op : CmpOp} {r : R2} {k : D → D → Option D} (ho : OpR X (compareOp op) r) (hr : R2Ok X.K r k) (ha : EOk X a fa f) (hb : EOk X b fb g) (hm : behindInMarks op b = false := by first | exact nomark _ | rfl) : TOk X (.Compare a [op] [b] pos) (tOf (c2 k f g)) := by
  obtain ⟨ta, pa, ra⟩ := ha
  obtain ⟨tb, pb, rb⟩ := hb
  exact ⟨_, pt_cmpR ho pa pb hm, runB (run2 hr ra rb)⟩
theorem t_val (h : EOk X e fz f) (he : ∀ whole, isTrue e X.env whole = (do let v ← whole; standAt e.pos; holding [v] (truthy v)) := by intro _; rfl) : TOk X e (tOf f) := by
  obtain ⟨t, p, r⟩ := h
  exact ⟨_, pt_val p he, runB r⟩

/-! ops on ints -/
def oI (k : Int → Int → Option D) : D → D → Option D
  | .int i, .int j => k i j
  | _, _ => none
def oAdd : D → D → Option D := oI fun i j => some (.int (i + j))
def oSub : D → D → Option D := oI fun i j => some (.int (i - j))
def oMul : D → D → Option D := oI fun i j => if (-(2 ^ 64) < i ∧ i < 2 ^ 64) ∨ (-(2 ^ 64) < j ∧ j < 2 ^ 64) then some (.int (i * j)) else none
def oDiv : D → D → Option D := oI fun i j => if 0 < j ∧ j < 1073741824 then some (.int (i / j)) else none
def oMod : D → D → Option D := oI fun i j => if 0 < j then some (.int (i % j)) else none
def oPow : D → D → Option D := oI fun i j => if 0 ≤ j ∧ j ≤ 1000000 ∧ i.natAbs < 2 ^ 64 then some (.int (i ^ j.toNat)) else none
def oLt : D → D → Option D := oI fun i j => some (.bl (decide (i < j)))
def oLe : D → D → Option D := oI fun i j => some (.bl (decide (i ≤ j)))
def oGt : D → D → Option D := oI fun i j => some (.bl (decide (j < i)))
def oGe : D → D → Option D := oI fun i j => some (.bl (decide (j ≤ i)))
theorem oI_some {k : Int → Int → Option D} {x y d : D} (h : oI k x y = some d) : ∃ i j, x = .int i ∧ y = .int j ∧ k i j = some d := by
  unfold oI at h
  split at h
  · exact ⟨_, _, rfl, rfl, h⟩
  · cases h
section
variable {K : PySem.W.Frag}
theorem r_I {C : Int → Int → Prop} {gV : Int → Int → V} {k : Int → Int → Option D} (h : ∀ i j d, k i j = some d → C i j ∧ d.flat = true ∧ ∀ F, Rep K F (gV i j) d) : R2Ok K (rI C gV) (oI k) := by
  intro F H x y dx dy d Q s rx ry ho q
  obtain ⟨i, j, rfl, rfl, e⟩ := oI_some ho
  cases rx
  cases ry
  obtain ⟨hc, hf, r⟩ := h i j d e
  exact ⟨i, j, rfl, rfl, hc, q _ F H (.refl s) (r H) fun _ _ => r F⟩
theorem r_I0 {gV : Int → Int → V} {k : Int → Int → Option D} (h : ∀ i j d, k i j = some d → ∀ F, Rep K F (gV i j) d) : R2Ok K (rI0 gV) (oI k) := by
  intro F H x y dx dy d Q s rx ry ho q
  obtain ⟨i, j, rfl, rfl, e⟩ := oI_some ho
  cases rx
  cases ry
  have r := h i j d e
  exact ⟨i, j, rfl, rfl, q _ F H (.refl s) (r H) fun _ _ => r F⟩
theorem r_add : R2Ok K (rI0 fun i j => .int (i + j)) oAdd := r_I0 fun i j d e F => by cases e; exact .int _
theorem r_sub : R2Ok K (rI0 fun i j => .int (i - j)) oSub := r_I0 fun i j d e F => by cases e; exact .int _
theorem r_lt : R2Ok K (rI0 fun i j => .bl (decide (i < j))) oLt := r_I0 fun i j d e F => by cases e; exact .bl _
theorem r_le : R2Ok K (rI0 fun i j => .bl (decide (i ≤ j))) oLe := r_I0 fun i j d e F => by cases e; exact .bl _
theorem r_gt : R2Ok K (rI0 fun i j => .bl (decide (j < i))) oGt := r_I0 fun i j d e F => by cases e; exact .bl _
theorem r_ge : R2Ok K (rI0 fun i j => .bl (decide (j ≤ i))) oGe := r_I0 fun i j d e F => by cases e; exact .bl _
theorem of_ite {p : Prop} [Decidable p] {α : Type} {x y : α} (h : (if p then some x else none) = some y) : p ∧ x = y := by
  by_cases q : p
  · rw [if_pos q] at h
    cases h
    exact ⟨q, rfl⟩
  · rw [if_neg q] at h
    cases h
theorem r_mul : R2Ok K (rI CMul fun i j => .int (i * j)) oMul := r_I fun i j d e => by
  obtain ⟨h, rfl⟩ := of_ite e
  exact ⟨h, rfl, fun _ => .int _⟩
theorem r_div : R2Ok K (rI CDiv fun i j => .int (i / j)) oDiv := r_I fun i j d e => by
  obtain ⟨h, rfl⟩ := of_ite e
  exact ⟨h, rfl, fun _ => .int _⟩
theorem r_mod : R2Ok K (rI (fun _ j => 0 < j) fun i j => .int (i % j)) oMod := r_I fun i j d e => by
  obtain ⟨h, rfl⟩ := of_ite e
  exact ⟨h, rfl, fun _ => .int _⟩
theorem r_pow : R2Ok K (rI CPow fun i j => .int (i ^ j.toNat)) oPow := r_I fun i j d e => by
  obtain ⟨h, rfl⟩ := of_ite e
  exact ⟨h, rfl, fun _ => .int _⟩
end
end
end Z


set_option maxRecDepth 100000
set_option maxHeartbeats 4000000
/-! Z2: expressions. -/
namespace Z
open PySem PySem.Spec PyProof.Rows L2
section
variable {X : Cx} {a b c e : Expr} {fz fa fb fc : Bool} {f g h : EV → Option D} {pos : Pos} {K : PySem.W.Frag}

/-! ### == -/
mutual
def D.pd : D → PyData
  | .non => .none
  | .bl b => .bool b
  | .int i => .int i
  | .str x => .str x
  | .lst xs => .list (D.pdL xs)
  | .tup xs => .tuple (D.pdL xs)
  | .scr ns => .list (ns.map PyData.int)
def D.pdL : List D → List PyData
  | [] => []
  | d :: ds => d.pd :: D.pdL ds
end
theorem dp_ints {H : Hp} : ∀ ns : List Int, DpAll K H (ns.map V.int) (ns.map PyData.int)
  | [] => .nil
  | n :: ns => .cons (.int n) (dp_ints ns)
mutual
theorem Rep.dp {H : Hp} : ∀ {v : V} {d : D}, Rep K H v d → Dp K H v d.pd
  | _, _, .non => .non
  | _, _, .bl b => .bl b
  | _, _, .int i => .int i
  | _, _, .str x => .str x
  | _, _, .lst h r => by
    rw [D.pd]
    exact .lst (SqL.of h) (RepL.dp r)
  | _, _, .tup h r => by
    rw [D.pd]
    exact .tup (SqT.of h) (RepL.dp r)
  | _, _, .scr h => .lst h (dp_ints _)
theorem RepL.dp {H : Hp} : ∀ {vs : List V} {ds : List D}, RepL K H vs ds → DpAll K H vs (D.pdL ds)
  | _, _, .nil => .nil
  | _, _, .cons h r => .cons h.dp r.dp
end
def eqD (x y : D) : Option Bool := if SeqAt.shaped x.pd = true ∧ SeqAt.shaped y.pd = true then some (PyData.eqv x.pd y.pd) else none
def oEq (x y : D) : Option D := (eqD x y).map .bl
def oNe (x y : D) : Option D := (eqD x y).map fun b => .bl (!b)
theorem r_eq : R2Ok K (rEqD K) oEq := by
  intro F H x y dx dy d Q s rx ry ho q
  obtain ⟨b, hb, rfl⟩ := Option.map_eq_some_iff.mp ho
  obtain ⟨⟨h1, h2⟩, rfl⟩ := of_ite hb
  exact ⟨_, _, rx.dp, ry.dp, h1, h2, q _ F H (.refl s) (.bl _) fun _ _ => .bl _⟩
theorem r_ne : R2Ok K (rNeD K) oNe := by
  intro F H x y dx dy d Q s rx ry ho q
  obtain ⟨b, hb, rfl⟩ := Option.map_eq_some_iff.mp ho
  obtain ⟨⟨h1, h2⟩, rfl⟩ := of_ite hb
  exact ⟨_, _, rx.dp, ry.dp, h1, h2, q _ F H (.refl s) (.bl _) fun _ _ => .bl _⟩
/-- is None, is not None -/
def D.isNon : D → Bool
  | .non => true
  | _ => false
def oIs : D → D → Option D
  | x, .non => some (.bl x.isNon)
  | _, _ => none
def oIsNot : D → D → Option D
  | x, .non => some (.bl (!x.isNon))
  | .bl a, .bl b => some (.bl (!decide (a = b)))
  | _, _ => none
theorem isNon_iff {H : Hp} {v : V} {d : D} (r : Rep K H v d) : decide (v = .non) = d.isNon := by
  cases r <;> rfl
theorem r_is : R2Ok K (fun x y H Q => y = .non ∧ Q (.bl (decide (x = .non))) H) oIs := by
  intro F H x y dx dy d Q s rx ry ho q
  unfold oIs at ho
  split at ho
  · cases ho
    cases ry
    exact ⟨rfl, by rw [isNon_iff rx]; exact q _ F H (.refl s) (.bl _) fun _ _ => .bl _⟩
  · cases ho
theorem r_isnot : R2Ok K (fun x y H Q => (y = .non ∧ Q (.bl (!decide (x = .non))) H) ∨ rNotB x y H Q) oIsNot := by
  intro F H x y dx dy d Q s rx ry ho q
  unfold oIsNot at ho
  split at ho
  · cases ho
    cases ry
    exact .inl ⟨rfl, by rw [isNon_iff rx]; exact q _ F H (.refl s) (.bl _) fun _ _ => .bl _⟩
  · cases ho
    cases rx
    cases ry
    exact .inr ⟨_, _, rfl, rfl, q _ F H (.refl s) (.bl _) fun _ _ => .bl _⟩
  · cases ho
theorem op_isnot : OpR X (compareOp .IsNot) (fun x y H Q => (y = .non ∧ Q (.bl (!decide (x = .non))) H) ∨ rNotB x y H Q) := op_notN.or op_notBl

/-! ### one argument -/
def c1 (op : D → Option D) (f : EV → Option D) : EV → Option D := fun ev => (f ev).bind op
def oNeg : D → Option D
  | .int i => some (.int (-i))
  | _ => none
theorem e_neg (ha : EOk X a fa f) : EOk X (.UnaryOp .USub a pos) true (c1 oNeg f) := by
  obtain ⟨t, p, r⟩ := ha
  refine ⟨_, pe_un un_neg p, fun F0 H0 ev σ F H d Q s he q => ?_⟩
  obtain ⟨x, h1, he⟩ := Option.bind_eq_some_iff.mp he
  refine r F0 H0 ev σ F H x _ s h1 fun v F' H' x r1 _ => ?_
  unfold oNeg at he
  split at he
  · cases he
    cases r1
    exact ⟨_, rfl, q _ F' H' x (.int _) fun _ => .int _⟩
  · cases he
/-- a value's truth -/
def D.tru : D → Option Bool
  | .non => some false
  | .bl b => some b
  | .int i => some (i != 0)
  | .lst xs => some (!xs.isEmpty)
  | .tup xs => some (!xs.isEmpty)
  | .scr ns => some (!ns.isEmpty)
  | .str _ => none
theorem Rep.tru {H : Hp} {v : V} {d : D} {k : Bool} (r : Rep K H v d) (h : d.tru = some k) : TruV K v H k := by
  cases r with
  | non => cases h; rfl
  | bl b => cases h; rfl
  | int i => cases h; rfl
  | str x => cases h
  | lst h1 r =>
    cases h
    refine Or.inl ⟨_, SqL.of h1, ?_⟩
    cases r <;> rfl
  | tup h1 r =>
    cases h
    refine Or.inr (Or.inl ⟨_, SqT.of h1, ?_⟩)
    cases r <;> rfl
  | scr h1 =>
    cases h
    refine Or.inl ⟨_, h1, ?_⟩
    rename_i ns
    cases ns <;> rfl
def oNot (x : D) : Option D := x.tru.map fun k => .bl (!k)
theorem e_not (ha : EOk X a fa f) : EOk X (.UnaryOp .Not a pos) true (c1 oNot f) := by
  obtain ⟨t, p, r⟩ := ha
  refine ⟨_, pe_notT p, fun F0 H0 ev σ F H d Q s he q => ?_⟩
  obtain ⟨x, h1, he⟩ := Option.bind_eq_some_iff.mp he
  obtain ⟨k, h2, rfl⟩ := Option.map_eq_some_iff.mp he
  exact r F0 H0 ev σ F H x _ s h1 fun v F' H' x r1 _ => ⟨k, r1.tru h2, q _ F' H' x (.bl _) fun _ => .bl _⟩
/-! and, or as values -/
def cOr (f g : EV → Option D) : EV → Option D := fun ev => (f ev).bind fun x => x.tru.bind fun k => if k then some x else g ev
def cAnd (f g : EV → Option D) : EV → Option D := fun ev => (f ev).bind fun x => x.tru.bind fun k => if k then g ev else some x
variable {rest : List Expr}
theorem e_one {op} (ha : EOk X a fa f) : EOk X (.BoolOp op [a] pos) fa f := by
  obtain ⟨t, p, r⟩ := ha
  exact ⟨_, pe_one p, r⟩
theorem e_or (ha : EOk X a fa f) (hb : EOk X (.BoolOp .Or (b :: rest) pos) fb g) : EOk X (.BoolOp .Or (a :: b :: rest) pos) (fa && fb) (cOr f g) := by
  obtain ⟨ta, pa, ra⟩ := ha
  obtain ⟨tb, pb, rb⟩ := hb
  refine ⟨_, pe_orT pa pb, fun F0 H0 ev σ F H d Q s he q => ?_⟩
  obtain ⟨x, h1, he⟩ := Option.bind_eq_some_iff.mp he
  obtain ⟨k, h2, he⟩ := Option.bind_eq_some_iff.mp he
  refine ra F0 H0 ev σ F H x _ s h1 fun v F1 H1 x1 r1 z1 => ⟨k, r1.tru h2, ?_⟩
  cases k with
  | true =>
    cases he
    rw [if_pos rfl]
    exact q v F1 H1 x1 r1 fun z => z1 (Bool.and_eq_true _ _ ▸ z).1
  | false =>
    rw [if_neg (by decide)]
    exact rb F0 H0 ev σ F1 H1 d Q (s.up x1) he fun u F2 H2 x2 r2 z2 => q u F2 H2 (x1.trans x2) r2 fun z => z2 (Bool.and_eq_true _ _ ▸ z).2
theorem e_and (ha : EOk X a fa f) (hb : EOk X (.BoolOp .And (b :: rest) pos) fb g) : EOk X (.BoolOp .And (a :: b :: rest) pos) (fa && fb) (cAnd f g) := by
  obtain ⟨ta, pa, ra⟩ := ha
  obtain ⟨tb, pb, rb⟩ := hb
  refine ⟨_, pe_andT pa pb, fun F0 H0 ev σ F H d Q s he q => ?_⟩
  obtain ⟨x, h1, he⟩ := Option.bind_eq_some_iff.mp he
  obtain ⟨k, h2, he⟩ := Option.bind_eq_some_iff.mp he
  refine ra F0 H0 ev σ F H x _ s h1 fun v F1 H1 x1 r1 z1 => ⟨k, r1.tru h2, ?_⟩
  cases k with
  | true =>
    rw [if_pos rfl]
    exact rb F0 H0 ev σ F1 H1 d Q (s.up x1) he fun u F2 H2 x2 r2 z2 => q u F2 H2 (x1.trans x2) r2 fun z => z2 (Bool.and_eq_true _ _ ▸ z).2
  | false =>
    cases he
    rw [if_neg (by decide)]
    exact q v F1 H1 x1 r1 fun z => z1 (Bool.and_eq_true _ _ ▸ z).1

/-! ### tests -/
variable {p q : EV → Option Bool}
def tAndZ (p q : EV → Option Bool) : EV → Option Bool := fun ev => (p ev).bind fun k => if k then q ev else some false
def tOrZ (p q : EV → Option Bool) : EV → Option Bool := fun ev => (p ev).bind fun k => if k then some true else q ev
def tNotZ (p : EV → Option Bool) : EV → Option Bool := fun ev => (p ev).map (!·)
def tTru (f : EV → Option D) : EV → Option Bool := fun ev => (f ev).bind D.tru
theorem w_and1 (ha : TOk X a p) : WOk X (.BoolOp .And [a] pos) p := by
  obtain ⟨t, h, r⟩ := ha
  exact ⟨_, pw_and1 h, r⟩
theorem w_or1 (ha : TOk X a p) : WOk X (.BoolOp .Or [a] pos) p := by
  obtain ⟨t, h, r⟩ := ha
  exact ⟨_, pw_or1 h, r⟩
theorem run_and {ta tb : TT} (ra : TRun K p ta) (rb : TRun K q tb) : TRun K (tAndZ p q) (tAnd ta tb) := by
  intro F0 H0 ev σ F H d Q s he z
  obtain ⟨k, h1, he⟩ := Option.bind_eq_some_iff.mp he
  refine ra F0 H0 ev σ F H k _ s h1 fun F1 H1 x1 => ?_
  cases k with
  | true =>
    rw [if_pos rfl] at he ⊢
    exact rb F0 H0 ev σ F1 H1 d Q (s.up x1) he fun F2 H2 x2 => z F2 H2 (x1.trans x2)
  | false =>
    rw [if_neg (by decide)] at he ⊢
    cases he
    exact z F1 H1 x1
theorem run_or {ta tb : TT} (ra : TRun K p ta) (rb : TRun K q tb) : TRun K (tOrZ p q) (tOr ta tb) := by
  intro F0 H0 ev σ F H d Q s he z
  obtain ⟨k, h1, he⟩ := Option.bind_eq_some_iff.mp he
  refine ra F0 H0 ev σ F H k _ s h1 fun F1 H1 x1 => ?_
  cases k with
  | true =>
    rw [if_pos rfl] at he ⊢
    cases he
    exact z F1 H1 x1
  | false =>
    rw [if_neg (by decide)] at he ⊢
    exact rb F0 H0 ev σ F1 H1 d Q (s.up x1) he fun F2 H2 x2 => z F2 H2 (x1.trans x2)
theorem w_and (ha : TOk X a p) (hb : WOk X (.BoolOp .And (b :: rest) pos) q) : WOk X (.BoolOp .And (a :: b :: rest) pos) (tAndZ p q) := by
  obtain ⟨ta, pa, ra⟩ := ha
  obtain ⟨tb, pb, rb⟩ := hb
  exact ⟨_, pw_and pa pb, run_and ra rb⟩
theorem w_or (ha : TOk X a p) (hb : WOk X (.BoolOp .Or (b :: rest) pos) q) : WOk X (.BoolOp .Or (a :: b :: rest) pos) (tOrZ p q) := by
  obtain ⟨ta, pa, ra⟩ := ha
  obtain ⟨tb, pb, rb⟩ := hb
  exact ⟨_, pw_or pa pb, run_or ra rb⟩
theorem t_w (h : WOk X e p) : TOk X e p := by
  obtain ⟨t, h, r⟩ := h
  exact ⟨_, h.pt, r⟩
theorem t_not (h : TOk X a p) : TOk X (.UnaryOp .Not a pos) (tNotZ p) := by
  obtain ⟨t, h, r⟩ := h
  refine ⟨_, pt_not h, fun F0 H0 ev σ F H d Q s he z => ?_⟩
  obtain ⟨k, h1, rfl⟩ := Option.map_eq_some_iff.mp he
  exact r F0 H0 ev σ F H k _ s h1 fun F1 H1 x1 => z F1 H1 x1
theorem t_tru (h : EOk X e fz f) (he : ∀ whole, isTrue e X.env whole = (do let v ← whole; standAt e.pos; holding [v] (truthy v)) := by intro _; rfl) : TOk X e (tTru f) := by
  obtain ⟨t, p, r⟩ := h
  refine ⟨_, pt_truth p he, fun F0 H0 ev σ F H d Q s he z => ?_⟩
  obtain ⟨x, h1, h2⟩ := Option.bind_eq_some_iff.mp he
  exact r F0 H0 ev σ F H x _ s h1 fun v F' H' x r1 _ => ⟨d, r1.tru h2, z F' H' x⟩
theorem ts_nil : TsOk X [] (fun _ => some true) := ⟨_, pts_nil, fun F0 H0 ev σ F H d Q s he z => by
  cases he
  exact z F H (.refl s.sub)⟩
theorem ts_one (h : TOk X c p) : TsOk X [c] p := by
  obtain ⟨t, h, r⟩ := h
  exact ⟨_, pts_one h, r⟩
/-- a if c else b -/
def cIf (p : EV → Option Bool) (f g : EV → Option D) : EV → Option D := fun ev => (p ev).bind fun k => if k then f ev else g ev
theorem e_if (hc : TOk X c p) (ha : EOk X a fa f) (hb : EOk X b fb g) : EOk X (.IfExp c a b pos) (fa && fb) (cIf p f g) := by
  obtain ⟨tc, pc, rc⟩ := hc
  obtain ⟨ta, pa, ra⟩ := ha
  obtain ⟨tb, pb, rb⟩ := hb
  refine ⟨_, pe_ifExp pc pa pb, fun F0 H0 ev σ F H d Q s he z => ?_⟩
  obtain ⟨k, h1, he⟩ := Option.bind_eq_some_iff.mp he
  refine rc F0 H0 ev σ F H k _ s h1 fun F1 H1 x1 => ?_
  cases k with
  | true =>
    rw [if_pos rfl] at he ⊢
    exact ra F0 H0 ev σ F1 H1 d Q (s.up x1) he fun u F2 H2 x2 r2 z2 => z u F2 H2 (x1.trans x2) r2 fun y => z2 (Bool.and_eq_true _ _ ▸ y).1
  | false =>
    rw [if_neg (by decide)] at he ⊢
    exact rb F0 H0 ev σ F1 H1 d Q (s.up x1) he fun u F2 H2 x2 r2 z2 => z u F2 H2 (x1.trans x2) r2 fun y => z2 (Bool.and_eq_true _ _ ▸ y).2

/-! ### chains of comparisons -/
structure PCh (X : Cx) (pos : Pos) (ops : List CmpOp) (es : List Expr) (t : V → TE) : Prop where
  run : ∀ (pins : List (Addr × Obj)) (s : Shared) (σ : L2.St) (H : Hp) (x : V) (v : Value) (Q : VK), Inv X pins σ H s → RelV x v → t x σ H Q →
    wpAny (model X.prog X.w) X.A (compareChain pos v ops (evalEach es X.env)) (EP X pins σ Q) X.xe s
def tLink (r : R2) (tb : TE) (t : V → TE) : V → TE := fun x σ H Q => tb σ H fun y H2 => r x y H2 fun z H3 => ∃ k, z = .bl k ∧ (if k = true then t y σ H3 Q else Q (.bl false) H3)
def tLast (r : R2) (tb : TE) : V → TE := fun x σ H Q => tb σ H fun y H2 => r x y H2 Q
theorem pch_last {op : CmpOp} {r : R2} {tb : TE} (ho : OpR X (compareOp op) r) (hb : PE X b tb) : PCh X pos [op] [b] (tLast r tb) := by
  refine ⟨fun pins s σ H x v Q I rx h => ?_⟩
  exact chain_last (thn (hb.run pins s σ H _ I h) fun u s2 ⟨y, H2, I2, r2, q2⟩ => ho pins s2 σ H2 x y v u Q I2 rx r2 q2)
theorem pch_link {op op' : CmpOp} {ops : List CmpOp} {es : List Expr} {r : R2} {tb : TE} {t : V → TE} (ho : OpR X (compareOp op) r) (hb : PE X b tb) (hc : PCh X pos (op' :: ops) (c :: es) t) :
    PCh X pos (op :: op' :: ops) (b :: c :: es) (tLink r tb t) := by
  refine ⟨fun pins s σ H x v Q I rx h => ?_⟩
  show wpAny (model X.prog X.w) X.A (compareChain pos v (op :: op' :: ops) (eval b X.env :: eval c X.env :: evalEach es X.env)) (EP X pins σ Q) X.xe s
  refine chain_link (thn (hb.run pins s σ H _ I h) fun u s2 ⟨y, H2, I2, r2, q2⟩ => thn (ho pins s2 σ H2 x y v u _ I2 rx r2 q2) fun d s3 ⟨z, H3, I3, r3, k, e, q3⟩ => ?_)
  subst e
  cases r3
  refine wpAny_truthy_bool ?_
  cases k with
  | false => exact ite_ff ⟨.bl false, H3, I3, rfl, q3⟩
  | true => exact ite_tt (hc.run pins s3 σ H3 y u Q I3 r2 q3)
theorem pe_chn {op op' : CmpOp} {ops : List CmpOp} {es : List Expr} {ta : TE} {t : V → TE} (ha : PE X a ta) (hc : PCh X pos (op :: op' :: ops) (b :: c :: es) t)
    (hm : lastMarks (op :: op' :: ops) (b :: c :: es) = false := by with_unfolding_all rfl) : PE X (.Compare a (op :: op' :: ops) (b :: c :: es) pos) (fun σ H Q => ta σ H fun x H1 => t x σ H1 Q) := by
  refine ⟨fun pins s σ H Q I h => ?_⟩
  exact Compare_chain (thn (ha.run pins s σ H _ I h) fun v s1 ⟨x, H1, I1, r1, q1⟩ => hc.run pins s1 σ H1 x v Q I1 r1 q1) hm
/-- .. of data -/
def ChRun (K : PySem.W.Frag) (f : D → EV → Option D) (t : V → TE) : Prop :=
  ∀ (F0 H0 : Hp) (ev : EV) (σ : L2.St) (F H : Hp) (x : V) (dx d : D) (Q : VK), SR K F0 H0 ev σ F H → Rep K H x dx → f dx ev = some d → (∀ (k : Bool) F' H', Ext F H F' H' → d = .bl k → Q (.bl k) H') → t x σ H Q
def ChOk (X : Cx) (pos : Pos) (ops : List CmpOp) (es : List Expr) (f : D → EV → Option D) : Prop := ∃ t, PCh X pos ops es t ∧ ChRun X.K f t
def chLast (op : D → D → Option D) (g : EV → Option D) : D → EV → Option D := fun x ev => (g ev).bind fun y => match op x y with
  | some (.bl k) => some (.bl k)
  | _ => none
def chLink (op : D → D → Option D) (g : EV → Option D) (r : D → EV → Option D) : D → EV → Option D := fun x ev => (g ev).bind fun y => match op x y with
  | some (.bl true) => r y ev
  | some (.bl false) => some (.bl false)
  | _ => none
theorem ch_last {op : CmpOp} {r : R2} {k : D → D → Option D} (ho : OpR X (compareOp op) r) (hr : R2Ok X.K r k) (hb : EOk X b fb g) : ChOk X pos [op] [b] (chLast k g) := by
  obtain ⟨tb, pb, rb⟩ := hb
  refine ⟨_, pch_last ho pb, fun F0 H0 ev σ F H x dx d Q s rx he q => ?_⟩
  obtain ⟨y, h1, he⟩ := Option.bind_eq_some_iff.mp he
  refine rb F0 H0 ev σ F H y _ s h1 fun u F1 H1 x1 r1 _ => ?_
  split at he
  · rename_i k' hk
    cases he
    refine hr F1 H1 x u dx y _ _ (s.up x1).sub (rx.mono x1.keep) r1 hk fun w F2 H2 x2 r2 _ => ?_
    cases r2
    exact q _ F2 H2 (x1.trans x2) rfl
  · cases he
theorem ch_link {op op' : CmpOp} {ops : List CmpOp} {es : List Expr} {r : R2} {k : D → D → Option D} {l : D → EV → Option D} (ho : OpR X (compareOp op) r) (hr : R2Ok X.K r k) (hb : EOk X b fb g)
    (hc : ChOk X pos (op' :: ops) (c :: es) l) : ChOk X pos (op :: op' :: ops) (b :: c :: es) (chLink k g l) := by
  obtain ⟨tb, pb, rb⟩ := hb
  obtain ⟨tc, pc, rc⟩ := hc
  refine ⟨_, pch_link ho pb pc, fun F0 H0 ev σ F H x dx d Q s rx he q => ?_⟩
  obtain ⟨y, h1, he⟩ := Option.bind_eq_some_iff.mp he
  refine rb F0 H0 ev σ F H y _ s h1 fun u F1 H1 x1 r1 _ => ?_
  split at he
  · rename_i hk
    refine hr F1 H1 x u dx y _ _ (s.up x1).sub (rx.mono x1.keep) r1 hk fun w F2 H2 x2 r2 _ => ?_
    cases r2
    refine ⟨true, rfl, ?_⟩
    rw [if_pos rfl]
    exact rc F0 H0 ev σ F2 H2 u y d Q ((s.up x1).up x2) (r1.mono x2.keep) he fun k F3 H3 x3 => q k F3 H3 ((x1.trans x2).trans x3)
  · rename_i hk
    cases he
    refine hr F1 H1 x u dx y _ _ (s.up x1).sub (rx.mono x1.keep) r1 hk fun w F2 H2 x2 r2 _ => ?_
    cases r2
    refine ⟨false, rfl, ?_⟩
    rw [if_neg (by decide)]
    exact q false F2 H2 (x1.trans x2) rfl
  · cases he
def cCh (f : EV → Option D) (l : D → EV → Option D) : EV → Option D := fun ev => (f ev).bind fun x => l x ev
theorem e_chn {op op' : CmpOp} {ops : List CmpOp} {es : List Expr} {l : D → EV → Option D} (ha : EOk X a fa f) (hc : ChOk X pos (op :: op' :: ops) (b :: c :: es) l)
    (hm : lastMarks (op :: op' :: ops) (b :: c :: es) = false := by with_unfolding_all rfl) : EOk X (.Compare a (op :: op' :: ops) (b :: c :: es) pos) true (cCh f l) := by
  obtain ⟨ta, pa, ra⟩ := ha
  obtain ⟨tc, pc, rc⟩ := hc
  refine ⟨_, pe_chn pa pc hm, fun F0 H0 ev σ F H d Q s he q => ?_⟩
  obtain ⟨x, h1, he⟩ := Option.bind_eq_some_iff.mp he
  refine ra F0 H0 ev σ F H x _ s h1 fun v F1 H1 x1 r1 _ => ?_
  refine rc F0 H0 ev σ F1 H1 v x d Q (s.up x1) r1 he fun k F2 H2 x2 e => ?_
  subst e
  exact q _ F2 H2 (x1.trans x2) (.bl _) fun _ => .bl _

/-! .. as tests -/
structure PTh (X : Cx) (pos : Pos) (ops : List CmpOp) (es : List Expr) (t : V → TT) : Prop where
  run : ∀ (pins : List (Addr × Obj)) (s : Shared) (σ : L2.St) (H : Hp) (x : V) (v : Value) (Q : Bool → Hp → Prop), Inv X pins σ H s → RelV x v → t x σ H Q →
    wpAny (model X.prog X.w) X.A (testChain pos v ops (evalEach es X.env)) (TP X pins σ Q) X.xe s
def ttLink (r : R2) (tb : TE) (t : V → TT) : V → TT := fun x σ H Q => tb σ H fun y H2 => r x y H2 fun z H3 => ∃ k, z = .bl k ∧ (if k = true then t y σ H3 Q else Q false H3)
def ttLast (r : R2) (tb : TE) : V → TT := fun x σ H Q => tb σ H fun y H2 => r x y H2 fun z H3 => ∃ k, z = .bl k ∧ Q k H3
theorem pth_last {op : CmpOp} {r : R2} {tb : TE} (ho : OpR X (compareOp op) r) (hb : PE X b tb) : PTh X pos [op] [b] (ttLast r tb) := by
  refine ⟨fun pins s σ H x v Q I rx h => ?_⟩
  refine test_last (thn (hb.run pins s σ H _ I h) fun u s2 ⟨y, H2, I2, r2, q2⟩ => thn (ho pins s2 σ H2 x y v u _ I2 rx r2 q2) fun d s3 ⟨z, H3, I3, r3, k, e, q3⟩ => ?_)
  subst e
  cases r3
  exact wpAny_truthy_bool ⟨H3, I3, q3⟩
theorem pth_link {op op' : CmpOp} {ops : List CmpOp} {es : List Expr} {r : R2} {tb : TE} {t : V → TT} (ho : OpR X (compareOp op) r) (hb : PE X b tb) (hc : PTh X pos (op' :: ops) (c :: es) t) :
    PTh X pos (op :: op' :: ops) (b :: c :: es) (ttLink r tb t) := by
  refine ⟨fun pins s σ H x v Q I rx h => ?_⟩
  show wpAny (model X.prog X.w) X.A (testChain pos v (op :: op' :: ops) (eval b X.env :: eval c X.env :: evalEach es X.env)) (TP X pins σ Q) X.xe s
  refine test_link (thn (hb.run pins s σ H _ I h) fun u s2 ⟨y, H2, I2, r2, q2⟩ => thn (ho pins s2 σ H2 x y v u _ I2 rx r2 q2) fun d s3 ⟨z, H3, I3, r3, k, e, q3⟩ => ?_)
  subst e
  cases r3
  refine wpAny_truthy_bool ?_
  cases k with
  | false => exact ite_ff ⟨H3, I3, q3⟩
  | true => exact ite_tt (hc.run pins s3 σ H3 y u Q I3 r2 q3)
theorem pt_chn {op op' : CmpOp} {ops : List CmpOp} {es : List Expr} {ta : TE} {t : V → TT} (ha : PE X a ta) (hc : PTh X pos (op :: op' :: ops) (b :: c :: es) t)
    (hm : lastMarks (op :: op' :: ops) (b :: c :: es) = false := by with_unfolding_all rfl) : PT X (.Compare a (op :: op' :: ops) (b :: c :: es) pos) (fun σ H Q => ta σ H fun x H1 => t x σ H1 Q) := by
  refine ⟨fun pins s σ H Q I h => ?_⟩
  exact isTrue_chain (thn (ha.run pins s σ H _ I h) fun v s1 ⟨x, H1, I1, r1, q1⟩ => hc.run pins s1 σ H1 x v Q I1 r1 q1) hm
def ThRun (K : PySem.W.Frag) (f : D → EV → Option D) (t : V → TT) : Prop :=
  ∀ (F0 H0 : Hp) (ev : EV) (σ : L2.St) (F H : Hp) (x : V) (dx d : D) (Q : Bool → Hp → Prop), SR K F0 H0 ev σ F H → Rep K H x dx → f dx ev = some d → (∀ (k : Bool) F' H', Ext F H F' H' → d = .bl k → Q k H') → t x σ H Q
def ThOk (X : Cx) (pos : Pos) (ops : List CmpOp) (es : List Expr) (f : D → EV → Option D) : Prop := ∃ t, PTh X pos ops es t ∧ ThRun X.K f t
theorem th_last {op : CmpOp} {r : R2} {k : D → D → Option D} (ho : OpR X (compareOp op) r) (hr : R2Ok X.K r k) (hb : EOk X b fb g) : ThOk X pos [op] [b] (chLast k g) := by
  obtain ⟨tb, pb, rb⟩ := hb
  refine ⟨_, pth_last ho pb, fun F0 H0 ev σ F H x dx d Q s rx he q => ?_⟩
  obtain ⟨y, h1, he⟩ := Option.bind_eq_some_iff.mp he
  refine rb F0 H0 ev σ F H y _ s h1 fun u F1 H1 x1 r1 _ => ?_
  split at he
  · rename_i k' hk
    cases he
    refine hr F1 H1 x u dx y _ _ (s.up x1).sub (rx.mono x1.keep) r1 hk fun w F2 H2 x2 r2 _ => ?_
    cases r2
    exact ⟨_, rfl, q _ F2 H2 (x1.trans x2) rfl⟩
  · cases he
theorem th_link {op op' : CmpOp} {ops : List CmpOp} {es : List Expr} {r : R2} {k : D → D → Option D} {l : D → EV → Option D} (ho : OpR X (compareOp op) r) (hr : R2Ok X.K r k) (hb : EOk X b fb g)
    (hc : ThOk X pos (op' :: ops) (c :: es) l) : ThOk X pos (op :: op' :: ops) (b :: c :: es) (chLink k g l) := by
  obtain ⟨tb, pb, rb⟩ := hb
  obtain ⟨tc, pc, rc⟩ := hc
  refine ⟨_, pth_link ho pb pc, fun F0 H0 ev σ F H x dx d Q s rx he q => ?_⟩
  obtain ⟨y, h1, he⟩ := Option.bind_eq_some_iff.mp he
  refine rb F0 H0 ev σ F H y _ s h1 fun u F1 H1 x1 r1 _ => ?_
  split at he
  · rename_i hk
    refine hr F1 H1 x u dx y _ _ (s.up x1).sub (rx.mono x1.keep) r1 hk fun w F2 H2 x2 r2 _ => ?_
    cases r2
    refine ⟨true, rfl, ?_⟩
    rw [if_pos rfl]
    exact rc F0 H0 ev σ F2 H2 u y d Q ((s.up x1).up x2) (r1.mono x2.keep) he fun k F3 H3 x3 => q k F3 H3 ((x1.trans x2).trans x3)
  · rename_i hk
    cases he
    refine hr F1 H1 x u dx y _ _ (s.up x1).sub (rx.mono x1.keep) r1 hk fun w F2 H2 x2 r2 _ => ?_
    cases r2
    refine ⟨false, rfl, ?_⟩
    rw [if_neg (by decide)]
    exact q false F2 H2 (x1.trans x2) rfl
  · cases he
theorem t_chn {op op' : CmpOp} {ops : List CmpOp} {es : List Expr} {l : D → EV → Option D} (ha : EOk X a fa f) (hc : ThOk X pos (op :: op' :: ops) (b :: c :: es) l)
    (hm : lastMarks (op :: op' :: ops) (b :: c :: es) = false := by with_unfolding_all rfl) : TOk X (.Compare a (op :: op' :: ops) (b :: c :: es) pos) (tOf (cCh f l)) := by
  obtain ⟨ta, pa, ra⟩ := ha
  obtain ⟨tc, pc, rc⟩ := hc
  refine ⟨_, pt_chn pa pc hm, fun F0 H0 ev σ F H d Q s he q => ?_⟩
  have he' : ∃ z, cCh f l ev = some z ∧ z = .bl d := by
    unfold tOf at he
    cases hz : cCh f l ev with
    | none =>
      rw [hz] at he
      cases he
    | some z =>
      rw [hz] at he
      cases z <;> (try cases he)
      exact ⟨_, rfl, rfl⟩
  obtain ⟨z, he, rfl⟩ := he'
  obtain ⟨x, h1, he⟩ := Option.bind_eq_some_iff.mp he
  refine ra F0 H0 ev σ F H x _ s h1 fun v F1 H1 x1 r1 _ => ?_
  refine rc F0 H0 ev σ F1 H1 v x _ Q (s.up x1) r1 he fun k F2 H2 x2 e => ?_
  cases e
  exact q F2 H2 (x1.trans x2)
end
end Z


set_option maxRecDepth 100000
set_option maxHeartbeats 4000000
/-! Z3: subscripts, displays, calls, new lists, what is walked, comprehensions. -/
namespace Z
open PySem PySem.Spec PyProof.Rows L2
section
variable {X : Cx} {a b c e : Expr} {fz fa fb fc : Bool} {f g h : EV → Option D} {pos : Pos} {K : PySem.W.Frag}

/-! ### xs[i] -/
theorem atI_ix {α : Type} {xs : List α} {i : Int} {y : α} (h : atI xs i = some y) : ∃ j, ixN xs.length i = some j ∧ xs[j]? = some y := Option.bind_eq_some_iff.mp h
theorem RepL.atI {H : Hp} {vs : List V} {ds : List D} {i : Int} {d : D} (r : RepL K H vs ds) (h : atI ds i = some d) : ∃ v, L2.atI vs i = some v ∧ Rep K H v d := by
  obtain ⟨j, h1, h2⟩ := atI_ix h
  obtain ⟨v, h3, h4⟩ := r.get h2
  refine ⟨v, ?_, h4⟩
  unfold L2.atI
  rw [r.len, h1]
  exact h3
def oIx : D → D → Option D
  | .lst xs, .int i => atI xs i
  | .tup xs, .int i => atI xs i
  | .scr ns, .int i => (atI ns i).map .int
  | _, _ => none
theorem atI_map {α β : Type} (k : α → β) (xs : List α) (i : Int) : atI (xs.map k) i = (atI xs i).map k := by
  unfold atI
  rw [List.length_map]
  cases ixN xs.length i with
  | none => rfl
  | some j => simp
theorem r_ix : R2Ok K (rIx K) oIx := by
  intro F H x y dx dy d Q s rx ry ho q
  unfold oIx at ho
  split at ho
  · rename_i ds i
    obtain ⟨p, vs, rfl, h1, r⟩ := rx.lst_inv
    cases ry
    obtain ⟨v, h2, r2⟩ := r.atI ho
    refine .inl ⟨p, vs, i, v, rfl, rfl, SqL.of h1, h2, q v F H (.refl s) r2 fun z _ => ?_⟩
    obtain ⟨p', vs', e, h1', r'⟩ := z.lst_inv
    cases e
    have e : vs' = vs := by
      have := s _ _ h1'
      rw [h1] at this
      cases this
      rfl
    subst e
    obtain ⟨v', h2', r2'⟩ := r'.atI ho
    rw [h2] at h2'
    cases h2'
    exact r2'
  · rename_i ds i
    obtain ⟨p, vs, rfl, h1, r⟩ := rx.tup_inv
    cases ry
    obtain ⟨v, h2, r2⟩ := r.atI ho
    refine .inr (.inl ⟨p, vs, i, v, rfl, rfl, SqT.of h1, h2, q v F H (.refl s) r2 fun z _ => ?_⟩)
    obtain ⟨p', vs', e, h1', r'⟩ := z.tup_inv
    cases e
    have e : vs' = vs := by
      have := s _ _ h1'
      rw [h1] at this
      cases this
      rfl
    subst e
    obtain ⟨v', h2', r2'⟩ := r'.atI ho
    rw [h2] at h2'
    cases h2'
    exact r2'
  · rename_i ns i
    cases rx
    rename_i p h1
    cases ry
    obtain ⟨n, h2, rfl⟩ := Option.map_eq_some_iff.mp ho
    exact .inl ⟨p, _, i, .int n, rfl, rfl, h1, by rw [atI_map, h2]; rfl, q _ F H (.refl s) (.int n) fun _ _ => .int n⟩
  · cases ho
theorem e_ix (ha : EOk X a fa f) (hb : EOk X b fb g) (hs : PlainIx b := by exact fun _ _ => rfl) : EOk X (.Subscript a b pos) (fa && fb) (c2 oIx f g) := by
  obtain ⟨ta, pa, ra⟩ := ha
  obtain ⟨tb, pb, rb⟩ := hb
  exact ⟨_, pe_ix ix_seq pa pb hs, run2 r_ix ra rb⟩
/-- an own list's item -/
def cIxo (i : Nat) (g : EV → Option D) : EV → Option D := fun ev => match ev[i]?, g ev with
  | some (.own xs), some (.int k) => atI xs k
  | _, _ => none
theorem e_ixo {i : Nat} {x : Str} {p : Pos} (hp : PE X (.Name x p) (tVar i)) (hb : EOk X b fb g) (hs : PlainIx b := by exact fun _ _ => rfl) : EOk X (.Subscript (.Name x p) b pos) true (cIxo i g) := by
  obtain ⟨tb, pb, rb⟩ := hb
  refine ⟨_, pe_ix ix_seq hp pb hs, fun F0 H0 ev σ F H d Q s he q => ?_⟩
  unfold cIxo at he
  split at he
  · rename_i xs k h h1
    obtain ⟨l, vs, h2, h3, h4, h5, h6⟩ := s.own i _ h
    refine ⟨.ref l, h2, rb F0 H0 ev σ F H _ _ s h1 fun u F1 H1 x1 r1 _ => ?_⟩
    cases r1
    obtain ⟨v, h7, r2⟩ := h6.atI he
    exact .inl ⟨l, vs, k, v, rfl, rfl, SqL.of (x1.keep _ _ h3), h7, q v F1 H1 x1 ((r2.mono x1.fr).mono x1.sub) fun _ => r2.mono x1.fr⟩
  · cases he

/-! ### displays -/
def aNil : EV → Option (List D) := fun _ => some []
def aCons (f : EV → Option D) (g : EV → Option (List D)) : EV → Option (List D) := fun ev => (f ev).bind fun x => (g ev).map (x :: ·)
variable {es : List Expr} {k : EV → Option (List D)}
theorem a_nil : AOk X [] true aNil := ⟨_, pa_nil, fun F0 H0 ev σ F H d Q s he q => by
  cases he
  exact q [] F H (.refl s.sub) .nil fun _ => .nil⟩
theorem a_cons (ha : EOk X e fa f) (hb : AOk X es fb k) (hs : starEach (e :: es) X.env = (false, eval e X.env) :: starEach es X.env := by rfl) : AOk X (e :: es) (fa && fb) (aCons f k) := by
  obtain ⟨ta, pa, ra⟩ := ha
  obtain ⟨tb, pb, rb⟩ := hb
  refine ⟨_, pa_cons pa pb hs, fun F0 H0 ev σ F H d Q s he q => ?_⟩
  obtain ⟨x, h1, he⟩ := Option.bind_eq_some_iff.mp he
  obtain ⟨xs, h2, rfl⟩ := Option.map_eq_some_iff.mp he
  refine ra F0 H0 ev σ F H x _ s h1 fun v F1 H1 x1 r1 z1 => ?_
  refine rb F0 H0 ev σ F1 H1 xs _ (s.up x1) h2 fun vs F2 H2 x2 r2 z2 => ?_
  refine q (v :: vs) F2 H2 (x1.trans x2) (.cons (r1.mono x2.keep) r2) fun z => ?_
  rw [Bool.and_eq_true] at z
  exact .cons ((z1 z.1).mono x2.fr) (z2 z.2)
theorem AOk.cast {fz' : Bool} (h : AOk X es fz k) (z : fz = fz' := by rfl) : AOk X es fz' k := by
  subst z
  exact h
theorem EOk.cast {fz' : Bool} (h : EOk X e fz f) (z : fz = fz' := by rfl) : EOk X e fz' f := by
  subst z
  exact h
def cTup (k : EV → Option (List D)) : EV → Option D := fun ev => (k ev).bind fun ds => if ds.length ≤ 1000 then some (.tup ds) else none
theorem len_line {n : Nat} (h : n ≤ 1000) : n ≤ sizeLine := Nat.le_of_lt (small1000 h)
theorem e_tup {x1} (h : AOk X es fz k) : EOk X (.Tuple es x1 pos) fz (cTup k) := by
  obtain ⟨t, p, r⟩ := h
  refine ⟨_, pe_tup p, fun F0 H0 ev σ F H d Q s he q => ?_⟩
  obtain ⟨ds, h1, he⟩ := Option.bind_eq_some_iff.mp he
  obtain ⟨h2, rfl⟩ := of_ite he
  refine r F0 H0 ev σ F H ds _ s h1 fun vs F1 H1 x1 r1 z1 => ⟨len_line (by rw [r1.len]; exact h2), fun p np => ?_⟩
  have s1 := s.up x1
  cases hz : fz with
  | true =>
    have y : Ext F1 H1 (upd F1 p (.tup vs)) (upd H1 p (.tup vs)) := .alloc s1.sub np
    exact q _ _ _ (x1.trans y) (.tup upd_same (r1.mono y.keep)) fun _ => .tup upd_same ((z1 hz).mono y.fr)
  | false =>
    have y : Ext F1 H1 F1 (upd H1 p (.tup vs)) := .allocH s1.sub np
    exact q _ _ _ (x1.trans y) (.tup upd_same (r1.mono y.keep)) fun z => Bool.noConfusion (hz.symm.trans z)

/-! ### a new list -/
def FRun (K : PySem.W.Frag) (f : EV → Option (List D)) (t : TE) : Prop :=
  ∀ (F0 H0 : Hp) (ev : EV) (σ : L2.St) (F H : Hp) (xs : List D) (Q : VK), SR K F0 H0 ev σ F H → f ev = some xs →
    (∀ l vs F' H', Ext F H F' H' → H l = none → F' l = none → H' l = some (.lst vs) → RepL K F' vs xs → Q (.ref l) H') → t σ H Q
/-- an expression that gives a new list of frozen items -/
def FOk (X : Cx) (e : Expr) (f : EV → Option (List D)) : Prop := ∃ t, PE X e t ∧ FRun X.K f t
def cLst (k : EV → Option (List D)) : EV → Option D := fun ev => (k ev).map .lst
theorem frun_e {t : TE} (h : FRun K k t) : ERun K true (cLst k) t := by
  intro F0 H0 ev σ F H d Q s he q
  obtain ⟨xs, h1, rfl⟩ := Option.map_eq_some_iff.mp he
  refine h F0 H0 ev σ F H xs _ s h1 fun l vs F' H' x n1 n2 e r => ?_
  have m : Same F' (upd F' l (.lst vs)) := same_upd n2
  have x2 : Ext F H (upd F' l (.lst vs)) H' := ⟨x.fr.trans m, fun b o eb => by
    by_cases hb : b = l
    · subst hb
      rw [upd_same] at eb
      exact e.trans eb
    · rw [upd_ne hb] at eb
      exact x.sub b o eb, x.keep, fun b => by
    by_cases hb : b = l
    · subst hb
      exact .inr n1
    · rw [upd_ne hb]
      exact x.new b⟩
  exact q _ _ _ x2 (.lst e (r.mono x.sub)) fun _ => .lst upd_same (r.mono m)
theorem e_f (h : FOk X e k) : EOk X e true (cLst k) := by
  obtain ⟨t, p, r⟩ := h
  exact ⟨t, p, frun_e r⟩
def kList (k : EV → Option (List D)) : EV → Option (List D) := fun ev => (k ev).bind fun ds => if ds.length ≤ 1000 then some ds else none
theorem f_lst (h : AOk X es true k) : FOk X (.List es pos) (kList k) := by
  obtain ⟨t, p, r⟩ := h
  refine ⟨_, pe_lst p, fun F0 H0 ev σ F H d Q s he q => ?_⟩
  obtain ⟨ds, h1, he⟩ := Option.bind_eq_some_iff.mp he
  obtain ⟨h2, rfl⟩ := of_ite he
  refine r F0 H0 ev σ F H ds _ s h1 fun vs F1 H1 x1 r1 z1 => ⟨len_line (by rw [r1.len]; exact h2), fun p np => ?_⟩
  have s1 := s.up x1
  exact q p vs F1 _ (x1.trans (.allocH s1.sub np)) (x1.keep.free np) (s1.sub.free np) upd_same (z1 rfl)
/-- as a display whose items are not frozen -/
theorem e_lstV (h : AOk X es fz k) : EOk X (.List es pos) false (cLst (kList k)) := by
  obtain ⟨t, p, r⟩ := h
  refine ⟨_, pe_lst p, fun F0 H0 ev σ F H d Q s he q => ?_⟩
  obtain ⟨ds0, he1, rfl⟩ := Option.map_eq_some_iff.mp he
  obtain ⟨ds, h1, he2⟩ := Option.bind_eq_some_iff.mp he1
  obtain ⟨h2, rfl⟩ := of_ite he2
  refine r F0 H0 ev σ F H ds _ s h1 fun vs F1 H1 x1 r1 z1 => ⟨len_line (by rw [r1.len]; exact h2), fun p np => ?_⟩
  have s1 := s.up x1
  have y : Ext F1 H1 F1 (upd H1 p (.lst vs)) := .allocH s1.sub np
  exact q _ _ _ (x1.trans y) (.lst upd_same (r1.mono y.keep)) fun z => nomatch z

/-! ### slices -/
def cutD {α : Type} (xs : List α) (lo hi : Option Int) : List α := (xs.drop (HT.sIx xs.length 0 lo)).take (HT.sIx xs.length xs.length hi - HT.sIx xs.length 0 lo)
theorem RepL.cut {H : Hp} {vs : List V} {ds : List D} (lo hi : Option Int) (r : RepL K H vs ds) : RepL K H (cutV vs lo hi) (cutD ds lo hi) := by
  unfold cutV cutD
  rw [r.len]
  exact (r.drop _).take _
theorem cutD_map {α β : Type} (k : α → β) (xs : List α) (lo hi : Option Int) : cutD (xs.map k) lo hi = (cutD xs lo hi).map k := by
  unfold cutD
  rw [List.length_map, List.map_take, List.map_drop]
def PRun (K : PySem.W.Frag) (f : EV → Option (Option Int)) (t : TO) : Prop :=
  ∀ (F0 H0 : Hp) (ev : EV) (σ : L2.St) (F H : Hp) (o : Option Int) (Q : Option Int → Hp → Prop), SR K F0 H0 ev σ F H → f ev = some o → (∀ F' H', Ext F H F' H' → Q o H') → t σ H Q
def POk (X : Cx) (e : Option Expr) (f : EV → Option (Option Int)) : Prop := ∃ t, PO X e t ∧ PRun X.K f t
def pNo : EV → Option (Option Int) := fun _ => some none
def pAt (f : EV → Option D) : EV → Option (Option Int) := fun ev => match f ev with
  | some (.int i) => some (some i)
  | _ => none
theorem p_no : POk X none pNo := ⟨_, po_none, fun F0 H0 ev σ F H o Q s he q => by
  cases he
  exact q F H (.refl s.sub)⟩
theorem p_at (h : EOk X e fz f) : POk X (some e) (pAt f) := by
  obtain ⟨t, p, r⟩ := h
  refine ⟨_, po_some p, fun F0 H0 ev σ F H o Q s he q => ?_⟩
  unfold pAt at he
  split at he
  · rename_i i h1
    cases he
    refine r F0 H0 ev σ F H _ _ s h1 fun v F1 H1 x1 r1 _ => ?_
    cases r1
    exact ⟨i, rfl, q F1 H1 x1⟩
  · cases he
variable {lo hi : Option Expr} {l u : EV → Option (Option Int)}
/-- xs[lo:hi] of a frozen list -/
def kSl (f : EV → Option D) (l u : EV → Option (Option Int)) : EV → Option (List D) := fun ev => match f ev with
  | some (.lst xs) => (l ev).bind fun a => (u ev).map fun b => cutD xs a b
  | _ => none
theorem f_sl {p2 : Pos} (he : EOk X e true f) (hl : POk X lo l) (hu : POk X hi u) : FOk X (.Subscript e (.Slice lo hi none p2) pos) (kSl f l u) := by
  obtain ⟨t, p, r⟩ := he
  obtain ⟨tl, pl, rl⟩ := hl
  obtain ⟨tu, pu, ru⟩ := hu
  refine ⟨_, pe_slice sl_list p pl pu, fun F0 H0 ev σ F H xs Q s he q => ?_⟩
  unfold kSl at he
  split at he
  · rename_i ds h1
    obtain ⟨lo', h2, he⟩ := Option.bind_eq_some_iff.mp he
    obtain ⟨hi', h3, rfl⟩ := Option.map_eq_some_iff.mp he
    refine r F0 H0 ev σ F H _ _ s h1 fun v F1 H1 x1 r1 z1 => ?_
    refine rl F0 H0 ev σ F1 H1 _ _ (s.up x1) h2 fun F2 H2 x2 => ?_
    refine ru F0 H0 ev σ F2 H2 _ _ ((s.up x1).up x2) h3 fun F3 H3 x3 => ?_
    have s3 := ((s.up x1).up x2).up x3
    obtain ⟨p, vs, rfl, e1, rr⟩ := (((z1 rfl).mono x2.fr).mono x3.fr).lst_inv
    refine ⟨p, vs, rfl, SqL.of (s3.sub _ _ e1), fun l nl => ?_⟩
    have x := (x1.trans x2).trans x3
    exact q l _ F3 _ (x.trans (.allocH s3.sub nl)) (x.keep.free nl) (s3.sub.free nl) upd_same (rr.cut _ _)
  · cases he
/-- of an own list -/
def kSlo (i : Nat) (l u : EV → Option (Option Int)) : EV → Option (List D) := fun ev => match ev[i]? with
  | some (.own xs) => (l ev).bind fun a => (u ev).map fun b => cutD xs a b
  | _ => none
theorem f_slo {i : Nat} {x : Str} {p p2 : Pos} (hp : PE X (.Name x p) (tVar i)) (hl : POk X lo l) (hu : POk X hi u) : FOk X (.Subscript (.Name x p) (.Slice lo hi none p2) pos) (kSlo i l u) := by
  obtain ⟨tl, pl, rl⟩ := hl
  obtain ⟨tu, pu, ru⟩ := hu
  refine ⟨_, pe_slice sl_list hp pl pu, fun F0 H0 ev σ F H xs Q s he q => ?_⟩
  unfold kSlo at he
  split at he
  · rename_i ds h1
    obtain ⟨lo', h2, he⟩ := Option.bind_eq_some_iff.mp he
    obtain ⟨hi', h3, rfl⟩ := Option.map_eq_some_iff.mp he
    obtain ⟨a, vs, g2, g3, g4, g5, g6⟩ := s.own i _ h1
    refine ⟨.ref a, g2, ?_⟩
    refine rl F0 H0 ev σ F H _ _ s h2 fun F2 H2 x2 => ?_
    refine ru F0 H0 ev σ F2 H2 _ _ (s.up x2) h3 fun F3 H3 x3 => ?_
    have s3 := (s.up x2).up x3
    have x := x2.trans x3
    refine ⟨a, vs, rfl, SqL.of (x.keep _ _ g3), fun l nl => ?_⟩
    exact q l _ F3 _ (x.trans (.allocH s3.sub nl)) (x.keep.free nl) (s3.sub.free nl) upd_same ((g6.mono x.fr).cut _ _)
  · cases he
/-- a tuple's slice, not the whole -/
def cSlT (f : EV → Option D) (l u : EV → Option (Option Int)) : EV → Option D := fun ev => match f ev with
  | some (.tup xs) => (l ev).bind fun a => (u ev).bind fun b => if ¬ (HT.sIx xs.length 0 a = 0 ∧ HT.sIx xs.length xs.length b = xs.length) then some (.tup (cutD xs a b)) else none
  | _ => none
theorem e_slT {p2 : Pos} (he : EOk X e true f) (hl : POk X lo l) (hu : POk X hi u) : EOk X (.Subscript e (.Slice lo hi none p2) pos) true (cSlT f l u) := by
  obtain ⟨t, p, r⟩ := he
  obtain ⟨tl, pl, rl⟩ := hl
  obtain ⟨tu, pu, ru⟩ := hu
  refine ⟨_, pe_slice sl_tup p pl pu, fun F0 H0 ev σ F H d Q s he q => ?_⟩
  unfold cSlT at he
  split at he
  · rename_i ds h1
    obtain ⟨lo', h2, he⟩ := Option.bind_eq_some_iff.mp he
    obtain ⟨hi', h3, he⟩ := Option.bind_eq_some_iff.mp he
    obtain ⟨hw, rfl⟩ := of_ite he
    refine r F0 H0 ev σ F H _ _ s h1 fun v F1 H1 x1 r1 z1 => ?_
    refine rl F0 H0 ev σ F1 H1 _ _ (s.up x1) h2 fun F2 H2 x2 => ?_
    refine ru F0 H0 ev σ F2 H2 _ _ ((s.up x1).up x2) h3 fun F3 H3 x3 => ?_
    have s3 := ((s.up x1).up x2).up x3
    obtain ⟨p, vs, rfl, e1, rr⟩ := (((z1 rfl).mono x2.fr).mono x3.fr).tup_inv
    refine ⟨p, vs, rfl, SqT.of (s3.sub _ _ e1), by rw [rr.len]; exact hw, fun l nl => ?_⟩
    have x := (x1.trans x2).trans x3
    have y : Ext F3 H3 (upd F3 l (.tup (cutV vs lo' hi'))) (upd H3 l (.tup (cutV vs lo' hi'))) := .alloc s3.sub nl
    exact q _ _ _ (x.trans y) (.tup upd_same (((rr.cut _ _).mono s3.sub).mono y.keep)) fun _ => .tup upd_same ((rr.cut _ _).mono y.fr)
  · cases he
/-- xs[::-1] -/
def kRev (f : EV → Option D) : EV → Option (List D) := fun ev => match f ev with
  | some (.lst xs) => some xs.reverse
  | _ => none
theorem f_rev {k : Nat} {p1 p2 p3 : Pos} (he : EOk X e true f) : FOk X (.Subscript e (.Slice none none (some (.UnaryOp .USub (.Constant (.int 1) k p1) p2)) p3) pos) (kRev f) := by
  obtain ⟨t, p, r⟩ := he
  refine ⟨_, pe_revL p, fun F0 H0 ev σ F H xs Q s he q => ?_⟩
  unfold kRev at he
  split at he
  · rename_i ds h1
    cases he
    refine r F0 H0 ev σ F H _ _ s h1 fun v F1 H1 x1 r1 z1 => ?_
    have s1 := s.up x1
    obtain ⟨p, vs, rfl, e1, rr⟩ := (z1 rfl).lst_inv
    exact ⟨p, vs, rfl, SqL.of (s1.sub _ _ e1), fun l nl => q l _ F1 _ (x1.trans (.allocH s1.sub nl)) (x1.keep.free nl) (s1.sub.free nl) upd_same rr.reverse⟩
  · cases he
def kRevo (i : Nat) : EV → Option (List D) := fun ev => match ev[i]? with
  | some (.own xs) => some xs.reverse
  | _ => none
theorem f_revo {i k : Nat} {x : Str} {p p1 p2 p3 : Pos} (hp : PE X (.Name x p) (tVar i)) : FOk X (.Subscript (.Name x p) (.Slice none none (some (.UnaryOp .USub (.Constant (.int 1) k p1) p2)) p3) pos) (kRevo i) := by
  refine ⟨_, pe_revL hp, fun F0 H0 ev σ F H xs Q s he q => ?_⟩
  unfold kRevo at he
  split at he
  · rename_i ds h1
    cases he
    obtain ⟨a, vs, g2, g3, g4, g5, g6⟩ := s.own i _ h1
    exact ⟨.ref a, g2, a, vs, rfl, SqL.of g3, fun l nl => q l _ F _ (.allocH s.sub nl) nl (s.sub.free nl) upd_same g6.reverse⟩
  · cases he
/-- xs + ys, lists -/
def kCat (f g : EV → Option D) : EV → Option (List D) := fun ev => match f ev, g ev with
  | some (.lst xs), some (.lst ys) => if xs.length + ys.length ≤ 16777216 then some (xs ++ ys) else none
  | _, _ => none
theorem f_cat (ha : EOk X a true f) (hb : EOk X b true g) : FOk X (.BinOp a .Add b pos) (kCat f g) := by
  obtain ⟨ta, pa, ra⟩ := ha
  obtain ⟨tb, pb, rb⟩ := hb
  refine ⟨_, pe_op op_cat pa pb, fun F0 H0 ev σ F H xs Q s he q => ?_⟩
  unfold kCat at he
  split at he
  · rename_i ds es h1 h2
    obtain ⟨hl, rfl⟩ := of_ite he
    refine ra F0 H0 ev σ F H _ _ s h1 fun v F1 H1 x1 r1 z1 => ?_
    refine rb F0 H0 ev σ F1 H1 _ _ (s.up x1) h2 fun u F2 H2 x2 r2 z2 => ?_
    have s2 := (s.up x1).up x2
    obtain ⟨p, vs, rfl, e1, rr⟩ := ((z1 rfl).mono x2.fr).lst_inv
    obtain ⟨p', ws, rfl, e2, rr'⟩ := (z2 rfl).lst_inv
    have x := x1.trans x2
    exact ⟨p, p', vs, ws, rfl, rfl, s2.sub _ _ e1, s2.sub _ _ e2, by rw [rr.len, rr'.len, sizeLine_eq]; exact hl, fun l nl =>
      q l _ F2 _ (x.trans (.allocH s2.sub nl)) (x.keep.free nl) (s2.sub.free nl) upd_same (rr.append rr')⟩
  · cases he
/-- [x] * n -/
def kRep (f g : EV → Option D) : EV → Option (List D) := fun ev => match f ev, g ev with
  | some (.lst xs), some (.int n) => if -(2 ^ 63) ≤ n ∧ n < 2 ^ 63 ∧ xs.length * n.toNat ≤ 16777216 then some (List.replicate n.toNat xs).flatten else none
  | _, _ => none
theorem RepL.rep {H : Hp} {vs : List V} {ds : List D} (r : RepL K H vs ds) : ∀ k : Nat, RepL K H (List.replicate k vs).flatten (List.replicate k ds).flatten
  | 0 => .nil
  | k + 1 => by
    rw [List.replicate_succ, List.replicate_succ, List.flatten_cons, List.flatten_cons]
    exact r.append (r.rep k)
theorem f_rep (ha : EOk X a true f) (hb : EOk X b fb g) : FOk X (.BinOp a .Mult b pos) (kRep f g) := by
  obtain ⟨ta, pa, ra⟩ := ha
  obtain ⟨tb, pb, rb⟩ := hb
  refine ⟨_, pe_op op_rep pa pb, fun F0 H0 ev σ F H xs Q s he q => ?_⟩
  unfold kRep at he
  split at he
  · rename_i ds n h1 h2
    obtain ⟨⟨g1, g2, hl⟩, rfl⟩ := of_ite he
    refine ra F0 H0 ev σ F H _ _ s h1 fun v F1 H1 x1 r1 z1 => ?_
    refine rb F0 H0 ev σ F1 H1 _ _ (s.up x1) h2 fun u F2 H2 x2 r2 z2 => ?_
    have s2 := (s.up x1).up x2
    obtain ⟨p, vs, rfl, e1, rr⟩ := ((z1 rfl).mono x2.fr).lst_inv
    cases r2
    have x := x1.trans x2
    exact ⟨p, n, vs, rfl, rfl, s2.sub _ _ e1, g1, g2, by rw [rr.len, sizeLine_eq]; exact hl, fun l nl =>
      q l _ F2 _ (x.trans (.allocH s2.sub nl)) (x.keep.free nl) (s2.sub.free nl) upd_same (rr.rep _)⟩
  · cases he

/-! ### calls of built-ins -/
def CROk (K : PySem.W.Frag) (r : List V → Hp → VK → Prop) (op : List D → Option D) : Prop :=
  ∀ (F H : Hp) (vs : List V) (ds : List D) (d : D) (Q : VK), Same F H → RepL K H vs ds → op ds = some d →
    (∀ v F' H', Ext F H F' H' → Rep K H' v d → (RepL K F vs ds → Rep K F' v d) → Q v H') → r vs H Q
def cCB (op : List D → Option D) (k : EV → Option (List D)) : EV → Option D := fun ev => (k ev).bind op
theorem runCB {r : List V → Hp → VK → Prop} {op : List D → Option D} {t : TA} (hr : CROk K r op) (ha : ARun K fz k t) : ERun K fz (cCB op k) (tCB r t) := by
  intro F0 H0 ev σ F H d Q s he q
  obtain ⟨ds, h1, h2⟩ := Option.bind_eq_some_iff.mp he
  refine ha F0 H0 ev σ F H ds _ s h1 fun vs F1 H1 x1 r1 z1 => ?_
  exact hr F1 H1 vs ds d Q (s.up x1).sub r1 h2 fun v F2 H2 x2 r2 z2 => q v F2 H2 (x1.trans x2) r2 fun z => z2 (z1 z)
theorem e_cb {id : String} {x : Str} {p : Pos} {r : List V → Hp → VK → Prop} {op : List D → Option D} (hc : CallR X (.builtin id) r) (hr : CROk X.K r op) (hg : Gl X x) (hm : X.mg x = none) (hv : bootBuiltins x = some (.builtin id))
    (ha : AOk X (e :: es) fz k) (hn : x ≠ "__name__" := by decide) (hdb : (x == ("__debug__" : Str)) = false := by decide)
    (he : starEach (e :: es) X.env = (false, eval e X.env) :: starEach es X.env := by rfl) (hpl : (backTo pos (starEach es X.env)).any (·.1) = false := by rfl) : EOk X (.Call (.Name x p) (e :: es) [] pos) fz (cCB op k) := by
  obtain ⟨t, pa, ra⟩ := ha
  exact ⟨_, pe_callB hc hg hm hv pa hn hdb he hpl, runCB hr ra⟩
theorem e_cty {T : String} {x : Str} {p : Pos} {r : List V → Hp → VK → Prop} {op : List D → Option D} (hc : CallR X (.type T) r) (hr : CROk X.K r op) (hg : Gl X x) (hm : X.mg x = none) (hv : bootBuiltins x = some (.type T))
    (ha : AOk X (e :: es) fz k) (hn : x ≠ "__name__" := by decide) (hdb : (x == ("__debug__" : Str)) = false := by decide)
    (he : starEach (e :: es) X.env = (false, eval e X.env) :: starEach es X.env := by rfl) (hpl : (backTo pos (starEach es X.env)).any (·.1) = false := by rfl) : EOk X (.Call (.Name x p) (e :: es) [] pos) fz (cCB op k) := by
  obtain ⟨t, pa, ra⟩ := ha
  exact ⟨_, pe_callTy hc hg hm hv pa hn hdb he hpl, runCB hr ra⟩
def bLen : List D → Option D
  | [.lst xs] => some (.int xs.length)
  | [.tup xs] => some (.int xs.length)
  | [.scr ns] => some (.int ns.length)
  | _ => none
def bInt : List D → Option D
  | [.int i] => some (.int i)
  | [.bl k] => some (.int (if k then 1 else 0))
  | _ => none
def bAbs : List D → Option D
  | [.int i] => some (.int (if i < 0 then -i else i))
  | _ => none
def bMax : List D → Option D
  | [.int i, .int j] => some (.int (if j > i then j else i))
  | _ => none
def bMin : List D → Option D
  | [.int i, .int j] => some (.int (if j < i then j else i))
  | _ => none
def asBs : List D → Option (List Bool)
  | [] => some []
  | .bl b :: ds => (asBs ds).map (b :: ·)
  | _ :: _ => none
def bAll : List D → Option D
  | [.lst xs] => (asBs xs).map fun bs => .bl (bs.all id)
  | _ => none
def bAny : List D → Option D
  | [.lst xs] => (asBs xs).map fun bs => .bl (bs.any id)
  | _ => none
def asIs : List D → Option (List Int)
  | [] => some []
  | .int b :: ds => (asIs ds).map (b :: ·)
  | _ :: _ => none
def bSum : List D → Option D
  | [.lst xs] => (asIs xs).map fun bs => .int bs.sum
  | _ => none
theorem RepL.one {H : Hp} {vs : List V} {d : D} (r : RepL K H vs [d]) : ∃ v, vs = [v] ∧ Rep K H v d := by
  cases r with
  | cons h r =>
    cases r
    exact ⟨_, rfl, h⟩
theorem RepL.two {H : Hp} {vs : List V} {d e : D} (r : RepL K H vs [d, e]) : ∃ v w, vs = [v, w] ∧ Rep K H v d ∧ Rep K H w e := by
  cases r with
  | cons h r =>
    obtain ⟨w, rfl, h2⟩ := r.one
    exact ⟨_, _, rfl, h, h2⟩
theorem cr_len : CROk K (fun xs H Q => ∃ p ys, xs = [.ref p] ∧ (SqL K H p ys ∨ SqT K H p ys) ∧ Q (.int ys.length) H) bLen := by
  intro F H vs ds d Q s r ho q
  unfold bLen at ho
  split at ho
  · cases ho
    obtain ⟨v, rfl, r0⟩ := r.one
    obtain ⟨p, ws, rfl, h1, rr⟩ := r0.lst_inv
    exact ⟨p, ws, rfl, .inl (SqL.of h1), by rw [rr.len]; exact q _ F H (.refl s) (.int _) fun _ => .int _⟩
  · cases ho
    obtain ⟨v, rfl, r0⟩ := r.one
    obtain ⟨p, ws, rfl, h1, rr⟩ := r0.tup_inv
    exact ⟨p, ws, rfl, .inr (SqT.of h1), by rw [rr.len]; exact q _ F H (.refl s) (.int _) fun _ => .int _⟩
  · cases ho
    obtain ⟨v, rfl, r0⟩ := r.one
    cases r0
    rename_i h1
    exact ⟨_, _, rfl, .inl h1, by rw [List.length_map]; exact q _ F H (.refl s) (.int _) fun _ => .int _⟩
  · cases ho
theorem cr_int : CROk K (fun xs H Q => (∃ i, xs = [.int i] ∧ Q (.int i) H) ∨ ∃ k, xs = [.bl k] ∧ Q (.int (if k then 1 else 0)) H) bInt := by
  intro F H vs ds d Q s r ho q
  unfold bInt at ho
  split at ho
  · cases ho
    obtain ⟨v, rfl, r0⟩ := r.one
    cases r0
    exact .inl ⟨_, rfl, q _ F H (.refl s) (.int _) fun _ => .int _⟩
  · cases ho
    obtain ⟨v, rfl, r0⟩ := r.one
    cases r0
    exact .inr ⟨_, rfl, q _ F H (.refl s) (.int _) fun _ => .int _⟩
  · cases ho
theorem cr_abs : CROk K (fun xs H Q => ∃ i, xs = [.int i] ∧ Q (.int (if i < 0 then -i else i)) H) bAbs := by
  intro F H vs ds d Q s r ho q
  unfold bAbs at ho
  split at ho
  · cases ho
    obtain ⟨v, rfl, r0⟩ := r.one
    cases r0
    exact ⟨_, rfl, q _ F H (.refl s) (.int _) fun _ => .int _⟩
  · cases ho
theorem cr_max2 : CROk K (fun xs H Q => ∃ i j, xs = [.int i, .int j] ∧ Q (.int (if j > i then j else i)) H) bMax := by
  intro F H vs ds d Q s r ho q
  unfold bMax at ho
  split at ho
  · cases ho
    obtain ⟨v, w, rfl, r1, r2⟩ := r.two
    cases r1
    cases r2
    exact ⟨_, _, rfl, q _ F H (.refl s) (.int _) fun _ => .int _⟩
  · cases ho
theorem cr_min2 : CROk K (fun xs H Q => ∃ i j, xs = [.int i, .int j] ∧ Q (.int (if j < i then j else i)) H) bMin := by
  intro F H vs ds d Q s r ho q
  unfold bMin at ho
  split at ho
  · cases ho
    obtain ⟨v, w, rfl, r1, r2⟩ := r.two
    cases r1
    cases r2
    exact ⟨_, _, rfl, q _ F H (.refl s) (.int _) fun _ => .int _⟩
  · cases ho
theorem asBs_rep {H : Hp} : ∀ {ds : List D} {vs : List V} {bs : List Bool}, asBs ds = some bs → RepL K H vs ds → vs = bs.map V.bl
  | [], _, _, e, r => by
    cases e
    cases r
    rfl
  | .bl b :: ds, _, _, e, r => by
    obtain ⟨bs, h1, rfl⟩ := Option.map_eq_some_iff.mp e
    cases r with
    | cons h r =>
      cases h
      rw [asBs_rep h1 r, List.map_cons]
  | .non :: _, _, _, e, _ => nomatch e
  | .int _ :: _, _, _, e, _ => nomatch e
  | .str _ :: _, _, _, e, _ => nomatch e
  | .lst _ :: _, _, _, e, _ => nomatch e
  | .tup _ :: _, _, _, e, _ => nomatch e
  | .scr _ :: _, _, _, e, _ => nomatch e
theorem asIs_rep {H : Hp} : ∀ {ds : List D} {vs : List V} {bs : List Int}, asIs ds = some bs → RepL K H vs ds → vs = bs.map V.int
  | [], _, _, e, r => by
    cases e
    cases r
    rfl
  | .int b :: ds, _, _, e, r => by
    obtain ⟨bs, h1, rfl⟩ := Option.map_eq_some_iff.mp e
    cases r with
    | cons h r =>
      cases h
      rw [asIs_rep h1 r, List.map_cons]
  | .non :: _, _, _, e, _ => nomatch e
  | .bl _ :: _, _, _, e, _ => nomatch e
  | .str _ :: _, _, _, e, _ => nomatch e
  | .lst _ :: _, _, _, e, _ => nomatch e
  | .tup _ :: _, _, _, e, _ => nomatch e
  | .scr _ :: _, _, _, e, _ => nomatch e
theorem r_all : CROk K (rAll K) bAll := by
  intro F H vs ds d Q s r ho q
  unfold bAll at ho
  split at ho
  · obtain ⟨bs, h1, rfl⟩ := Option.map_eq_some_iff.mp ho
    obtain ⟨v, rfl, r0⟩ := r.one
    obtain ⟨p, ws, rfl, h2, rr⟩ := r0.lst_inv
    exact ⟨p, bs, rfl, SqL.of (by rw [← asBs_rep h1 rr]; exact h2), q _ F H (.refl s) (.bl _) fun _ => .bl _⟩
  · cases ho
theorem r_any : CROk K (rAny K) bAny := by
  intro F H vs ds d Q s r ho q
  unfold bAny at ho
  split at ho
  · obtain ⟨bs, h1, rfl⟩ := Option.map_eq_some_iff.mp ho
    obtain ⟨v, rfl, r0⟩ := r.one
    obtain ⟨p, ws, rfl, h2, rr⟩ := r0.lst_inv
    exact ⟨p, bs, rfl, SqL.of (by rw [← asBs_rep h1 rr]; exact h2), q _ F H (.refl s) (.bl _) fun _ => .bl _⟩
  · cases ho
theorem r_sum : CROk K (rSum K) bSum := by
  intro F H vs ds d Q s r ho q
  unfold bSum at ho
  split at ho
  · obtain ⟨bs, h1, rfl⟩ := Option.map_eq_some_iff.mp ho
    obtain ⟨v, rfl, r0⟩ := r.one
    obtain ⟨p, ws, rfl, h2, rr⟩ := r0.lst_inv
    exact ⟨p, bs, rfl, SqL.of (by rw [← asIs_rep h1 rr]; exact h2), q _ F H (.refl s) (.int _) fun _ => .int _⟩
  · cases ho
/-- list(x), a new list -/
def kOf (k : EV → Option (List D)) : EV → Option (List D) := fun ev => match k ev with
  | some [.lst xs] => some xs
  | some [.tup xs] => some xs
  | _ => none
theorem f_list {x : Str} {p : Pos} (hg : Gl X x) (hm : X.mg x = none) (hv : bootBuiltins x = some (.type "list"))
    (ha : AOk X [e] true k) (hn : x ≠ "__name__" := by decide) (hdb : (x == ("__debug__" : Str)) = false := by decide)
    (he : starEach [e] X.env = (false, eval e X.env) :: starEach [] X.env := by rfl) (hpl : (backTo pos (starEach [] X.env)).any (·.1) = false := by rfl) : FOk X (.Call (.Name x p) [e] [] pos) (kOf k) := by
  obtain ⟨t, pa, ra⟩ := ha
  refine ⟨_, pe_callTy call_list_of hg hm hv pa hn hdb he hpl, fun F0 H0 ev σ F H xs Q s he q => ?_⟩
  unfold kOf at he
  split at he
  · rename_i ds h1
    cases he
    refine ra F0 H0 ev σ F H _ _ s h1 fun vs F1 H1 x1 r1 z1 => ?_
    have s1 := s.up x1
    obtain ⟨v, rfl, r0⟩ := (z1 rfl).one
    obtain ⟨p, ws, rfl, h2, rr⟩ := r0.lst_inv
    exact ⟨p, ws, rfl, .inl (SqL.of (s1.sub _ _ h2)), fun l nl => q l _ F1 _ (x1.trans (.allocH s1.sub nl)) (x1.keep.free nl) (s1.sub.free nl) upd_same rr⟩
  · rename_i ds h1
    cases he
    refine ra F0 H0 ev σ F H _ _ s h1 fun vs F1 H1 x1 r1 z1 => ?_
    have s1 := s.up x1
    obtain ⟨v, rfl, r0⟩ := (z1 rfl).one
    obtain ⟨p, ws, rfl, h2, rr⟩ := r0.tup_inv
    exact ⟨p, ws, rfl, .inr (SqT.of (s1.sub _ _ h2)), fun l nl => q l _ F1 _ (x1.trans (.allocH s1.sub nl)) (x1.keep.free nl) (s1.sub.free nl) upd_same rr⟩
  · cases he

/-! ### calls of the program's own defs -/
def FSp (K : PySem.W.Frag) (n : Nat) (g : List D → Option D) : Sp := fun vs H Q _ => vs.length = n ∧ ∃ F ds d, Same F H ∧ RepL K F vs ds ∧ g ds = some d ∧ ∀ v F' H', Ext F H F' H' → Rep K F' v d → Q v H'
theorem e_call {CX : CXT} {x : Str} {p : Pos} {lv n : Nat} {fn : Addr} {fd : FuncData} {ps : List Str} {o : List D → Option D} (G : FnOk X.prog X.w X.K X.mg X.base CX lv fn fd ps (FSp X.K n o)) (hx : Passes CX X (fun _ _ _ => False)) (hr : Room lv X.A) (hg : Gl X x) (hm : X.mg x = some (.ref fn))
    (hk : PySem.W.keepIn X.K (.ref fn) = true) (hb : Binds X.K fd ps []) (ha : AOk X (e :: es) fz k) (hn : (e :: es).length = n) (hdb : (x == ("__debug__" : Str)) = false := by decide)
    (he : starEach (e :: es) X.env = (false, eval e X.env) :: starEach es X.env := by rfl) (hpl : (backTo pos (starEach es X.env)).any (·.1) = false := by rfl)
    (hl : ∀ ev ds, k ev = some ds → ds.length = (e :: es).length) : EOk X (.Call (.Name x p) (e :: es) [] pos) fz (cCB o k) := by
  obtain ⟨t, pa, ra⟩ := ha
  refine ⟨_, pe_call G hr hg hm hk hb .nil hx pa hdb he hpl, fun F0 H0 ev σ F H d Q s he q => ?_⟩
  obtain ⟨ds, h1, h2⟩ := Option.bind_eq_some_iff.mp he
  refine ra F0 H0 ev σ F H ds _ s h1 fun vs F1 H1 x1 r1 z1 => ?_
  have hlen : (vs ++ []).length = n := by rw [List.append_nil, r1.len, hl ev ds h1, hn]
  refine ⟨hlen, ?_⟩
  rw [List.append_nil]
  have s1 := s.up x1
  cases hz : fz with
  | true => exact ⟨F1, ds, d, s1.sub, z1 hz, h2, fun v F' H' x r => q v F' H' (x1.trans x) (r.mono x.sub) fun _ => r⟩
  | false => exact ⟨H1, ds, d, .refl _, r1, h2, fun v F' H' x r => q v F1 H' (x1.trans ⟨.refl _, s1.sub.trans x.keep, x.keep, fun _ => .inl rfl⟩) (r.mono x.sub) fun z => Bool.noConfusion (hz.symm.trans z)⟩
theorem aNil_len {ev : EV} {ds : List D} (h : aNil ev = some ds) : ds.length = 0 := by
  cases h
  rfl
theorem aCons_len {n : Nat} (h : ∀ ev ds, k ev = some ds → ds.length = n) : ∀ ev ds, aCons f k ev = some ds → ds.length = n + 1 := by
  intro ev ds e
  obtain ⟨x, h1, e⟩ := Option.bind_eq_some_iff.mp e
  obtain ⟨xs, h2, rfl⟩ := Option.map_eq_some_iff.mp e
  rw [List.length_cons, h ev xs h2]
theorem AOk.len (h : AOk X es fz k) : ∀ ev ds, k ev = some ds → True := fun _ _ _ => trivial
end
end Z


set_option maxRecDepth 100000
set_option maxHeartbeats 4000000
/-! Z4: what is walked, targets, comprehensions, statements, defs. -/
namespace Z
open PySem PySem.Spec PyProof.Rows L2
section
variable {X : Cx} {a b c e tg iter elt : Expr} {fz fa fb fc : Bool} {f g h : EV → Option D} {pos : Pos} {K : PySem.W.Frag} {mg : Str → Option Value} {W : WX}

/-! ### what is walked: B is what must stay -/
structure WalkD (K : PySem.W.Frag) (J : It) (Fb B : Hp) (ds : List D) : Prop where
  go : ∀ (i : Nat) H, i < ds.length → Same B H → J.go i H
  stop : ∀ H, Same B H → J.stop ds.length H
  yld : ∀ (i : Nat) F H x H', i < ds.length → Same Fb F → Same F H → Same B H → J.yld i H x H' → ∃ F' d, Ext F H F' H' ∧ ds[i]? = some d ∧ Rep K F' x d
def IRun (K : PySem.W.Frag) (fz : Bool) (fi : EV → Option (List D)) (wi : TI) : Prop :=
  ∀ (F0 H0 : Hp) (ev : EV) (σ : L2.St) (F H : Hp) (ds : List D) (R : It → Hp → Prop), SR K F0 H0 ev σ F H → fi ev = some ds →
    (∀ J F' H', Ext F H F' H' → WalkD K J F' (if fz = true then F' else H') ds → R J H') → wi σ H R
def IOk (X : Cx) (tg iter : Expr) (fz : Bool) (fi : EV → Option (List D)) : Prop := ∃ wi, PI X tg iter wi ∧ IRun X.K fz fi wi
theorem walkD_list {l : Addr} {vs : List V} {ds : List D} {Fb B : Hp} (hB : B l = some (.lst vs)) (r : RepL K Fb vs ds) : WalkD K (Itl K l) Fb B ds := by
  have w := walk_list (K := K) (a := l) (xs := vs)
  have hl := r.len
  refine ⟨fun i H hi s => w.goes i H (by omega) (SqL.of (s _ _ hB)), fun H s => by rw [← hl]; exact w.stops H (SqL.of (s _ _ hB)), fun i F H x H' hi sF sH s y => ?_⟩
  obtain ⟨rfl, hx⟩ := w.yields i H x H' (by omega) (SqL.of (s _ _ hB)) y
  obtain ⟨d, hd, rd⟩ := r.getV hx
  exact ⟨F, d, .refl sH, hd, rd.mono sF⟩
theorem walkD_tup {l : Addr} {vs : List V} {ds : List D} {Fb B : Hp} (hB : B l = some (.tup vs)) (r : RepL K Fb vs ds) : WalkD K (Itt K l) Fb B ds := by
  have w := walk_tup (K := K) (a := l) (xs := vs)
  have hl := r.len
  refine ⟨fun i H hi s => w.goes i H (by omega) (SqT.of (s _ _ hB)), fun H s => by rw [← hl]; exact w.stops H (SqT.of (s _ _ hB)), fun i F H x H' hi sF sH s y => ?_⟩
  obtain ⟨rfl, hx⟩ := w.yields i H x H' (by omega) (SqT.of (s _ _ hB)) y
  obtain ⟨d, hd, rd⟩ := r.getV hx
  exact ⟨F, d, .refl sH, hd, rd.mono sF⟩
def iLst (f : EV → Option D) : EV → Option (List D) := fun ev => match f ev with
  | some (.lst xs) => some xs
  | _ => none
def iTuple (f : EV → Option D) : EV → Option (List D) := fun ev => match f ev with
  | some (.tup xs) => some xs
  | _ => none
/-- a frozen list -/
theorem i_list (he : EOk X iter true f) : IOk X tg iter true (iLst f) := by
  obtain ⟨t, p, r⟩ := he
  refine ⟨_, pi_list p, fun F0 H0 ev σ F H ds R s he q => ?_⟩
  unfold iLst at he
  split at he
  · rename_i ds' h1
    cases he
    refine r F0 H0 ev σ F H _ _ s h1 fun v F1 H1 x1 r1 z1 => ?_
    obtain ⟨l, vs, rfl, e1, rr⟩ := (z1 rfl).lst_inv
    have s1 := s.up x1
    exact ⟨l, rfl, ⟨_, SqL.of (s1.sub _ _ e1)⟩, q _ F1 H1 x1 (by rw [if_pos rfl]; exact walkD_list e1 rr)⟩
  · cases he
theorem i_tup (he : EOk X iter true f) : IOk X tg iter true (iTuple f) := by
  obtain ⟨t, p, r⟩ := he
  refine ⟨_, pi_tup p, fun F0 H0 ev σ F H ds R s he q => ?_⟩
  unfold iTuple at he
  split at he
  · rename_i ds' h1
    cases he
    refine r F0 H0 ev σ F H _ _ s h1 fun v F1 H1 x1 r1 z1 => ?_
    obtain ⟨l, vs, rfl, e1, rr⟩ := (z1 rfl).tup_inv
    have s1 := s.up x1
    exact ⟨l, rfl, ⟨_, SqT.of (s1.sub _ _ e1)⟩, q _ F1 H1 x1 (by rw [if_pos rfl]; exact walkD_tup e1 rr)⟩
  · cases he
/-- an own list, walked by a comprehension -/
def iOwn (i : Nat) : EV → Option (List D) := fun ev => match ev[i]? with
  | some (.own xs) => some xs
  | _ => none
theorem i_own {i : Nat} {x : Str} {p : Pos} (hp : PE X (.Name x p) (tVar i)) : IOk X tg (.Name x p) false (iOwn i) := by
  refine ⟨_, pi_list hp, fun F0 H0 ev σ F H ds R s he q => ?_⟩
  unfold iOwn at he
  split at he
  · rename_i xs h1
    cases he
    obtain ⟨l, vs, g2, g3, g4, g5, g6⟩ := s.own i _ h1
    exact ⟨.ref l, g2, l, rfl, ⟨_, SqL.of g3⟩, q _ F H (.refl s.sub) (by rw [if_neg (by decide)]; exact walkD_list g3 g6)⟩
  · cases he
/-- range -/
def rangeD (i j : Int) : List D := (List.range (j - i).toNat).map fun k => .int (i + (k : Nat))
theorem walkD_range {lo hi : Int} {Fb B : Hp} : WalkD K (Itr lo (hi - lo).toNat) Fb B (rangeD lo hi) := by
  have hl : (rangeD lo hi).length = (hi - lo).toNat := by
    unfold rangeD
    rw [List.length_map, List.length_range]
  refine ⟨fun i H hi _ => by rw [hl] at hi; exact hi, fun H _ => by rw [hl]; exact Nat.le_refl _, fun i F H x H' hi sF sH s y => ?_⟩
  rw [hl] at hi
  obtain ⟨rfl, rfl⟩ := y
  refine ⟨F, .int (lo + (i : Nat)), .refl sH, ?_, .int _⟩
  unfold rangeD
  rw [List.getElem?_map, List.getElem?_range hi]
  rfl
def iR1 (k : EV → Option (List D)) : EV → Option (List D) := fun ev => match k ev with
  | some [.int j] => if -(2 ^ 62) ≤ j ∧ j < 2 ^ 62 then some (rangeD 0 j) else none
  | _ => none
def iR2 (k : EV → Option (List D)) : EV → Option (List D) := fun ev => match k ev with
  | some [.int i, .int j] => if -(2 ^ 62) ≤ i ∧ i < 2 ^ 62 ∧ -(2 ^ 62) ≤ j ∧ j < 2 ^ 62 then some (rangeD i j) else none
  | _ => none
variable {k : EV → Option (List D)}
theorem i_range1 {p pos : Pos} (hg : Gl X "range") (hm : X.mg "range" = none) (ha : AOk X [a] fz k) (hs : starEach [a] X.env = [(false, eval a X.env)] := by rfl) : IOk X tg (.Call (.Name "range" p) [a] [] pos) true (iR1 k) := by
  obtain ⟨t, pa, ra⟩ := ha
  refine ⟨_, pi_range1 hg hm pa hs, fun F0 H0 ev σ F H ds R s he q => ?_⟩
  unfold iR1 at he
  split at he
  · rename_i j h1
    obtain ⟨⟨h2, h3⟩, rfl⟩ := of_ite he
    refine ra F0 H0 ev σ F H _ _ s h1 fun vs F1 H1 x1 r1 z1 => ?_
    obtain ⟨v, rfl, r0⟩ := r1.one
    cases r0
    refine ⟨j, rfl, h2, h3, q _ F1 H1 x1 ?_⟩
    have w := walkD_range (K := X.K) (lo := 0) (hi := j) (Fb := F1) (B := if true = true then F1 else H1)
    rw [Int.sub_zero] at w
    exact w
  · cases he
theorem i_range2 {p pos : Pos} (hg : Gl X "range") (hm : X.mg "range" = none) (ha : AOk X [a, b] fz k) (hs : starEach [a, b] X.env = [(false, eval a X.env), (false, eval b X.env)] := by rfl) (hs2 : starEach [b] X.env = [(false, eval b X.env)] := by rfl) :
    IOk X tg (.Call (.Name "range" p) [a, b] [] pos) true (iR2 k) := by
  obtain ⟨t, pa, ra⟩ := ha
  refine ⟨_, pi_range2 hg hm pa hs hs2, fun F0 H0 ev σ F H ds R s he q => ?_⟩
  unfold iR2 at he
  split at he
  · rename_i i j h1
    obtain ⟨h2, rfl⟩ := of_ite he
    refine ra F0 H0 ev σ F H _ _ s h1 fun vs F1 H1 x1 r1 z1 => ?_
    obtain ⟨v, w, rfl, r0, r0'⟩ := r1.two
    cases r0
    cases r0'
    exact ⟨i, j, rfl, h2, q _ F1 H1 x1 walkD_range⟩
  · cases he
/-- enumerate(xs), a frozen list -/
def enumD (xs : List D) : List D := xs.zipIdx.map fun p => .tup [.int (p.2 : Nat), p.1]
theorem walkD_enum {l : Addr} {vs : List V} {ds : List D} {Fb B : Hp} (hB : B l = some (.lst vs)) (r : RepL K Fb vs ds) : WalkD K (Ite K l) Fb B (enumD ds) := by
  have w := walk_enum (K := K) (a := l) (xs := vs)
  have hl := r.len
  have hn : (enumD ds).length = ds.length := by
    unfold enumD
    rw [List.length_map, List.length_zipIdx]
  refine ⟨fun i H hi s => w.goes i H (by omega) (SqL.of (s _ _ hB)), fun H s => by rw [hn, ← hl]; exact w.stops H (SqL.of (s _ _ hB)), fun i F H x H' hi sF sH s y => ?_⟩
  obtain ⟨T, x1, y1, rfl, nT, rfl, h1, h2⟩ := w.yields i H x H' (by omega) (SqL.of (s _ _ hB)) y
  cases h1
  obtain ⟨d, hd, rd⟩ := r.getV h2
  refine ⟨upd F T (.tup [.int (i : Nat), y1]), .tup [.int (i : Nat), d], .alloc sH nT, ?_, .tup upd_same ?_⟩
  · unfold enumD
    rw [List.getElem?_map, List.getElem?_zipIdx, hd, Nat.zero_add]
    rfl
  · exact .cons (.int _) (.cons ((rd.mono sF).mono (Ext.alloc sH nT).fr) .nil)
def iEn (k : EV → Option (List D)) : EV → Option (List D) := fun ev => match k ev with
  | some [.lst xs] => some (enumD xs)
  | _ => none
theorem i_enum {p pos tpos : Pos} {elts : List Expr} {kk : Nat} (hg : Gl X "enumerate") (hm : X.mg "enumerate" = none) (ha : AOk X [e] true k) (hs : starEach [e] X.env = [(false, eval e X.env)] := by rfl) :
    IOk X (.Tuple elts kk tpos) (.Call (.Name "enumerate" p) [e] [] pos) true (iEn k) := by
  obtain ⟨t, pa, ra⟩ := ha
  refine ⟨_, pi_enum hg hm pa hs, fun F0 H0 ev σ F H ds R s he q => ?_⟩
  unfold iEn at he
  split at he
  · rename_i xs h1
    cases he
    refine ra F0 H0 ev σ F H _ _ s h1 fun vs F1 H1 x1 r1 z1 => ?_
    obtain ⟨v, rfl, r0⟩ := (z1 rfl).one
    obtain ⟨l, ws, rfl, e1, rr⟩ := r0.lst_inv
    have s1 := s.up x1
    exact ⟨l, ws, rfl, SqL.of (s1.sub _ _ e1), q _ F1 H1 x1 (by rw [if_pos rfl]; exact walkD_enum e1 rr)⟩
  · cases he
/-- zip(xs, ys), frozen lists -/
def zipD (xs ys : List D) : List D := (xs.zip ys).map fun p => .tup [p.1, p.2]
theorem walkD_zip {l m : Addr} {vs ws : List V} {ds es : List D} {Fb B : Hp} (hB : B l = some (.lst vs)) (hB2 : B m = some (.lst ws)) (r : RepL K Fb vs ds) (r2 : RepL K Fb ws es) : WalkD K (Itz K l m) Fb B (zipD ds es) := by
  have hl := r.len
  have hl2 := r2.len
  have hn : (zipD ds es).length = min vs.length ws.length := by
    unfold zipD
    rw [List.length_map, List.length_zip, hl, hl2]
  have w := walk_zip (K := K) (a := l) (b := m) (xs := vs) (ys := ws) rfl
  refine ⟨fun i H hi s => w.goes i H (by omega) ⟨SqL.of (s _ _ hB), SqL.of (s _ _ hB2)⟩, fun H s => by rw [hn]; exact w.stops H ⟨SqL.of (s _ _ hB), SqL.of (s _ _ hB2)⟩, fun i F H x H' hi sF sH s y => ?_⟩
  obtain ⟨T, x1, y1, rfl, nT, rfl, h1, h2⟩ := w.yields i H x H' (by omega) ⟨SqL.of (s _ _ hB), SqL.of (s _ _ hB2)⟩ y
  obtain ⟨d, hd, rd⟩ := r.getV h1
  obtain ⟨d2, hd2, rd2⟩ := r2.getV h2
  refine ⟨upd F T (.tup [x1, y1]), .tup [d, d2], .alloc sH nT, ?_, .tup upd_same ?_⟩
  · unfold zipD
    rw [List.getElem?_map, List.getElem?_zip_eq_some (z := (d, d2)) |>.mpr ⟨hd, hd2⟩]
    rfl
  · exact .cons ((rd.mono sF).mono (Ext.alloc sH nT).fr) (.cons ((rd2.mono sF).mono (Ext.alloc sH nT).fr) .nil)
def iZp (k : EV → Option (List D)) : EV → Option (List D) := fun ev => match k ev with
  | some [.lst xs, .lst ys] => some (zipD xs ys)
  | _ => none
theorem i_zip {e2 : Expr} {p pos tpos : Pos} {elts : List Expr} {kk : Nat} (hg : Gl X "zip") (hm : X.mg "zip" = none) (ha : AOk X [e, e2] true k)
    (hs : starEach [e, e2] X.env = (false, eval e X.env) :: starEach [e2] X.env := by rfl) (hpl : (backTo pos (starEach [e2] X.env)).any (·.1) = false := by rfl) :
    IOk X (.Tuple elts kk tpos) (.Call (.Name "zip" p) [e, e2] [] pos) true (iZp k) := by
  obtain ⟨t, pa, ra⟩ := ha
  refine ⟨_, pi_zip hg hm pa hs hpl, fun F0 H0 ev σ F H ds R s he q => ?_⟩
  unfold iZp at he
  split at he
  · rename_i xs ys h1
    cases he
    refine ra F0 H0 ev σ F H _ _ s h1 fun vs F1 H1 x1 r1 z1 => ?_
    obtain ⟨v, w, rfl, r0, r0'⟩ := (z1 rfl).two
    obtain ⟨l, ws, rfl, e1, rr⟩ := r0.lst_inv
    obtain ⟨m, us, rfl, e2, rr2⟩ := r0'.lst_inv
    have s1 := s.up x1
    exact ⟨l, m, ws, us, rfl, SqL.of (s1.sub _ _ e1), SqL.of (s1.sub _ _ e2), q _ F1 H1 x1 (by rw [if_pos rfl]; exact walkD_zip e1 e2 rr rr2)⟩
  · cases he

/-! ### targets; ws: the slots that are stored -/
def GRun (K : PySem.W.Frag) (ws : List Nat) (m : D → EV → Option EV) (t : TG) : Prop :=
  ∀ (F0 H0 : Hp) (ev ev' : EV) (σ : L2.St) (F H : Hp) (v : V) (d : D) (Q : L2.St → Hp → Prop), SR K F0 H0 ev σ F H → Rep K F v d → m d ev = some ev' →
    (∀ σ', SR K F0 H0 ev' σ' F H → (∀ vs : List Nat, (∀ i ∈ ws, i ∈ vs) → L2.wipe σ' vs = L2.wipe σ vs) → Q σ' H) → t v σ H Q
def GOk (X : Cx) (tg : Expr) (ws : List Nat) (m : D → EV → Option EV) : Prop := ∃ t, PG X tg t ∧ GRun X.K ws m t
def mName (i : Nat) : D → EV → Option EV := fun d ev => some (ev.set i (.fro d))
theorem wipe_set {σ : L2.St} {i : Nat} {x : Option V} : ∀ {vs : List Nat}, i ∈ vs → L2.wipe (σ.set i x) vs = L2.wipe σ vs
  | [], h => nomatch h
  | v :: vs, h => by
    unfold L2.wipe
    by_cases hv : i ∈ vs
    · rw [wipe_set hv]
    · have e : i = v := by
        rcases List.mem_cons.mp h with e | e
        · exact e
        · exact absurd e hv
      subst e
      have hw : ∀ (us : List Nat), i ∉ us → L2.wipe (σ.set i x) us = (L2.wipe σ us).set i x := by
        intro us
        induction us with
        | nil => intro _; rfl
        | cons u us ih =>
          intro hu
          have h1 : i ≠ u := fun e => hu (by rw [e]; exact List.mem_cons_self)
          have h2 : i ∉ us := fun e => hu (List.mem_cons_of_mem _ e)
          unfold L2.wipe
          rw [ih h2, List.set_comm _ _ h1]
      rw [hw vs hv, List.set_set]
theorem g_name {i : Nat} {x : Str} (hp : PG X (.Name x pos) (gName i)) : GOk X (.Name x pos) [i] (mName i) := by
  refine ⟨_, hp, fun F0 H0 ev ev' σ F H v d Q s r he q => ?_⟩
  cases he
  exact q _ (s.setFro r) fun vs hv => wipe_set (hv i List.mem_cons_self)
def GsRun (K : PySem.W.Frag) (ws : List Nat) (m : List D → EV → Option EV) (t : TGs) : Prop :=
  ∀ (F0 H0 : Hp) (ev ev' : EV) (σ : L2.St) (F H : Hp) (us : List V) (ds : List D) (Q : L2.St → Hp → Prop), SR K F0 H0 ev σ F H → RepL K F us ds → m ds ev = some ev' →
    (∀ σ', SR K F0 H0 ev' σ' F H → (∀ vs : List Nat, (∀ i ∈ ws, i ∈ vs) → L2.wipe σ' vs = L2.wipe σ vs) → Q σ' H) → t us σ H Q
def GsOk (X : Cx) (tgs : List Expr) (n : Nat) (ws : List Nat) (m : List D → EV → Option EV) : Prop := ∃ t, PGs X tgs t ∧ GsRun X.K ws m t ∧ ∀ ds ev ev', m ds ev = some ev' → ds.length = n
def mNil : List D → EV → Option EV
  | [], ev => some ev
  | _ :: _, _ => none
def mCons (m : D → EV → Option EV) (ms : List D → EV → Option EV) : List D → EV → Option EV
  | [], _ => none
  | d :: ds, ev => (m d ev).bind fun ev' => ms ds ev'
theorem gs_nil : GsOk X [] 0 [] mNil := by
  refine ⟨_, pgs_nil, fun F0 H0 ev ev' σ F H us ds Q s r he q => ?_, fun ds ev ev' he => ?_⟩
  · cases ds with
    | nil =>
      cases he
      cases r
      exact ⟨rfl, q σ s fun _ _ => rfl⟩
    | cons _ _ => cases he
  · cases ds with
    | nil => rfl
    | cons _ _ => cases he
theorem gs_cons {n : Nat} {ws1 ws2 : List Nat} {m : D → EV → Option EV} {ms : List D → EV → Option EV} {es : List Expr} (h1 : GOk X e ws1 m) (h2 : GsOk X es n ws2 ms)
    (hs : (assignEach (e :: es) X.env).map (·.2) = assign e X.env :: (assignEach es X.env).map (·.2) := by rfl) : GsOk X (e :: es) (n + 1) (ws1 ++ ws2) (mCons m ms) := by
  obtain ⟨t1, p1, r1⟩ := h1
  obtain ⟨t2, p2, r2, l2⟩ := h2
  refine ⟨_, pgs_cons p1 p2 hs, fun F0 H0 ev ev' σ F H us ds Q s r he q => ?_, fun ds ev ev' he => ?_⟩
  · cases ds with
    | nil => cases he
    | cons d ds =>
      obtain ⟨ev1, g1, g2⟩ := Option.bind_eq_some_iff.mp he
      cases r with
      | cons ra rb =>
        refine ⟨_, _, rfl, r1 F0 H0 ev ev1 σ F H _ d _ s ra g1 fun σ1 s1 w1 => ?_⟩
        refine r2 F0 H0 ev1 ev' σ1 F H _ ds _ s1 rb g2 fun σ2 s2 w2 => ?_
        exact q σ2 s2 fun vs hv => (w2 vs fun i hi => hv i (List.mem_append_right _ hi)).trans (w1 vs fun i hi => hv i (List.mem_append_left _ hi))
  · cases ds with
    | nil => cases he
    | cons d ds =>
      obtain ⟨ev1, g1, g2⟩ := Option.bind_eq_some_iff.mp he
      rw [List.length_cons, l2 ds ev1 ev' g2]
def mTup (ms : List D → EV → Option EV) : D → EV → Option EV
  | .tup ds, ev => ms ds ev
  | _, _ => none
theorem g_tup {es : List Expr} {kk n : Nat} {ws : List Nat} {ms : List D → EV → Option EV} (hc : X.calm = true) (hg : GsOk X es n ws ms)
    (hn : (assignEach es X.env).length = n := by rfl) (hst : (assignEach es X.env).findIdx? (·.1) = none := by rfl) : GOk X (.Tuple es kk pos) ws (mTup ms) := by
  obtain ⟨t, p, r, l⟩ := hg
  refine ⟨_, pg_tup hc p hn hst, fun F0 H0 ev ev' σ F H v d Q s rd he q => ?_⟩
  unfold mTup at he
  split at he
  · obtain ⟨a, vs, rfl, h1, rr⟩ := rd.tup_inv
    exact ⟨a, vs, rfl, SqT.of (s.sub _ _ h1), by rw [rr.len]; exact l _ _ _ he, r F0 H0 ev ev' σ F H vs _ Q s rr he q⟩
  · cases he

/-! ### comprehensions -/
def consO : Option D → List D → List D
  | some y, r => y :: r
  | none, r => r
def compGo (k : D → Option (Option D)) : List D → Option (List D)
  | [] => some []
  | d :: ds => (k d).bind fun o => (compGo k ds).map (consO o)
def kComp (fi : EV → Option (List D)) (m : D → EV → Option EV) (p : EV → Option Bool) (f : EV → Option D) (vs : List Nat) : EV → Option (List D) := fun ev =>
  (fi ev).bind fun ds => if ds.length ≤ 16777216 then compGo (fun d => (m d (evWipe ev vs)).bind fun ev' => (p ev').bind fun b => if b then (f ev').map some else some none) ds else none
def snocO : List D → Option D → List D
  | ys, some y => ys ++ [y]
  | ys, none => ys
theorem compGo_snoc {k : D → Option (Option D)} : ∀ {ds ys : List D} {d : D} {o : Option D}, compGo k ds = some ys → k d = some o → compGo k (ds ++ [d]) = some (snocO ys o)
  | [], ys, d, o, h, h2 => by
    cases h
    show (k d).bind _ = _
    rw [h2]
    cases o <;> rfl
  | x :: ds, ys, d, o, h, h2 => by
    obtain ⟨o', h1, h3⟩ := Option.bind_eq_some_iff.mp h
    obtain ⟨r, h4, h5⟩ := Option.map_eq_some_iff.mp h3
    rw [List.cons_append]
    unfold compGo
    rw [h1, Option.bind_some, compGo_snoc h4 h2]
    subst h5
    cases o' <;> cases o <;> rfl
theorem compGo_some {k : D → Option (Option D)} : ∀ {ds ys : List D} {d : D} {i : Nat}, compGo k ds = some ys → ds[i]? = some d → ∃ o, k d = some o
  | [], _, _, _, _, h => by simp at h
  | x :: ds, ys, d, 0, h, e => by
    obtain ⟨o', h1, h3⟩ := Option.bind_eq_some_iff.mp h
    simp at e
    subst e
    exact ⟨o', h1⟩
  | x :: ds, ys, d, i + 1, h, e => by
    obtain ⟨o', h1, h3⟩ := Option.bind_eq_some_iff.mp h
    obtain ⟨r, h4, h5⟩ := Option.map_eq_some_iff.mp h3
    exact compGo_some h4 (by simpa using e)
variable {ws : List Nat} {m : D → EV → Option EV} {p : EV → Option Bool} {fi : EV → Option (List D)} {ifs : List Expr} {scope : Scope} {own : List (Str × Nat)}
/-- the parts of a comprehension, in its block -/
def Blk (X : Cx) (scope : Scope) (P : Cx → Prop) : Prop := ∀ (s : Shared) (H : Hp) (C : Addr) (cl : List (Str × Addr)) (fp : List Addr), P (X.blk s H scope (compEnvC scope cl C X.env) fp)
def GOkB (X : Cx) (scope : Scope) (tg : Expr) (ws : List Nat) (m : D → EV → Option EV) : Prop := ∃ t, Blk X scope (fun Y => PG Y tg t) ∧ GRun X.K ws m t
def TsOkB (X : Cx) (scope : Scope) (ifs : List Expr) (p : EV → Option Bool) : Prop := ∃ t, Blk X scope (fun Y => PTs Y ifs t) ∧ TRun X.K p t
def EOkB (X : Cx) (scope : Scope) (e : Expr) (fz : Bool) (f : EV → Option D) : Prop := ∃ t, Blk X scope (fun Y => PE Y e t) ∧ ERun X.K fz f t
theorem lc_run {wi : TI} {gt : TG} {tt : TT} {te : TE} {vs : List Nat} (ri : IRun K fz fi wi) (rg : GRun K ws m gt) (rt : TRun K p tt) (re : ERun K true f te) (hws : ∀ i ∈ ws, i ∈ vs) :
    FRun K (kComp fi m p f vs) (tLc wi gt tt te vs) := by
  intro F0 H0 ev σ F H xs Q s he q
  obtain ⟨ds, h1, he⟩ := Option.bind_eq_some_iff.mp he
  have hlen : ds.length ≤ 16777216 := by
    by_cases hl : ds.length ≤ 16777216
    · exact hl
    · rw [if_neg hl] at he
      cases he
  rw [if_pos hlen] at he
  refine ri F0 H0 ev σ F H ds _ s h1 fun J F1 H1 x1 w => ?_
  intro Dl nD
  have s1 := s.up x1
  refine ⟨fun i m' H' => m' = ds.length - i ∧ i ≤ ds.length ∧ ∃ F' acc ys, Ext F1 H1 F' H' ∧ H' Dl = some (.lst acc) ∧ F' Dl = none ∧ compGo (fun d => (m d (evWipe ev vs)).bind fun ev' => (p ev').bind fun b => if b then (f ev').map some else some none) (ds.take i) = some ys ∧ ys.length ≤ i ∧ RepL K F' acc ys,
    ⟨ds.length, by omega, Nat.zero_le _, F1, [], [], .allocH s1.sub nD, upd_same, s1.sub.free nD, rfl, Nat.le_refl _, .nil⟩, ?_⟩
  rintro i m' H' ⟨rfl, hi, F', acc, ys, x2, hD, hF, hy, hyl, ra⟩
  have hB : Same (if fz = true then F1 else H1) H' := by
    split
    · exact x2.fr.trans x2.sub
    · exact x2.keep
  by_cases hlt : i < ds.length
  · refine .inr ⟨w.go i H' hlt hB, fun H2 => ∃ F2 acc ys, Ext F1 H1 F2 H2 ∧ H2 Dl = some (.lst acc) ∧ F2 Dl = none ∧ compGo (fun d => (m d (evWipe ev vs)).bind fun ev' => (p ev').bind fun b => if b then (f ev').map some else some none) (ds.take (i + 1)) = some ys ∧ ys.length ≤ i + 1 ∧ RepL K F2 acc ys,
      fun H2 h2 => ⟨ds.length - (i + 1), by omega, rfl, hlt, h2⟩, fun x H2 hx => ?_⟩
    obtain ⟨F2, d, x3, hd, rd⟩ := w.yld i F' H' x H2 hlt x2.fr x2.sub hB hx
    obtain ⟨o, ho⟩ := compGo_some he hd
    have hk := ho
    have htk : ds.take (i + 1) = ds.take i ++ [d] := by
      rw [List.take_add_one, hd]
      rfl
    have hnew := compGo_snoc hy ho
    obtain ⟨ev', g1, ho⟩ := Option.bind_eq_some_iff.mp ho
    obtain ⟨b, g2, ho⟩ := Option.bind_eq_some_iff.mp ho
    have s2 : SR K F0 H0 (evWipe ev vs) (L2.wipe σ vs) F2 H2 := (s1.wipe vs).up (x2.trans x3)
    refine rg F0 H0 _ ev' _ F2 H2 x d _ s2 rd g1 fun σ2 s3 hw => ⟨?_, ?_⟩
    · rw [hw vs hws]
      have ww : ∀ (σ : L2.St) (vs : List Nat), L2.wipe (L2.wipe σ vs) vs = L2.wipe σ vs := by
        intro σ vs
        have aux : ∀ (us : List Nat), (∀ u ∈ us, u ∈ vs) → L2.wipe (L2.wipe σ us) vs = L2.wipe σ vs := by
          intro us
          induction us with
          | nil => intro _; rfl
          | cons u us ih =>
            intro hu
            show L2.wipe ((L2.wipe σ us).set u none) vs = L2.wipe σ vs
            rw [wipe_set (hu u List.mem_cons_self)]
            exact ih fun z hz => hu z (List.mem_cons_of_mem _ hz)
        exact aux vs fun _ h => h
      exact ww σ vs
    · refine rt F0 H0 ev' σ2 F2 H2 b _ s3 g2 fun F3 H3 x4 => ?_
      cases b with
      | true =>
        rw [if_pos rfl] at ho ⊢
        obtain ⟨y, g3, rfl⟩ := Option.map_eq_some_iff.mp ho
        refine re F0 H0 ev' σ2 F3 H3 y _ (s3.up x4) g3 fun v F4 H4 x5 r5 z5 => ?_
        have xx := (x3.trans x4).trans x5
        have hD4 : H4 Dl = some (.lst acc) := xx.keep _ _ hD
        have hF4 : F4 Dl = none := by
          rcases xx.new Dl with z | z
          · exact z.trans hF
          · rw [z] at hD
            cases hD
        refine ⟨acc, hD4, ?_, F4, acc ++ [v], ys ++ [y], ?_, upd_same, hF4, ?_, ?_, ?_⟩
        · rw [ra.len, sizeLine_eq]
          omega
        · have x6 := x2.trans xx
          refine ⟨x6.fr, fun b' o' e => ?_, fun b' o' e => ?_, x6.new⟩
          · rw [upd_ne (ne_of_none e hF4)]
            exact x6.sub _ _ e
          · rw [upd_ne (ne_of_none e nD)]
            exact x6.keep _ _ e
        · rw [htk]
          exact hnew
        · rw [List.length_append]
          show ys.length + 1 ≤ i + 1
          omega
        · exact (ra.mono xx.fr).append (.cons (z5 rfl) .nil)
      | false =>
        rw [if_neg (by decide)] at ho ⊢
        cases ho
        have xx := x3.trans x4
        refine ⟨F3, acc, ys, x2.trans xx, xx.keep _ _ hD, ?_, ?_, by omega, ra.mono xx.fr⟩
        · rcases xx.new Dl with z | z
          · exact z.trans hF
          · rw [z] at hD
            cases hD
        · rw [htk]
          exact hnew
  · have hi' : i = ds.length := by omega
    subst hi'
    rw [List.take_length, he] at hy
    cases hy
    exact .inl ⟨w.stop H' hB, q Dl acc F' H' (x1.trans x2) (x1.keep.free nD) hF hD ra⟩
theorem f_lc (hc : X.calm = true) (hN : X.N.Nodup) (hi : IOk X tg iter fz fi) (ok : blkC X.N X.env.scope scope own = true) (hg : GOkB X scope tg ws m) (ht : TsOkB X scope ifs p) (he : EOkB X scope elt true f)
    (hw : ∀ i ∈ ws, i ∈ own.map (·.2) := by decide) (hs : ∀ x, foldedSetIterable iter X.env x = pure x := by intro _; rfl) : FOk X (.ListComp elt [⟨tg, iter, ifs, 0⟩] scope pos) (kComp fi m p f (own.map (·.2))) := by
  obtain ⟨wi, pi, ri⟩ := hi
  obtain ⟨gt, pg, rg⟩ := hg
  obtain ⟨tt, pt, rt⟩ := ht
  obtain ⟨te, pe, re⟩ := he
  exact ⟨_, pe_lc (own := own) hc hN pi (blkOk_by ok) pg pt pe hs, lc_run ri rg rt re hw⟩

/-! ### statements -/
variable {st : Stmt} {sts rest : List Stmt} {u v : EV → Option Fl}
theorem SRun.of {t : TS} {w : EV → Option Fl} (h : SRun K mg W u t) (hw : ∀ ev r, w ev = some r → u ev = some r) : SRun K mg W w t := fun F0 H0 ev σ F H E r s he => h F0 H0 ev σ F H E r s (hw ev r he)
def sNx : EV → Option Fl := fun ev => some (.nx ev)
theorem b_nil : BOk X W [] sNx := ⟨_, pss_nil, fun F0 H0 ev σ F H E r s he q => by
  cases he
  exact q σ F H s⟩
def sSeq (u v : EV → Option Fl) : EV → Option Fl := fun ev => (u ev).bind fun r => match r with
  | .nx e => v e
  | r => some r
theorem run_seq {t t' : TS} (h1 : SRun K mg W u t) (h2 : SRun K mg W v t') : SRun K mg W (sSeq u v) (tSeq t t') := by
  intro F0 H0 ev σ F H E r s he q
  obtain ⟨r1, g1, g2⟩ := Option.bind_eq_some_iff.mp he
  refine h1 F0 H0 ev σ F H _ r1 s g1 ?_
  cases r1 with
  | nx e =>
    intro σ1 F1 H1 s1
    exact h2 F0 H0 e σ1 F1 H1 E r s1 g2 q
  | rt d => cases g2; exact q
  | bk e => cases g2; exact q
  | ct e => cases g2; exact q
  | ex e x d => cases g2; exact q
theorem b_cons (h1 : SOk X W st u) (h2 : BOk X W rest v) : BOk X W (st :: rest) (sSeq u v) := by
  obtain ⟨t1, p1, r1⟩ := h1
  obtain ⟨t2, p2, r2⟩ := h2
  exact ⟨_, pss_cons p1 p2, run_seq r1 r2⟩
theorem b_one (h : SOk X W st u) : BOk X W [st] u := by
  obtain ⟨t, p, r⟩ := h
  exact ⟨_, pss_one p, r⟩
/-- an own list is frozen ahead of a block -/
def sFrz (i : Nat) (u : EV → Option Fl) : EV → Option Fl := fun ev => u (evFrz ev i)
theorem run_frz {t : TS} {i : Nat} (h : SRun K mg W u t) : SRun K mg W (sFrz i u) t := by
  intro F0 H0 ev σ F H E r s he q
  obtain ⟨F', _, s'⟩ := s.frz i
  exact h F0 H0 _ σ F' H E r s' he q
theorem b_frz (i : Nat) (h : BOk X W sts u) : BOk X W sts (sFrz i u) := by
  obtain ⟨t, p, r⟩ := h
  exact ⟨t, p, run_frz r⟩
theorem s_frz (i : Nat) (h : SOk X W st u) : SOk X W st (sFrz i u) := by
  obtain ⟨t, p, r⟩ := h
  exact ⟨t, p, run_frz r⟩
/-- code that is never come to -/
def sNo : EV → Option Fl := fun _ => none
theorem s_never : SOk X W st sNo := ⟨_, ps_never, fun F0 H0 ev σ F H E r s he q => nomatch he⟩
theorem s_pass : SOk X W (.Pass pos) sNx := ⟨_, ps_pass, fun F0 H0 ev σ F H E r s he q => by
  cases he
  exact q σ F H s⟩
def sBk : EV → Option Fl := fun ev => some (.bk ev)
theorem s_break : SOk X W (.Break pos) sBk := ⟨_, ps_break, fun F0 H0 ev σ F H E r s he q => by
  cases he
  exact q σ F H s⟩
def sCt : EV → Option Fl := fun ev => some (.ct ev)
theorem s_continue : SOk X W (.Continue pos) sCt := ⟨_, ps_continue, fun F0 H0 ev σ F H E r s he q => by
  cases he
  exact q σ F H s⟩
def sRet (f : EV → Option D) : EV → Option Fl := fun ev => (f ev).map .rt
theorem s_ret (h : EOk X e true f) : SOk X W (.Return (some e) pos) (sRet f) := by
  obtain ⟨t, p, r⟩ := h
  refine ⟨_, ps_ret p, fun F0 H0 ev σ F H E r' s he q => ?_⟩
  obtain ⟨d, h1, rfl⟩ := Option.map_eq_some_iff.mp he
  refine r F0 H0 ev σ F H d _ s h1 fun v F1 H1 x1 r1 z1 => ?_
  exact q v F1 H1 (s.up x1).ext (z1 rfl)
theorem s_retN : SOk X W (.Return none pos) (fun _ => some (.rt .non)) := ⟨_, ps_retN, fun F0 H0 ev σ F H E r s he q => by
  cases he
  exact q .non F H s.ext .non⟩
end
end Z


set_option maxRecDepth 100000
set_option maxHeartbeats 4000000
/-! Z5: statements, loops, defs. -/
namespace Z
open PySem PySem.Spec PyProof.Rows L2
section
variable {X : Cx} {a b c e tg iter elt : Expr} {fz fa fb fc : Bool} {f g h : EV → Option D} {pos : Pos} {K : PySem.W.Frag} {mg : Str → Option Value} {W : WX}
variable {st : Stmt} {sts rest : List Stmt} {u v : EV → Option Fl} {k : EV → Option (List D)}

/-! ### within a comprehension's block -/
def tE (K : PySem.W.Frag) (fz : Bool) (f : EV → Option D) : TE := fun σ H Q => ∃ F0 H0 ev F d, SR K F0 H0 ev σ F H ∧ f ev = some d ∧ ∀ v F' H', Ext F H F' H' → Rep K H' v d → (fz = true → Rep K F' v d) → Q v H'
theorem eB {scope : Scope} (q : ∀ (s : Shared) (H : Hp) (C : Addr) (cl : List (Str × Addr)) (fp : List Addr), EOk (X.blk s H scope (compEnvC scope cl C X.env) fp) e fz f) : EOkB X scope e fz f := by
  refine ⟨tE X.K fz f, fun s H C cl fp => ?_, fun F0 H0 ev σ F H d Q s he q => ⟨F0, H0, ev, F, d, s, he, q⟩⟩
  obtain ⟨t, p, r⟩ := q s H C cl fp
  exact ⟨fun pins s' σ H' Q I ⟨F0, H0, ev, F, d, s, he, q⟩ => p.run pins s' σ H' Q I (r F0 H0 ev σ F H' d Q s he q)⟩
def tT (K : PySem.W.Frag) (f : EV → Option Bool) : TT := fun σ H Q => ∃ F0 H0 ev F d, SR K F0 H0 ev σ F H ∧ f ev = some d ∧ ∀ F' H', Ext F H F' H' → Q d H'
theorem tsB {scope : Scope} {ifs : List Expr} {p : EV → Option Bool} (q : ∀ (s : Shared) (H : Hp) (C : Addr) (cl : List (Str × Addr)) (fp : List Addr), TsOk (X.blk s H scope (compEnvC scope cl C X.env) fp) ifs p) : TsOkB X scope ifs p := by
  refine ⟨tT X.K p, fun s H C cl fp => ?_, fun F0 H0 ev σ F H d Q s he q => ⟨F0, H0, ev, F, d, s, he, q⟩⟩
  obtain ⟨t, p, r⟩ := q s H C cl fp
  exact ⟨fun pins s' σ H' Q I ⟨F0, H0, ev, F, d, s, he, q⟩ => p.run pins s' σ H' Q I (r F0 H0 ev σ F H' d Q s he q)⟩
def tG (K : PySem.W.Frag) (ws : List Nat) (m : D → EV → Option EV) : TG := fun v σ H Q => ∃ F0 H0 ev ev' F d, SR K F0 H0 ev σ F H ∧ Rep K F v d ∧ m d ev = some ev' ∧
  ∀ σ', SR K F0 H0 ev' σ' F H → (∀ vs : List Nat, (∀ i ∈ ws, i ∈ vs) → L2.wipe σ' vs = L2.wipe σ vs) → Q σ' H
theorem gB {scope : Scope} {ws : List Nat} {m : D → EV → Option EV} (q : ∀ (s : Shared) (H : Hp) (C : Addr) (cl : List (Str × Addr)) (fp : List Addr), GOk (X.blk s H scope (compEnvC scope cl C X.env) fp) tg ws m) : GOkB X scope tg ws m := by
  refine ⟨tG X.K ws m, fun s H C cl fp => ?_, fun F0 H0 ev ev' σ F H v d Q s r he q => ⟨F0, H0, ev, ev', F, d, s, r, he, q⟩⟩
  obtain ⟨t, p, r⟩ := q s H C cl fp
  exact ⟨fun pins s' σ H' v u Q I rv ⟨F0, H0, ev, ev', F, d, s, rd, he, q⟩ => p.run pins s' σ H' v u Q I rv (r F0 H0 ev ev' σ F H' v d Q s rd he q)⟩

/-! ### what is stored: frozen data, or an own list -/
def LRep (K : PySem.W.Frag) (F' H' H : Hp) (v : V) : L → Prop
  | .un => False
  | .fro d => Rep K F' v d
  | .own xs => ∃ a vs, v = .ref a ∧ H a = none ∧ F' a = none ∧ H' a = some (.lst vs) ∧ RepL K F' vs xs
def RRun (K : PySem.W.Frag) (f : EV → Option L) (t : TE) : Prop :=
  ∀ (F0 H0 : Hp) (ev : EV) (σ : L2.St) (F H : Hp) (l : L) (Q : VK), SR K F0 H0 ev σ F H → f ev = some l → (∀ v F' H', Ext F H F' H' → LRep K F' H' H v l → Q v H') → t σ H Q
def ROk (X : Cx) (e : Expr) (f : EV → Option L) : Prop := ∃ t, PE X e t ∧ RRun X.K f t
def lF (f : EV → Option D) : EV → Option L := fun ev => (f ev).map .fro
def lO (k : EV → Option (List D)) : EV → Option L := fun ev => (k ev).map .own
theorem rrun_e {t : TE} (r : ERun K true f t) : RRun K (lF f) t := by
  intro F0 H0 ev σ F H l Q s he q
  obtain ⟨d, h1, rfl⟩ := Option.map_eq_some_iff.mp he
  exact r F0 H0 ev σ F H d Q s h1 fun v F' H' x _ z => q v F' H' x (z rfl)
theorem rrun_f {t : TE} (r : FRun K k t) : RRun K (lO k) t := by
  intro F0 H0 ev σ F H l Q s he q
  obtain ⟨d, h1, rfl⟩ := Option.map_eq_some_iff.mp he
  exact r F0 H0 ev σ F H d Q s h1 fun l vs F' H' x n1 n2 e rr => q _ F' H' x ⟨l, vs, rfl, n1, n2, e, rr⟩
theorem r_e (h : EOk X e true f) : ROk X e (lF f) := by
  obtain ⟨t, p, r⟩ := h
  exact ⟨t, p, rrun_e r⟩
theorem r_f (h : FOk X e k) : ROk X e (lO k) := by
  obtain ⟨t, p, r⟩ := h
  exact ⟨t, p, rrun_f r⟩
theorem SR.setL {F0 H0 F H F' H' : Hp} {ev : EV} {σ : L2.St} {i : Nat} {l : L} {v : V} (s : SR K F0 H0 ev σ F H) (x : Ext F H F' H') (r : LRep K F' H' H v l) : SR K F0 H0 (ev.set i l) (σ.set i (some v)) F' H' := by
  cases l with
  | un => exact r.elim
  | fro d => exact (s.up x).setFro r
  | own xs =>
    obtain ⟨a, vs, rfl, n1, n2, e, rr⟩ := r
    refine (s.up x).setOwn e n2 (s.ext.keep.free n1) rr fun j ys _ hj hσ => ?_
    obtain ⟨b, ws, g1, g2, _⟩ := s.own j ys hj
    rw [hσ] at g1
    cases g1
    rw [n1] at g2
    cases g2
def sSetL (i : Nat) (f : EV → Option L) : EV → Option Fl := fun ev => (f ev).map fun l => .nx (ev.set i l)
theorem run_setL {i : Nat} {f : EV → Option L} {t : TE} (r : RRun K f t) : SRun K mg W (sSetL i f) (tAsg t (gName i)) := by
  intro F0 H0 ev σ F H E r' s he q
  obtain ⟨l, h1, rfl⟩ := Option.map_eq_some_iff.mp he
  exact r F0 H0 ev σ F H l _ s h1 fun v F' H' x rl => q _ F' H' (s.setL x rl)
/-- name = e -/
theorem s_set {i : Nat} {x : Str} {pos' : Pos} {f : EV → Option L} (hN : X.N.Nodup) (hi : X.N[i]? = some x) (hx : Loc X.env.scope x) (he : ROk X e f) (hs : swapsWith e (some (.Name x pos')) pos.line X.env = pure false := by rfl)
    (hf : X.fn x = true ∨ X.env.scope.names.lookup x = some .local := by first | exact .inl rfl | exact .inr rfl | assumption) : SOk X W (.Assign [.Name x pos'] e pos) (sSetL i f) := by
  obtain ⟨t, p, r⟩ := he
  exact ⟨_, ps_set hN hi hx p hs hf, run_setL r⟩
/-- name = [.. for ..], stored within -/
theorem s_setLc {i : Nat} {y : Str} {py spos : Pos} {ws : List Nat} {m : D → EV → Option EV} {p : EV → Option Bool} {fi : EV → Option (List D)} {ifs : List Expr} {scope : Scope} {own : List (Str × Nat)}
    (hc : X.calm = true) (hN : X.N.Nodup) (hy : X.N[i]? = some y) (hyl : X.env.scope.names.lookup y = some .local) (hsw : swapsWith (.ListComp elt [⟨tg, iter, ifs, 0⟩] scope pos) (some (.Name y py)) spos.line X.env = pure true)
    (hi : IOk X tg iter fz fi) (ok : blkC X.N X.env.scope scope own = true) (hg : GOkB X scope tg ws m) (ht : TsOkB X scope ifs p) (he : EOkB X scope elt true f) (hw : ∀ i ∈ ws, i ∈ own.map (·.2) := by decide)
    (hs : ∀ x, foldedSetIterable iter X.env x = pure x := by intro _; rfl) {l : EV → Option L} (hl : ∀ t, FRun X.K (kComp fi m p f (own.map (·.2))) t → RRun X.K l t) : SOk X W (.Assign [.Name y py] (.ListComp elt [⟨tg, iter, ifs, 0⟩] scope pos) spos) (sSetL i l) := by
  obtain ⟨wi, pi, ri⟩ := hi
  obtain ⟨gt, pg, rg⟩ := hg
  obtain ⟨tt, pt, rt⟩ := ht
  obtain ⟨te, pe, re⟩ := he
  exact ⟨_, ps_setLc (own := own) hc hN hy hyl hsw pi (blkOk_by ok) pg pt pe hs, run_setL (hl _ (lc_run ri rg rt re hw))⟩
theorem lc_own (t : TE) (h : FRun K k t) : RRun K (lO k) t := rrun_f h
theorem lc_fro (t : TE) (h : FRun K k t) : RRun K (lF (cLst k)) t := rrun_e (frun_e h)
/-- a, b = x, y, both plain locals -/
def sPar (i j : Nat) (f g : EV → Option L) : EV → Option Fl := fun ev => (f ev).bind fun l => (g ev).map fun m => .nx ((ev.set i l).set j m)
theorem LRep.up {F' H' H F2 H2 : Hp} {v : V} {l : L} (r : LRep K F' H' H v l) (x : Ext F' H' F2 H2) : LRep K F2 H2 H v l := by
  cases l with
  | un => exact r
  | fro d => exact Rep.mono x.fr r
  | own xs =>
    obtain ⟨a, vs, rfl, n1, n2, e, rr⟩ := r
    refine ⟨a, vs, rfl, n1, ?_, x.keep _ _ e, rr.mono x.fr⟩
    rcases x.new a with z | z
    · exact z.trans n2
    · rw [z] at e
      cases e
theorem SR.setL2 {F0 H0 F H F1 H1 F2 H2 : Hp} {ev : EV} {σ : L2.St} {i j : Nat} {l m : L} {v w : V} (s : SR K F0 H0 ev σ F H) (x1 : Ext F H F1 H1) (r1 : LRep K F1 H1 H v l) (x2 : Ext F1 H1 F2 H2) (r2 : LRep K F2 H2 H1 w m) :
    SR K F0 H0 ((ev.set i l).set j m) ((σ.set i (some v)).set j (some w)) F2 H2 := (s.setL x1 r1).setL x2 r2
theorem s_par {i j : Nat} {x y : Str} {px py pt : Pos} {kt k2 pt2} {f g : EV → Option L} (hc : X.calm = true) (hN : X.N.Nodup) (hi : X.N[i]? = some x) (hj : X.N[j]? = some y) (hij : i ≠ j)
    (hx : X.env.scope.names.lookup x = some .local) (hy : X.env.scope.names.lookup y = some .local) (ha : ROk X a f) (hb : ROk X b g)
    (hw : swappedStores [.Tuple [.Name x px, .Name y py] kt pt] (.Tuple [a, b] k2 pt2) X.env = pure (some [x, y]))
    (hs : swapsWithSole [.Tuple [.Name x px, .Name y py] kt pt] (.Tuple [a, b] k2 pt2) pos.line X.env = pure false := by rfl)
    (h1 : starEach [a, b] X.env = (false, eval a X.env) :: starEach [b] X.env := by rfl) (h2 : starEach [b] X.env = (false, eval b X.env) :: starEach [] X.env := by rfl) :
    SOk X W (.Assign [.Tuple [.Name x px, .Name y py] kt pt] (.Tuple [a, b] k2 pt2) pos) (sPar i j f g) := by
  obtain ⟨ta, pa, ra⟩ := ha
  obtain ⟨tb, pb, rb⟩ := hb
  refine ⟨_, ps_par hc hN hi hj hij hx hy (pa_cons pa (pa_cons pb pa_nil h2) h1) hw hs, fun F0 H0 ev σ F H E r s he q => ?_⟩
  obtain ⟨l, g1, he⟩ := Option.bind_eq_some_iff.mp he
  obtain ⟨m, g2, rfl⟩ := Option.map_eq_some_iff.mp he
  refine ra F0 H0 ev σ F H l _ s g1 fun v F1 H1 x1 r1 => ?_
  refine rb F0 H0 ev σ F1 H1 m _ (s.up x1) g2 fun w F2 H2 x2 r2 => ?_
  exact ⟨v, w, rfl, q _ F2 H2 (s.setL2 x1 r1 x2 r2)⟩
def sPar3 (i j o : Nat) (f g h : EV → Option L) : EV → Option Fl := fun ev => (f ev).bind fun l => (g ev).bind fun m => (h ev).map fun n => .nx (((ev.set i l).set j m).set o n)
theorem s_par3 {i j o : Nat} {x y z : Str} {px py pz pt : Pos} {kt k2 pt2} {f g h : EV → Option L} (hc : X.calm = true) (hN : X.N.Nodup) (hi : X.N[i]? = some x) (hj : X.N[j]? = some y) (ho : X.N[o]? = some z) (hij : i ≠ j) (hio : i ≠ o) (hjo : j ≠ o)
    (ha : ROk X a f) (hb : ROk X b g) (hd : ROk X c h)
    (hp : ∀ ta, PA X [a, b, c] ta → PS X (.Assign [.Tuple [.Name x px, .Name y py, .Name z pz] kt pt] (.Tuple [a, b, c] k2 pt2) pos) (tPar3 i j o ta))
    (h1 : starEach [a, b, c] X.env = (false, eval a X.env) :: starEach [b, c] X.env := by rfl) (h2 : starEach [b, c] X.env = (false, eval b X.env) :: starEach [c] X.env := by rfl) (h3 : starEach [c] X.env = (false, eval c X.env) :: starEach [] X.env := by rfl) :
    SOk X W (.Assign [.Tuple [.Name x px, .Name y py, .Name z pz] kt pt] (.Tuple [a, b, c] k2 pt2) pos) (sPar3 i j o f g h) := by
  obtain ⟨ta, pa, ra⟩ := ha
  obtain ⟨tb, pb, rb⟩ := hb
  obtain ⟨tc, pc, rc⟩ := hd
  refine ⟨_, hp _ (pa_cons pa (pa_cons pb (pa_cons pc pa_nil h3) h2) h1), fun F0 H0 ev σ F H E r s he q => ?_⟩
  obtain ⟨l, g1, he⟩ := Option.bind_eq_some_iff.mp he
  obtain ⟨m, g2, he⟩ := Option.bind_eq_some_iff.mp he
  obtain ⟨n, g3, rfl⟩ := Option.map_eq_some_iff.mp he
  refine ra F0 H0 ev σ F H l _ s g1 fun v F1 H1 x1 r1 => ?_
  refine rb F0 H0 ev σ F1 H1 m _ (s.up x1) g2 fun w F2 H2 x2 r2 => ?_
  refine rc F0 H0 ev σ F2 H2 n _ ((s.up x1).up x2) g3 fun w' F3 H3 x3 r3 => ?_
  exact ⟨v, w, w', rfl, q _ F3 H3 (((s.setL x1 r1).setL x2 r2).setL x3 r3)⟩
/-- a target's tuple = e -/
def sAsg (f : EV → Option D) (m : D → EV → Option EV) : EV → Option Fl := fun ev => (f ev).bind fun d => (m d ev).map .nx
theorem s_asg {ws : List Nat} {m : D → EV → Option EV} (he : EOk X e true f) (hg : GOk X tg ws m) (hs : swapsWithSole [tg] e pos.line X.env = pure false := by rfl) (hw : swappedStores [tg] e X.env = pure none := by rfl)
    (h1 : (assignEach [tg] X.env).map (·.2) = [assign tg X.env] := by rfl) : SOk X W (.Assign [tg] e pos) (sAsg f m) := by
  obtain ⟨te, pe, re⟩ := he
  obtain ⟨gt, pg, rg⟩ := hg
  refine ⟨_, ps_asg pe pg hs hw h1, fun F0 H0 ev σ F H E r s he q => ?_⟩
  obtain ⟨d, g1, he⟩ := Option.bind_eq_some_iff.mp he
  obtain ⟨ev', g2, rfl⟩ := Option.map_eq_some_iff.mp he
  refine re F0 H0 ev σ F H d _ s g1 fun v F1 H1 x1 _ z1 => ?_
  exact rg F0 H0 ev ev' σ F1 H1 v d _ (s.up x1) (z1 rfl) g2 fun σ' s' _ => q σ' F1 H1 s'

/-! ### own lists changed -/
def sApp (i : Nat) (f : EV → Option D) : EV → Option Fl := fun ev => match ev[i]? with
  | some (.own xs) => if xs.length < 16777216 then (f ev).map fun d => .nx (ev.set i (.own (xs ++ [d]))) else none
  | _ => none
theorem s_app {i : Nat} {x : Str} {p apos cpos epos : Pos} (hp : PE X (.Name x p) (tVar i)) (he : EOk X e true f)
    (hbase : attributeBase (.Name x p) "append" X.env (eval (.Name x p) X.env) = eval (.Name x p) X.env := by rfl)
    (hfew : ((backTo cpos (starEach [e] X.env)).all (fun x => !x.1) && (backToKw cpos (keywordEach [] X.env)).all (fun x => x.1.isSome)
      && decide (([e] : List Expr).length + ([] : List Keyword).length + (if ([] : List Keyword).isEmpty then 0 else 1) < 30)) = true := by rfl)
    (hline : (apos.endLine == cpos.line) = true := by rfl) (h1 : starEach [e] X.env = (false, eval e X.env) :: starEach [] X.env := by rfl) (hplain : (backTo cpos (starEach [] X.env)).any (·.1) = false := by rfl)
    (hs : swapsWith (.Call (.Attribute (.Name x p) "append" apos) [e] [] cpos) none epos.line X.env = pure false := by rfl) :
    SOk X W (.Expr (.Call (.Attribute (.Name x p) "append" apos) [e] [] cpos) epos) (sApp i f) := by
  obtain ⟨te, pe, re⟩ := he
  refine ⟨_, ps_expr (pe_bm PySem.F.plainAttrs_list PySem.F.slot_list_append PySem.F.type_list_append mt_append hp (pa_cons pe pa_nil h1) hbase hfew hline h1 hplain) hs, fun F0 H0 ev σ F H E r s he q => ?_⟩
  unfold sApp at he
  split at he
  · rename_i xs h
    have hlen : xs.length < 16777216 := by
      by_cases hl : xs.length < 16777216
      · exact hl
      · rw [if_neg hl] at he
        cases he
    rw [if_pos hlen] at he
    obtain ⟨d, g1, rfl⟩ := Option.map_eq_some_iff.mp he
    obtain ⟨l, vs, h2, h3, h4, h5, h6⟩ := s.own i _ h
    refine ⟨.ref l, h2, .inl ⟨rfl, _, SqL.of h3⟩, re F0 H0 ev σ F H d _ s g1 fun v F1 H1 x1 r1 z1 => ?_⟩
    refine ⟨l, vs, v, rfl, rfl, x1.keep _ _ h3, by rw [h6.len, sizeLine_eq]; exact hlen, ?_⟩
    exact q σ F1 _ ((s.up x1).mut h h2 (x1.keep _ _ h3) ((h6.mono x1.fr).append (.cons (z1 rfl) .nil)))
  · cases he
def sExt (i : Nat) (f : EV → Option D) : EV → Option Fl := fun ev => match ev[i]?, f ev with
  | some (.own xs), some (.lst ys) => if xs.length + ys.length ≤ 16777216 then some (.nx (ev.set i (.own (xs ++ ys)))) else none
  | _, _ => none
theorem s_ext {i : Nat} {x : Str} {p apos cpos epos : Pos} (hp : PE X (.Name x p) (tVar i)) (he : EOk X e true f)
    (hbase : attributeBase (.Name x p) "extend" X.env (eval (.Name x p) X.env) = eval (.Name x p) X.env := by rfl)
    (hfew : ((backTo cpos (starEach [e] X.env)).all (fun x => !x.1) && (backToKw cpos (keywordEach [] X.env)).all (fun x => x.1.isSome)
      && decide (([e] : List Expr).length + ([] : List Keyword).length + (if ([] : List Keyword).isEmpty then 0 else 1) < 30)) = true := by rfl)
    (hline : (apos.endLine == cpos.line) = true := by rfl) (h1 : starEach [e] X.env = (false, eval e X.env) :: starEach [] X.env := by rfl) (hplain : (backTo cpos (starEach [] X.env)).any (·.1) = false := by rfl)
    (hs : swapsWith (.Call (.Attribute (.Name x p) "extend" apos) [e] [] cpos) none epos.line X.env = pure false := by rfl) :
    SOk X W (.Expr (.Call (.Attribute (.Name x p) "extend" apos) [e] [] cpos) epos) (sExt i f) := by
  obtain ⟨te, pe, re⟩ := he
  refine ⟨_, ps_expr (pe_bm PySem.F.plainAttrs_list PySem.F.slot_list_extend PySem.F.type_list_extend mt_extend hp (pa_cons pe pa_nil h1) hbase hfew hline h1 hplain) hs, fun F0 H0 ev σ F H E r s he q => ?_⟩
  unfold sExt at he
  split at he
  · rename_i xs ys h g1
    obtain ⟨hlen, rfl⟩ := of_ite he
    obtain ⟨l, vs, h2, h3, h4, h5, h6⟩ := s.own i _ h
    refine ⟨.ref l, h2, .inl ⟨rfl, _, SqL.of h3⟩, re F0 H0 ev σ F H _ _ s g1 fun v F1 H1 x1 r1 z1 => ?_⟩
    obtain ⟨b, ws, rfl, e1, rr⟩ := (z1 rfl).lst_inv
    have s1 := s.up x1
    refine ⟨l, b, vs, ws, rfl, rfl, x1.keep _ _ h3, s1.sub _ _ e1, by rw [h6.len, rr.len, sizeLine_eq]; exact hlen, ?_⟩
    exact q σ F1 _ (s1.mut h h2 (x1.keep _ _ h3) ((h6.mono x1.fr).append rr))
  · cases he
def sSub (i : Nat) (g f : EV → Option D) : EV → Option Fl := fun ev => match ev[i]?, g ev, f ev with
  | some (.own xs), some (.int n), some d => (ixN xs.length n).map fun j => .nx (ev.set i (.own (xs.set j d)))
  | _, _, _ => none
theorem s_sub {i : Nat} {x : Str} {p tpos : Pos} (hp : PE X (.Name x p) (tVar i)) (hg : EOk X a fa g) (he : EOk X e true f)
    (ha : ∀ v, assign (.Subscript (.Name x p) a tpos) X.env v = (do
      let ov ← holding [v] (eval (.Name x p) X.env)
      let iv ← holding [v, ov] (eval a X.env)
      standAt tpos
      holding [v, ov, iv] (setItem ov iv v)
      release [v, ov, iv] []) := by intro _; rfl)
    (hs : swapsWithSole [.Subscript (.Name x p) a tpos] e pos.line X.env = pure false := by rfl) (hw : swappedStores [.Subscript (.Name x p) a tpos] e X.env = pure none := by rfl)
    (h1 : (assignEach [.Subscript (.Name x p) a tpos] X.env).map (·.2) = [assign (.Subscript (.Name x p) a tpos) X.env] := by rfl) : SOk X W (.Assign [.Subscript (.Name x p) a tpos] e pos) (sSub i g f) := by
  obtain ⟨tg, pg, rg⟩ := hg
  obtain ⟨te, pe, re⟩ := he
  refine ⟨_, ps_asg pe (pg_sub hp pg set_list ha) hs hw h1, fun F0 H0 ev σ F H E r s he q => ?_⟩
  unfold sSub at he
  split at he
  · rename_i xs n d h g1 g2
    obtain ⟨j, hj, rfl⟩ := Option.map_eq_some_iff.mp he
    obtain ⟨l, vs, h2, h3, h4, h5, h6⟩ := s.own i _ h
    refine re F0 H0 ev σ F H d _ s g2 fun v F1 H1 x1 r1 z1 => ?_
    refine ⟨.ref l, h2, rg F0 H0 ev σ F1 H1 _ _ (s.up x1) g1 fun w F2 H2 x2 r2 z2 => ?_⟩
    cases r2
    have x := x1.trans x2
    refine ⟨l, vs, n, j, rfl, rfl, x.keep _ _ h3, by rw [h6.len]; exact hj, ?_⟩
    exact q σ F2 _ ((s.up x).mut h h2 (x.keep _ _ h3) (RepL.set ((z1 rfl).mono x2.fr) j (h6.mono x.fr)))
  · cases he

/-! ### expression statements, if, loops -/
def sDrop (f : EV → Option D) : EV → Option Fl := fun ev => (f ev).map fun _ => .nx ev
theorem s_expr (he : EOk X e fz f) (hs : swapsWith e none pos.line X.env = pure false := by rfl) : SOk X W (.Expr e pos) (sDrop f) := by
  obtain ⟨t, p, r⟩ := he
  refine ⟨_, ps_expr p hs, fun F0 H0 ev σ F H E r' s he q => ?_⟩
  obtain ⟨d, h1, rfl⟩ := Option.map_eq_some_iff.mp he
  exact r F0 H0 ev σ F H d _ s h1 fun v F1 H1 x1 _ _ => q σ F1 H1 (s.up x1)
def sIf (p : EV → Option Bool) (u v : EV → Option Fl) : EV → Option Fl := fun ev => (p ev).bind fun b => if b then u ev else v ev
theorem s_if {p : EV → Option Bool} (hc : TOk X c p) (ha : BOk X W sts u) (hb : BOk X W rest v) : SOk X W (.If c sts rest pos) (sIf p u v) := by
  obtain ⟨tc, pc, rc⟩ := hc
  obtain ⟨ta, pa, ra⟩ := ha
  obtain ⟨tb, pb, rb⟩ := hb
  refine ⟨_, ps_if pc pa pb, fun F0 H0 ev σ F H E r s he q => ?_⟩
  obtain ⟨b, g1, he⟩ := Option.bind_eq_some_iff.mp he
  refine rc F0 H0 ev σ F H b _ s g1 fun F1 H1 x1 => ?_
  cases b with
  | true =>
    rw [if_pos rfl] at he ⊢
    exact ra F0 H0 ev σ F1 H1 E r (s.up x1) he q
  | false =>
    rw [if_neg (by decide)] at he ⊢
    exact rb F0 H0 ev σ F1 H1 E r (s.up x1) he q
def forGo (m : D → EV → Option EV) (u : EV → Option Fl) : List D → EV → Option Fl
  | [], ev => some (.nx ev)
  | d :: ds, ev => (m d ev).bind fun e1 => (u e1).bind fun r => match r with
    | .nx e => forGo m u ds e
    | .ct e => forGo m u ds e
    | .bk e => some (.nx e)
    | .rt d => some (.rt d)
    | .ex e x d => some (.ex e x d)
def sFor (fi : EV → Option (List D)) (m : D → EV → Option EV) (u : EV → Option Fl) : EV → Option Fl := fun ev => (fi ev).bind fun ds => forGo m u ds ev
theorem run_for {fi : EV → Option (List D)} {m : D → EV → Option EV} {ws : List Nat} {wi : TI} {gt : TG} {tb : TS} (ri : IRun K true fi wi) (rg : GRun K ws m gt) (rb : SRun K mg W u tb) : SRun K mg W (sFor fi m u) (tFor wi gt tb) := by
  intro F0 H0 ev σ F H E r s he q
  obtain ⟨ds, h1, he⟩ := Option.bind_eq_some_iff.mp he
  refine ri F0 H0 ev σ F H ds _ s h1 fun J F1 H1 x1 w => ?_
  rw [if_pos rfl] at w
  have s1 := s.up x1
  refine ⟨fun i m' σ' H' => m' = ds.length - i ∧ i ≤ ds.length ∧ ((∃ ev' F', SR K F1 H0 ev' σ' F' H' ∧ forGo m u (ds.drop i) ev' = some r)), ⟨ds.length, by omega, Nat.zero_le _, ev, F1, ?_, by simpa using he⟩, ?_⟩
  · exact s1.base (.refl _) fun a => .inl rfl
  rintro i m' σ' H' ⟨rfl, hi, ev', F', s2, hgo⟩
  have hB : Same F1 H' := s2.ext.fr.trans s2.ext.sub
  have back : ∀ {e σ2 F2 H2}, SR K F1 H0 e σ2 F2 H2 → SR K F0 H0 e σ2 F2 H2 := fun {e σ2 F2 H2} s3 => s3.base ((s1.ext.fr).trans s3.ext.fr) fun a => by
    rcases s3.ext.new a with z | z
    · rcases s1.ext.new a with z2 | z2
      · exact .inl (z.trans z2)
      · exact .inr z2
    · exact .inr z
  by_cases hlt : i < ds.length
  · have hd : ds.drop i = ds[i] :: ds.drop (i + 1) := List.drop_eq_getElem_cons hlt
    rw [hd] at hgo
    obtain ⟨e1, g1, hgo⟩ := Option.bind_eq_some_iff.mp hgo
    obtain ⟨r1, g2, hgo⟩ := Option.bind_eq_some_iff.mp hgo
    refine .inr ⟨w.go i H' hlt hB, fun σ2 H2 => ∃ ev2 F2, SR K F1 H0 ev2 σ2 F2 H2 ∧ forGo m u (ds.drop (i + 1)) ev2 = some r, fun σ2 H2 h2 => ⟨ds.length - (i + 1), by omega, rfl, hlt, h2⟩, fun x H2 hx => ?_⟩
    obtain ⟨F2, d, x3, hd2, rd⟩ := w.yld i F' H' x H2 hlt s2.ext.fr s2.ext.sub hB hx
    rw [List.getElem?_eq_getElem hlt] at hd2
    cases hd2
    refine rg F1 H0 ev' e1 σ' F2 H2 x _ _ (s2.up x3) rd g1 fun σ3 s3 _ => ?_
    refine rb F1 H0 e1 σ3 F2 H2 _ r1 s3 g2 ?_
    cases r1 with
    | nx e => exact fun σ4 F4 H4 s4 => ⟨e, F4, s4, hgo⟩
    | ct e => exact fun σ4 F4 H4 s4 => ⟨e, F4, s4, hgo⟩
    | bk e =>
      intro σ4 F4 H4 s4
      cases hgo
      exact q σ4 F4 H4 (back s4)
    | rt d =>
      intro v4 F4 H4 x4 r4
      cases hgo
      have x5 : Ext F0 H0 F4 H4 := ⟨s1.ext.fr.trans x4.fr, x4.sub, x4.keep, fun a => by
        rcases x4.new a with z | z
        · rcases s1.ext.new a with z2 | z2
          · exact .inl (z.trans z2)
          · exact .inr z2
        · exact .inr z⟩
      exact q v4 F4 H4 x5 r4
    | ex e x d =>
      intro σ4 F4 H4 C4 dd4 v4 s4 m4 d4 r4
      cases hgo
      exact q σ4 F4 H4 C4 dd4 v4 (back s4) m4 d4 r4
  · have hi' : i = ds.length := by omega
    subst hi'
    rw [List.drop_length] at hgo
    cases hgo
    exact .inl ⟨w.stop H' hB, q σ' F' H' (back s2)⟩
theorem s_for {fi : EV → Option (List D)} {m : D → EV → Option EV} {ws : List Nat} {body : List Stmt} (hp : PassesOwn (model X.prog X.w) X.A X.env X.xe) (hc : X.calm = true) (hi : IOk X tg iter true fi) (hg : GOk X tg ws m) (hb : BOk X W body u)
    (hs : ∀ x, foldedSetIterable iter X.env x = pure x := by intro _; rfl) : SOk X W (.For tg iter body [] pos) (sFor fi m u) := by
  obtain ⟨wi, pi, ri⟩ := hi
  obtain ⟨gt, pg, rg⟩ := hg
  obtain ⟨tb, pb, rb⟩ := hb
  exact ⟨_, ps_for hp hc pi pg pb hs, run_for ri rg rb⟩
def whileGo (p : EV → Option Bool) (u : EV → Option Fl) : Nat → EV → Option Fl
  | 0, _ => none
  | n + 1, ev => (p ev).bind fun b => if b then (u ev).bind fun r => match r with
    | .nx e => whileGo p u n e
    | .ct e => whileGo p u n e
    | .bk e => some (.nx e)
    | .rt d => some (.rt d)
    | .ex e x d => some (.ex e x d)
    else some (.nx ev)
theorem run_while {p : EV → Option Bool} {tc : TT} {tb : TS} {n : Nat} (rc : TRun K p tc) (rb : SRun K mg W u tb) : SRun K mg W (whileGo p u n) (tWhile tc tb) := by
  intro F0 H0 ev σ F H E r s he q
  refine ⟨fun m σ' H' => ∃ ev' F', SR K F0 H0 ev' σ' F' H' ∧ whileGo p u m ev' = some r, ⟨n, ev, F, s, he⟩, ?_⟩
  rintro m σ' H' ⟨ev', F', s', he'⟩
  cases m with
  | zero => cases he'
  | succ m =>
    obtain ⟨b, g1, he'⟩ := Option.bind_eq_some_iff.mp he'
    refine rc F0 H0 ev' σ' F' H' b _ s' g1 fun F1 H1 x1 => ?_
    cases b with
    | true =>
      rw [if_pos rfl] at he' ⊢
      obtain ⟨r1, g2, he'⟩ := Option.bind_eq_some_iff.mp he'
      refine ⟨fun σ2 H2 => ∃ ev2 F2, SR K F0 H0 ev2 σ2 F2 H2 ∧ whileGo p u m ev2 = some r, fun σ2 H2 h2 => ⟨m, Nat.lt_succ_self m, h2⟩, ?_⟩
      refine rb F0 H0 ev' σ' F1 H1 _ r1 (s'.up x1) g2 ?_
      cases r1 with
      | nx e => exact fun σ4 F4 H4 s4 => ⟨e, F4, s4, he'⟩
      | ct e => exact fun σ4 F4 H4 s4 => ⟨e, F4, s4, he'⟩
      | bk e =>
        intro σ4 F4 H4 s4
        cases he'
        exact q σ4 F4 H4 s4
      | rt d =>
        intro v4 F4 H4 x4 r4
        cases he'
        exact q v4 F4 H4 x4 r4
      | ex e x d =>
        intro σ4 F4 H4 C4 dd4 v4 s4 m4 d4 r4
        cases he'
        exact q σ4 F4 H4 C4 dd4 v4 s4 m4 d4 r4
    | false =>
      rw [if_neg (by decide)] at he' ⊢
      cases he'
      exact q σ' F1 H1 (s'.up x1)
theorem s_while (n : Nat) {p : EV → Option Bool} {body : List Stmt} (hp : PassesOwn (model X.prog X.w) X.A X.env X.xe) (hc : TOk X c p) (hb : BOk X W body u) : SOk X W (.While c body [] pos) (whileGo p u n) := by
  obtain ⟨tc, pc, rc⟩ := hc
  obtain ⟨tb, pb, rb⟩ := hb
  exact ⟨_, ps_while hp pc pb, run_while rc rb⟩
end

/-! ### defs -/
def evStart (ds : List D) (m : Nat) : EV := ds.map .fro ++ List.replicate m .un
def runFn (n m : Nat) (u : EV → Option Fl) : List D → Option D := fun ds => if ds.length = n then (match u (evStart ds m) with
  | some (.rt d) => some d
  | some (.nx _) => some .non
  | _ => none) else none
theorem start_sr {K : PySem.W.Frag} {F H : Hp} {N : List Str} {vs : List V} {ds : List D} {m : Nat} (hs : Same F H) (r : RepL K F vs ds) (hm : m = N.length - ds.length) : SR K F H (evStart ds m) (L2.start N vs) F H := by
  have hl := r.len
  refine ⟨.refl hs, ?_, fun i d h => ?_, fun i xs h => ?_, fun i j xs ys a h => ?_⟩
  · unfold evStart L2.start
    simp only [List.length_append, List.length_map, List.length_replicate]
    omega
  · unfold evStart at h
    by_cases hi : i < ds.length
    · rw [List.getElem?_append_left (by simpa using hi), List.getElem?_map] at h
      obtain ⟨d', h1, h2⟩ := Option.map_eq_some_iff.mp h
      cases h2
      obtain ⟨v, h3, h4⟩ := r.get h1
      refine ⟨v, ?_, h4⟩
      unfold L2.start
      rw [List.getElem?_append_left (by simp; omega), List.getElem?_map, h3]
      rfl
    · rw [List.getElem?_append_right (by simp; omega)] at h
      rw [List.getElem?_replicate] at h
      split at h <;> cases h
  · unfold evStart at h
    by_cases hi : i < ds.length
    · rw [List.getElem?_append_left (by simpa using hi), List.getElem?_map] at h
      obtain ⟨d', h1, h2⟩ := Option.map_eq_some_iff.mp h
      cases h2
    · rw [List.getElem?_append_right (by simp; omega)] at h
      rw [List.getElem?_replicate] at h
      split at h <;> cases h
  · unfold evStart at h
    by_cases hi : i < ds.length
    · rw [List.getElem?_append_left (by simpa using hi), List.getElem?_map] at h
      obtain ⟨d', h1, h2⟩ := Option.map_eq_some_iff.mp h
      cases h2
    · rw [List.getElem?_append_right (by simp; omega)] at h
      rw [List.getElem?_replicate] at h
      split at h <;> cases h
theorem fn_ok {P : Program} {w : World} {K : PySem.W.Frag} {mg : Str → Option Value} {base : Heap} {x qual : Str} {st : Stmt} {f : Addr} {fd : FuncData} {N ps : List Str} {k n m : Nat} {u : EV → Option Fl} (F : Fun K x qual st f fd) (S : FnScope N ps (defScope st))
    (hn : ps.length = n) (hm : N.length - n = m)
    (hb : ∀ (cdv : Value) (A : Around) (outer : List Env) (s : Shared) (H : Hp) (E : XK), Room k (A.deeper (envOfC qual (defScope st) s.heap.objs.size f cdv)) →
      BOk (cxOf CX0 P w K mg base N qual (defScope st) f cdv A outer s H E).nox WF (defBody st) u) : FnOk P w K mg base CX0 (k + 1) f fd ps (FSp K n (runFn n m u)) := by
  refine F.ok S (fun vs H Q E h => h.1.trans hn.symm) (fun cdv A outer s H vs Q E hr h => ?_)
  obtain ⟨hl, F0, ds, d, hs, r, he, q⟩ := h
  obtain ⟨t, p, run⟩ := hb cdv A outer s H E hr
  refine ⟨t, p, ?_⟩
  have hds : ds.length = n := by rw [← r.len]; exact hl
  unfold runFn at he
  rw [if_pos hds] at he
  have s0 : SR K F0 H (evStart ds m) (L2.start N vs) F0 H := start_sr hs r (by rw [hds]; exact hm.symm)
  split at he
  · rename_i d' hu
    cases he
    exact run F0 H _ _ F0 H _ _ s0 hu fun v F' H' x rr => q v F' H' x rr
  · rename_i e' hu
    cases he
    exact run F0 H _ _ F0 H _ _ s0 hu fun σ' F' H' s' => q .non F' H' s'.ext .non
  · cases he
end Z


set_option maxRecDepth 100000
set_option maxHeartbeats 4000000
/-! Z6: defs by name, membership, index, whiles without a told length. -/
namespace Z
open PySem PySem.Spec PyProof.Rows L2
section
variable {X : Cx} {a b c e tg iter elt : Expr} {fz fa fb fc : Bool} {f g h : EV → Option D} {pos : Pos} {K : PySem.W.Frag} {mg : Str → Option Value} {W : WX}
variable {st : Stmt} {sts rest : List Stmt} {u v : EV → Option Fl} {k : EV → Option (List D)} {es : List Expr}

/-! ### whiles -/
theorem whileGo_mono {p : EV → Option Bool} : ∀ {n m : Nat} {ev : EV} {r : Fl}, whileGo p u n ev = some r → n ≤ m → whileGo p u m ev = some r
  | 0, _, _, _, h, _ => nomatch h
  | n + 1, 0, _, _, _, hm => absurd hm (Nat.not_succ_le_zero n)
  | n + 1, m + 1, ev, r, h, hm => by
    obtain ⟨b, h1, h2⟩ := Option.bind_eq_some_iff.mp h
    unfold whileGo
    rw [h1, Option.bind_some]
    cases b with
    | false => exact h2
    | true =>
      rw [if_pos rfl] at h2 ⊢
      obtain ⟨r1, h3, h4⟩ := Option.bind_eq_some_iff.mp h2
      rw [h3, Option.bind_some]
      cases r1 with
      | nx e => exact whileGo_mono h4 (Nat.le_of_succ_le_succ hm)
      | ct e => exact whileGo_mono h4 (Nat.le_of_succ_le_succ hm)
      | bk e => exact h4
      | rt d => exact h4
      | ex e x d => exact h4
open Classical in
noncomputable def sWhile (p : EV → Option Bool) (u : EV → Option Fl) : EV → Option Fl := fun ev => if h : ∃ r n, whileGo p u n ev = some r then some (choose h) else none
theorem sWhile_of {p : EV → Option Bool} {n : Nat} {ev : EV} {r : Fl} (h : whileGo p u n ev = some r) : sWhile p u ev = some r := by
  have hx : ∃ r n, whileGo p u n ev = some r := ⟨r, n, h⟩
  unfold sWhile
  rw [dif_pos hx]
  obtain ⟨m, hm⟩ := Classical.choose_spec hx
  have h1 := whileGo_mono h (Nat.le_max_left n m)
  have h2 := whileGo_mono hm (Nat.le_max_right n m)
  rw [h1] at h2
  exact h2.symm
theorem s_whl {p : EV → Option Bool} {body : List Stmt} (hp : PassesOwn (model X.prog X.w) X.A X.env X.xe) (hc : TOk X c p) (hb : BOk X W body u) : SOk X W (.While c body [] pos) (sWhile p u) := by
  obtain ⟨tc, pc, rc⟩ := hc
  obtain ⟨tb, pb, rb⟩ := hb
  refine ⟨_, ps_while hp pc pb, fun F0 H0 ev σ F H E r s he q => ?_⟩
  unfold sWhile at he
  split at he
  · rename_i hx
    obtain ⟨m, hm⟩ := Classical.choose_spec hx
    cases he
    exact run_while rc rb F0 H0 ev σ F H E _ s hm q
  · cases he

/-! ### in, index -/
def memD (x : D) (ys : List D) : Option Bool := if SeqAt.shaped x.pd = true ∧ SeqAt.shaped (.list (D.pdL ys)) = true then some ((D.pdL ys).any fun z => PyData.eqv z x.pd) else none
def oIn : D → D → Option D
  | x, .lst ys => (memD x ys).map .bl
  | _, _ => none
def oNotIn : D → D → Option D
  | x, .lst ys => (memD x ys).map fun b => .bl (!b)
  | _, _ => none
theorem r_in : R2Ok K (rInD K) oIn := by
  intro F H x y dx dy d Q s rx ry ho q
  unfold oIn at ho
  split at ho
  · obtain ⟨b, hb, rfl⟩ := Option.map_eq_some_iff.mp ho
    obtain ⟨⟨h1, h2⟩, rfl⟩ := of_ite hb
    have z := ry.dp
    rw [D.pd] at z
    exact ⟨_, _, rx.dp, z, h1, h2, q _ F H (.refl s) (.bl _) fun _ _ => .bl _⟩
  · cases ho
theorem r_notin : R2Ok K (rNotInD K) oNotIn := by
  intro F H x y dx dy d Q s rx ry ho q
  unfold oNotIn at ho
  split at ho
  · obtain ⟨b, hb, rfl⟩ := Option.map_eq_some_iff.mp ho
    obtain ⟨⟨h1, h2⟩, rfl⟩ := of_ite hb
    have z := ry.dp
    rw [D.pd] at z
    exact ⟨_, _, rx.dp, z, h1, h2, q _ F H (.refl s) (.bl _) fun _ _ => .bl _⟩
  · cases ho
theorem units65 {A : Around} {k : Nat} (hr : Room k A) : A.units + 65 < cLine := by
  have := hr.un
  omega
def oIndex : D → D → Option D
  | .lst xs, y => if SeqAt.shaped (.list (D.pdL xs)) = true ∧ SeqAt.shaped y.pd = true then ((D.pdL xs).findIdx? fun z => PyData.eqv z y.pd).map fun j => .int (j : Nat) else none
  | _, _ => none
theorem e_index {o : Expr} {apos cpos : Pos} (hu : X.A.units + 65 < cLine) (ho : EOk X o fa f) (he : EOk X e fb g)
    (hbase : attributeBase o "index" X.env (eval o X.env) = eval o X.env := by rfl)
    (hfew : ((backTo cpos (starEach [e] X.env)).all (fun x => !x.1) && (backToKw cpos (keywordEach [] X.env)).all (fun x => x.1.isSome)
      && decide (([e] : List Expr).length + ([] : List Keyword).length + (if ([] : List Keyword).isEmpty then 0 else 1) < 30)) = true := by rfl)
    (hline : (apos.endLine == cpos.line) = true := by rfl) (h1 : starEach [e] X.env = (false, eval e X.env) :: starEach [] X.env := by rfl) (hplain : (backTo cpos (starEach [] X.env)).any (·.1) = false := by rfl) :
    EOk X (.Call (.Attribute o "index" apos) [e] [] cpos) true (c2 oIndex f g) := by
  obtain ⟨to, po, ro⟩ := ho
  obtain ⟨te, pe, re⟩ := he
  refine ⟨_, pe_bm PySem.F.plainAttrs_list PySem.F.slot_list_index PySem.F.type_list_index (mt_indexD hu) po (pa_cons pe pa_nil h1) hbase hfew hline h1 hplain, fun F0 H0 ev σ F H d Q s he q => ?_⟩
  obtain ⟨x, g1, he⟩ := Option.bind_eq_some_iff.mp he
  obtain ⟨y, g2, he⟩ := Option.bind_eq_some_iff.mp he
  refine ro F0 H0 ev σ F H x _ s g1 fun v F1 H1 x1 r1 _ => ?_
  cases x with
  | lst xs =>
    unfold oIndex at he
    simp only at he
    by_cases hs : SeqAt.shaped (.list (D.pdL xs)) = true ∧ SeqAt.shaped y.pd = true
    · rw [if_pos hs] at he
      obtain ⟨j, hj, rfl⟩ := Option.map_eq_some_iff.mp he
      obtain ⟨p, vs, rfl, h2, rr⟩ := r1.lst_inv
      refine ⟨.inl ⟨rfl, _, SqL.of h2⟩, re F0 H0 ev σ F1 H1 y _ (s.up x1) g2 fun w F2 H2 x2 r2 _ => ?_⟩
      obtain ⟨hjl, hj1, hj2⟩ := List.findIdx?_eq_some_iff_getElem.mp hj
      have z := (r1.mono x2.keep).dp
      rw [D.pd] at z
      refine ⟨p, w, y.pd, D.pdL xs, j, (D.pdL xs)[j], rfl, rfl, z, r2.dp, hs.1, hs.2, List.getElem?_eq_getElem hjl, hj1, fun m z' hm hz => ?_, q _ F2 H2 (x1.trans x2) (.int _) fun _ => .int _⟩
      obtain ⟨hml, e1⟩ := List.getElem?_eq_some_iff.mp hz
      have := hj2 m hm
      rw [e1] at this
      simpa using this
    · rw [if_neg hs] at he
      cases he
  | _ => cases he
/-- list(x), x an own list -/
theorem f_listo {i : Nat} {x y : Str} {p p2 : Pos} (hp : PE X (.Name y p2) (tVar i)) (hg : Gl X x) (hm : X.mg x = none) (hv : bootBuiltins x = some (.type "list"))
    (hn : x ≠ "__name__" := by decide) (hdb : (x == ("__debug__" : Str)) = false := by decide)
    (he : starEach [.Name y p2] X.env = (false, eval (.Name y p2) X.env) :: starEach [] X.env := by rfl) (hpl : (backTo pos (starEach [] X.env)).any (·.1) = false := by rfl) : FOk X (.Call (.Name x p) [.Name y p2] [] pos) (iOwn i) := by
  refine ⟨_, pe_callTy call_list_of hg hm hv (pa_cons hp pa_nil he) hn hdb he hpl, fun F0 H0 ev σ F H xs Q s he q => ?_⟩
  unfold iOwn at he
  split at he
  · rename_i xs h
    cases he
    obtain ⟨l, vs, h2, h3, h4, h5, h6⟩ := s.own i _ h
    exact ⟨.ref l, h2, l, vs, rfl, .inl (SqL.of h3), fun q' nq => q q' _ F _ (.allocH s.sub nq) nq (s.sub.free nq) upd_same h6⟩
  · cases he

/-! ### defs by name -/
def DefAt (K : PySem.W.Frag) (mg : Str → Option Value) (x qual : Str) (st : Stmt) : Prop := ∃ f fd, mg x = some (.ref f) ∧ Fun K qual qual st f fd
def IntAt (mg : Str → Option Value) (x : Str) (i : Int) : Prop := ∃ t, mg x = some (.int i t)
structure FnAt (P : Program) (w : World) (K : PySem.W.Frag) (mg : Str → Option Value) (base : Heap) (x : Str) (lv n : Nat) (o : List D → Option D) : Prop where
  ex : ∃ (CX : CXT) (f : Addr) (fd : FuncData) (ps : List Str), (∀ X : Cx, X.prog = P → X.w = w → Passes CX X (fun _ _ _ => False)) ∧ mg x = some (.ref f) ∧ PySem.W.keepIn K (.ref f) = true ∧ Binds K fd ps [] ∧ FnOk P w K mg base CX lv f fd ps (FSp K n o)
theorem fn_at {P : Program} {w : World} {K : PySem.W.Frag} {mg : Str → Option Value} {base : Heap} {x qual : Str} {st : Stmt} {N ps : List Str} {k n m : Nat} {u : EV → Option Fl} (T : DefAt K mg x qual st) (S : FnScope N ps (defScope st))
    (hn : ps.length = n) (hm : N.length - n = m)
    (hbi : ∀ (kV doc pm : Value) (an : Option Addr) (cdv ct : Value) (us : List Value), us.length = ps.length → bindArgs (PySem.W.fnOf qual qual (defArgs st) (defBody st) (defScope st) .none kV doc pm an cdv ct) ⟨us, []⟩ = pure (ps.zip us))
    (hb : ∀ (f : Addr) (cdv : Value) (A : Around) (outer : List Env) (s : Shared) (H : Hp) (E : XK), Room k (A.deeper (envOfC qual (defScope st) s.heap.objs.size f cdv)) →
      BOk (cxOf CX0 P w K mg base N qual (defScope st) f cdv A outer s H E).nox WF (defBody st) u) : FnAt P w K mg base x (k + 1) n (runFn n m u) := by
  obtain ⟨f, fd, h1, F⟩ := T
  exact ⟨CX0, f, fd, ps, fun _ _ _ => pass0, h1, F.kp, F.binds hbi, fn_ok F S hn hm (hb f)⟩
theorem e_fn {x : Str} {p : Pos} {lv j n : Nat} {o : List D → Option D} (G : FnAt X.prog X.w X.K X.mg X.base x lv n o) (hr : Room j X.A) (hj : lv ≤ j) (hg : Gl X x) (ha : AOk X (e :: es) fz k) (hn : (e :: es).length = n)
    (hl : ∀ ev ds, k ev = some ds → ds.length = (e :: es).length) (hdb : (x == ("__debug__" : Str)) = false := by decide)
    (he : starEach (e :: es) X.env = (false, eval e X.env) :: starEach es X.env := by rfl) (hpl : (backTo pos (starEach es X.env)).any (·.1) = false := by rfl) : EOk X (.Call (.Name x p) (e :: es) [] pos) fz (cCB o k) := by
  obtain ⟨CX, f, fd, ps, h0, h1, h2, h3, h4⟩ := G.ex
  exact e_call h4 (h0 X rfl rfl) (hr.mono hj) hg h1 h2 h3 ha hn hdb he hpl hl
theorem e_gc {x : Str} {i : Int} (hm : IntAt X.mg x i) (hg : Gl X x) (hd : (x == ("__debug__" : Str)) = false := by decide) : EOk X (.Name x pos) true (cC (.int i)) := by
  obtain ⟨t, h⟩ := hm
  exact e_gint hg h ⟨t, rfl⟩ hd
end
end Z


set_option maxRecDepth 100000
set_option maxHeartbeats 4000000
/-! Z7: the law's own def, entered where no repr is under way; repr of data. -/
namespace Z
open PySem PySem.Spec PyProof.Rows L2

/-- a def that is entered with no guard -/
structure FnG (P : Program) (w : World) (K : PySem.W.Frag) (mg : Str → Option Value) (base : Heap) (k : Nat) (f : Addr) (fd : FuncData) (ps : List Str) (sp : Sp) : Prop where
  len : ∀ vs H Q E, sp vs H Q E → vs.length = ps.length
  run : ∀ (A : Around) (outer : List Env) (s : Shared) (H : Hp) (args : Args) (us : List Value) (vs : List V) (Q : VK) (E : XK), Room k A → A.guards = some [] → Env0 P w K mg base A outer s H →
    BindsTo s fd args (ps.zip us) → Vals vs us → sp vs H Q E → codeAny (model P w) A (.call (.ref f) args) (CR CX0 outer P w H s Q E) s
section
variable {P : Program} {w : World} {K : PySem.W.Frag} {mg : Str → Option Value} {base : Heap}
theorem fnG_of {x qual : Str} {st : Stmt} {f : Addr} {fd : FuncData} {N ps : List Str} {k : Nat} {sp : Sp} (F : Fun K x qual st f fd) (S : FnScope N ps (defScope st))
    (len : ∀ vs H Q E, sp vs H Q E → vs.length = ps.length)
    (hb : ∀ (cdv : Value) (A : Around) (outer : List Env) (s : Shared) (H : Hp) (vs : List V) (Q : VK) (E : XK), Room k (A.deeper (envOfC qual (defScope st) s.heap.objs.size f cdv)) → A.guards = some [] → sp vs H Q E →
      ∃ t, PSs (cxOf CX0 P w K mg base N qual (defScope st) f cdv A outer s H E).nox (defBody st) t ∧ t { nx := fun _ H' => Q .non H', rt := Q } (L2.start N vs) H) : FnG P w K mg base (k + 1) f fd ps sp := by
  obtain ⟨oc, od, kV, doc, pm, an, cdv, ct, osl, rfl, lk, hcd⟩ := F.ex
  constructor
  · exact len
  intro A outer s H args us vs Q E hr hgd e0 hbi rv hsp
  have hl := len vs H Q E hsp
  have kp : ∀ b o, base.get? b = some o → s.heap.get? b = some o := fun b o e => (e0.bs b o e).1
  have KX := e0.mod.kin.keeps kp
  have hk : ∀ y ∈ ps.zip us, (defScope st).names.lookup y.1 = some .local ∨ ((defScope st).names.lookup y.1 = some .cell ∧ ((cellsFrom (s.heap.objs.size + 1) (defScope st).names []).lookup y.1).isSome = true) := by
    rintro ⟨z, v⟩ hy
    cases S.par z (List.of_mem_zip hy).1 with
    | inl q => exact Or.inl q
    | inr q => exact Or.inr ⟨q, PySem.W.cellsFrom_some _ _ _ (Or.inl q)⟩
  apply codeAny_call_function hr.depth (KX _ _ lk) rfl S.co S.gen rfl (PySem.W.codeRec_of KX hcd)
  apply hbi
  apply wpAny_newFunctionEnv_cells S.kind hk
  intro env he s1 x
  subst he
  refine ⟨(e0.mod.nolimit.keeps kp).keeps x.toInCall.keep, ?_⟩
  apply codeAny_func
  obtain ⟨t, ht, hq⟩ := hb cdv A outer s H vs Q E (hr.deeper _) hgd hsp
  have I := inv_start (CX := CX0) (E := E) S hr.hd e0 hl rv x
  refine wpAny_mono (ht.nox.run [] s1 (L2.start N vs) H _ I hq) ?_ fun _ _ z => z
  intro fl s' hs
  cases fl with
  | brk => obtain ⟨_, _, _, q⟩ := hs; exact q.elim
  | cont => obtain ⟨_, _, _, q⟩ := hs; exact q.elim
  | ret u =>
    obtain ⟨v, _, H', J, rv', q⟩ := hs
    exact ⟨v, H', J.os, J.bare, J.base, J.hok, rv', q⟩
  | next =>
    obtain ⟨_, H', J, q⟩ := hs
    exact ⟨V.non, H', J.os, J.bare, J.base, J.hok, rfl, q⟩

/-- the law's call, from its promise -/
theorem lawG {mb : Str → Option Value} {k : Nat} {fa a : Addr} {fd : FuncData} {x : Str} {sp : Sp} {s₁ : Shared} {vs : List Value} {ns : List Int}
    (KX : K.In s₁.heap) (hns : s₁.heap.Ns mainGlobals mg) (hb : s₁.heap.Ns builtinsNs mb) (hbb : ∀ x : Str, x ≠ "__name__" → mb x = bootBuiltins x) (hlim : s₁.heap.NoLimit) (hg : s₁.gens = #[])
    (ha : s₁.heap.get? a = some { cls := .type "list", data := .seq vs.toArray }) (hi : IntsAre vs ns) (hl : ns.length ≤ sizeLine) (hr : Room k callerA)
    (F : ∀ base : Heap, K.In base → base.Ns mainGlobals mg → FnG P w K mg base k fa fd [x] sp) (hbind : ∀ (s : Shared) (u : Value), BindsTo s fd ⟨[u], []⟩ [(x, u)])
    (hsp : ∀ H : Hp, SqL K H a (ns.map V.int) → sp [.ref a] H (fun v _ => v = .bl true) fun _ _ _ => False) :
    codeAny (model P w) callerA (.call (.ref fa) ⟨[.ref a], []⟩) (fun r s' => r = .ok (.ret (.bool true)) ∧ OldK s₁.heap s'.heap ∧ s'.os = s₁.os ∧ AllBare s'.gens) s₁ := by
  have rv := vals_ints hi
  have lenV := hi.length
  have core : ∀ H : Hp, (∀ b, H b = none ∨ ∃ o xs, H b = some (.frz o (.lst xs))) → SqL K H a (ns.map V.int) → HOk P w H s₁.heap → (∀ b, H b ≠ none → b = a) → (H a ≠ none → K.lookup a = none) →
      codeAny (model P w) callerA (.call (.ref fa) ⟨[.ref a], []⟩) (fun r s' => r = .ok (.ret (.bool true)) ∧ OldK s₁.heap s'.heap ∧ s'.os = s₁.os ∧ AllBare s'.gens) s₁ := by
    intro H hO hS hok hA hK
    have noD : ∀ {b : Addr} {o : Obj} {es : Array DictEntry} {ep : Nat}, s₁.heap.get? b = some o → o.data = .dict es ep → H b = none := by
      intro b o es ep e d
      rcases hO b with z | ⟨o', xs, z⟩
      · exact z
      · have e' := hA b (by rw [z]; simp)
        subst e'
        rw [ha] at e
        cases e
        cases (show Data.seq vs.toArray _ = Data.dict es ep from d)
    have nsK : ∀ {b : Addr} {m : Str → Option Value}, s₁.heap.Ns b m → (hidT s₁.heap H).Ns b m := by
      rintro b m ⟨o, es, ep, e, d, r⟩
      exact ⟨o, es, ep, hidT_get e (noD e d), d, r⟩
    have hKb : K.In (hidT s₁.heap H) := by
      intro b o e
      refine hidT_get (KX b o e) ?_
      rcases hO b with z | ⟨o', xs, z⟩
      · exact z
      · have e' := hA b (by rw [z]; simp)
        subst e'
        rw [hK (by rw [z]; simp)] at e
        cases e
    have hM : Mod K mg (hidT s₁.heap H) := by
      obtain ⟨mc, h1, h2⟩ := hlim
      exact ⟨hKb, nsK hns, ⟨mb, nsK hb, hbb⟩, ⟨mc, nsK h1, h2⟩⟩
    have e0 : Env0 P w K mg (hidT s₁.heap H) callerA [] s₁ H :=
      { frames := rfl, mod := hM, bs := fun b o e => of_hidT e, bsz := Nat.le_of_eq (hidT_size _ _), funs := trivial, frf := fun b hb' => (List.not_mem_nil hb').elim, hok := hok, bare := .of_eq hg }
    have run := (F _ hKb (nsK hns)).run callerA [] s₁ H ⟨[.ref a], []⟩ [.ref a] [.ref a] _ _ hr rfl e0 (hbind s₁ (.ref a)) (.cons rfl .nil) (hsp H hS)
    refine codeAny_mono run ?_
    intro r s' h
    match r, h with
    | .ok (.ret u), h =>
      obtain ⟨v, H', os, bare, un, hok', r', q⟩ := h
      have q' : v = .bl true := q
      subst q'
      obtain rfl : u = Value.bool true := r'
      refine ⟨rfl, OldK.of_keep ?_, os, bare⟩
      intro b o e
      rcases hO b with z | ⟨ob, xs, z⟩
      · exact un.keep b o e z List.not_mem_nil List.not_mem_nil
      · obtain ⟨e1, _⟩ := hok b _ z
        obtain ⟨e2, _⟩ := hok' b _ (un.frzs b ob _ z)
        rw [e] at e1
        cases e1
        exact e2
    | .error e, h => exact (show False from h).elim
    | .ok .next, h => exact (show False from h).elim
    | .ok .brk, h => exact (show False from h).elim
    | .ok .cont, h => exact (show False from h).elim
  cases hk : K.lookup a with
  | some o =>
    have e := KX a o hk
    rw [ha] at e
    cases e
    apply core (fun _ => none) (fun _ => .inl rfl)
    · exact .inr ⟨_, vs.toArray, _, hk, rfl, rfl, rfl, by rw [List.size_toArray, lenV]; exact hl, by simpa using rv⟩
    · intro b u z
      cases (show (none : Option HO) = some u from z)
    · exact fun b z => absurd rfl z
    · exact fun z => absurd rfl z
  | none =>
    let o₁ : Obj := { cls := .type "list", data := .seq vs.toArray }
    have at_a : (fun b => if b = a then some (HO.frz o₁ (.lst (ns.map V.int))) else none : Hp) a = some (.frz o₁ (.lst (ns.map V.int))) := if_pos rfl
    have off : ∀ b, b ≠ a → (fun b => if b = a then some (HO.frz o₁ (.lst (ns.map V.int))) else none : Hp) b = none := fun b h => if_neg h
    apply core (fun b => if b = a then some (.frz o₁ (.lst (ns.map V.int))) else none)
    · intro b
      by_cases e : b = a
      · subst e
        exact .inr ⟨_, _, at_a⟩
      · exact .inl (off b e)
    · exact .inl (.inr ⟨o₁, at_a⟩)
    · intro b u z
      by_cases e : b = a
      · subst e
        have z' := at_a.symm.trans z
        cases z'
        exact ⟨ha, by rw [List.length_map]; exact hl, vs, _, rv, ha⟩
      · have z' := (off b e).symm.trans z
        cases z'
    · intro b z
      by_cases e : b = a
      · exact e
      · exact absurd (off b e) z
    · exact fun _ => hk
/-- the goal that the head leaves -/
theorem walkG {l : PySem.W.OpenLaw} {n k : Nat} {q : Program} {loose : List Str} {XP : (Str → Option Value) → Heap → Prop} {YP : World → Heap → Prop} {d : DefRec} {K : Params → PySem.W.Frag} {o : List D → Option D} {x : Str}
    (hn : l.most = some n) (hn2 : n ≤ sizeLine) (hdf : d.params.defaults = []) (hr : Room k callerA) (hY : ∀ (w : World) (h : Heap), YP w h → (K w.params).In h)
    (F : ∀ (w : World) (mg : Str → Option Value) (fa : Addr) (h : Heap), (K w.params).In h → h.Ns mainGlobals mg → mg d.name = some (.ref fa) →
      ∃ fd : FuncData, (∀ (s : Shared) (u : Value), BindsTo s fd ⟨[u], []⟩ [(x, u)]) ∧
        ∀ base : Heap, (K w.params).In base → base.Ns mainGlobals mg → FnG l.prog w (K w.params) mg base k fa fd [x] (FSp (K w.params) 1 o))
    (hsp : ∀ ns : List Int, ns.length ≤ n → o [.scr ns] = some (.bl true)) : PySem.W.WalkO q loose XP YP l.row.toRowW d [] (fun f vs => PySem.call f vs) := by
  refine Att.attach_call hn hdf ?_
  intro w s₀ s₁ mg mb fa ob pm cd doc a vs ns G Y ho hd hcd hmg hobj hints hlen hg
  have KX := hY w _ Y
  obtain ⟨fd, hb, hF⟩ := F w mg fa _ KX G.T.g hmg
  refine lawG KX G.T.g G.T.b G.T.builtins G.T.nolimit hg hobj hints (Nat.le_trans hlen hn2) hr hF hb fun H hS => ⟨rfl, H, [.scr ns], .bl true, .refl _, .cons (.scr hS) .nil, hsp ns hlen, fun v F' H' _ r => ?_⟩
  cases r
  rfl
/-- the law's def by its body -/
theorem law_ok {qual : Str} {st : Stmt} {f : Addr} {fd : FuncData} {N : List Str} {x : Str} {k m : Nat} {u : EV → Option Fl} (F : Fun K qual qual st f fd) (S : FnScope N [x] (defScope st)) (hm : N.length - 1 = m)
    (hb : ∀ (cdv : Value) (A : Around) (outer : List Env) (s : Shared) (H : Hp) (E : XK), Room k (A.deeper (envOfC qual (defScope st) s.heap.objs.size f cdv)) → A.guards = some [] →
      BOk (cxOf CX0 P w K mg base N qual (defScope st) f cdv A outer s H E).nox WF (defBody st) u) : FnG P w K mg base (k + 1) f fd [x] (FSp K 1 (runFn 1 m u)) := by
  refine fnG_of F S (fun vs H Q E h => h.1) fun cdv A outer s H vs Q E hr hgd h => ?_
  obtain ⟨hl, F0, ds, d, hs, r, he, q⟩ := h
  obtain ⟨t, p, run⟩ := hb cdv A outer s H E hr hgd
  refine ⟨t, p, ?_⟩
  have hds : ds.length = 1 := by rw [← r.len]; exact hl
  unfold runFn at he
  rw [if_pos hds] at he
  have s0 : SR K F0 H (evStart ds m) (L2.start N vs) F0 H := start_sr hs r (by rw [hds]; exact hm.symm)
  split at he
  · rename_i d' hu
    cases he
    exact run F0 H _ _ F0 H _ _ s0 hu fun v F' H' x rr => q v F' H' x rr
  · rename_i e' hu
    cases he
    exact run F0 H _ _ F0 H _ _ s0 hu fun σ' F' H' s' => q .non F' H' s'.ext .non
  · cases he
end

/-! ### repr -/
def reprD (d : D) : Option D := match d with
  | .scr _ => none
  | .int _ => none
  | .str _ => none
  | d => if SeqAt.shaped d.pd = true ∧ PyData.showable d.pd = true ∧ PyData.hasDict d.pd = false ∧ (PyData.shown d.pd).length ≤ 16777216 then some (.str (PyData.shown d.pd)) else none
def bRepr : List D → Option D
  | [d] => reprD d
  | _ => none
def rReprD (K : PySem.W.Frag) : List V → Hp → VK → Prop := fun xs H Q => ∃ x d, xs = [x] ∧ Dp K H x d ∧ ((∃ a, x = .ref a) ∨ (x = .non ∧ d = .none) ∨ ∃ b, x = .bl b ∧ d = .bool b) ∧ SeqAt.shaped d = true ∧ PyData.showable d = true ∧ PyData.hasDict d = false ∧ (PyData.shown d).length ≤ sizeLine ∧ Q (.str (PyData.shown d)) H
theorem call_reprD {X : Cx} (hu : X.A.units + 100 < cLine) (hg : X.A.guards = some []) : CallR X (.builtin "repr") (rReprD X.K) := by
  intro pins s σ H vs us Q I r h
  obtain ⟨x, d, rfl, hd, hx, h1, h2, h3, h4, q⟩ := h
  obtain ⟨u, rfl, ru⟩ := vals1 r
  rcases hx with ⟨a, rfl⟩ | ⟨rfl, rfl⟩ | ⟨b, rfl, rfl⟩
  · obtain ⟨as, hr⟩ := hd.reads I d _ u ru
    cases ru
    have hdep : d.depth ≤ 64 := by
      have := h1
      unfold SeqAt.shaped at this
      rw [Bool.and_eq_true] at this
      exact of_decide_eq_true this.2
    exact repr_of_reads' hr h2 (fun z => by rw [h3] at z; cases z) hg (by omega) (fun _ _ e => e) (fun h' t tk hk => ⟨.str _, H, I.kept hk, ⟨_, rfl⟩, q⟩) h4
  · obtain rfl : u = Value.none := ru
    exact PySem.P.repr_of_none ⟨.str "None", H, I.kept (t' := s.toks + 1) fun _ _ e => e, ⟨_, rfl⟩, q⟩
  · obtain rfl : u = Value.bool b := ru
    refine PySem.P.repr_of_bool ⟨.str (if b then "True" else "False"), H, I.kept (t' := s.toks + 1) fun _ _ e => e, ⟨_, rfl⟩, ?_⟩
    cases b <;> exact q
theorem r_repr {K : PySem.W.Frag} : CROk K (rReprD K) bRepr := by
  intro F H vs ds d Q s r ho q
  match ds, ho, r with
  | [x], ho, r =>
    obtain ⟨v, rfl, r0⟩ := r.one
    have ho : reprD x = some d := ho
    cases x with
    | lst xs =>
      obtain ⟨⟨h1, h2, h3, h4⟩, rfl⟩ := of_ite ho
      obtain ⟨a, ws, rfl, g1, rr⟩ := r0.lst_inv
      exact ⟨_, _, rfl, r0.dp, .inl ⟨a, rfl⟩, h1, h2, h3, by rw [sizeLine_eq]; exact h4, q _ F H (.refl s) (.str _) fun _ => .str _⟩
    | tup xs =>
      obtain ⟨⟨h1, h2, h3, h4⟩, rfl⟩ := of_ite ho
      obtain ⟨a, ws, rfl, g1, rr⟩ := r0.tup_inv
      exact ⟨_, _, rfl, r0.dp, .inl ⟨a, rfl⟩, h1, h2, h3, by rw [sizeLine_eq]; exact h4, q _ F H (.refl s) (.str _) fun _ => .str _⟩
    | non =>
      replace ho : (if SeqAt.shaped (D.pd .non) = true ∧ PyData.showable (D.pd .non) = true ∧ PyData.hasDict (D.pd .non) = false ∧ (PyData.shown (D.pd .non)).length ≤ 16777216 then some (D.str (PyData.shown (D.pd .non))) else none) = some d := ho
      obtain ⟨⟨h1, h2, h3, h4⟩, rfl⟩ := of_ite ho
      cases r0
      exact ⟨_, _, rfl, Rep.non.dp, .inr (.inl ⟨rfl, rfl⟩), h1, h2, h3, by rw [sizeLine_eq]; exact h4, q _ F H (.refl s) (.str _) fun _ => .str _⟩
    | bl b =>
      replace ho : (if SeqAt.shaped (D.pd (.bl b)) = true ∧ PyData.showable (D.pd (.bl b)) = true ∧ PyData.hasDict (D.pd (.bl b)) = false ∧ (PyData.shown (D.pd (.bl b))).length ≤ 16777216 then some (D.str (PyData.shown (D.pd (.bl b)))) else none) = some d := ho
      obtain ⟨⟨h1, h2, h3, h4⟩, rfl⟩ := of_ite ho
      cases r0
      exact ⟨_, _, rfl, (Rep.bl b).dp, .inr (.inr ⟨b, rfl, rfl⟩), h1, h2, h3, by rw [sizeLine_eq]; exact h4, q _ F H (.refl s) (.str _) fun _ => .str _⟩
    | scr _ => cases ho
    | int _ => cases ho
    | str _ => cases ho
  | [], ho, _ => cases ho
  | _ :: _ :: _, ho, _ => cases ho
/-- what the top has written -/
theorem def_mk {K : PySem.W.Frag} {h : Heap} {mg : Str → Option Value} {x qual : Str} {st : Stmt} (X : K.In h) (G : h.Ns mainGlobals mg) {f : Addr} {oc : Value} {od an : Option Addr} {sl : Array (Option Value)} {kV dc pm cd ct : Value}
    (a : PySem.W.nsIn K mainGlobals x = some (some (.ref f))) (l : K.lookup f = some ⟨oc, od, .func (PySem.W.fnOf qual qual (defArgs st) (defBody st) (defScope st) .none kV dc pm an cd ct), sl⟩) (c : PySem.W.codeIn K cd qual = true)
    (k : PySem.W.keepIn K (.ref f) = true) : DefAt K mg x qual st := ⟨f, _, PySem.W.mg_of X G a, fun_mk l c k⟩
theorem int_mk {K : PySem.W.Frag} {h : Heap} {mg : Str → Option Value} {x : Str} {i : Int} {t : Tok} (X : K.In h) (G : h.Ns mainGlobals mg) (a : PySem.W.nsIn K mainGlobals x = some (some (.int i t))) : IntAt mg x i := ⟨t, PySem.W.mg_of X G a⟩
theorem units100 {A : Around} {k : Nat} (hr : Room k A) : A.units + 100 < cLine := by
  have := hr.un
  omega
end Z


set_option maxRecDepth 100000
set_option maxHeartbeats 4000000
/-! S1: sets of tuples with up to 1,200 items: the table's slots. -/
namespace Z
open PySem PySem.Spec PyProof.Rows L2
/-- the masks of tables up to 2,048 slots -/
def Mk (m : Nat) : Prop := m = 7 ∨ m = 31 ∨ m = 127 ∨ m = 511 ∨ m = 2047
def seen (m : Nat) : Nat → Nat → Nat → Nat
  | 0, _, acc => acc
  | n + 1, x, acc => seen m n ((x * 5 + 1) % (m + 1)) (acc ||| 1 <<< x)
theorem lcgI_succ (m : Nat) : ∀ (k i : Nat), lcgI m ((i * 5 + 1) % (m + 1)) k = lcgI m i (k + 1)
  | 0, _ => rfl
  | k + 1, i => by
    show (lcgI m ((i * 5 + 1) % (m + 1)) k * 5 + 1) % (m + 1) = (lcgI m i (k + 1) * 5 + 1) % (m + 1)
    rw [lcgI_succ m k i]
theorem seen_bit {m j : Nat} : ∀ (n x acc : Nat), (seen m n x acc).testBit j = true → acc.testBit j = true ∨ ∃ k, k < n ∧ lcgI m x k = j
  | 0, _, _, h => .inl h
  | n + 1, x, acc, h => by
    rcases seen_bit n _ _ h with h | ⟨k, h1, h2⟩
    · rw [Nat.testBit_or, Bool.or_eq_true] at h
      rcases h with h | h
      · exact .inl h
      · refine .inr ⟨0, Nat.succ_pos _, ?_⟩
        rw [Nat.one_shiftLeft, Nat.testBit_two_pow] at h
        exact of_decide_eq_true h
    · exact .inr ⟨k + 1, Nat.succ_lt_succ h1, by rw [← lcgI_succ]; exact h2⟩
theorem seen_all {m : Nat} (hm : Mk m) : seen m (m + 1) 0 0 = 2 ^ (m + 1) - 1 := by
  rcases hm with rfl | rfl | rfl | rfl | rfl <;> decide +kernel
theorem lcg_n0 (m : Nat) : ∀ k, lcgI m 0 k = lcgN m k
  | 0 => rfl
  | k + 1 => by
    show (lcgI m 0 k * 5 + 1) % (m + 1) = (lcgN m k * 5 + 1) % (m + 1)
    rw [lcg_n0 m k]
theorem mk_all {m : Nat} (hm : Mk m) {j : Nat} (hj : j ≤ m) : ∃ b, b ≤ m ∧ lcgN m b = j := by
  have h : (seen m (m + 1) 0 0).testBit j = true := by
    rw [seen_all hm, Nat.testBit_two_pow_sub_one]
    exact decide_eq_true (by omega)
  rcases seen_bit _ _ _ h with h | ⟨k, h1, h2⟩
  · rw [Nat.zero_testBit] at h
    cases h
  · exact ⟨k, by omega, by rw [← lcg_n0]; exact h2⟩
theorem mk_round {m : Nat} (hm : Mk m) : lcgN m (m + 1) = 0 := by
  rcases hm with rfl | rfl | rfl | rfl | rfl <;> decide +kernel
theorem mk_turn {m : Nat} (hm : Mk m) : ∀ k, lcgN m (m + 1 + k) = lcgN m k
  | 0 => mk_round hm
  | k + 1 => congrArg (fun x => (x * 5 + 1) % (m + 1)) (mk_turn hm k)
theorem mk_from {m : Nat} (hm : Mk m) {i j : Nat} (hi : i ≤ m) (hj : j ≤ m) : ∃ k, k ≤ m ∧ lcgI m i k = j := by
  obtain ⟨a, ha, rfl⟩ := mk_all hm hi
  obtain ⟨b, hb, rfl⟩ := mk_all hm hj
  by_cases c : a ≤ b
  · exact ⟨b - a, by omega, by rw [lcgN_add, show a + (b - a) = b by omega]⟩
  · exact ⟨m + 1 + b - a, by omega, by rw [lcgN_add, show a + (m + 1 + b - a) = m + 1 + b by omega, mk_turn hm]⟩
/-- every slot begins a run in time -/
theorem mk_runs {m : Nat} (hm : Mk m) (h : Int) {j : Nat} (hj : j ≤ m) : ∃ n, n ≤ m + 12 ∧ runI m (SetTable.bits h) n = j := by
  obtain ⟨k, hk, e⟩ := mk_from hm (runI_le m (SetTable.bits h) 12) hj
  refine ⟨12 + k, by omega, ?_⟩
  rw [runI_tail (bits_lt h), e]
theorem mk_way {m : Nat} (hm : Mk m) (h : Int) {j : Nat} (hj : j ≤ m) : ∃ k, k < 10 * SetTable.turns m ∧ way m h k = j := by
  obtain ⟨n, hn, e⟩ := mk_runs hm h hj
  obtain ⟨k, hk, e'⟩ := run_nth m (SetTable.bits h) n
  exact ⟨k, by unfold SetTable.turns; omega, by unfold way; rw [e']; exact e⟩
theorem way_in {m : Nat} {h : Int} {k : Nat} : way m h k ≤ m := by
  have hi : SetTable.bits h % (m + 1) < m + 1 := Nat.mod_lt _ (Nat.succ_pos _)
  have hr := runEnd_bd (Nat.le_of_lt_succ hi)
  have hs : (runAt m (SetTable.bits h % (m + 1)) (SetTable.bits h)).j + (runAt m (SetTable.bits h % (m + 1)) (SetTable.bits h)).more ≤ m := by
    unfold runAt
    simp only
    omega
  exact Nat.le_trans (Nat.le_add_right _ _) (nth_in k _ hs)
/-! ### a table in order -/
structure Tb (t : SetTable) (hs : List Int) : Prop where
  ris : Ris t.place.toList
  dm : t.dummies = #[]
  sz : t.place.size = hs.length
  msk : Mk t.mask
  bd : ∀ x ∈ t.place.toList, x ≤ t.mask
  reach : ∀ (i : Nat) (h : Int) (j : Nat), hs[i]? = some h → t.place.toList[i]? = some j → ∃ k, way t.mask h k = j ∧ ∀ k', k' < k → way t.mask h k' ∈ t.place.toList
section
variable {t : SetTable} {hs : List Int}
theorem Tb.len (T : Tb t hs) : t.place.toList.length = hs.length := by
  rw [Array.length_toList, T.sz]
theorem Tb.free (T : Tb t hs) (hl : hs.length ≤ t.mask) (h : Int) : ∃ n, n < 10 * SetTable.turns t.mask ∧ way t.mask h n ∉ t.place.toList ∧ ∀ k, k < n → way t.mask h k ∈ t.place.toList := by
  obtain ⟨j, hj, hn⟩ := st_missing t.place.toList (t.mask + 1) (by rw [T.len]; omega)
  obtain ⟨k, hk, e⟩ := mk_way T.msk h (j := j) (by omega)
  obtain ⟨n, h1, h2, h3⟩ := st_least (p := fun k => ¬ way t.mask h k ∈ t.place.toList) k (fun z => hn (e ▸ z))
  exact ⟨n, by omega, h2, fun k' hk' => Classical.not_not.mp (h3 k' hk')⟩
theorem Tb.ahead (T : Tb t hs) {h : Int} {n i j : Nat} (hn : way t.mask h n ∉ t.place.toList) (hi : hs[i]? = some h) (hj : t.place.toList[i]? = some j) : ∃ k, k < n ∧ way t.mask h k = j := by
  obtain ⟨k, e, hb⟩ := T.reach i h j hi hj
  refine ⟨k, ?_, e⟩
  by_cases c : k < n
  · exact c
  · exfalso
    by_cases d : k = n
    · exact hn (by rw [← d, e]; exact List.mem_of_getElem? hj)
    · exact hn (hb n (by omega))
/-- one more -/
theorem Tb.add (T : Tb t hs) {h : Int} {j p : Nat} (hp : SetTable.below t.place j = p) (hw : ∃ n, way t.mask h n = j ∧ ∀ k, k < n → way t.mask h k ∈ t.place.toList) (hj : j ∉ t.place.toList) :
    p ≤ hs.length ∧ Tb (t.put j).1 (hs.take p ++ h :: hs.drop p) ∧ (t.put j).1.fill = hs.length + 1 := by
  obtain ⟨n, rfl, hb⟩ := hw
  obtain ⟨c1, _, _⟩ := below_cut T.ris (way t.mask h n)
  rw [hp] at c1
  have hps : p ≤ hs.length := by rw [← T.sz]; exact c1
  have hpl : p ≤ t.place.toList.length := by rw [T.len]; exact hps
  have hnew := put_place t (way t.mask h n)
  rw [hp] at hnew
  have hsize : (t.put (way t.mask h n)).1.place.size = hs.length + 1 := by
    rw [← Array.length_toList, hnew, len_ins _ hpl, T.len]
  have mono : ∀ {x : Nat}, x ∈ t.place.toList → x ∈ (t.put (way t.mask h n)).1.place.toList := fun hx => by rw [hnew, mem_ins]; exact .inr hx
  refine ⟨hps, ⟨?_, put_dm T.dm _, by rw [hsize, len_ins _ hps], T.msk, ?_, ?_⟩, ?_⟩
  · refine ris_insert T.ris fun e => hj (List.mem_of_getElem? (i := SetTable.below t.place (way t.mask h n)) ?_)
    rw [Array.getElem?_toList]
    exact e
  · intro x hx
    rw [hnew, mem_ins] at hx
    rcases hx with rfl | hx
    · exact way_in
    · exact T.bd x hx
  · intro i h' j' e1 e2
    rw [tins_get _ hps] at e1
    rw [hnew, tins_get _ hpl] at e2
    have up : ∀ {a : Nat}, hs[a]? = some h' → t.place.toList[a]? = some j' → ∃ k, way t.mask h' k = j' ∧ ∀ k', k' < k → way t.mask h' k' ∈ (t.put (way t.mask h n)).1.place.toList := fun q1 q2 => by
      obtain ⟨k, e, z⟩ := T.reach _ h' j' q1 q2
      exact ⟨k, e, fun k' hk' => mono (z k' hk')⟩
    by_cases c : i < p
    · rw [if_pos c] at e1 e2
      exact up e1 e2
    · rw [if_neg c] at e1 e2
      by_cases d : i = p
      · rw [if_pos d] at e1 e2
        cases e1
        cases e2
        exact ⟨n, rfl, fun k' hk' => mono (hb k' hk')⟩
      · rw [if_neg d] at e1 e2
        exact up e1 e2
  · unfold SetTable.fill
    rw [hsize, put_dm T.dm]
    rfl
end
/-! ### laid anew -/
structure Sits (m : Nat) (done : List Int) (owner : Array (Option Nat)) : Prop where
  sz : owner.size = m + 1
  who : ∀ j k, j ≤ m → oAt owner j = some k → ∃ h n, done[k]? = some h ∧ way m h n = j ∧ ∀ k', k' < n → oAt owner (way m h k') ≠ none
  all : ∀ k, k < done.length → ∃ j, j ≤ m ∧ oAt owner j = some k
  ps : ∃ ps : List Nat, ps.length = done.length ∧ ∀ j, j ≤ m → oAt owner j ≠ none → j ∈ ps
theorem sits_zero (m : Nat) : Sits m [] (Array.replicate (m + 1) none) :=
  ⟨by simp, (fun j k hj e => nomatch ((oAt_init hj).symm.trans e)), (fun k hk => absurd hk (Nat.not_lt_zero _)), ⟨[], rfl, fun j hj e => absurd (oAt_init hj) e⟩⟩
theorem free_at {m : Nat} (hm : Mk m) {owner : Array (Option Nat)} (h : Int) {j : Nat} (hj : j ≤ m) (hf : oAt owner j = none) :
    ∃ n, SetTable.layClean.free m owner (SetTable.turns m) (SetTable.bits h % (m + 1)) (SetTable.bits h) = some (way m h n) ∧ oAt owner (way m h n) = none ∧ ∀ k, k < n → oAt owner (way m h k) ≠ none := by
  obtain ⟨r, hr, e⟩ := mk_runs hm h hj
  have hw : way m h (off m (SetTable.bits h % (m + 1)) (SetTable.bits h) r) = j := by
    unfold way
    rw [nth_off, itL_run]
    exact e
  obtain ⟨n, k1, k2, k3⟩ := st_least (p := fun k => oAt owner (way m h k) = none) _ (show oAt owner (way m h (off m (SetTable.bits h % (m + 1)) (SetTable.bits h) r)) = none by rw [hw]; exact hf)
  refine ⟨n, ?_, k2, k3⟩
  refine free_spec m owner _ r _ _ n (by unfold SetTable.turns; omega) k1 (fun k hk => ?_) ?_
  · rw [← Option.not_isSome, Bool.not_eq_false']
    exact Option.isSome_iff_ne_none.mpr (k3 k hk)
  · exact Option.isNone_iff_eq_none.mpr k2
theorem Sits.more {m : Nat} (hm : Mk m) {done : List Int} {owner : Array (Option Nat)} (S : Sits m done owner) (hl : done.length ≤ m) (h : Int) :
    ∃ j, SetTable.layClean.free m owner (SetTable.turns m) (SetTable.bits h % (m + 1)) (SetTable.bits h) = some j ∧ Sits m (done ++ [h]) (owner.setIfInBounds j (some done.length)) := by
  obtain ⟨ps, hps, hin⟩ := S.ps
  obtain ⟨j0, h0, h1⟩ := st_missing ps (m + 1) (by omega)
  have hj0 : oAt owner j0 = none := Classical.byContradiction fun z => h1 (hin j0 (by omega) z)
  obtain ⟨n, e1, e2, e3⟩ := free_at hm h (j := j0) (by omega) hj0
  have hjs : way m h n < owner.size := by
    rw [S.sz]
    exact Nat.lt_succ_of_le way_in
  have self := oAt_set_self (some done.length) hjs
  have keep : ∀ {i : Nat}, oAt owner i ≠ none → oAt (owner.setIfInBounds (way m h n) (some done.length)) i ≠ none := fun {i} hi => by
    by_cases c : i = way m h n
    · subst c
      exact absurd e2 hi
    · rw [oAt_set_ne _ c]
      exact hi
  refine ⟨way m h n, e1, by rw [Array.size_setIfInBounds, S.sz], ?_, ?_, way m h n :: ps, by simp [hps], ?_⟩
  · intro j k hj e
    by_cases c : j = way m h n
    · subst c
      rw [self] at e
      cases e
      exact ⟨h, n, by simp, rfl, fun k' hk' => keep (e3 k' hk')⟩
    · rw [oAt_set_ne _ c] at e
      obtain ⟨h', n', a1, a2, a3⟩ := S.who j k hj e
      exact ⟨h', n', by rw [List.getElem?_append_left (List.getElem?_eq_some_iff.mp a1).1]; exact a1, a2, fun k' hk' => keep (a3 k' hk')⟩
  · intro k hk
    by_cases c : k < done.length
    · obtain ⟨j, hj, e⟩ := S.all k c
      exact ⟨j, hj, by rw [oAt_set_ne _ (fun z => by rw [z, e2] at e; cases e)]; exact e⟩
    · simp at hk
      exact ⟨way m h n, way_in, by rw [self, show k = done.length by omega]⟩
  · intro j hj e
    by_cases c : j = way m h n
    · exact c ▸ List.mem_cons_self
    · rw [oAt_set_ne _ c] at e
      exact List.mem_cons_of_mem _ (hin j hj e)
theorem sits_fold {m : Nat} (hm : Mk m) : ∀ (rest done : List Int) (owner : Array (Option Nat)), Sits m done owner → done.length + rest.length ≤ m →
    ∃ owner', rest.foldl (stepF m) (some (owner, done.length)) = some (owner', done.length + rest.length) ∧ Sits m (done ++ rest) owner'
  | [], done, owner, S, _ => ⟨owner, rfl, by rw [List.append_nil]; exact S⟩
  | h :: rest, done, owner, S, hl => by
    rw [List.length_cons] at hl ⊢
    obtain ⟨j, e, S'⟩ := S.more hm (by omega) h
    obtain ⟨owner', f, S2⟩ := sits_fold hm rest (done ++ [h]) _ S' (by simp; omega)
    rw [List.append_assoc] at S2
    refine ⟨owner', ?_, S2⟩
    rw [List.foldl_cons, stepF_some e]
    simp only [List.length_append, List.length_singleton] at f
    rw [f, show done.length + 1 + rest.length = done.length + (rest.length + 1) by omega]
theorem lay_ok {m : Nat} (hm : Mk m) {hs : Array Int} (hn : hs.size ≤ m) : ∃ owner, SetTable.layClean m hs = some owner ∧ Sits m hs.toList owner := by
  obtain ⟨owner, f, S⟩ := sits_fold hm hs.toList [] _ (sits_zero m) (by simpa using hn)
  refine ⟨owner, ?_, S⟩
  rw [layClean_eq, show (0 : Nat) = ([] : List Int).length from rfl, f]
  rfl
theorem anew_ok (t : SetTable) {hs : Array Int} {wanted m : Nat} (hw : SetTable.sizeAbove wanted - 1 = m) (hm : Mk m) (hn : hs.size ≤ m) :
    ∃ t' order, t.relaid hs wanted = some (t', order) ∧ order.toList.Perm (List.range hs.size) ∧ Tb t' (order.toList.map fun i => hs.getD i 0) ∧ t'.mask = m ∧ t'.led = t.led ∧ t'.plain = t.plain := by
  obtain ⟨owner, e, S⟩ := lay_ok hm hn
  have hr : t.relaid hs wanted = some (tabOf t m owner, ((liveOf m owner).map (·.2)).toArray) := by
    rw [relaid_eq, hw, e]
    rfl
  obtain ⟨r1, r2⟩ := ris_live (fun j => owner.getD j none) (List.range (m + 1)) List.pairwise_lt_range
  have r1' : Ris ((liveOf m owner).map (·.1)) := r1
  have r2' : ∀ x ∈ (liveOf m owner).map (·.1), x ∈ List.range (m + 1) := r2
  have hlen : (liveOf m owner).length = hs.size := by
    obtain ⟨ps, p1, p2⟩ := S.ps
    have nd : ((liveOf m owner).map (·.1)).Nodup := by
      unfold Ris at r1'
      exact List.Pairwise.imp (fun h => Nat.ne_of_lt h) r1'
    have hz : hs.toList.length = hs.size := Array.length_toList
    have a := nat_nodup_len ((liveOf m owner).map (·.1)) ps nd (by
      intro x hx
      obtain ⟨⟨y, k⟩, hq, rfl⟩ := List.mem_map.mp hx
      obtain ⟨b1, b2⟩ := (mem_live S.sz).mp hq
      exact p2 y b1 (by rw [b2]; exact fun z => nomatch z))
    have b := nat_nodup_len (List.range hs.size) ((liveOf m owner).map (·.2)) List.nodup_range (by
      intro k hk
      obtain ⟨j, b1, b2⟩ := S.all k (by rw [Array.length_toList]; exact List.mem_range.mp hk)
      exact List.mem_map.mpr ⟨(j, k), (mem_live S.sz).mpr ⟨b1, b2⟩, rfl⟩)
    rw [List.length_map, p1] at a
    rw [List.length_map, List.length_range] at b
    omega
  refine ⟨_, _, hr, ?_, ⟨r1', rfl, by simp [tabOf], hm, fun x hx => Nat.le_of_lt_succ (List.mem_range.mp (r2' x hx)), ?_⟩, rfl, rfl, rfl⟩
  · refine perm_range hs.size _ (by simpa using hlen) fun k hk => ?_
    obtain ⟨j, b1, b2⟩ := S.all k (by rw [Array.length_toList]; exact hk)
    exact List.mem_map.mpr ⟨(j, k), (mem_live S.sz).mpr ⟨b1, b2⟩, rfl⟩
  · intro i h j q1 q2
    have q1' : (((liveOf m owner).map (·.2)).map fun i => hs.getD i 0)[i]? = some h := q1
    have q2' : ((liveOf m owner).map (·.1))[i]? = some j := q2
    rw [List.getElem?_map, List.getElem?_map] at q1'
    rw [List.getElem?_map] at q2'
    cases hq : (liveOf m owner)[i]? with
    | none =>
      rw [hq] at q2'
      cases q2'
    | some q =>
      obtain ⟨y, k⟩ := q
      rw [hq] at q1' q2'
      cases q2'
      obtain ⟨b1, b2⟩ := (mem_live S.sz).mp (List.mem_of_getElem? hq)
      obtain ⟨h0, n, a1, a2, a3⟩ := S.who y k b1 b2
      have e0 : hs.getD k 0 = h0 := by
        rw [Array.getElem?_toList] at a1
        rw [Array.getD_eq_getD_getElem?, a1]
        rfl
      have eh : hs.getD k 0 = h := Option.some.inj q1'
      rw [e0] at eh
      subst eh
      refine ⟨n, a2, fun k' hk' => ?_⟩
      show way m h0 k' ∈ (liveOf m owner).map (·.1)
      obtain ⟨k2, z⟩ := Option.ne_none_iff_exists'.mp (a3 k' hk')
      exact List.mem_map.mpr ⟨(way m h0 k', k2), (mem_live S.sz).mpr ⟨way_in, z⟩, rfl⟩
end Z


set_option maxRecDepth 100000
set_option maxHeartbeats 4000000
/-! S2: sets of tuples with up to 1,200 items: searched, added to. -/
namespace Z
open PySem PySem.Spec PyProof.Rows L2
section
variable {P : Program} {w : World} {A : Around} {E : Value → Shared → Prop} {s : Shared}
structure SetB (P : Program) (w : World) (h : Heap) (a : Addr) (L : List (Addr × List Int)) (es : Array (Int × Value)) (ep : Nat) (t : SetTable) : Prop where
  ob : ∃ o, h.get? a = some o ∧ o.ExactSet ∧ o.data = .set es ep t
  rows : es.toList = rowsOf P w L
  tab : Tb t (L.map fun p => thash P w p.2)
  nd : (L.map (·.2)).Nodup
  tup : ∀ p ∈ L, IsT P w h p.2 p.1
  plain : t.plain = true
  led : w.params.followText "set-order" = true ∨ t.led = true
  room : L.length * 5 < t.mask * 3
  few : L.length < 1200
/-- the c-th probe of a hash -/
def prb (m : Nat) (h : Int) (c : Nat) : SetTable.Probe := nth m (runAt m (SetTable.bits h % (m + 1)) (SetTable.bits h)) c
theorem prb_j (m : Nat) (h : Int) (c : Nat) : (prb m h c).j = way m h c := rfl
theorem prb_add (m : Nat) (h : Int) (c q : Nat) : nth m (prb m h c) q = prb m h (c + q) := (nth_add m c _ q).symm
theorem nth_dummy (m : Nat) : ∀ (n : Nat) (p : SetTable.Probe), p.dummy = none → (nth m p n).dummy = none
  | 0, _, h => h
  | n + 1, p, h => nth_dummy m n (adv m p) (by
    unfold adv
    split
    · exact h
    · exact h)
variable {a : Addr} {L : List (Addr × List Int)} {es : Array (Int × Value)} {ep : Nat} {t : SetTable}
theorem SetB.esz (R : SetB P w s.heap a L es ep t) : es.size = L.length := by
  have := congrArg List.length R.rows
  simpa [rowsOf] using this
theorem SetB.psz (R : SetB P w s.heap a L es ep t) : t.place.size = L.length := by
  have := R.tab.sz
  simpa using this
theorem SetB.fit (R : SetB P w s.heap a L es ep t) : t.fits es.size = true := by
  have h1 := R.psz
  have h2 := R.esz
  have h3 := R.room
  unfold SetTable.fits SetTable.fill
  rw [R.tab.dm, h1, h2, Bool.and_eq_true, beq_iff_eq, decide_eq_true_eq]
  exact ⟨rfl, by show L.length + 0 ≤ t.mask; omega⟩
theorem SetB.ent (R : SetB P w s.heap a L es ep t) {i : Nat} {p : Addr × List Int} (h : L[i]? = some p) : es[i]? = some (thash P w p.2, Value.ref p.1) := by
  have e : es.toList[i]? = some (thash P w p.2, Value.ref p.1) := by
    rw [R.rows]
    unfold rowsOf
    rw [List.getElem?_map, h]
    rfl
  rw [Array.getElem?_toList] at e
  exact e
theorem SetB.stay (R : SetB P w s.heap a L es ep t) : ¬ t.gaveWay = true := by
  have : t.mask % 2 = 1 := by
    rcases R.tab.msk with e | e | e | e | e <;> rw [e]
  unfold SetTable.gaveWay
  rw [this]
  decide
/-- the search from its c-th probe on -/
theorem look_from (R : SetB P w s.heap a L es ep t) {x : Addr} {k : List Int} (hx : IsT P w s.heap k x) (hu : A.units < cLine) {n : Nat} (hn : n < 10 * SetTable.turns t.mask)
    (hN : way t.mask (thash P w k) n ∉ t.place.toList) (hB : ∀ c, c < n → way t.mask (thash P w k) c ∈ t.place.toList) {Q : SetFound → Shared → Prop}
    (hin : k ∈ L.map (·.2) → Q (.there none) s) (hout : k ∉ L.map (·.2) → Q (.free (way t.mask (thash P w k) n) false) s) :
    ∀ (f c : Nat) (stand : Option SetTable.Probe), stand.getD (t.probeStart (thash P w k)) = prb t.mask (thash P w k) c → c ≤ n → n - c < f →
      (∀ (i : Nat) p, L[i]? = some p → p.2 = k → ∃ c', c ≤ c' ∧ c' < n ∧ t.place.toList[i]? = some (way t.mask (thash P w k) c')) →
      wpAny (model P w) A (setSearchFrom a (.ref x) (thash P w k) true f stand) Q E s := by
  obtain ⟨hh, hhe⟩ : ∃ hh, hh = thash P w k := ⟨_, rfl⟩
  rw [← hhe] at hN hB hout ⊢
  obtain ⟨o, ho, hex, hd⟩ := R.ob
  have hash_of : ∀ {i : Nat} {p : Addr × List Int}, L[i]? = some p → (es[i]?.map (·.1)).getD 0 = thash P w p.2 := fun hp => by rw [R.ent hp]; rfl
  intro f
  induction f with
  | zero => exact fun c _ _ _ hf => absurd hf (Nat.not_lt_zero _)
  | succ f ih =>
    intro c stand hst hc hf hre
    rw [setSearchFrom_succ]
    refine wpAny_bind (wpAny_setState_of ho hd R.fit ?_)
    dsimp only
    refine wp_if_neg R.stay ?_
    try refine wpAny_bind (wpAny_pure ?_)
    have G := go_spec t R.tab.ris R.tab.dm (fun i => (es[i]?.map (·.1)).getD 0) hh (10 * SetTable.turns t.mask) (n - c) (prb t.mask hh c) (nth_dummy _ _ _ rfl) (by omega)
      (fun q hq => by rw [prb_add]; exact hB (c + q) (by omega)) (by rw [prb_add, show c + (n - c) = n by omega]; exact hN)
    rcases G with ⟨q, i, hq, hi, hhi, hno, hp⟩ | ⟨hno, hp⟩
    · rw [prb_add, prb_add, prb_j] at hp
      rw [prb_add, prb_j] at hi
      have hp' : t.probe (fun i => (es[i]?.map (·.1)).getD 0) hh (stand.getD (t.probeStart hh)) = some (.candidate (way t.mask hh (c + q)) i (prb t.mask hh (c + (q + 1)))) := by
        rw [hst]
        exact hp
      rw [hp']
      dsimp only
      have hil : i < L.length := by
        have h1 := (List.getElem?_eq_some_iff.mp hi).1
        rw [Array.length_toList, R.psz] at h1
        exact h1
      obtain ⟨p, hpi⟩ : ∃ p, L[i]? = some p := ⟨_, List.getElem?_eq_getElem hil⟩
      have hpm : p ∈ L := List.mem_of_getElem? hpi
      have hsl : t.slot (way t.mask hh (c + q)) = .live i := slot_live R.tab.ris hi
      have go_on : wpAny (model P w) A (searchRest a (.ref x) hh true f es t (way t.mask hh (c + q)) i (prb t.mask hh (c + (q + 1)))) Q E s := by
        unfold searchRest
        rw [R.ent hpi]
        dsimp only
        refine wpAny_bind (wpAny_holding (wpAny_eqBool_tuple hu (R.tup p hpm) hx ?_))
        refine wpAny_bind (wpAny_setState_of ho hd R.fit ?_)
        dsimp only
        by_cases same : p.2 = k
        · refine wp_if_pos (by simp [same]) (wpAny_pure (hin ?_))
          exact List.mem_map.mpr ⟨p, hpm, same⟩
        · refine wp_if_neg (by simp [same]) ?_
          try refine wpAny_bind (wpAny_pure ?_)
          rw [sameMem]
          dsimp only
          simp only [if_true, hsl, R.ent hpi]
          refine wpAny_bind (wpAny_isSame_ref_self (wpAny_bind (wpAny_pure ?_)))
          simp only [if_true]
          refine wp_if_neg (by simp [same]) ?_
          refine ih (c + (q + 1)) _ rfl (by omega) (by omega) ?_
          intro i0 p0 h0 hk0
          obtain ⟨c', a1, a2, a3⟩ := hre i0 p0 h0 hk0
          refine ⟨c', ?_, a2, a3⟩
          have n1 : ¬ c' < c + q := fun z => by
            refine hno (c' - c) i0 (by omega) ?_ ?_
            · rw [prb_add, prb_j, show c + (c' - c) = c' by omega]
              exact a3
            · rw [hash_of h0, hk0, hhe]
          have n2 : c' ≠ c + q := fun z => by
            rw [z] at a3
            have e := slot_live R.tab.ris a3
            rw [hsl] at e
            cases e
            rw [hpi] at h0
            cases h0
            exact same hk0
          omega
      by_cases hl : t.led = true
      · refine wp_if_neg (by simp [hl]) ?_
        try refine wpAny_bind (wpAny_pure ?_)
        exact go_on
      · refine wp_if_pos (by simp [hl]) ?_
        refine wpAny_bind (seen_tup hx (fun y hy => ?_) ?_)
        · obtain ⟨e, he, rfl⟩ := List.mem_map.mp hy
          have he2 : e ∈ es.toList := by
            have : e ∈ es ∧ e.1 = hh := by simpa using he
            simpa using this.1
          rw [R.rows] at he2
          obtain ⟨p2, hp2, rfl⟩ := List.mem_map.mp he2
          exact ⟨p2.2, p2.1, rfl, R.tup p2 hp2⟩
        · refine wp_if_neg (by decide) ?_
          try refine wpAny_bind (wpAny_pure ?_)
          exact go_on
    · rw [prb_add, prb_j, show c + (n - c) = n by omega] at hp
      have hp' : t.probe (fun i => (es[i]?.map (·.1)).getD 0) hh (stand.getD (t.probeStart hh)) = some (.empty (way t.mask hh n) none) := by
        rw [hst]
        exact hp
      rw [hp']
      dsimp only
      refine wpAny_pure (hout fun hm => ?_)
      obtain ⟨p0, h0, hk0⟩ := List.mem_map.mp hm
      obtain ⟨i0, h00⟩ := List.getElem?_of_mem h0
      obtain ⟨c', a1, a2, a3⟩ := hre i0 p0 h00 hk0
      refine hno (c' - c) i0 (by omega) ?_ ?_
      · rw [prb_add, prb_j, show c + (c' - c) = c' by omega]
        exact a3
      · rw [hash_of h00, hk0, hhe]
theorem look_at (R : SetB P w s.heap a L es ep t) {x : Addr} {k : List Int} (hx : IsT P w s.heap k x) (hu : A.units < cLine) {Q : SetFound → Shared → Prop}
    (hin : k ∈ L.map (·.2) → Q (.there none) s)
    (hout : ∀ n, k ∉ L.map (·.2) → way t.mask (thash P w k) n ∉ t.place.toList → (∀ c, c < n → way t.mask (thash P w k) c ∈ t.place.toList) → Q (.free (way t.mask (thash P w k) n) false) s) :
    wpAny (model P w) A (setSearch a (.ref x) (thash P w k) true) Q E s := by
  have hroom := R.room
  obtain ⟨n, hn, hN, hB⟩ := R.tab.free (by rw [List.length_map]; omega) (thash P w k)
  have hbig : n < 100000 := by
    unfold SetTable.turns at hn
    rcases R.tab.msk with e | e | e | e | e <;> omega
  unfold setSearch
  refine look_from R hx hu hn hN hB hin (fun z => hout n z hN hB) 100000 0 none rfl (Nat.zero_le _) (by omega) ?_
  intro i p hp hk
  have hi : (L.map fun p => thash P w p.2)[i]? = some (thash P w k) := by rw [List.getElem?_map, hp, ← hk]; rfl
  have hil : i < t.place.toList.length := by
    rw [Array.length_toList, R.psz]
    exact (List.getElem?_eq_some_iff.mp hp).1
  obtain ⟨c, hc, e⟩ := R.tab.ahead hN hi (List.getElem?_eq_getElem hil)
  exact ⟨c, Nat.zero_le _, hc, by rw [e]; exact List.getElem?_eq_getElem hil⟩
/-- laid anew, greater -/
theorem relay_to {o : Obj} (ho : s.heap.get? a = some o) (hex : o.ExactSet) (hd : o.data = .set es ep t) (hrows : es.toList = rowsOf P w L) (hsz : t.place.size = L.length) (hdm : t.dummies = #[]) (hfl : L.length ≤ t.mask)
    (nd : (L.map (·.2)).Nodup) (tup : ∀ p ∈ L, IsT P w s.heap p.2 p.1) (pl : t.plain = true) (ld : w.params.followText "set-order" = true ∨ t.led = true) (few : L.length < 1200) {wanted m : Nat}
    (hw : SetTable.sizeAbove wanted = m + 1) (hm : Mk m) (hn : L.length * 5 < m * 3) {Q : Unit → Shared → Prop}
    (hQ : ∀ h' L' es' ep' t', Heap.SameBut a s.heap h' → SetB P w h' a L' es' ep' t' → L'.Perm L → Q () { s with heap := h' }) : wpAny (model P w) A (setRelay a wanted) Q E s := by
  have hsl : es.size = L.length := by
    have := congrArg List.length hrows
    simpa [rowsOf] using this
  have hfit : t.fits es.size = true := by
    unfold SetTable.fits SetTable.fill
    rw [hdm, hsz, hsl, Bool.and_eq_true, beq_iff_eq, decide_eq_true_eq]
    exact ⟨rfl, by show L.length + 0 ≤ t.mask; omega⟩
  have hm2 : m ≤ 2047 := by rcases hm with e | e | e | e | e <;> omega
  obtain ⟨t', order, e, hp, T, em, el, epl⟩ := anew_ok t (hs := es.map (·.1)) (wanted := wanted) (m := m) (by omega) hm (by rw [Array.size_map, hsl]; omega)
  rw [Array.size_map, hsl] at hp
  obtain ⟨L2, r1, r2, r3⟩ := order_rows L es order hrows hp
  rw [← r3] at T
  have hs2 : (order.filterMap (es[·]?)).size = es.size := by
    have := congrArg List.length r1
    rw [Array.length_toList] at this
    rw [this, hsl, ← r2.length_eq]
    simp [rowsOf]
  rw [setRelay_eq]
  refine wpAny_bind (wpAny_setState_of ho hd hfit ?_)
  dsimp only
  refine wp_if_neg (by rw [sizeLine_eq]; omega) ?_
  try refine wpAny_bind (wpAny_pure ?_)
  rw [e]
  dsimp only
  refine wpAny_bind ?_
  refine wp_if_neg (by rw [hs2]; simp) ?_
  try refine wpAny_bind (wpAny_pure ?_)
  refine wpAny_pure ?_
  dsimp only
  refine wpAny_storeSet_of ho hd ?_ (by rw [hs2, hsl, sizeLine_eq]; omega)
  have sb : Heap.SameBut a s.heap (s.heap.update a (Obj.putSet (order.filterMap (es[·]?)) t')) := Heap.SameBut.update ..
  refine hQ _ L2 (order.filterMap (fun i => es[i]?)) (ep + 1) t' sb ?_ r2
  exact ⟨⟨_, store_at ho hd, ⟨hex.1, hex.2.1, hex.2.2⟩, rfl⟩, r1, T, (r2.map (·.2)).nodup_iff.mpr nd, fun p hpm => isT_same (tup p (r2.mem_iff.mp hpm)) ho hd sb, by rw [epl]; exact pl, by rw [el]; exact ld, by rw [r2.length_eq, em]; exact hn, by rw [r2.length_eq]; exact few⟩
theorem sz5 : SetTable.sizeAbove (SetTable.grown 5) = 31 + 1 := by decide +kernel
theorem sz19 : SetTable.sizeAbove (SetTable.grown 19) = 127 + 1 := by decide +kernel
theorem sz77 : SetTable.sizeAbove (SetTable.grown 77) = 511 + 1 := by decide +kernel
theorem sz307 : SetTable.sizeAbove (SetTable.grown 307) = 2047 + 1 := by decide +kernel
/-- one added -/
theorem put_in (R : SetB P w s.heap a L es ep t) {x : Addr} {k : List Int} (hx : IsT P w s.heap k x) (hu : A.units < cLine) (hfew : L.length + 1 < 1200) {Q : Bool → Shared → Prop}
    (hQ : ∀ b h' L' es' ep' t', Heap.SameBut a s.heap h' → SetB P w h' a L' es' ep' t' → (k ∈ L.map (·.2) → L' = L) → (k ∉ L.map (·.2) → L'.Perm ((x, k) :: L)) → Q b { s with heap := h' }) :
    wpAny (model P w) A (setAddHashed a (.ref x) (thash P w k)) Q E s := by
  obtain ⟨o, ho, hex, hd⟩ := R.ob
  have hsl := R.esz
  have hroom := R.room
  unfold setAddHashed
  refine wpAny_holding ?_
  rw [show (100000 : Nat) = 99999 + 1 from rfl, setAddHashedIn_succ]
  refine wpAny_bind (wpAny_setState_of ho hd R.fit ?_)
  dsimp only
  refine wp_if_neg (by simp [byScan, Value.scannable]) ?_
  try refine wpAny_bind (wpAny_pure ?_)
  refine wpAny_bind (look_at R hx hu (fun hm => ?_) fun n hm hN hB => ?_)
  · dsimp only
    exact wpAny_pure (hQ false s.heap L es ep t (Heap.SameBut.refl a s.heap) R (fun _ => rfl) fun z => absurd hm z)
  dsimp only
  refine wpAny_bind (wpAny_setState_of ho hd R.fit ?_)
  dsimp only
  obtain ⟨j, hj⟩ : ∃ j, way t.mask (thash P w k) n = j := ⟨_, rfl⟩
  rw [hj] at hN ⊢
  obtain ⟨p, hpp⟩ : ∃ p, SetTable.below t.place j = p := ⟨_, rfl⟩
  obtain ⟨q1, q2, q3⟩ := R.tab.add (h := thash P w k) hpp ⟨n, hj, hB⟩ hN
  have f1 : (t.put j).2 = p := hpp
  have f2 : (t.put j).1.mask = t.mask := rfl
  have f3 : (t.put j).1.led = t.led := rfl
  have f4 : (t.put j).1.plain = true := R.plain
  have f5 : (t.put j).1.dummies = #[] := put_dm R.tab.dm j
  generalize t.put j = pt at q2 q3 f1 f2 f3 f4 f5 ⊢
  obtain ⟨t1, p1⟩ := pt
  dsimp only at q2 q3 f1 f2 f3 f4 f5 ⊢
  subst f1
  first
    | (refine wpAny_bind ?_; refine wp_if_pos f4 ?_; refine hashBy_tup hx ?_)
    | refine wp_if_pos f4 (wpAny_bind (hashBy_tup hx ?_))
  simp only [if_true]
  have hin : (SetTable.insertAt es p1 (thash P w k, Value.ref x)).toList = rowsOf P w (L.take p1 ++ (x, k) :: L.drop p1) := by
    rw [SetTable.toList_insertAt, rows_put, R.rows]
  have pm := put_perm L p1 (x, k)
  have hlen : (L.take p1 ++ (x, k) :: L.drop p1).length = L.length + 1 := pm.length_eq
  have q2' : Tb t1 ((L.take p1 ++ (x, k) :: L.drop p1).map fun p => thash P w p.2) := by
    rw [List.map_append, List.map_cons, List.map_take, List.map_drop]
    exact q2
  have nd1 : ((L.take p1 ++ (x, k) :: L.drop p1).map (·.2)).Nodup := (pm.map (·.2)).nodup_iff.mpr (List.nodup_cons.mpr ⟨hm, R.nd⟩)
  rw [List.length_map] at q1 q3
  generalize L.take p1 ++ (x, k) :: L.drop p1 = L1 at pm hlen q2' nd1 hin
  have hes : (SetTable.insertAt es p1 (thash P w k, Value.ref x)).size = L.length + 1 := by
    have := congrArg List.length hin
    rw [Array.length_toList] at this
    rw [this, ← hlen]
    simp [rowsOf]
  generalize SetTable.insertAt es p1 (thash P w k, Value.ref x) = es1 at hin hes ⊢
  refine wpAny_bind (wpAny_storeSet_of ho hd ?_ (by rw [hes, sizeLine_eq]; omega))
  have sb : Heap.SameBut a s.heap (s.heap.update a (Obj.putSet es1 t1)) := Heap.SameBut.update ..
  have ho1 := store_at (es' := es1) (t' := t1) ho hd
  generalize s.heap.update a (Obj.putSet es1 t1) = h1 at sb ho1 ⊢
  have tup1 : ∀ p ∈ L1, IsT P w h1 p.2 p.1 := by
    intro p hp
    rcases List.mem_cons.mp (pm.mem_iff.mp hp) with rfl | hp
    · exact isT_same hx ho hd sb
    · exact isT_same (R.tup p hp) ho hd sb
  have ld1 : w.params.followText "set-order" = true ∨ t1.led = true := by rw [f3]; exact R.led
  have full : t1.tooFull = decide ((L.length + 1) * 5 ≥ t.mask * 3) := by
    unfold SetTable.tooFull
    rw [q3, f2]
  by_cases hf : (L.length + 1) * 5 ≥ t.mask * 3
  · rw [decide_eq_true hf] at full
    first
      | (refine wpAny_bind ?_; refine wp_if_pos (by simp [full]) ?_)
      | (refine wp_if_pos (by simp [full]) ?_; refine wpAny_bind ?_)
    rw [hsl]
    have next : ∃ m, SetTable.sizeAbove (SetTable.grown (L.length + 1)) = m + 1 ∧ Mk m ∧ (L.length + 1) * 5 < m * 3 := by
      rcases R.tab.msk with e | e | e | e | e
      · rw [e] at hf hroom
        rw [show L.length + 1 = 5 by omega]
        exact ⟨31, sz5, .inr (.inl rfl), by decide⟩
      · rw [e] at hf hroom
        rw [show L.length + 1 = 19 by omega]
        exact ⟨127, sz19, .inr (.inr (.inl rfl)), by decide⟩
      · rw [e] at hf hroom
        rw [show L.length + 1 = 77 by omega]
        exact ⟨511, sz77, .inr (.inr (.inr (.inl rfl))), by decide⟩
      · rw [e] at hf hroom
        rw [show L.length + 1 = 307 by omega]
        exact ⟨2047, sz307, .inr (.inr (.inr (.inr rfl))), by decide⟩
      · omega
    obtain ⟨m, m1, m2, m3⟩ := next
    refine relay_to (s := { s with heap := h1 }) ho1 ⟨hex.1, hex.2.1, hex.2.2⟩ rfl hin (by rw [q2'.sz, List.length_map]) f5 (by rw [hlen, f2]; omega) nd1 tup1 f4 ld1 (by rw [hlen]; exact hfew) m1 m2 (by rw [hlen]; exact m3) ?_
    intro h2 L2 es2 ep2 t2 sb2 R2 pm2
    exact wpAny_pure (hQ true h2 L2 es2 ep2 t2 (sb.trans sb2) R2 (fun z => absurd z hm) fun _ => pm2.trans pm)
  · rw [decide_eq_false hf] at full
    first
      | refine wp_if_neg (by simp [full]) ?_
      | (refine wpAny_bind ?_; refine wp_if_neg (by simp [full]) ?_; refine wpAny_pure ?_)
    refine wpAny_pure (hQ true h1 L1 es1 (ep + 1) t1 sb ⟨⟨_, ho1, ⟨hex.1, hex.2.1, hex.2.2⟩, rfl⟩, hin, q2', nd1, tup1, f4, ld1, by rw [hlen, f2]; omega, by rw [hlen]; exact hfew⟩ (fun z => absurd z hm) fun _ => pm)
end
end Z


set_option maxRecDepth 100000
set_option maxHeartbeats 4000000
/-! S3: set(list of tuples), sorted(set). -/
namespace Z
open PySem PySem.Spec PyProof.Rows L2
section
variable {P : Program} {w : World} {A : Around} {E : Value → Shared → Prop} {s : Shared}
theorem SetB.keep {h h' : Heap} {a : Addr} {L : List (Addr × List Int)} {es : Array (Int × Value)} {ep : Nat} {t : SetTable} (R : SetB P w h a L es ep t) (ha : ∀ o, h.get? a = some o → h'.get? a = some o) (ht : ∀ p ∈ L, IsT P w h' p.2 p.1) : SetB P w h' a L es ep t :=
  ⟨R.ob.imp fun o x => ⟨ha o x.1, x.2⟩, R.rows, R.tab, R.nd, ht, R.plain, R.led, R.room, R.few⟩
theorem setB_new {h : Heap} {a : Addr} {b : Bool} (hb : b = !w.params.followText "set-order") (ho : h.get? a = some { cls := .type "set", dict := none, data := .set #[] 0 (.fresh 0 0 b) }) : SetB P w h a [] #[] 0 (.fresh 0 0 b) where
  ob := ⟨_, ho, ⟨rfl, rfl, rfl⟩, rfl⟩
  rows := rfl
  tab := ⟨List.Pairwise.nil, rfl, rfl, .inl rfl, (fun x hx => nomatch hx), (fun i h j hi => by simp at hi)⟩
  nd := List.nodup_nil
  tup := fun p hp => nomatch hp
  plain := rfl
  led := by
    show _ ∨ b = true
    rw [hb]
    cases w.params.followText "set-order" <;> simp
  room := show 0 * 5 < 7 * 3 by decide
  few := by decide
theorem nodup_le {α : Type} [DecidableEq α] : ∀ {l u : List α}, l.Nodup → (∀ x ∈ l, x ∈ u) → l.length ≤ u.length
  | [], _, _, _ => Nat.zero_le _
  | x :: l, u, nd, h => by
    obtain ⟨h1, h2⟩ := List.nodup_cons.mp nd
    have hx : x ∈ u := h x List.mem_cons_self
    have := nodup_le (u := u.erase x) h2 fun y hy => (List.mem_erase_of_ne (fun z => by rw [z] at hy; exact h1 hy)).mpr (h y (List.mem_cons_of_mem _ hy))
    rw [List.length_erase_of_mem hx] at this
    have pos : 0 < u.length := List.length_pos_of_mem hx
    rw [List.length_cons]
    omega
/-- few keys -/
def FewK (ks : List (Addr × List Int)) : Prop := ∃ U : List (List Int), (∀ p ∈ ks, p.2 ∈ U) ∧ U.length < 1199
abbrev setO (b : Bool) : Obj := { cls := .type "set", dict := none, data := .set #[] 0 (.fresh 0 0 b) }
/-- the loop of set.update over a list of tuples -/
theorem upd_loop {I : Addr} {fp wr : List Addr} {G : Array GenState → Array GenState → Prop} {n : Nat} {Pv : Nat → Value → Prop} {St : Nat → Shared → Prop} {R : Result → Shared → Prop}
    (W : WalksS P w A.in1 I fp wr G n Pv St) (S : Addr) (hS1 : S ∉ fp) (ks : List (Addr × List Int)) (hn : n = ks.length) (few : FewK ks) (hv : ∀ i v, Pv i v → ∃ p, ks[i]? = some p ∧ v = .ref p.1)
    (h0 : Heap) (hk : ∀ p ∈ ks, IsT P w h0 p.2 p.1) (hS0 : h0.get? S = none) (hw0 : ∀ b ∈ wr, h0.get? b = none) (hu : A.in1.units < cLine) (k : Nat) :
    ∀ (i : Nat) (s : Shared), n - i = k → i ≤ n → St i s → (∀ b o, h0.get? b = some o → s.heap.get? b = some o) → (∃ L es ep t, SetB P w s.heap S L es ep t ∧ Got ks i L) →
      (∀ s' L es ep t, Moved (S :: wr) G s s' → SetB P w s'.heap S L es ep t → Got ks n L → (∀ b o, h0.get? b = some o → s'.heap.get? b = some o) → R (.ok (.ret .none)) s') →
      codeAny (model P w) A (.builtin "set.update.loop" ⟨[.ref S, .ref I], []⟩) R s := by
  have notw : S ∉ wr := fun h => hS1 (W.sub _ h)
  have wider : ∀ b ∈ wr, b ∈ S :: wr := fun b h => .tail _ h
  have still : ∀ {s s' : Shared}, Moved wr G s s' → (∀ b o, h0.get? b = some o → s.heap.get? b = some o) → ∀ b o, h0.get? b = some o → s'.heap.get? b = some o :=
    fun hm z b o e => hm.heap b o (fun h => by rw [hw0 b h] at e; cases e) (z b o e)
  induction k with
  | zero =>
    rintro i s q1 q2 hst z ⟨L, es, ep, t, hS, g⟩ fin
    obtain rfl : i = n := by omega
    refine codeAny_builtin F.entry_set_update_loop ?_
    rw [Around.under_plainId F.plain_set_update_loop _]
    show wpAny _ A.in1 (pyNext (.ref I) >>= _) _ _ s
    refine wpAny_bind (W.done s _ _ hst fun s' hm => ?_)
    have z' := still hm z
    exact wpAny_pure (fin s' L es ep t (hm.mono wider) (hS.keep (fun o e => hm.heap S o notw e) fun p hp => isT_keep (hk p (List.mem_of_mem_take (g.sub p hp))) z') g z')
  | succ k ih =>
    rintro i s q1 q2 hst z ⟨L, es, ep, t, hS, g⟩ fin
    refine codeAny_builtin F.entry_set_update_loop ?_
    rw [Around.under_plainId F.plain_set_update_loop _]
    show wpAny _ A.in1 (pyNext (.ref I) >>= _) _ _ s
    refine wpAny_bind (W.item i s _ _ (show i < n by omega) hst fun v s' hP hst' hm => ?_)
    obtain ⟨p, hp, rfl⟩ := hv i v hP
    have z' := still hm z
    have hS' := hS.keep (h' := s'.heap) (fun o e => hm.heap S o notw e) fun q hq => isT_keep (hk q (List.mem_of_mem_take (g.sub q hq))) z'
    have hx : IsT P w s'.heap p.2 p.1 := isT_keep (hk p (List.mem_of_getElem? hp)) z'
    show wpAny _ A.in1 (holding [Value.ref p.1] (setAdd S (.ref p.1)) >>= _) _ _ s'
    refine wpAny_bind (wpAny_holding ?_)
    unfold setAdd
    refine wpAny_holding (wpAny_bind (wpAny_pyHash_tuple hu hx ?_))
    have hfew : L.length + 1 < 1200 := by
      obtain ⟨U, u1, u2⟩ := few
      have := nodup_le (u := U) hS.nd fun k hk => by
        obtain ⟨q, hq, rfl⟩ := List.mem_map.mp hk
        exact u1 q (List.mem_of_mem_take (g.sub q hq))
      rw [List.length_map] at this
      omega
    refine put_in (s := { s' with toks := s'.toks + (p.2.length + 1) }) hS' hx hu (by omega) fun b h' L' es' ep' t' sb hS2 c1 c2 => ?_
    have g' : Got ks (i + 1) L' := by
      by_cases c : p.2 ∈ L.map (·.2)
      · rw [c1 c]
        exact g.same hp c
      · exact g.more hp (c2 c)
    have neS : ∀ {c : Addr} {o : Obj}, h0.get? c = some o → c ≠ S := fun e y => by rw [y, hS0] at e; cases e
    have z2 : ∀ b o, h0.get? b = some o → h'.get? b = some o := fun b o e => (sb.2 b (neS e)).trans (z' b o e)
    refine wpAny_pure ⟨plainId_quiet F.plain_set_update_loop _, ih (i + 1) _ (by omega) (by omega) (W.frame _ s' _ _ hst' (Nat.le_add_right _ _) fun b hb o e => ?_) z2 ⟨L', es', ep', t', hS2, g'⟩ fun s2 L2 es2 ep2 t2 hm2 hS3 g2 z3 => ?_⟩
    · exact (sb.2 b (fun y => hS1 (y ▸ hb))).trans e
    · refine fin s2 L2 es2 ep2 t2 (Moved.trans W.gtrans ((hm.mono wider).then_heap (Nat.le_add_right _ _) fun b o hb e => ?_) hm2) hS3 g2 z3
      exact (sb.2 b (fun y => hb (y ▸ List.mem_cons_self))).trans e
set_option maxHeartbeats 8000000 in
/-- set(xs), xs a list of tuples of ints -/
theorem set_made {l : Addr} {items : Array Value} (ks : List (Addr × List Int)) {Q : Value → Shared → Prop} (hh : A.handled = none) (hl : s.heap.IsList l items) (hit : items.toList = ks.map fun p => Value.ref p.1)
    (hk : ∀ p ∈ ks, IsT P w s.heap p.2 p.1) (few : FewK ks) (hu : A.units + 3 < cLine)
    (fin : ∀ (h' : Heap) (tk : Nat) L es ep t, SetB P w h' s.heap.objs.size L es ep t → Got ks ks.length L → (∀ b o, s.heap.get? b = some o → h'.get? b = some o) → Q (.ref s.heap.objs.size) { s with heap := h', toks := tk }) :
    wpAny (model P w) A (call (.type "set") [.ref l]) Q E s := by
  have hsz : items.size = ks.length := by
    have := congrArg List.length hit
    simpa using this
  obtain ⟨ro, hro⟩ : ∃ ro, ro = !w.params.followText "set-order" := ⟨_, rfl⟩
  obtain ⟨so, hso⟩ : ∃ so : Obj, so = { cls := .type "set", dict := none, data := .set #[] 0 (.fresh 0 0 ro) } := ⟨_, rfl⟩
  obtain ⟨_, _, hmro⟩ := F.called_set.mro
  have hmade := F.called_set.made
  have hsub := F.called_set.sub
  have g1 := F.called_set.notType
  have g2 := F.called_set.canCreate
  have g3 := F.typeCall_set_1 (.ref l)
  refine wpAny_call (codeAny_of_tree ?_)
  show wpAny _ _ (callAny (.type "set") _) _ _ _
  refine wpAny_pure ⟨Code.quiet_builtin _ (by decide +kernel), codeAny_builtin F.entry_type_call ?_⟩
  rw [Around.under_plain (weight_type_call_type "set" [.ref l] []) rfl]
  repeat (any_goals (first | assumption | wp_step))
  refine codeAny_mono (code_set_led1 (.ref l) (E := E) (Q₁ := fun v s1 => v = .ref s.heap.objs.size ∧ s1 = { s with heap := s.heap.push so }) ⟨rfl, by rw [hso, hro]⟩) fun r s1 hr => ?_
  cases r with
  | error e => exact hr
  | ok fl =>
    cases fl with
    | ret v =>
      obtain ⟨rfl, rfl⟩ := hr
      have hS : (s.heap.push so).get? s.heap.objs.size = some so := Heap.get?_push_size _ (by rw [hso]; rfl)
      have hT : Shared.TypeIs { s with heap := s.heap.push so } (.ref s.heap.objs.size) "set" := ⟨so, hS, by rw [hso]⟩
      have i1 := F.called_set.init.lookup
      have i2 := F.called_set.init.bind (.ref s.heap.objs.size)
      repeat (any_goals (first | assumption | wp_step))
      refine codeAny_mono (codeAny_call_builtin (R := wants (fun r s2 => r = .none ∧ ∃ h' tk L es ep t, s2 = { s with heap := h', toks := tk } ∧ SetB P w h' s.heap.objs.size L es ep t ∧ Got ks ks.length L ∧
          (∀ b o, s.heap.get? b = some o → h'.get? b = some o)) E) F.called_set.init.plain F.entry_set_init (check_set_init_1 hT ?_)) fun r2 s2 hr2 => ?_
      · obtain ⟨⟨c0, d0, data0, sl0⟩, hol, hcl, nl, hdl⟩ := hl
        simp only at hcl hdl
        subst hcl
        subst hdl
        have hol' : (s.heap.push so).get? l = some { cls := .type "list", dict := d0, data := .seq items nl, slots := sl0 } := Heap.get?_push_of_some _ hol
        have hl1 : (s.heap.push so).IsList l items := ⟨_, hol', rfl, nl, rfl⟩
        have k1 := F.sub_list_set
        have k2 := F.sub_list_frozenset
        have k3 : (Value.type "list" == Value.type "dict") = false := by decide
        subst hso
        unfold Builtin.«set.__init__» noKeywords Builtin.Frozenset.updateFrom
        generalize hPI : pyIter = PI
        wp_walk
        subst hPI
        refine wpAny_pyIter_list hl1 ?_
        refine wpAny_bind (wpAny_runValue ?_)
        have lt : l < s.heap.objs.size := Heap.lt_size hol
        have h3 : A.in1.in1.in1.handled = none := by simp [hh]
        have neI : l ≠ (s.heap.push (setO ro)).objs.size := by
          rw [Heap.size_push]
          exact Nat.ne_of_lt (Nat.lt_succ_of_lt lt)
        have notS : s.heap.objs.size ∉ [(s.heap.push (setO ro)).objs.size, l] := by
          rw [Heap.size_push]
          intro h
          rcases List.mem_cons.mp h with h | h
          · exact absurd h (Nat.ne_of_lt (Nat.lt_succ_self _))
          · exact absurd (List.mem_singleton.mp h) (Nat.ne_of_gt lt)
        have val : ∀ (i : Nat) (v : Value), items[i]? = some v → ∃ p, ks[i]? = some p ∧ v = .ref p.1 := by
          intro i v hv
          rw [← Array.getElem?_toList, hit, List.getElem?_map] at hv
          obtain ⟨p, e1, e2⟩ := Option.map_eq_some_iff.mp hv
          exact ⟨p, e1, e2.symm⟩
        have above : ∀ b, s.heap.objs.size ≤ b → s.heap.get? b = none := by
          intro b hb
          cases q : s.heap.get? b with
          | none => rfl
          | some o => exact absurd (Nat.lt_of_lt_of_le (Heap.lt_size q) hb) (Nat.lt_irrefl _)
        refine upd_loop ((Walks.list h3 _ l neI items).toS) s.heap.objs.size notS ks hsz few val s.heap hk (above _ (Nat.le_refl _)) (fun b hb => above b ?_) hu (items.size - 0) 0 _ rfl (Nat.zero_le _)
          ⟨⟨_, Heap.get?_push_size _ rfl, rfl, rfl⟩, (hl1.push _)⟩ ?old ⟨[], #[], 0, _, setB_new hro (?_ : _ = some _), Got.zero ks⟩ ?_
        case old => exact fun b o e => Heap.get?_push_of_some _ (Heap.get?_push_of_some _ e)
        · rw [List.mem_singleton.mp hb, Heap.size_push]
          exact Nat.le_succ _
        · exact Heap.get?_push_of_some _ hS
        · intro s' L es ep t hm hS' g' z
          obtain ⟨h', g2, d', tk', os'⟩ := s'
          obtain rfl : g2 = s.gens := hm.gens
          obtain rfl : d' = s.drawn := hm.drawn
          obtain rfl : os' = s.os := hm.os
          show wpAny _ _ _ _ _ _
          refine wpAny_pure ?_
          show wpAny _ _ (ret Value.none) _ _ _
          rw [hsz] at g'
          exact wpAny_pure ⟨rfl, h', tk', L, es, ep, t, rfl, hS', g', z⟩
      · cases r2 with
        | error e => exact hr2
        | ok fl2 =>
          cases fl2 with
          | ret v =>
            obtain ⟨rfl, h', tk, L, es, ep, t, rfl, hS', g', z⟩ := hr2
            repeat (any_goals (first | assumption | wp_step))
            exact fin _ _ _ _ _ _ hS' g' z
          | _ => exact hr2.elim
    | _ => exact hr.elim
end
end Z


set_option maxRecDepth 100000
set_option maxHeartbeats 4000000
/-! S4: sorted(set), as a rule of layer Z. -/
namespace Z
open PySem PySem.Spec PyProof.Rows L2
theorem perm_pull {α β : Type} {f : α → β} {vs ws : List β} (h : vs.Perm ws) : ∀ L : List α, ws = L.map f → ∃ L1 : List α, vs = L1.map f ∧ L1.Perm L := by
  induction h with
  | nil => exact fun L e => ⟨[], rfl, by rw [List.map_eq_nil_iff.mp e.symm]⟩
  | cons x _ ih =>
    intro L e
    cases L with
    | nil => cases e
    | cons a L =>
      obtain ⟨rfl, e2⟩ := List.cons.inj e
      obtain ⟨L1, rfl, p⟩ := ih L e2
      exact ⟨a :: L1, rfl, p.cons a⟩
  | swap x y l =>
    intro L e
    match L, e with
    | a :: b :: L, e =>
      obtain ⟨rfl, e2⟩ := List.cons.inj e
      obtain ⟨rfl, rfl⟩ := List.cons.inj e2
      exact ⟨b :: a :: L, rfl, List.Perm.swap a b L⟩
  | trans _ _ ih1 ih2 =>
    intro L e
    obtain ⟨L1, rfl, p1⟩ := ih2 L e
    obtain ⟨L2, rfl, p2⟩ := ih1 L1 rfl
    exact ⟨L2, rfl, p2.trans p1⟩
section
variable {P : Program} {w : World} {A : Around} {E : Value → Shared → Prop} {s : Shared}
/-- a tuple of ints, as data -/
def encT (p : Addr × List Int) : PyData := .tuple (p.2.map .int)
theorem reads_ints {h : Heap} {k : List Int} {vs : List Value} (x : ItemsAre (intKind P w) k vs) : ReadsAll h vs (k.map .int) [] := by
  induction x with
  | nil => exact .nil
  | cons h1 _ ih =>
    obtain ⟨t, rfl⟩ := Value.isInt_shape h1
    exact .cons (as := []) (.int _ t) ih
theorem reads_tup {h : Heap} {p : Addr × List Int} (x : IsT P w h p.2 p.1) : Reads h (.ref p.1) (encT p) [] := by
  obtain ⟨o, items, n, ho, hc, hd, hi⟩ := x
  exact .tuple ho hc hd (reads_ints hi)
theorem eachT {L : List (Addr × List Int)} : PySem.W.EachIs (fun v (p : Addr × List Int) => v = Value.ref p.1) (L.map fun p => Value.ref p.1) L := by
  induction L with
  | nil => exact .nil
  | cons p L ih => exact .cons rfl ih
theorem eachT_inv {out : List Value} {L : List (Addr × List Int)} (e : PySem.W.EachIs (fun v (p : Addr × List Int) => v = Value.ref p.1) out L) : out = L.map fun p => Value.ref p.1 := by
  induction e with
  | nil => rfl
  | cons h _ ih =>
    subst h
    rw [List.map_cons, ih]
def tupLe : Addr × List Int → Addr × List Int → Bool := PySem.W.dataLe false encT
/-- sorted(s) of a set of pairs -/
theorem set_sorted {a : Addr} {L : List (Addr × List Int)} {es : Array (Int × Value)} {ep : Nat} {t : SetTable} {Q : Value → Shared → Prop} (R : SetB P w s.heap a L es ep t) (hh : A.handled = none) (hu : A.units + 10 < cLine)
    (h2 : ∀ p ∈ L, ∃ x y : Int, p.2 = [x, y])
    (hQ : ∀ s' p (out : Array Value) (c : Nat) (L1 : List (Addr × List Int)), (∀ b o, s.heap.get? b = some o → s'.heap.get? b = some o) → s'.gens = s.gens → s'.os = s.os → s.heap.objs.size ≤ p →
      s'.heap.get? p = some (seqObj "list" out c) → L1.Perm L → out.toList = (L1.mergeSort tupLe).map (fun q => Value.ref q.1) → Q (.ref p) s') :
    wpAny (model P w) A (call (.builtin "sorted") [.ref a]) Q E s := by
  obtain ⟨o, ho, hex, hd⟩ := R.ob
  have hsz := R.esz
  have hfew := R.few
  refine Calls.call_function_entry kind_sorted plain_sorted entry_sorted (args_sorted1 _) ?_
  unfold Builtin.«sorted»
  refine wpAny_bind (m := checkCount "sorted" 1 1 _) (wpAny_pure (wpAny_bind (collect_set (A := A.in1) hh ⟨o, ho, hex.1, hd⟩ R.fit (by unfold scanBound; omega) R.tab.ris R.led fun s1 vs k1 hz g1 o1 pm => ?_)))
  have hes : es.toList.map (·.2) = L.map fun q => Value.ref q.1 := by
    rw [R.rows]
    unfold rowsOf
    rw [List.map_map]
    rfl
  rw [hes] at pm
  obtain ⟨L1, rfl, pL⟩ := perm_pull pm L rfl
  have hl1 : L1.length < 1200 := by rw [pL.length_eq]; exact hfew
  refine wpAny_bind (wpAny_newList ?_ (by rw [sizeLine_eq, List.length_map]; omega))
  have hoL : (s1.heap.push (seqObj "list" (L1.map fun q => Value.ref q.1).toArray 0)).get? s1.heap.objs.size = some (seqObj "list" (L1.map fun q => Value.ref q.1).toArray 0) := Heap.get?_push_size _ rfl
  have two : ∀ p ∈ L1, ∃ x y : Int, p.2 = [x, y] := fun p hp => h2 p (pL.mem_iff.mp hp)
  have er : PySem.W.EachIs (fun v p => ∃ as, Reads (s1.heap.push (seqObj "list" (L1.map fun q => Value.ref q.1).toArray 0)) v (encT p) as ∧ s1.heap.objs.size ∉ as) (L1.map fun q => Value.ref q.1) L1 := by
    have key : ∀ M : List (Addr × List Int), (∀ p ∈ M, p ∈ L1) → PySem.W.EachIs (fun v p => ∃ as, Reads (s1.heap.push (seqObj "list" (L1.map fun q => Value.ref q.1).toArray 0)) v (encT p) as ∧ s1.heap.objs.size ∉ as) (M.map fun q => Value.ref q.1) M := by
      intro M
      induction M with
      | nil => exact fun _ => .nil
      | cons p M ih =>
        intro hM
        refine .cons ⟨[], reads_tup (P := P) (w := w) ?_, List.not_mem_nil⟩ (ih fun q hq => hM q (List.mem_cons_of_mem _ hq))
        exact isT_keep (R.tup p (pL.mem_iff.mp (hM p List.mem_cons_self))) fun b u e => Heap.get?_push_of_some _ (k1 b u e)
    exact key L1 fun _ h => h
  have al : PySem.W.AllAlike (L1.map encT) := by
    intro d hd d' hd'
    obtain ⟨p, hp, rfl⟩ := List.mem_map.mp hd
    obtain ⟨q, hq, rfl⟩ := List.mem_map.mp hd'
    obtain ⟨x, y, e1⟩ := two p hp
    obtain ⟨x', y', e2⟩ := two q hq
    unfold encT
    rw [e1, e2]
    rfl
  have so : PySem.W.Sortable (L1.map encT) := by
    left
    intro d hd
    obtain ⟨p, hp, rfl⟩ := List.mem_map.mp hd
    obtain ⟨x, y, e1⟩ := two p hp
    unfold encT
    rw [e1]
    exact ⟨_, _, rfl⟩
  have dp : ∀ p, p ∈ L1 → A.in1.units + 1 + (encT p).depth < cLine := by
    intro p hp
    obtain ⟨x, y, e1⟩ := two p hp
    have : (encT p).depth = 1 := by
      unfold encT
      rw [e1]
      rfl
    rw [this]
    have : A.in1.units ≤ A.units + 1 := by simp
    omega
  refine wpAny_bind (wpAny_holding (PySem.W.list_sort_data (s := { s1 with heap := s1.heap.push (seqObj "list" (L1.map fun q => Value.ref q.1).toArray 0) }) (enc := encT) hoL eachT er al so (by rw [sizeLine_eq]; omega) dp fun out a1 a2 => ?_))
  obtain ⟨c, hc⟩ := sortedHeap_at (vs := L1.map fun q => Value.ref q.1) (out := out.toArray) hoL
  refine wpAny_pure ⟨_, rfl, hQ _ s1.heap.objs.size out.toArray c L1 (fun b u e => ?_) g1 o1 hz hc pL (by rw [eachT_inv a2]; rfl)⟩
  have q := k1 b u e
  have hlt := Heap.lt_size q
  exact (sortedHeap_old (Nat.ne_of_lt hlt) (by rw [size_push']; exact Nat.lt_succ_of_lt hlt)).trans (Heap.get?_push_of_some _ q)
end
end Z


set_option maxRecDepth 100000
set_option maxHeartbeats 4000000
/-! S5: rules of layer Z: tuple(list), sorted(set(pairs)), sorted(data), min(data). -/
namespace Z
open PySem PySem.Spec PyProof.Rows L2
/-! tuple(x) -/
def bTuple : List D → Option D
  | [.lst xs] => some (.tup xs)
  | _ => none
theorem r_tuple {K : PySem.W.Frag} : CROk K (fun xs H Q => ∃ p ys, xs = [.ref p] ∧ ((SqL K H p ys ∧ ∀ l, H l = none → Q (.ref l) (upd H l (.tup ys))) ∨ (SqT K H p ys ∧ Q (.ref p) H))) bTuple := by
  intro F H vs ds d Q s r ho q
  match ds, ho, r with
  | [.lst xs], ho, r =>
    cases ho
    obtain ⟨v, rfl, r0⟩ := r.one
    obtain ⟨p, ws, rfl, h2, rr⟩ := r0.lst_inv
    refine ⟨p, ws, rfl, .inl ⟨SqL.of h2, fun l nl => ?_⟩⟩
    have y : Ext F H (upd F l (.tup ws)) (upd H l (.tup ws)) := .alloc s nl
    refine q _ _ _ y (.tup upd_same (rr.mono y.keep)) fun z => ?_
    obtain ⟨v', e1, r1⟩ := z.one
    cases e1
    obtain ⟨p', ws', e2, h3, rr'⟩ := r1.lst_inv
    cases e2
    have h3' := s _ _ h3
    rw [h2] at h3'
    cases h3'
    exact .tup upd_same (rr'.mono y.fr)
/-! pairs -/
def encP (p : Int × Int) : D := .tup [.int p.1, .int p.2]
def asPs : List D → Option (List (Int × Int))
  | [] => some []
  | .tup [.int a, .int b] :: ds => (asPs ds).map ((a, b) :: ·)
  | _ => none
theorem asPs_inv : ∀ {ds : List D} {ps : List (Int × Int)}, asPs ds = some ps → ds = ps.map encP
  | [], ps, h => by
    cases h
    rfl
  | d :: ds, ps, h => by
    unfold asPs at h
    split at h
    · rename_i e
      cases e
    · rename_i a b ds' e
      obtain ⟨rfl, rfl⟩ := List.cons.inj e
      obtain ⟨qs, h1, rfl⟩ := Option.map_eq_some_iff.mp h
      rw [asPs_inv h1]
      rfl
    · cases h
theorem asPs_map (ps : List (Int × Int)) : asPs (ps.map encP) = some ps := by
  induction ps with
  | nil => rfl
  | cons p ps ih =>
    show (asPs (ps.map encP)).map ((p.1, p.2) :: ·) = _
    rw [ih]
    rfl
def plt (p q : Int × Int) : Prop := p.1 < q.1 ∨ (p.1 = q.1 ∧ p.2 < q.2)
def pLe (p q : Int × Int) : Bool := decide (p.1 < q.1 ∨ (p.1 = q.1 ∧ p.2 ≤ q.2))
/-- each once -/
def once : List (Int × Int) → List (Int × Int)
  | [] => []
  | p :: ps => if p ∈ ps then once ps else p :: once ps
theorem mem_once {x : Int × Int} : ∀ {ps : List (Int × Int)}, x ∈ once ps ↔ x ∈ ps
  | [] => Iff.rfl
  | p :: ps => by
    unfold once
    split
    · rename_i h
      rw [mem_once, List.mem_cons]
      constructor
      · exact .inr
      · rintro (rfl | h2)
        · exact h
        · exact h2
    · rw [List.mem_cons, List.mem_cons, mem_once]
theorem once_nodup : ∀ ps : List (Int × Int), (once ps).Nodup
  | [] => List.nodup_nil
  | p :: ps => by
    unfold once
    split
    · exact once_nodup ps
    · rename_i h
      exact List.nodup_cons.mpr ⟨fun z => h (mem_once.mp z), once_nodup ps⟩
def ssort (ps : List (Int × Int)) : List (Int × Int) := (once ps).mergeSort pLe
theorem pLe_anti {p q : Int × Int} (h1 : pLe p q = true) (h2 : pLe q p = true) : p = q := by
  have h1' := of_decide_eq_true h1
  have h2' := of_decide_eq_true h2
  exact Prod.ext (by omega) (by omega)
theorem pLe_trans (a b c : Int × Int) (h1 : pLe a b = true) (h2 : pLe b c = true) : pLe a c = true := by
  have h1' := of_decide_eq_true h1
  have h2' := of_decide_eq_true h2
  exact decide_eq_true (by omega)
theorem pLe_total (a b : Int × Int) : (pLe a b || pLe b a) = true := by
  rw [Bool.or_eq_true]
  by_cases h : a.1 < b.1 ∨ (a.1 = b.1 ∧ a.2 ≤ b.2)
  · exact .inl (decide_eq_true h)
  · exact .inr (decide_eq_true (by omega))
theorem sort_unique {l1 l2 : List (Int × Int)} (p : l1.Perm l2) : l1.mergeSort pLe = l2.mergeSort pLe := by
  refine List.Perm.eq_of_pairwise (le := fun a b => pLe a b = true) (fun a b _ _ h1 h2 => pLe_anti h1 h2) (List.pairwise_mergeSort pLe_trans pLe_total l1) (List.pairwise_mergeSort pLe_trans pLe_total l2) ?_
  exact (List.mergeSort_perm l1 pLe).trans (p.trans (List.mergeSort_perm l2 pLe).symm)
theorem ssort_pw (ps : List (Int × Int)) : (ssort ps).Pairwise plt := by
  have h1 : (ssort ps).Pairwise fun a b => pLe a b = true := List.pairwise_mergeSort pLe_trans pLe_total _
  have h2 : (ssort ps).Nodup := (List.mergeSort_perm (once ps) pLe).nodup_iff.mpr (once_nodup ps)
  refine List.Pairwise.imp₂ (fun a b x y => ?_) h1 h2
  have x' := of_decide_eq_true x
  unfold plt
  by_cases c : a.1 < b.1
  · exact .inl c
  · refine .inr ⟨by omega, ?_⟩
    by_cases d : a.2 = b.2
    · exact absurd (Prod.ext (by omega) d) y
    · omega
theorem mem_ssort {x : Int × Int} {ps : List (Int × Int)} : x ∈ ssort ps ↔ x ∈ ps := by
  unfold ssort
  rw [List.mem_mergeSort, mem_once]
/-! the rules of the kit's level -/
structure SetB0 (P : Program) (w : World) (h : Heap) (a : Addr) (L : List (Addr × List Int)) : Prop where
  ex : ∃ es ep t, (∃ o, h.get? a = some o ∧ o.ExactSet ∧ o.data = .set es ep t) ∧ es.toList = rowsOf P w L ∧ Tb t (L.map fun p => thash P w p.2) ∧ (L.map (·.2)).Nodup ∧ t.plain = true ∧ (w.params.followText "set-order" = true ∨ t.led = true) ∧ L.length * 5 < t.mask * 3 ∧ L.length < 1200
def SetBO (P : Program) (w : World) (a : Addr) (L : List (Addr × List Int)) : HO := .ext fun h => SetB0 P w h a L
section
variable {X : Cx}
theorem cr_setB (hc : X.calm = true) (hu : X.A.units + 64 < cLine) : CallR X (.type "set") (fun xs H Q => ∃ (l : Addr) (ks : List (Addr × List Int)), xs = [V.ref l] ∧ SqL X.K H l (ks.map fun p => V.ref p.1) ∧ (∀ p ∈ ks, SqT X.K H p.1 (p.2.map V.int)) ∧ FewK ks ∧
    ∀ a L, H a = none → (∀ p ∈ L, p ∈ ks) → (∀ p ∈ ks, p.2 ∈ L.map (·.2)) → (L.map (·.2)).Nodup → Q (.ref a) (upd H a (SetBO X.prog X.w a L))) := by
  intro pins s σ H xs us Q I r h
  obtain ⟨l, ks, rfl, hl, hk, hf, q⟩ := h
  rw [Vals.ref1 r]
  obtain ⟨its, rv, pl, hz⟩ := I.list hl
  refine set_made (P := X.prog) (w := X.w) ks (I.ok.hd hc) pl.isList (by simpa using refs_of_vals rv) (fun p hp => I.isT (hk p hp)) hf (by omega) fun h' tk L es ep t R g k => ?_
  have hn : H s.heap.objs.size = none := I.hok.fresh (Nat.le_refl _)
  have R0 : SetB0 X.prog X.w h' s.heap.objs.size L := ⟨es, ep, t, R.ob, R.rows, R.tab, R.nd, R.plain, R.led, R.room, R.few⟩
  have new : ObjOk X.prog X.w (upd H s.heap.objs.size (SetBO X.prog X.w s.heap.objs.size L)) h' s.heap.objs.size (SetBO X.prog X.w s.heap.objs.size L) := by
    refine ⟨R0, R.ob.imp fun o x => x.1, fun h1 h2 p k => ?_⟩
    obtain ⟨es', ep', t', ⟨o', ho', r'⟩, q'⟩ := SetB0.ex p
    exact ⟨es', ep', t', ⟨o', k o' ho', r'⟩, q'⟩
  exact ⟨.ref s.heap.objs.size, _, I.laid (t' := tk) k (Nat.le_refl _) new, rfl, q _ L hn (fun p hp => List.mem_of_mem_take (g.sub p hp)) (fun p hp => g.all p (by rw [List.take_length]; exact hp)) R.nd⟩
theorem cr_sortB (hc : X.calm = true) (hu : X.A.units + 64 < cLine) : CallR X (.builtin "sorted") (fun vs H Q => ∃ (a : Addr) (L : List (Addr × List Int)), vs = [V.ref a] ∧ H a = some (SetBO X.prog X.w a L) ∧ (∀ p ∈ L, SqT X.K H p.1 (p.2.map V.int)) ∧ (∀ p ∈ L, ∃ x y : Int, p.2 = [x, y]) ∧
    ∀ (L1 : List (Addr × List Int)) (p : Addr), L1.Perm L → H p = none → Q (.ref p) (upd H p (.lst ((L1.mergeSort tupLe).map fun q => V.ref q.1)))) := by
  intro pins s σ H vs us Q I r h
  obtain ⟨a, L, rfl, ha, hk, h2, q⟩ := h
  have R0 : SetB0 X.prog X.w s.heap a L := (I.hok a _ ha).1
  obtain ⟨es, ep, t, x1, x2, x3, x4, x5, x6, x7, x8⟩ := R0.ex
  have R : SetB X.prog X.w s.heap a L es ep t := ⟨x1, x2, x3, x4, fun p hp => I.isT (hk p hp), x5, x6, x7, x8⟩
  rw [Vals.ref1 r]
  refine set_sorted R (I.ok.hd hc) (by omega) h2 fun s' p out c L1 k g o hp hg pm hout => ?_
  have hlen : ((L1.mergeSort tupLe).map fun q => V.ref q.1).length ≤ sizeLine := by
    rw [List.length_map, List.length_mergeSort, pm.length_eq, sizeLine_eq]
    omega
  have hn : H p = none := I.hok.fresh hp
  have hv : Vals ((L1.mergeSort tupLe).map fun q => V.ref q.1) out.toList := by
    rw [hout]
    exact vals_of_refs _
  have J : Inv X pins σ (upd H p (.lst ((L1.mergeSort tupLe).map fun q => V.ref q.1))) { s with heap := s'.heap, gens := s'.gens, drawn := s'.drawn, toks := s'.toks } :=
    I.call (ch := []) (Un.laid k hp hn) (I.hok.laid k hp ⟨hlen, out.toList, c, hv, hg⟩) (by rw [g]; exact I.bare) (fun _ z => nomatch z)
  have e : s' = { s with heap := s'.heap, gens := s'.gens, drawn := s'.drawn, toks := s'.toks } := by
    cases s'
    cases s
    cases o
    rfl
  rw [e]
  exact ⟨.ref p, _, J, rfl, q L1 p pm hn⟩
end
end Z


set_option maxRecDepth 100000
set_option maxHeartbeats 4000000
/-! S6: sorted(set(pairs)) in layer Z. -/
namespace Z
open PySem PySem.Spec PyProof.Rows L2
def toP (q : Addr × List Int) : Int × Int := (q.2.getD 0 0, q.2.getD 1 0)
theorem tupLe_eq {a b : Addr × List Int} {x y x' y' : Int} (h1 : a.2 = [x, y]) (h2 : b.2 = [x', y']) : tupLe a b = pLe (toP a) (toP b) := by
  unfold tupLe
  rw [PySem.W.dataLe_eq]
  show (!PySem.W.dataLt (encT b) (encT a)) = _
  unfold encT toP
  rw [h1, h2]
  show (!PySem.W.dataLt (.tuple [.int x', .int y']) (.tuple [.int x, .int y])) = decide (x < x' ∨ (x = x' ∧ y ≤ y'))
  rw [PySem.W.dataLt_ii, ← decide_not]
  exact decide_eq_decide.mpr (by omega)
theorem pull_pairs {K : PySem.W.Frag} {F : Hp} : ∀ {ws : List V} {ps : List (Int × Int)}, RepL K F ws (ps.map encP) → ∃ ks : List (Addr × List Int), ws = ks.map (fun p => V.ref p.1) ∧ ks.map (·.2) = ps.map (fun p => [p.1, p.2]) ∧ ∀ p ∈ ks, F p.1 = some (.tup (p.2.map V.int))
  | _, [], .nil => ⟨[], rfl, rfl, fun _ h => nomatch h⟩
  | _, p :: ps, .cons h r => by
    obtain ⟨ks, rfl, e2, e3⟩ := pull_pairs r
    obtain ⟨a, vs, rfl, g1, rr⟩ := h.tup_inv
    obtain ⟨v, w, rfl, r1, r2⟩ := rr.two
    cases r1
    cases r2
    refine ⟨(a, [p.1, p.2]) :: ks, rfl, by rw [List.map_cons, List.map_cons, e2], fun q hq => ?_⟩
    rcases List.mem_cons.mp hq with rfl | hq
    · exact g1
    · exact e3 q hq
theorem rep_pairs {K : PySem.W.Frag} {F : Hp} : ∀ {L : List (Addr × List Int)}, (∀ q ∈ L, F q.1 = some (.tup (q.2.map V.int))) → (∀ q ∈ L, ∃ x y : Int, q.2 = [x, y]) → RepL K F (L.map fun q => V.ref q.1) ((L.map toP).map encP)
  | [], _, _ => .nil
  | q :: L, h1, h2 => by
    refine .cons ?_ (rep_pairs (fun p hp => h1 p (List.mem_cons_of_mem _ hp)) fun p hp => h2 p (List.mem_cons_of_mem _ hp))
    obtain ⟨x, y, e⟩ := h2 q List.mem_cons_self
    have g := h1 q List.mem_cons_self
    rw [e] at g
    unfold toP encP
    rw [e]
    exact .tup g (.cons (.int x) (.cons (.int y) .nil))
def kSS (k : EV → Option (List D)) : EV → Option (List D) := fun ev => match k ev with
  | some [.lst ds] => (asPs ds).bind fun ps => if (once ps).length < 1199 then some ((ssort ps).map encP) else none
  | _ => none
section
variable {X : Cx} {e : Expr} {k : EV → Option (List D)} {pos : Pos}
theorem f_ss {p p2 q2 : Pos} (hc : X.calm = true) (hu : X.A.units + 64 < cLine) (hg : Gl X "sorted") (hm : X.mg "sorted" = none) (hg2 : Gl X "set") (hm2 : X.mg "set" = none) (ha : AOk X [e] true k)
    (hv : bootBuiltins "sorted" = some (.builtin "sorted") := by first | rfl | kernel_rfl) (hv2 : bootBuiltins "set" = some (.type "set") := by first | rfl | kernel_rfl)
    (he : starEach [e] X.env = (false, eval e X.env) :: starEach [] X.env := by rfl) (he2 : starEach [.Call (.Name "set" p2) [e] [] q2] X.env = (false, eval (.Call (.Name "set" p2) [e] [] q2) X.env) :: starEach [] X.env := by rfl)
    (hpl : (backTo q2 (starEach [] X.env)).any (·.1) = false := by rfl) (hpl2 : (backTo pos (starEach [] X.env)).any (·.1) = false := by rfl) :
    FOk X (.Call (.Name "sorted" p) [.Call (.Name "set" p2) [e] [] q2] [] pos) (kSS k) := by
  obtain ⟨t, pa, ra⟩ := ha
  refine ⟨_, pe_callB (cr_sortB hc hu) hg hm hv (pa_cons (pe_callTy (cr_setB hc hu) hg2 hm2 hv2 pa (by decide) (by decide) he hpl) pa_nil) (by decide) (by decide) he2 hpl2, fun F0 H0 ev σ F H xs Q s he q => ?_⟩
  unfold kSS at he
  split at he
  · rename_i ds h1
    obtain ⟨ps, h2, h3⟩ := Option.bind_eq_some_iff.mp he
    obtain ⟨h4, rfl⟩ := of_ite h3
    obtain rfl := asPs_inv h2
    refine ra F0 H0 ev σ F H _ _ s h1 fun vs F1 H1 x1 r1 z1 => ?_
    have s1 := s.up x1
    obtain ⟨v, rfl, r0⟩ := (z1 rfl).one
    obtain ⟨l, ws, rfl, g1, rr⟩ := r0.lst_inv
    obtain ⟨ks, rfl, e2, e3⟩ := pull_pairs rr
    have hlen : ks.length = ps.length := by
      have := congrArg List.length e2
      simpa using this
    have shape : ∀ p ∈ ks, ∃ x y : Int, p.2 = [x, y] := by
      intro p hp
      have : p.2 ∈ ps.map (fun p => [p.1, p.2]) := by rw [← e2]; exact List.mem_map.mpr ⟨p, hp, rfl⟩
      obtain ⟨r, _, e⟩ := List.mem_map.mp this
      exact ⟨_, _, e.symm⟩
    refine ⟨l, ks, rfl, SqL.of (s1.sub _ _ g1), fun p hp => SqT.of (s1.sub _ _ (e3 p hp)), ⟨(once ps).map fun p => [p.1, p.2], fun p hp => by
      have : p.2 ∈ ps.map (fun p => [p.1, p.2]) := by rw [← e2]; exact List.mem_map.mpr ⟨p, hp, rfl⟩
      obtain ⟨r, hr, e⟩ := List.mem_map.mp this
      exact List.mem_map.mpr ⟨r, mem_once.mpr hr, e⟩, by rw [List.length_map]; exact h4⟩, fun a L na q1 q2 q3 => ?_⟩
    have ne : ∀ {b : Addr} {o : HO}, H1 b = some o → b ≠ a := fun h => ne_of_none h na
    refine ⟨a, L, rfl, upd_same, fun p hp => SqT.of ?_, fun p hp => shape p (q1 p hp), fun L1 c pm nc => ?_⟩
    · have h := s1.sub _ _ (e3 p (q1 p hp))
      rw [upd_ne (ne h)]
      exact h
    · have hca : c ≠ a := fun z => by rw [z, upd_same] at nc; cases nc
      have nc1 : H1 c = none := by rw [upd_ne hca] at nc; exact nc
      have sub1 : Same F1 (upd H1 a (SetBO X.prog X.w a L)) := s1.sub.trans (same_upd na)
      have E2 : Ext F H F1 (upd (upd H1 a (SetBO X.prog X.w a L)) c (.lst ((L1.mergeSort tupLe).map fun q => V.ref q.1))) := x1.trans ((Ext.allocH s1.sub na).trans (.allocH sub1 nc))
      have in1 : ∀ r ∈ L1, r ∈ ks := fun r hr => q1 r (pm.mem_iff.mp hr)
      have hmap : (L1.mergeSort tupLe).map toP = ssort ps := by
        rw [List.map_mergeSort (s := pLe) (fun r hr r' hr' => by
          obtain ⟨x, y, e⟩ := shape r (in1 r hr)
          obtain ⟨x', y', e'⟩ := shape r' (in1 r' hr')
          exact tupLe_eq e e')]
        refine sort_unique ((List.perm_ext_iff_of_nodup ?_ (once_nodup ps)).mpr fun z => ?_)
        · have nd : (L1.map (·.2)).Nodup := (pm.map (·.2)).nodup_iff.mpr q3
          refine List.pairwise_map.mpr (List.Pairwise.imp_of_mem (fun {r r'} hr hr' hne e => ?_) (List.pairwise_map.mp nd))
          obtain ⟨x, y, e1⟩ := shape r (in1 r hr)
          obtain ⟨x', y', e2'⟩ := shape r' (in1 r' hr')
          unfold toP at e
          rw [e1, e2'] at e
          simp at e
          exact hne (by rw [e1, e2', e.1, e.2])
        · rw [mem_once, List.mem_map]
          constructor
          · rintro ⟨r, hr, rfl⟩
            have : r.2 ∈ ps.map (fun p => [p.1, p.2]) := by rw [← e2]; exact List.mem_map.mpr ⟨r, in1 r hr, rfl⟩
            obtain ⟨z, hz, e⟩ := List.mem_map.mp this
            unfold toP
            rw [← e]
            exact hz
          · intro hz
            have : [z.1, z.2] ∈ ks.map (·.2) := by rw [e2]; exact List.mem_map.mpr ⟨z, hz, rfl⟩
            obtain ⟨r, hr, e⟩ := List.mem_map.mp this
            have h5 := q2 r hr
            obtain ⟨r', hr', e'⟩ := List.mem_map.mp h5
            refine ⟨r', pm.mem_iff.mpr hr', ?_⟩
            unfold toP
            rw [e', e]
            rfl
      refine q c _ F1 _ E2 (x1.keep.free nc1) (s1.sub.free nc1) upd_same ?_
      rw [← hmap]
      exact rep_pairs (fun r hr => e3 r (in1 r (List.mem_mergeSort.mp hr))) fun r hr => shape r (in1 r (List.mem_mergeSort.mp hr))
  · cases he
end
end Z


set_option maxRecDepth 100000
set_option maxHeartbeats 4000000
/-! S7: sorted and min of data, in layer Z. -/
namespace Z
open PySem PySem.Spec PyProof.Rows L2
open Classical in
section
variable {X : Cx}
def leV : V × D → V × D → Bool := PySem.W.dataLe false fun b => b.2.pd
def leD : D → D → Bool := PySem.W.dataLe false D.pd
theorem eachV : ∀ {bs : List (V × D)} {us : List Value}, Vals (bs.map (·.1)) us → PySem.W.EachIs (fun u (b : V × D) => RelV b.1 u) us bs
  | [], _, .nil => .nil
  | _ :: _, _, .cons h r => .cons h (eachV r)
theorem eachV_inv {bs : List (V × D)} {us : List Value} (e : PySem.W.EachIs (fun u (b : V × D) => RelV b.1 u) us bs) : Vals (bs.map (·.1)) us := by
  induction e with
  | nil => exact .nil
  | cons h _ ih => exact .cons h ih
theorem eachV_reads {pins : List (Addr × Obj)} {σ : L2.St} {H : Hp} {s : Shared} (I : Inv X pins σ H s) {bs : List (V × D)} {us : List Value} (e : PySem.W.EachIs (fun u (b : V × D) => RelV b.1 u) us bs) :
    (∀ b ∈ bs, Dp X.K H b.1 b.2.pd) → PySem.W.EachIs (fun u (b : V × D) => ∃ as, Reads s.heap u b.2.pd as) us bs := by
  induction e with
  | nil => exact fun _ => .nil
  | cons h _ ih => exact fun hd => .cons ((hd _ List.mem_cons_self).reads I _ _ _ h) (ih fun b hb => hd b (List.mem_cons_of_mem _ hb))
theorem cr_sortD (hu : X.A.units + 100 < cLine) : CallR X (.builtin "sorted") (fun vs H Q => ∃ (a : Addr) (bs : List (V × D)), vs = [V.ref a] ∧ SqL X.K H a (bs.map (·.1)) ∧ (∀ b ∈ bs, Dp X.K H b.1 b.2.pd) ∧ PySem.W.AllAlike (bs.map fun b => b.2.pd) ∧ PySem.W.Sortable (bs.map fun b => b.2.pd) ∧
    (∀ b ∈ bs, b.2.pd.depth ≤ 64) ∧ ∀ p, H p = none → Q (.ref p) (upd H p (.lst ((bs.mergeSort leV).map (·.1))))) := by
  intro pins s σ H vs us Q I r h
  obtain ⟨a, bs, rfl, hl, hd, al, so, dp, q⟩ := h
  rw [Vals.ref1 r]
  obtain ⟨its, rv, pl, hz⟩ := I.list hl
  have e := eachV rv
  have hbs : bs.length ≤ sizeLine := by simpa using hz
  refine PySem.W.sorted_data (enc := fun b : V × D => b.2.pd) pl.isList e (eachV_reads I e hd) al so hbs (fun b hb => by have := dp b hb; omega) fun out ho eo => ?_
  obtain ⟨c, hc⟩ := sortedAll_at s.heap its (List.toArray out)
  have hp : s.heap.objs.size ≤ s.heap.objs.size + 1 := Nat.le_succ _
  have hn : H (s.heap.objs.size + 1) = none := I.hok.fresh hp
  have hv : Vals ((bs.mergeSort leV).map (·.1)) (List.toArray out).toList := eachV_inv eo
  have k : ∀ b o, s.heap.get? b = some o → (sortedAll s.heap its (List.toArray out)).get? b = some o := fun b o => sortedAll_old
  have J : Inv X pins σ (upd H (s.heap.objs.size + 1) (.lst ((bs.mergeSort leV).map (·.1)))) { s with heap := sortedAll s.heap its (List.toArray out), gens := s.gens, drawn := s.drawn, toks := s.toks } :=
    I.call (ch := []) (Un.laid k hp hn) (I.hok.laid k hp ⟨by rw [List.length_map, List.length_mergeSort]; exact hbs, (List.toArray out).toList, c, hv, hc⟩) I.bare (fun _ z => nomatch z)
  exact ⟨.ref (s.heap.objs.size + 1), _, J, rfl, q _ hn⟩
theorem dpAll_of : ∀ {bs : List (V × D)} {H : Hp}, (∀ b ∈ bs, Dp X.K H b.1 b.2.pd) → DpAll X.K H (bs.map (·.1)) (bs.map fun b => b.2.pd)
  | [], _, _ => .nil
  | b :: bs, _, h => .cons (h b List.mem_cons_self) (dpAll_of fun c hc => h c (List.mem_cons_of_mem _ hc))
theorem cr_minD (hc : X.calm = true) (hu : X.A.units + 100 < cLine) : CallR X (.builtin "min") (fun vs H Q => ∃ (a : Addr) (b0 : V × D) (bs : List (V × D)), vs = [V.ref a] ∧ SqL X.K H a ((b0 :: bs).map (·.1)) ∧ (∀ b ∈ b0 :: bs, Dp X.K H b.1 b.2.pd) ∧
    PySem.W.AlikeAll ((b0 :: bs).map fun b => b.2.pd) ∧ PyData.depthAll ((b0 :: bs).map fun b => b.2.pd) ≤ 64 ∧ ∀ b ∈ b0 :: bs, b.2.pd = PySem.W.minD b0.2.pd (bs.map fun b => b.2.pd) → Q b.1 H) := by
  intro pins s σ H vs us Q I r h
  obtain ⟨a, b0, bs, rfl, hl, hd, al, dp, q⟩ := h
  rw [Vals.ref1 r]
  obtain ⟨its, rv, pl, hz⟩ := I.list hl
  obtain ⟨as, rd⟩ := Dp.readsAll I _ _ _ (dpAll_of hd) rv
  refine PySem.W.min_list_data (vs := its.toArray) (I.ok.hd hc) pl.isList rd al (by simp only [List.map_cons] at dp ⊢; omega) fun i v h' tk bs' hv hr k => ?_
  have hv' : its[i]? = some v := by simpa using hv
  have e := eachV rv
  have at_i : ∀ {bs : List (V × D)} {us : List Value} {i : Nat} {u : Value}, PySem.W.EachIs (fun u (b : V × D) => RelV b.1 u) us bs → us[i]? = some u → ∃ b ∈ bs, RelV b.1 u := by
    intro bs us i u e
    induction e generalizing i with
    | nil => intro z; simp at z
    | cons h _ ih =>
      intro z
      cases i with
      | zero =>
        simp at z
        subst z
        exact ⟨_, List.mem_cons_self, h⟩
      | succ i =>
        obtain ⟨b, hb, hr⟩ := ih (by simpa using z)
        exact ⟨b, List.mem_cons_of_mem _ hb, hr⟩
  obtain ⟨b, hb, hrel⟩ := at_i e hv'
  have J : Inv X pins σ H { s with heap := h', toks := tk } := I.kept k
  obtain ⟨as2, hr2⟩ := (hd b hb).reads J _ _ _ hrel
  have hmem : PySem.W.minD b0.2.pd (bs.map fun b => b.2.pd) ∈ (b0 :: bs).map fun b => b.2.pd := by
    have key : ∀ (xs : List PyData) (x : PyData), PySem.W.minD x xs ∈ x :: xs := by
      intro xs
      induction xs with
      | nil => exact fun x => List.mem_cons_self
      | cons y ys ih =>
        intro x
        have := ih (if PySem.W.dataLt y x then y else x)
        show PySem.W.minD (if PySem.W.dataLt y x then y else x) ys ∈ x :: y :: ys
        rcases List.mem_cons.mp this with h | h
        · rw [h]
          split
          · exact List.mem_cons_of_mem _ List.mem_cons_self
          · exact List.mem_cons_self
        · exact List.mem_cons_of_mem _ (List.mem_cons_of_mem _ h)
    exact key _ _
  have eq : b.2.pd = PySem.W.minD b0.2.pd (bs.map fun b => b.2.pd) :=
    PySem.W.alike_unique _ _ _ _ _ (al.1 _ (List.mem_map.mpr ⟨b, hb, rfl⟩) _ hmem) hr2 hr
  exact ⟨b.1, H, J, hrel, q b hb eq⟩
/-! the rules -/
noncomputable def kSort (k : EV → Option (List D)) : EV → Option (List D) := fun ev => match k ev with
  | some [.lst ds] => if PySem.W.AllAlike (ds.map D.pd) ∧ PySem.W.Sortable (ds.map D.pd) ∧ ∀ d ∈ ds, d.pd.depth ≤ 64 then some (ds.mergeSort leD) else none
  | _ => none
theorem RepL.zip {K : PySem.W.Frag} {F : Hp} : ∀ {vs : List V} {ds : List D}, RepL K F vs ds → ∃ bs : List (V × D), vs = bs.map (·.1) ∧ ds = bs.map (·.2) ∧ ∀ b ∈ bs, Rep K F b.1 b.2
  | _, _, .nil => ⟨[], rfl, rfl, fun _ h => nomatch h⟩
  | v :: _, d :: _, .cons h r => by
    obtain ⟨bs, rfl, rfl, hb⟩ := RepL.zip r
    refine ⟨(v, d) :: bs, rfl, rfl, fun b hb' => ?_⟩
    rcases List.mem_cons.mp hb' with rfl | z
    · exact h
    · exact hb b z
theorem RepL.ofB {K : PySem.W.Frag} {F : Hp} : ∀ {bs : List (V × D)}, (∀ b ∈ bs, Rep K F b.1 b.2) → RepL K F (bs.map (·.1)) (bs.map (·.2))
  | [], _ => .nil
  | b :: bs, h => .cons (h b List.mem_cons_self) (RepL.ofB fun c hc => h c (List.mem_cons_of_mem _ hc))
theorem f_sorted {e : Expr} {k : EV → Option (List D)} {pos p : Pos} (hu : X.A.units + 100 < cLine) (hg : Gl X "sorted") (hm : X.mg "sorted" = none) (ha : AOk X [e] true k)
    (hv : bootBuiltins "sorted" = some (.builtin "sorted") := by first | rfl | kernel_rfl)
    (he : starEach [e] X.env = (false, eval e X.env) :: starEach [] X.env := by rfl) (hpl : (backTo pos (starEach [] X.env)).any (·.1) = false := by rfl) :
    FOk X (.Call (.Name "sorted" p) [e] [] pos) (kSort k) := by
  obtain ⟨t, pa, ra⟩ := ha
  refine ⟨_, pe_callB (cr_sortD hu) hg hm hv pa (by decide) (by decide) he hpl, fun F0 H0 ev σ F H xs Q s he q => ?_⟩
  unfold kSort at he
  split at he
  · rename_i ds h1
    obtain ⟨⟨h2, h3, h4⟩, rfl⟩ := of_ite he
    refine ra F0 H0 ev σ F H _ _ s h1 fun vs F1 H1 x1 r1 z1 => ?_
    have s1 := s.up x1
    obtain ⟨v, rfl, r0⟩ := (z1 rfl).one
    obtain ⟨l, ws, rfl, g1, rr⟩ := r0.lst_inv
    obtain ⟨bs, rfl, rfl, hb⟩ := RepL.zip rr
    rw [List.map_map] at h2 h3
    refine ⟨l, bs, rfl, SqL.of (s1.sub _ _ g1), fun b hm => ((hb b hm).mono s1.sub).dp, h2, h3, fun b hm => h4 _ (List.mem_map.mpr ⟨b, hm, rfl⟩), fun c nc => ?_⟩
    refine q c _ F1 _ (x1.trans (.allocH s1.sub nc)) (x1.keep.free nc) (s1.sub.free nc) upd_same ?_
    rw [← List.map_mergeSort (r := leV) (s := leD) (f := (·.2)) (l := bs) fun a _ b _ => rfl]
    exact RepL.ofB fun b hm => hb b (List.mem_mergeSort.mp hm)
  · cases he
mutual
def ofPd : PyData → D
  | .none => .non
  | .bool b => .bl b
  | .int i => .int i
  | .str x => .str x
  | .list xs => .lst (ofPdL xs)
  | .tuple xs => .tup (ofPdL xs)
  | .dict _ => .non
def ofPdL : List PyData → List D
  | [] => []
  | x :: xs => ofPd x :: ofPdL xs
end
/-- the least item of a list -/
noncomputable def bMinD : List D → Option D
  | [.lst (d :: ds)] => if PySem.W.AlikeAll ((d :: ds).map D.pd) ∧ PyData.depthAll ((d :: ds).map D.pd) ≤ 64 ∧ ∀ x ∈ d :: ds, ofPd x.pd = x then some (ofPd (PySem.W.minD d.pd (ds.map D.pd))) else none
  | _ => none
theorem r_minD {K : PySem.W.Frag} : CROk K (fun vs H Q => ∃ (a : Addr) (b0 : V × D) (bs : List (V × D)), vs = [V.ref a] ∧ SqL K H a ((b0 :: bs).map (·.1)) ∧ (∀ b ∈ b0 :: bs, Dp K H b.1 b.2.pd) ∧
    PySem.W.AlikeAll ((b0 :: bs).map fun b => b.2.pd) ∧ PyData.depthAll ((b0 :: bs).map fun b => b.2.pd) ≤ 64 ∧ ∀ b ∈ b0 :: bs, b.2.pd = PySem.W.minD b0.2.pd (bs.map fun b => b.2.pd) → Q b.1 H) bMinD := by
  intro F H vs ds d Q s r ho q
  unfold bMinD at ho
  split at ho
  · rename_i d0 ds0
    obtain ⟨⟨h1, h2, h3⟩, rfl⟩ := of_ite ho
    obtain ⟨v, rfl, r0⟩ := r.one
    obtain ⟨l, ws, rfl, g1, rr⟩ := r0.lst_inv
    obtain ⟨bs, rfl, e2, hb⟩ := RepL.zip rr
    cases bs with
    | nil => cases e2
    | cons b0 bs =>
      obtain ⟨rfl, rfl⟩ := List.cons.inj e2
      have em : (b0.2 :: bs.map (·.2)).map D.pd = (b0 :: bs).map fun b => b.2.pd := by simp
      have em2 : (bs.map (·.2)).map D.pd = bs.map fun b => b.2.pd := by simp
      rw [em] at h1 h2
      rw [em2] at q
      refine ⟨l, b0, bs, rfl, SqL.of g1, fun b hm => (hb b hm).dp, h1, h2, fun b hm e => ?_⟩
      have hmem : b.2 ∈ b0.2 :: bs.map (·.2) := by
        have : b.2 ∈ (b0 :: bs).map (·.2) := List.mem_map.mpr ⟨b, hm, rfl⟩
        simpa using this
      have e3 : ofPd (PySem.W.minD b0.2.pd (bs.map fun b => b.2.pd)) = b.2 := by
        rw [← e]
        exact h3 _ hmem
      rw [e3] at q
      refine q b.1 F H (.refl s) (hb b hm) fun z => ?_
      obtain ⟨v', e4, r4⟩ := z.one
      cases e4
      obtain ⟨l', ws', e5, g5, rr5⟩ := r4.lst_inv
      cases e5
      have g6 := s _ _ g5
      rw [g1] at g6
      cases g6
      obtain ⟨i, hi⟩ := List.getElem?_of_mem hm
      obtain ⟨d', e7, r7⟩ := rr5.getV (i := i) (v := b.1) (by rw [List.getElem?_map, hi]; rfl)
      have e8 : (b0.2 :: bs.map (·.2))[i]? = some b.2 := by
        have : ((b0 :: bs).map (·.2))[i]? = some b.2 := by rw [List.getElem?_map, hi]; rfl
        simpa using this
      rw [e8] at e7
      cases e7
      exact r7
  · cases ho
theorem units64 {A : Around} {k : Nat} (hr : Room k A) : A.units + 64 < cLine := by
  have := units100 hr
  omega
end
end Z


set_option maxRecDepth 100000
set_option maxHeartbeats 4000000
/-! ZS: what the readings come to, step by step; loops over typed lists; typed data. -/
namespace Z
open PySem PySem.Spec PyProof.Rows L2
/-! what comes first is looked at first: nothing stands under a binder -/
def q1 {α β : Type} (f : α → β) : Option α → Option β
  | some x => some (f x)
  | none => none
def qb {α β : Type} (f : α → Option β) : Option α → Option β
  | some x => f x
  | none => none
def q2 (op : D → D → Option D) : Option D → Option D → Option D
  | some x, some y => op x y
  | _, _ => none
def qIf {β : Type} (f g : EV → Option β) (ev : EV) : Option Bool → Option β
  | some true => f ev
  | some false => g ev
  | none => none
def qOr2 (x : D) (g : EV → Option D) (ev : EV) : Option Bool → Option D
  | some true => some x
  | some false => g ev
  | none => none
def qAnd2 (x : D) (g : EV → Option D) (ev : EV) : Option Bool → Option D
  | some true => g ev
  | some false => some x
  | none => none
def qOr (g : EV → Option D) (ev : EV) : Option D → Option D
  | some x => qOr2 x g ev x.tru
  | none => none
def qAnd (g : EV → Option D) (ev : EV) : Option D → Option D
  | some x => qAnd2 x g ev x.tru
  | none => none
def qFlat : Option D → Option D
  | some d => if d.flat then some d else none
  | none => none
def qCh (l : D → EV → Option D) (ev : EV) : Option D → Option D
  | some x => l x ev
  | none => none
def qLast (op : D → D → Option D) (x : D) : Option D → Option D
  | some y => (match op x y with
    | some (.bl k) => some (.bl k)
    | _ => none)
  | none => none
def qLink2 (r : D → EV → Option D) (y : D) (ev : EV) : Option D → Option D
  | some (.bl true) => r y ev
  | some (.bl false) => some (.bl false)
  | _ => none
def qLink (op : D → D → Option D) (r : D → EV → Option D) (x : D) (ev : EV) : Option D → Option D
  | some y => qLink2 r y ev (op x y)
  | none => none
def qIxo : Option L → Option D → Option D
  | some (.own xs), some (.int k) => atI xs k
  | _, _ => none
def qCons : Option D → Option (List D) → Option (List D)
  | some x, some xs => some (x :: xs)
  | _, _ => none
def qTup : Option (List D) → Option D
  | some ds => if ds.length ≤ 1000 then some (.tup ds) else none
  | none => none
def qKl : Option (List D) → Option (List D)
  | some ds => if ds.length ≤ 1000 then some ds else none
  | none => none
def qAt : Option D → Option (Option Int)
  | some (.int i) => some (some i)
  | _ => none
def qSl : Option D → Option (Option Int) → Option (Option Int) → Option (List D)
  | some (.lst xs), some a, some b => some (cutD xs a b)
  | _, _, _ => none
def qSlo : Option L → Option (Option Int) → Option (Option Int) → Option (List D)
  | some (.own xs), some a, some b => some (cutD xs a b)
  | _, _, _ => none
def qSlT : Option D → Option (Option Int) → Option (Option Int) → Option D
  | some (.tup xs), some a, some b => if ¬ (HT.sIx xs.length 0 a = 0 ∧ HT.sIx xs.length xs.length b = xs.length) then some (.tup (cutD xs a b)) else none
  | _, _, _ => none
def qRev : Option D → Option (List D)
  | some (.lst xs) => some xs.reverse
  | _ => none
def qRevo : Option L → Option (List D)
  | some (.own xs) => some xs.reverse
  | _ => none
def qCat : Option D → Option D → Option (List D)
  | some (.lst xs), some (.lst ys) => if xs.length + ys.length ≤ 16777216 then some (xs ++ ys) else none
  | _, _ => none
def qRep : Option D → Option D → Option (List D)
  | some (.lst xs), some (.int n) => if -(2 ^ 63) ≤ n ∧ n < 2 ^ 63 ∧ xs.length * n.toNat ≤ 16777216 then some (List.replicate n.toNat xs).flatten else none
  | _, _ => none
def qOf : Option (List D) → Option (List D)
  | some [.lst xs] => some xs
  | some [.tup xs] => some xs
  | _ => none
def qL : Option D → Option (List D)
  | some (.lst xs) => some xs
  | _ => none
def qT : Option D → Option (List D)
  | some (.tup xs) => some xs
  | _ => none
def qO : Option L → Option (List D)
  | some (.own xs) => some xs
  | _ => none
def qR1 : Option (List D) → Option (List D)
  | some [.int j] => if -4611686018427387904 ≤ j ∧ j < 4611686018427387904 then some (rangeD 0 j) else none
  | _ => none
def qR2 : Option (List D) → Option (List D)
  | some [.int i, .int j] => if -4611686018427387904 ≤ i ∧ i < 4611686018427387904 ∧ -4611686018427387904 ≤ j ∧ j < 4611686018427387904 then some (rangeD i j) else none
  | _ => none
def qEn : Option (List D) → Option (List D)
  | some [.lst xs] => some (enumD xs)
  | _ => none
def qZp : Option (List D) → Option (List D)
  | some [.lst xs, .lst ys] => some (zipD xs ys)
  | _ => none
def qV : Option L → Option D
  | some (.fro d) => some d
  | _ => none
def qW : Option L → Option D
  | some (.own xs) => some (.lst xs)
  | _ => none
def qSet (i : Nat) (ev : EV) : Option L → Option Fl
  | some l => some (.nx (ev.set i l))
  | none => none
def qPar (i j : Nat) (ev : EV) : Option L → Option L → Option Fl
  | some l, some m => some (.nx ((ev.set i l).set j m))
  | _, _ => none
def qPar3 (i j o : Nat) (ev : EV) : Option L → Option L → Option L → Option Fl
  | some l, some m, some n => some (.nx (((ev.set i l).set j m).set o n))
  | _, _, _ => none
def qNx : Option EV → Option Fl
  | some e => some (.nx e)
  | none => none
def qAsg (mm : D → EV → Option EV) (ev : EV) : Option D → Option Fl
  | some d => qNx (mm d ev)
  | none => none
def qMs (ms : List D → EV → Option EV) (ds : List D) : Option EV → Option EV
  | some ev => ms ds ev
  | none => none
def qApp (i : Nat) (ev : EV) : Option L → Option D → Option Fl
  | some (.own xs), some d => if xs.length < 16777216 then some (.nx (ev.set i (.own (xs ++ [d])))) else none
  | _, _ => none
def qExt (i : Nat) (ev : EV) : Option L → Option D → Option Fl
  | some (.own xs), some (.lst ys) => if xs.length + ys.length ≤ 16777216 then some (.nx (ev.set i (.own (xs ++ ys)))) else none
  | _, _ => none
def qSub2 (i : Nat) (ev : EV) (xs : List D) (d : D) : Option Nat → Option Fl
  | some j => some (.nx (ev.set i (.own (xs.set j d))))
  | none => none
def qSub (i : Nat) (ev : EV) : Option L → Option D → Option D → Option Fl
  | some (.own xs), some (.int n), some d => qSub2 i ev xs d (ixN xs.length n)
  | _, _, _ => none
def qFor (mm : D → EV → Option EV) (u : EV → Option Fl) (ev : EV) : Option (List D) → Option Fl
  | some ds => forGo mm u ds ev
  | none => none
def qSeq (v : EV → Option Fl) : Option Fl → Option Fl
  | some (.nx e) => v e
  | some (.rt d) => some (.rt d)
  | some (.bk e) => some (.bk e)
  | some (.ct e) => some (.ct e)
  | some (.ex e x d) => some (.ex e x d)
  | none => none
def qFrz (i : Nat) (ev : EV) : Option L → EV
  | some (.own xs) => ev.set i (.fro (.lst xs))
  | _ => ev
section
variable {α β : Type} {f : α → β} {fb : α → Option β} {x : α} {d y z : D} {ds es : List D} {ev : EV} {i j o k : Nat} {a b : Int} {op : D → D → Option D} {u v : EV → Option β} {g : EV → Option D} {l m n : L} {c : Bool} {r : D → EV → Option D}
@[simp] theorem q1_s : q1 f (some x) = some (f x) := .trans rfl rfl
@[simp] theorem qb_s : qb fb (some x) = fb x := .trans rfl rfl
@[simp] theorem q2_s : q2 op (some y) (some z) = op y z := .trans rfl rfl
@[simp] theorem qIf_t : qIf u v ev (some true) = u ev := .trans rfl rfl
@[simp] theorem qIf_f : qIf u v ev (some false) = v ev := .trans rfl rfl
theorem qIf_b : qIf u v ev (some c) = if c then u ev else v ev := by cases c <;> rfl
@[simp] theorem qOr2_t : qOr2 y g ev (some true) = some y := .trans rfl rfl
@[simp] theorem qOr2_f : qOr2 y g ev (some false) = g ev := .trans rfl rfl
@[simp] theorem qAnd2_t : qAnd2 y g ev (some true) = g ev := .trans rfl rfl
@[simp] theorem qAnd2_f : qAnd2 y g ev (some false) = some y := .trans rfl rfl
@[simp] theorem qOr_s : qOr g ev (some y) = qOr2 y g ev y.tru := .trans rfl rfl
@[simp] theorem qAnd_s : qAnd g ev (some y) = qAnd2 y g ev y.tru := .trans rfl rfl
@[simp] theorem qFlat_s : qFlat (some y) = if y.flat then some y else none := .trans rfl rfl
@[simp] theorem qCh_s : qCh r ev (some y) = r y ev := .trans rfl rfl
@[simp] theorem qLast_s : qLast op z (some y) = (match op z y with | some (.bl k) => some (.bl k) | _ => none) := .trans rfl rfl
@[simp] theorem qLink_s : qLink op r z ev (some y) = qLink2 r y ev (op z y) := .trans rfl rfl
@[simp] theorem qLink2_t : qLink2 r y ev (some (.bl true)) = r y ev := .trans rfl rfl
@[simp] theorem qLink2_f : qLink2 r y ev (some (.bl false)) = some (.bl false) := .trans rfl rfl
theorem qLink2_b : qLink2 r y ev (some (.bl c)) = if c then r y ev else some (.bl false) := by cases c <;> rfl
@[simp] theorem qIxo_s : qIxo (some (.own ds)) (some (.int a)) = atI ds a := .trans rfl rfl
@[simp] theorem qCons_s : qCons (some y) (some ds) = some (y :: ds) := .trans rfl rfl
@[simp] theorem qTup_s : qTup (some ds) = if ds.length ≤ 1000 then some (.tup ds) else none := .trans rfl rfl
@[simp] theorem qKl_s : qKl (some ds) = if ds.length ≤ 1000 then some ds else none := .trans rfl rfl
@[simp] theorem qAt_s : qAt (some (.int a)) = some (some a) := .trans rfl rfl
@[simp] theorem qSl_s {p q : Option Int} : qSl (some (.lst ds)) (some p) (some q) = some (cutD ds p q) := .trans rfl rfl
@[simp] theorem qSlo_s {p q : Option Int} : qSlo (some (.own ds)) (some p) (some q) = some (cutD ds p q) := .trans rfl rfl
@[simp] theorem qSlT_s {p q : Option Int} : qSlT (some (.tup ds)) (some p) (some q) = if ¬ (HT.sIx ds.length 0 p = 0 ∧ HT.sIx ds.length ds.length q = ds.length) then some (.tup (cutD ds p q)) else none := .trans rfl rfl
@[simp] theorem qRev_s : qRev (some (.lst ds)) = some ds.reverse := .trans rfl rfl
@[simp] theorem qRevo_s : qRevo (some (.own ds)) = some ds.reverse := .trans rfl rfl
@[simp] theorem qCat_s : qCat (some (.lst ds)) (some (.lst es)) = if ds.length + es.length ≤ 16777216 then some (ds ++ es) else none := .trans rfl rfl
@[simp] theorem qRep_s : qRep (some (.lst ds)) (some (.int a)) = if -(2 ^ 63) ≤ a ∧ a < 2 ^ 63 ∧ ds.length * a.toNat ≤ 16777216 then some (List.replicate a.toNat ds).flatten else none := .trans rfl rfl
@[simp] theorem qOf_l : qOf (some [.lst ds]) = some ds := .trans rfl rfl
@[simp] theorem qOf_t : qOf (some [.tup ds]) = some ds := .trans rfl rfl
@[simp] theorem qL_s : qL (some (.lst ds)) = some ds := .trans rfl rfl
@[simp] theorem qT_s : qT (some (.tup ds)) = some ds := .trans rfl rfl
@[simp] theorem qO_s : qO (some (.own ds)) = some ds := .trans rfl rfl
@[simp] theorem qR1_s : qR1 (some [.int a]) = if -4611686018427387904 ≤ a ∧ a < 4611686018427387904 then some (rangeD 0 a) else none := .trans rfl rfl
@[simp] theorem qR2_s : qR2 (some [.int a, .int b]) = if -4611686018427387904 ≤ a ∧ a < 4611686018427387904 ∧ -4611686018427387904 ≤ b ∧ b < 4611686018427387904 then some (rangeD a b) else none := .trans rfl rfl
@[simp] theorem qEn_s : qEn (some [.lst ds]) = some (enumD ds) := .trans rfl rfl
@[simp] theorem qZp_s : qZp (some [.lst ds, .lst es]) = some (zipD ds es) := .trans rfl rfl
@[simp] theorem qV_s : qV (some (.fro y)) = some y := .trans rfl rfl
@[simp] theorem qW_s : qW (some (.own ds)) = some (.lst ds) := .trans rfl rfl
@[simp] theorem qSet_s : qSet i ev (some l) = some (.nx (ev.set i l)) := .trans rfl rfl
@[simp] theorem qPar_s : qPar i j ev (some l) (some m) = some (.nx ((ev.set i l).set j m)) := .trans rfl rfl
@[simp] theorem qPar3_s : qPar3 i j o ev (some l) (some m) (some n) = some (.nx (((ev.set i l).set j m).set o n)) := .trans rfl rfl
@[simp] theorem qNx_s : qNx (some ev) = some (.nx ev) := .trans rfl rfl
@[simp] theorem qAsg_s {mm : D → EV → Option EV} : qAsg mm ev (some y) = qNx (mm y ev) := .trans rfl rfl
@[simp] theorem qMs_s {ms : List D → EV → Option EV} : qMs ms ds (some ev) = ms ds ev := .trans rfl rfl
@[simp] theorem qApp_s : qApp i ev (some (.own ds)) (some y) = if ds.length < 16777216 then some (.nx (ev.set i (.own (ds ++ [y])))) else none := .trans rfl rfl
@[simp] theorem qExt_s : qExt i ev (some (.own ds)) (some (.lst es)) = if ds.length + es.length ≤ 16777216 then some (.nx (ev.set i (.own (ds ++ es)))) else none := .trans rfl rfl
@[simp] theorem qSub_s : qSub i ev (some (.own ds)) (some (.int a)) (some y) = qSub2 i ev ds y (ixN ds.length a) := .trans rfl rfl
@[simp] theorem qSub2_s : qSub2 i ev ds y (some j) = some (.nx (ev.set i (.own (ds.set j y)))) := .trans rfl rfl
@[simp] theorem qFor_s {mm : D → EV → Option EV} {w : EV → Option Fl} : qFor mm w ev (some ds) = forGo mm w ds ev := .trans rfl rfl
@[simp] theorem qSeq_n {w : EV → Option Fl} : qSeq w (some (.nx ev)) = w ev := .trans rfl rfl
@[simp] theorem qSeq_r {w : EV → Option Fl} : qSeq w (some (.rt y)) = some (.rt y) := .trans rfl rfl
@[simp] theorem qSeq_b {w : EV → Option Fl} : qSeq w (some (.bk ev)) = some (.bk ev) := .trans rfl rfl
@[simp] theorem qSeq_x {w : EV → Option Fl} {x : Str} : qSeq w (some (.ex ev x y)) = some (.ex ev x y) := .trans rfl rfl
@[simp] theorem qSeq_c {w : EV → Option Fl} : qSeq w (some (.ct ev)) = some (.ct ev) := .trans rfl rfl
@[simp] theorem qFrz_o : qFrz i ev (some (.own ds)) = ev.set i (.fro (.lst ds)) := .trans rfl rfl
@[simp] theorem qFrz_f : qFrz i ev (some (.fro y)) = ev := .trans rfl rfl
end
section
variable {ev : EV} {i j o n m : Nat} {f g h : EV → Option D} {p q : EV → Option Bool} {u v : EV → Option Fl} {k : EV → Option (List D)} {op : D → D → Option D}
@[simp] theorem v_var : cVar i ev = qV ev[i]? := by
  unfold cVar qV
  split <;> simp_all
@[simp] theorem v_own : cOwn i ev = qW ev[i]? := by
  unfold cOwn qW
  split <;> simp_all
@[simp] theorem v_c {d : D} : cC d ev = some d := .trans rfl rfl
@[simp] theorem v_c2 : c2 op f g ev = q2 op (f ev) (g ev) := by
  unfold c2 q2
  cases f ev <;> cases g ev <;> rfl
@[simp] theorem v_c1 {op : D → Option D} : c1 op f ev = qb op (f ev) := by
  unfold c1 qb
  cases f ev <;> rfl
@[simp] theorem v_flat : cFlat f ev = qFlat (f ev) := by
  unfold cFlat qFlat
  cases f ev <;> rfl
@[simp] theorem v_or : cOr f g ev = qOr g ev (f ev) := by
  unfold cOr qOr
  cases f ev with
  | none => rfl
  | some x =>
    show x.tru.bind _ = qOr2 x g ev x.tru
    rcases x.tru with _ | _ | _ <;> rfl
@[simp] theorem v_and : cAnd f g ev = qAnd g ev (f ev) := by
  unfold cAnd qAnd
  cases f ev with
  | none => rfl
  | some x =>
    show x.tru.bind _ = qAnd2 x g ev x.tru
    rcases x.tru with _ | _ | _ <;> rfl
@[simp] theorem v_tand : tAndZ p q ev = qIf q (fun _ => some false) ev (p ev) := by
  unfold tAndZ
  rcases p ev with _ | _ | _ <;> rfl
@[simp] theorem v_tor : tOrZ p q ev = qIf (fun _ => some true) q ev (p ev) := by
  unfold tOrZ
  rcases p ev with _ | _ | _ <;> rfl
@[simp] theorem v_tnot : tNotZ p ev = q1 not (p ev) := by
  unfold tNotZ
  rcases p ev with _ | _ | _ <;> rfl
@[simp] theorem v_ttru : tTru f ev = qb D.tru (f ev) := by
  unfold tTru
  cases f ev <;> rfl
@[simp] theorem v_tof : tOf f ev = asB (f ev) := .trans rfl rfl
@[simp] theorem v_asB {b : Bool} : asB (some (.bl b)) = some b := .trans rfl rfl
@[simp] theorem v_if : cIf p f g ev = qIf f g ev (p ev) := by
  unfold cIf
  rcases p ev with _ | _ | _ <;> rfl
@[simp] theorem v_ch {l : D → EV → Option D} : cCh f l ev = qCh l ev (f ev) := by
  unfold cCh
  cases f ev <;> rfl
@[simp] theorem v_chlast {x : D} : chLast op g x ev = qLast op x (g ev) := by
  unfold chLast
  cases g ev <;> rfl
@[simp] theorem v_chlink {x : D} {r : D → EV → Option D} : chLink op g r x ev = qLink op r x ev (g ev) := by
  unfold chLink qLink
  cases g ev with
  | none => rfl
  | some y =>
    show (match op x y with | some (.bl true) => r y ev | some (.bl false) => some (.bl false) | _ => none) = qLink2 r y ev (op x y)
    unfold qLink2
    split <;> simp_all
@[simp] theorem v_ixo : cIxo i g ev = qIxo ev[i]? (g ev) := by
  unfold cIxo qIxo
  split <;> simp_all
@[simp] theorem v_anil : aNil ev = some [] := .trans rfl rfl
@[simp] theorem v_acons : aCons f k ev = qCons (f ev) (k ev) := by
  unfold aCons
  cases f ev <;> cases k ev <;> rfl
@[simp] theorem v_tup : cTup k ev = qTup (k ev) := by
  unfold cTup
  cases k ev <;> rfl
@[simp] theorem v_lst : cLst k ev = q1 D.lst (k ev) := by
  unfold cLst
  cases k ev <;> rfl
@[simp] theorem v_klist : kList k ev = qKl (k ev) := by
  unfold kList
  cases k ev <;> rfl
@[simp] theorem v_pno : pNo ev = some none := .trans rfl rfl
@[simp] theorem v_pat : pAt f ev = qAt (f ev) := by
  unfold pAt qAt
  split <;> simp_all
@[simp] theorem v_ksl {l r : EV → Option (Option Int)} : kSl f l r ev = qSl (f ev) (l ev) (r ev) := by
  unfold kSl qSl
  rcases f ev with _ | _ | _ | _ | _ | _ | _ | _ <;> cases l ev <;> cases r ev <;> rfl
@[simp] theorem v_kslo {l r : EV → Option (Option Int)} : kSlo i l r ev = qSlo ev[i]? (l ev) (r ev) := by
  unfold kSlo qSlo
  rcases ev[i]? with _ | _ | _ | _ <;> cases l ev <;> cases r ev <;> rfl
@[simp] theorem v_slT {l r : EV → Option (Option Int)} : cSlT f l r ev = qSlT (f ev) (l ev) (r ev) := by
  unfold cSlT qSlT
  rcases f ev with _ | _ | _ | _ | _ | _ | _ | _ <;> cases l ev <;> cases r ev <;> rfl
@[simp] theorem v_krev : kRev f ev = qRev (f ev) := by
  unfold kRev qRev
  split <;> simp_all
@[simp] theorem v_krevo : kRevo i ev = qRevo ev[i]? := by
  unfold kRevo qRevo
  split <;> simp_all
@[simp] theorem v_kcat : kCat f g ev = qCat (f ev) (g ev) := by
  unfold kCat qCat
  split <;> simp_all
@[simp] theorem v_krep : kRep f g ev = qRep (f ev) (g ev) := by
  unfold kRep qRep
  split <;> simp_all
@[simp] theorem v_cb {b : List D → Option D} : cCB b k ev = qb b (k ev) := by
  unfold cCB
  cases k ev <;> rfl
@[simp] theorem v_kof : kOf k ev = qOf (k ev) := by
  unfold kOf qOf
  split <;> simp_all
@[simp] theorem v_ilst : iLst f ev = qL (f ev) := by
  unfold iLst qL
  split <;> simp_all
@[simp] theorem v_ituple : iTuple f ev = qT (f ev) := by
  unfold iTuple qT
  split <;> simp_all
@[simp] theorem v_iown : iOwn i ev = qO ev[i]? := by
  unfold iOwn qO
  split <;> simp_all
@[simp] theorem v_ir1 : iR1 k ev = qR1 (k ev) := by
  unfold iR1 qR1
  split <;> simp_all
@[simp] theorem v_ir2 : iR2 k ev = qR2 (k ev) := by
  unfold iR2 qR2
  split <;> simp_all
@[simp] theorem v_ien : iEn k ev = qEn (k ev) := by
  unfold iEn qEn
  split <;> simp_all
@[simp] theorem v_izp : iZp k ev = qZp (k ev) := by
  unfold iZp qZp
  split <;> simp_all
@[simp] theorem v_mname {d : D} : mName i d ev = some (ev.set i (.fro d)) := .trans rfl rfl
@[simp] theorem v_mnil : mNil [] ev = some ev := .trans rfl rfl
@[simp] theorem v_mcons {mm : D → EV → Option EV} {ms : List D → EV → Option EV} {d : D} {ds : List D} : mCons mm ms (d :: ds) ev = qMs ms ds (mm d ev) := by
  show (mm d ev).bind _ = _
  cases mm d ev <;> rfl
@[simp] theorem v_mtup {ms : List D → EV → Option EV} {ds : List D} : mTup ms (.tup ds) ev = ms ds ev := .trans rfl rfl
@[simp] theorem v_lf : lF f ev = q1 L.fro (f ev) := by
  unfold lF
  cases f ev <;> rfl
@[simp] theorem v_lo : lO k ev = q1 L.own (k ev) := by
  unfold lO
  cases k ev <;> rfl
@[simp] theorem v_setl {l : EV → Option L} : sSetL i l ev = qSet i ev (l ev) := by
  unfold sSetL
  cases l ev <;> rfl
@[simp] theorem v_par {a b : EV → Option L} : sPar i j a b ev = qPar i j ev (a ev) (b ev) := by
  unfold sPar
  cases a ev <;> cases b ev <;> rfl
@[simp] theorem v_par3 {a b c : EV → Option L} : sPar3 i j o a b c ev = qPar3 i j o ev (a ev) (b ev) (c ev) := by
  unfold sPar3
  cases a ev <;> cases b ev <;> cases c ev <;> rfl
@[simp] theorem v_asg {mm : D → EV → Option EV} : sAsg f mm ev = qAsg mm ev (f ev) := by
  unfold sAsg
  cases f ev with
  | none => rfl
  | some d =>
    show (mm d ev).map Fl.nx = qNx (mm d ev)
    cases mm d ev <;> rfl
@[simp] theorem v_app : sApp i f ev = qApp i ev ev[i]? (f ev) := by
  unfold sApp qApp
  rcases ev[i]? with _ | _ | _ | xs
  · rfl
  · rfl
  · rfl
  · cases f ev with
    | none =>
      show (if xs.length < 16777216 then none else none) = none
      split <;> rfl
    | some d => rfl
@[simp] theorem v_ext : sExt i f ev = qExt i ev ev[i]? (f ev) := by
  unfold sExt qExt
  split <;> simp_all
@[simp] theorem v_sub : sSub i g f ev = qSub i ev ev[i]? (g ev) (f ev) := by
  unfold sSub qSub
  split
  · rename_i xs n d h1 h2 h3
    first
      | rw [h1, h2, h3]
      | skip
    show (ixN xs.length n).map _ = qSub2 i ev xs d (ixN xs.length n)
    cases ixN xs.length n <;> rfl
  · simp_all
@[simp] theorem v_drop : sDrop f ev = q1 (fun _ => Fl.nx ev) (f ev) := by
  unfold sDrop
  cases f ev <;> rfl
@[simp] theorem v_sif : sIf p u v ev = qIf u v ev (p ev) := by
  unfold sIf
  rcases p ev with _ | _ | _ <;> rfl
@[simp] theorem v_for {fi : EV → Option (List D)} {mm : D → EV → Option EV} : sFor fi mm u ev = qFor mm u ev (fi ev) := by
  unfold sFor
  cases fi ev <;> rfl
@[simp] theorem v_nx : sNx ev = some (.nx ev) := .trans rfl rfl
@[simp] theorem v_bk : sBk ev = some (.bk ev) := .trans rfl rfl
@[simp] theorem v_ct : sCt ev = some (.ct ev) := .trans rfl rfl
@[simp] theorem v_ret : sRet f ev = q1 Fl.rt (f ev) := by
  unfold sRet
  cases f ev <;> rfl
@[simp] theorem v_frz : sFrz i u ev = u (evFrz ev i) := .trans rfl rfl
@[simp] theorem v_evfrz : evFrz ev i = qFrz i ev ev[i]? := by
  unfold evFrz qFrz
  split <;> simp_all
@[simp] theorem v_wnil : evWipe ev [] = ev := .trans rfl rfl
@[simp] theorem v_wcons {vs : List Nat} : evWipe ev (i :: vs) = (evWipe ev vs).set i .un := .trans rfl rfl
/-- a block: its first statement is known -/
theorem seq_nx {e : EV} (h : u ev = some (.nx e)) : sSeq u v ev = v e := by
  unfold sSeq
  rw [h]
  rfl
theorem seq_rt {d : D} (h : u ev = some (.rt d)) : sSeq u v ev = some (.rt d) := by
  unfold sSeq
  rw [h]
  rfl
@[simp] theorem v_seq : sSeq u v ev = qSeq v (u ev) := by
  unfold sSeq
  rcases u ev with _ | _ | _ | _ | _ <;> rfl
/-! ops -/
@[simp] theorem v_add {a b : Int} : oAdd (.int a) (.int b) = some (.int (a + b)) := .trans rfl rfl
@[simp] theorem v_osub {a b : Int} : oSub (.int a) (.int b) = some (.int (a - b)) := .trans rfl rfl
@[simp] theorem v_mul {a b : Int} : oMul (.int a) (.int b) = if (-(2 ^ 64) < a ∧ a < 2 ^ 64) ∨ (-(2 ^ 64) < b ∧ b < 2 ^ 64) then some (.int (a * b)) else none := .trans rfl rfl
@[simp] theorem v_div {a b : Int} : oDiv (.int a) (.int b) = if 0 < b ∧ b < 1073741824 then some (.int (a / b)) else none := .trans rfl rfl
@[simp] theorem v_mod {a b : Int} : oMod (.int a) (.int b) = if 0 < b then some (.int (a % b)) else none := .trans rfl rfl
theorem pow18i : (10 : Int) ^ (18 : Int).toNat = 1000000000000000000 := by decide +kernel
theorem pow18 : ∃ b : Int, oPow (.int 10) (.int 18) = some (.int b) ∧ b < 4611686018427387904 := by
  refine ⟨(10 : Int) ^ (18 : Int).toNat, ?_, by rw [pow18i]; decide⟩
  show (if (0 : Int) ≤ 18 ∧ (18 : Int) ≤ 1000000 ∧ (10 : Int).natAbs < 2 ^ 64 then some (D.int ((10 : Int) ^ (18 : Int).toNat)) else none) = _
  rw [if_pos ⟨by decide, by decide, by decide⟩]
@[simp] theorem v_lt {a b : Int} : oLt (.int a) (.int b) = some (.bl (decide (a < b))) := .trans rfl rfl
@[simp] theorem v_le {a b : Int} : oLe (.int a) (.int b) = some (.bl (decide (a ≤ b))) := .trans rfl rfl
@[simp] theorem v_gt {a b : Int} : oGt (.int a) (.int b) = some (.bl (decide (b < a))) := .trans rfl rfl
@[simp] theorem v_ge {a b : Int} : oGe (.int a) (.int b) = some (.bl (decide (b ≤ a))) := .trans rfl rfl
@[simp] theorem v_neg {a : Int} : oNeg (.int a) = some (.int (-a)) := .trans rfl rfl
@[simp] theorem v_is {d : D} : oIs d .non = some (.bl d.isNon) := by cases d <;> rfl
@[simp] theorem v_isnot {d : D} : oIsNot d .non = some (.bl (!d.isNon)) := by cases d <;> rfl
@[simp] theorem v_isnotb {a b : Bool} : oIsNot (.bl a) (.bl b) = some (.bl (!decide (a = b))) := .trans rfl rfl
@[simp] theorem v_isNon : D.isNon .non = true := .trans rfl rfl
@[simp] theorem v_isNonI {a : Int} : D.isNon (.int a) = false := .trans rfl rfl
@[simp] theorem v_isNonL {xs : List D} : D.isNon (.lst xs) = false := .trans rfl rfl
@[simp] theorem v_isNonT {xs : List D} : D.isNon (.tup xs) = false := .trans rfl rfl
@[simp] theorem v_isNonB {b : Bool} : D.isNon (.bl b) = false := .trans rfl rfl
@[simp] theorem v_tru0 : D.tru .non = some false := .trans rfl rfl
@[simp] theorem v_truB {b : Bool} : D.tru (.bl b) = some b := .trans rfl rfl
@[simp] theorem v_truI {a : Int} : D.tru (.int a) = some (a != 0) := .trans rfl rfl
@[simp] theorem v_truL {xs : List D} : D.tru (.lst xs) = some (!xs.isEmpty) := .trans rfl rfl
@[simp] theorem v_truT {xs : List D} : D.tru (.tup xs) = some (!xs.isEmpty) := .trans rfl rfl
@[simp] theorem v_flat0 : D.flat .non = true := .trans rfl rfl
@[simp] theorem v_flatB {b : Bool} : D.flat (.bl b) = true := .trans rfl rfl
@[simp] theorem v_flatI {a : Int} : D.flat (.int a) = true := .trans rfl rfl
@[simp] theorem v_flatS {a : Str} : D.flat (.str a) = true := .trans rfl rfl
@[simp] theorem v_not {d : D} : oNot d = q1 (fun k => D.bl (!k)) d.tru := by
  unfold oNot
  cases d.tru <;> rfl
@[simp] theorem v_ixl {xs : List D} {a : Int} : oIx (.lst xs) (.int a) = atI xs a := .trans rfl rfl
@[simp] theorem v_ixt {xs : List D} {a : Int} : oIx (.tup xs) (.int a) = atI xs a := .trans rfl rfl
@[simp] theorem v_ixs {xs : List Int} {a : Int} : oIx (.scr xs) (.int a) = (atI xs a).map .int := .trans rfl rfl
@[simp] theorem v_blen {xs : List D} : bLen [.lst xs] = some (.int xs.length) := .trans rfl rfl
@[simp] theorem v_blent {xs : List D} : bLen [.tup xs] = some (.int xs.length) := .trans rfl rfl
@[simp] theorem v_blens {xs : List Int} : bLen [.scr xs] = some (.int xs.length) := .trans rfl rfl
@[simp] theorem v_bint {a : Int} : bInt [.int a] = some (.int a) := .trans rfl rfl
@[simp] theorem v_bintb {b : Bool} : bInt [.bl b] = some (.int (if b then 1 else 0)) := .trans rfl rfl
@[simp] theorem v_babs {a : Int} : bAbs [.int a] = some (.int (if a < 0 then -a else a)) := .trans rfl rfl
@[simp] theorem v_bmax {a b : Int} : bMax [.int a, .int b] = some (.int (if b > a then b else a)) := .trans rfl rfl
@[simp] theorem v_bmin {a b : Int} : bMin [.int a, .int b] = some (.int (if b < a then b else a)) := .trans rfl rfl
@[simp] theorem v_ball {xs : List D} : bAll [.lst xs] = q1 (fun bs => D.bl (bs.all id)) (asBs xs) := by
  show (asBs xs).map _ = _
  cases asBs xs <;> rfl
@[simp] theorem v_bany {xs : List D} : bAny [.lst xs] = q1 (fun bs => D.bl (bs.any id)) (asBs xs) := by
  show (asBs xs).map _ = _
  cases asBs xs <;> rfl
@[simp] theorem v_bsum {xs : List D} : bSum [.lst xs] = q1 (fun bs => D.int bs.sum) (asIs xs) := by
  show (asIs xs).map _ = _
  cases asIs xs <;> rfl
theorem asBs_map {α : Type} (f : α → Bool) : ∀ xs : List α, asBs (xs.map fun x => D.bl (f x)) = some (xs.map f)
  | [] => rfl
  | x :: xs => by
    show (asBs (xs.map fun x => D.bl (f x))).map (f x :: ·) = _
    rw [asBs_map f xs]
    rfl
theorem asIs_map {α : Type} (f : α → Int) : ∀ xs : List α, asIs (xs.map fun x => D.int (f x)) = some (xs.map f)
  | [] => rfl
  | x :: xs => by
    show (asIs (xs.map fun x => D.int (f x))).map (f x :: ·) = _
    rw [asIs_map f xs]
    rfl
/-! items by place -/
theorem atI_n {α : Type} {xs : List α} {j : Nat} : atI xs (j : Int) = xs[j]? := by
  unfold atI ixN
  by_cases h : j < xs.length
  · rw [if_pos (by omega), if_pos (by omega)]
    rfl
  · rw [if_pos (by omega), if_neg (by omega)]
    simp only [Option.bind_none]
    exact (List.getElem?_eq_none (by omega)).symm
@[simp] theorem atI_0 {α : Type} {x : α} {xs : List α} : atI (x :: xs) 0 = some x := atI_n (j := 0)
@[simp] theorem atI_1 {α : Type} {x y : α} {xs : List α} : atI (x :: y :: xs) 1 = some y := atI_n (j := 1)
@[simp] theorem atI_2 {α : Type} {x y z : α} {xs : List α} : atI (x :: y :: z :: xs) 2 = some z := atI_n (j := 2)
@[simp] theorem atI_3 {α : Type} {x y z a : α} {xs : List α} : atI (x :: y :: z :: a :: xs) 3 = some a := atI_n (j := 3)
@[simp] theorem atI_4 {α : Type} {x y z a b : α} {xs : List α} : atI (x :: y :: z :: a :: b :: xs) 4 = some b := atI_n (j := 4)
theorem atI_back {α : Type} {xs : List α} (h : xs ≠ []) : atI xs (-1) = xs.getLast? := by
  have hl : 0 < xs.length := List.length_pos_iff.mpr h
  unfold atI ixN
  rw [if_neg (by decide), if_pos (by omega), List.getLast?_eq_getElem?]
  show xs[(-1 + (xs.length : Int)).toNat]? = _
  congr 1
  omega
theorem ixN_n {n j : Nat} (h : j < n) : ixN n (j : Int) = some j := by
  unfold ixN
  rw [if_pos (by omega), if_pos (by omega)]
  rfl
theorem cut_to {α : Type} {xs : List α} {k : Nat} : cutD xs none (some (k : Int)) = xs.take k := by
  unfold cutD
  rw [HT.sIx_none, HT.sIx_nat, List.drop_zero, Nat.sub_zero, ← List.take_eq_take_min]
theorem cut_from {α : Type} {xs : List α} {k : Nat} : cutD xs (some (k : Int)) none = xs.drop k := by
  unfold cutD
  rw [HT.sIx_none, HT.sIx_nat]
  by_cases h : k ≤ xs.length
  · rw [Nat.min_eq_left h, List.take_of_length_le (by rw [List.length_drop]; omega)]
  · rw [Nat.min_eq_right (by omega), Nat.sub_self, List.take_zero, List.drop_eq_nil_of_le (by omega)]
/-! ranges -/
theorem rangeD_n (n : Nat) : rangeD 0 (n : Int) = (List.range n).map fun k : Nat => D.int (k : Int) := by
  unfold rangeD
  rw [Int.sub_zero, Int.toNat_natCast]
  apply List.map_congr_left
  intro k _
  rw [Int.zero_add]
theorem rangeD_eq (j : Int) : rangeD 0 j = (List.range j.toNat).map fun k : Nat => D.int (k : Int) := by
  unfold rangeD
  rw [Int.sub_zero]
  apply List.map_congr_left
  intro k _
  rw [Int.zero_add]
/-! comprehensions -/
theorem compGo_map {α : Type} {enc : α → D} {F : D → Option (Option D)} {r : α → D} : ∀ {xs : List α}, (∀ x ∈ xs, F (enc x) = some (some (r x))) → compGo F (xs.map enc) = some (xs.map r)
  | [], _ => rfl
  | x :: xs, h => by
    show (F (enc x)).bind _ = _
    rw [h x List.mem_cons_self, Option.bind_some, compGo_map (r := r) fun y hy => h y (List.mem_cons_of_mem _ hy)]
    rfl
theorem compGo_filter {α : Type} {enc : α → D} {F : D → Option (Option D)} {r : α → D} {P : α → Bool} : ∀ {xs : List α}, (∀ x ∈ xs, F (enc x) = some (if P x then some (r x) else none)) → compGo F (xs.map enc) = some ((xs.filter P).map r)
  | [], _ => rfl
  | x :: xs, h => by
    show (F (enc x)).bind _ = _
    rw [h x List.mem_cons_self, Option.bind_some, compGo_filter (r := r) (P := P) fun y hy => h y (List.mem_cons_of_mem _ hy), List.filter_cons]
    cases P x <;> rfl
theorem v_comp {fi : EV → Option (List D)} {mm : D → EV → Option EV} {vs : List Nat} {ds : List D} (h : fi ev = some ds) (hl : ds.length ≤ 16777216) :
    kComp fi mm p f vs ev = compGo (fun d => (mm d (evWipe ev vs)).bind fun ev' => (p ev').bind fun b => if b then (f ev').map some else some none) ds := by
  unfold kComp
  rw [h, Option.bind_some, if_pos hl]
def qC2 (f : EV → Option D) (e : EV) : Option Bool → Option (Option D)
  | some true => q1 some (f e)
  | some false => some none
  | none => none
def qC1 (p : EV → Option Bool) (f : EV → Option D) : Option EV → Option (Option D)
  | some e => qC2 f e (p e)
  | none => none
@[simp] theorem qC2_t {e : EV} : qC2 f e (some true) = q1 some (f e) := .trans rfl rfl
@[simp] theorem qC2_f {e : EV} : qC2 f e (some false) = some none := .trans rfl rfl
theorem qC2_b {e : EV} {b : Bool} : qC2 f e (some b) = if b then q1 some (f e) else some none := by cases b <;> rfl
@[simp] theorem qC1_s {e : EV} : qC1 p f (some e) = qC2 f e (p e) := .trans rfl rfl
theorem comp_map {α : Type} {enc : α → D} {r : α → D} {fi : EV → Option (List D)} {mm : D → EV → Option EV} {vs : List Nat} {xs : List α} (h : fi ev = some (xs.map enc)) (hl : xs.length ≤ 16777216)
    (hx : ∀ x ∈ xs, qC1 p f (mm (enc x) (evWipe ev vs)) = some (some (r x))) : kComp fi mm p f vs ev = some (xs.map r) := by
  rw [v_comp h (by rw [List.length_map]; exact hl)]
  refine compGo_map fun x hm => Eq.trans ?_ (hx x hm)
  rcases mm (enc x) (evWipe ev vs) with _ | e
  · rfl
  · show (p e).bind _ = qC2 f e (p e)
    rcases p e with _ | _ | _
    · rfl
    · rfl
    · show (f e).map some = q1 some (f e)
      cases f e <;> rfl
theorem comp_filter {α : Type} {enc : α → D} {r : α → D} {P : α → Bool} {fi : EV → Option (List D)} {mm : D → EV → Option EV} {vs : List Nat} {xs : List α} (h : fi ev = some (xs.map enc)) (hl : xs.length ≤ 16777216)
    (hx : ∀ x ∈ xs, qC1 p f (mm (enc x) (evWipe ev vs)) = some (if P x then some (r x) else none)) : kComp fi mm p f vs ev = some ((xs.filter P).map r) := by
  rw [v_comp h (by rw [List.length_map]; exact hl)]
  refine compGo_filter fun x hm => Eq.trans ?_ (hx x hm)
  rcases mm (enc x) (evWipe ev vs) with _ | e
  · rfl
  · show (p e).bind _ = qC2 f e (p e)
    rcases p e with _ | _ | _
    · rfl
    · rfl
    · show (f e).map some = q1 some (f e)
      cases f e <;> rfl
/-! loops -/
theorem for_nil {mm : D → EV → Option EV} : forGo mm u [] ev = some (.nx ev) := rfl
theorem for_cons {mm : D → EV → Option EV} {d : D} {ds : List D} : forGo mm u (d :: ds) ev = (mm d ev).bind fun e1 => (u e1).bind fun r => (match r with
    | .nx e => forGo mm u ds e
    | .ct e => forGo mm u ds e
    | .bk e => some (.nx e)
    | .rt d => some (.rt d)
    | .ex e x d => some (.ex e x d)) := rfl
/-- a for that goes on to its end: R by what has been taken -/
theorem for_run {α : Type} {enc : α → D} {mm : D → EV → Option EV} (R : List α → EV → Prop) : ∀ {xs pre : List α} {ev : EV}, R pre ev →
    (∀ (pre' : List α) (a : α) (post : List α) (ev' : EV), pre' ++ a :: post = pre ++ xs → R pre' ev' → ∃ e1 e2, mm (enc a) ev' = some e1 ∧ (u e1 = some (.nx e2) ∨ u e1 = some (.ct e2)) ∧ R (pre' ++ [a]) e2) →
    ∃ ev', forGo mm u (xs.map enc) ev = some (.nx ev') ∧ R (pre ++ xs) ev'
  | [], pre, ev, h0, _ => ⟨ev, rfl, by rw [List.append_nil]; exact h0⟩
  | x :: xs, pre, ev, h0, hs => by
    obtain ⟨e1, e2, h1, h2, h3⟩ := hs pre x xs ev rfl h0
    obtain ⟨ev', h4, h5⟩ := for_run R (xs := xs) (pre := pre ++ [x]) h3 fun pre' a post ev' e r => hs pre' a post ev' (by rw [e, List.append_assoc]; rfl) r
    refine ⟨ev', ?_, by rw [List.append_assoc] at h5; exact h5⟩
    rw [List.map_cons, for_cons, h1, Option.bind_some]
    rcases h2 with h2 | h2 <;> rw [h2, Option.bind_some] <;> exact h4
theorem for_run0 {α : Type} {enc : α → D} {mm : D → EV → Option EV} (R : List α → EV → Prop) {xs : List α} {ev : EV} (h0 : R [] ev)
    (hs : ∀ (pre : List α) (a : α) (post : List α) (ev' : EV), pre ++ a :: post = xs → R pre ev' → ∃ e1 e2, mm (enc a) ev' = some e1 ∧ (u e1 = some (.nx e2) ∨ u e1 = some (.ct e2)) ∧ R (pre ++ [a]) e2) :
    ∃ ev', forGo mm u (xs.map enc) ev = some (.nx ev') ∧ R xs ev' := for_run R h0 hs
/-- .. with more behind -/
theorem for_more {α : Type} {enc : α → D} {mm : D → EV → Option EV} (R : List α → EV → Prop) : ∀ {xs pre : List α} {ev : EV}, R pre ev →
    (∀ (pre' : List α) (a : α) (post : List α) (ev' : EV), pre' ++ a :: post = pre ++ xs → R pre' ev' → ∃ e1 e2, mm (enc a) ev' = some e1 ∧ (u e1 = some (.nx e2) ∨ u e1 = some (.ct e2)) ∧ R (pre' ++ [a]) e2) →
    ∃ ev', (∀ ys, forGo mm u (xs.map enc ++ ys) ev = forGo mm u ys ev') ∧ R (pre ++ xs) ev'
  | [], pre, ev, h0, _ => ⟨ev, fun _ => rfl, by rw [List.append_nil]; exact h0⟩
  | x :: xs, pre, ev, h0, hs => by
    obtain ⟨e1, e2, h1, h2, h3⟩ := hs pre x xs ev rfl h0
    obtain ⟨ev', h4, h5⟩ := for_more R (xs := xs) (pre := pre ++ [x]) h3 fun pre' a post ev' e r => hs pre' a post ev' (by rw [e, List.append_assoc]; rfl) r
    refine ⟨ev', fun ys => ?_, by rw [List.append_assoc] at h5; exact h5⟩
    rw [List.map_cons, List.cons_append, for_cons, h1, Option.bind_some]
    rcases h2 with h2 | h2 <;> rw [h2, Option.bind_some] <;> exact h4 ys
/-- a for that returns at an item -/
theorem for_ret {α : Type} {enc : α → D} {mm : D → EV → Option EV} (R : List α → EV → Prop) {xs post : List α} {a : α} {ev : EV} {d : D} (h0 : R [] ev)
    (hs : ∀ (pre' : List α) (b : α) (post' : List α) (ev' : EV), pre' ++ b :: post' = xs → R pre' ev' → ∃ e1 e2, mm (enc b) ev' = some e1 ∧ (u e1 = some (.nx e2) ∨ u e1 = some (.ct e2)) ∧ R (pre' ++ [b]) e2)
    (hr : ∀ ev', R xs ev' → ∃ e1, mm (enc a) ev' = some e1 ∧ u e1 = some (.rt d)) : forGo mm u ((xs ++ a :: post).map enc) ev = some (.rt d) := by
  obtain ⟨ev', h1, h2⟩ := for_more (enc := enc) (mm := mm) (u := u) R (xs := xs) (pre := []) h0 hs
  obtain ⟨e1, h3, h4⟩ := hr ev' h2
  rw [List.map_append, h1, List.map_cons, for_cons, h3, Option.bind_some, h4]
  rfl
/-- a while by a measure -/
theorem while_run {t : EV → Option Bool} (R : EV → Prop) (μ : EV → Nat) (hs : ∀ ev, R ev → (t ev = some false) ∨ (t ev = some true ∧ ∃ e, (u ev = some (.nx e) ∨ u ev = some (.ct e)) ∧ R e ∧ μ e < μ ev)) :
    ∀ {ev : EV}, R ev → ∃ e, sWhile t u ev = some (.nx e) ∧ R e ∧ t e = some false := by
  have go : ∀ (n : Nat) (ev : EV), R ev → μ ev < n → ∃ e, whileGo t u n ev = some (.nx e) ∧ R e ∧ t e = some false := by
    intro n
    induction n with
    | zero => exact fun ev _ h => absurd h (Nat.not_lt_zero _)
    | succ n ih =>
      intro ev h0 hn
      unfold whileGo
      rcases hs ev h0 with ht | ⟨ht, e, hu, hr, hm⟩
      · exact ⟨ev, by rw [ht]; rfl, h0, ht⟩
      · obtain ⟨e', h1, h2, h3⟩ := ih e hr (by omega)
        refine ⟨e', ?_, h2, h3⟩
        rw [ht, Option.bind_some, if_pos rfl]
        rcases hu with hu | hu <;> rw [hu, Option.bind_some] <;> exact h1
  intro ev h0
  obtain ⟨e, h1, h2, h3⟩ := go (μ ev + 1) ev h0 (Nat.lt_succ_self _)
  exact ⟨e, sWhile_of h1, h2, h3⟩
theorem run_fn {n m : Nat} {ds : List D} {d : D} (hn : ds.length = n) (h : u (evStart ds m) = some (.rt d)) : runFn n m u ds = some d := by
  unfold runFn
  rw [if_pos hn, h]
theorem run_fnN {n m : Nat} {ds : List D} {e : EV} (hn : ds.length = n) (h : u (evStart ds m) = some (.nx e)) : runFn n m u ds = some .non := by
  unfold runFn
  rw [if_pos hn, h]
@[simp] theorem v_start {ds : List D} {m : Nat} : evStart ds m = ds.map .fro ++ List.replicate m .un := .trans rfl rfl
end

/-! ### typed data -/
/-- none or an int -/
def encO : Option Int → D
  | none => .non
  | some i => .int i
@[simp] theorem encO_none : encO none = .non := .trans rfl rfl
@[simp] theorem encO_some {i : Int} : encO (some i) = .int i := .trans rfl rfl
theorem isNon_encO (o : Option Int) : (encO o).isNon = o.isNone := by cases o <;> rfl
structure EE {α : Type} [DecidableEq α] (n : Nat) (enc : α → D) : Prop where
  lay : ∀ a, (enc a).pd.canLay0 = true
  dep : ∀ a, (enc a).pd.depth ≤ n
  eqv : ∀ a b, PyData.eqv (enc a).pd (enc b).pd = decide (a = b)
theorem EE.shaped {α : Type} [DecidableEq α] {n : Nat} {enc : α → D} (e : EE n enc) (hn : n ≤ 64) (a : α) : SeqAt.shaped (enc a).pd = true := by
  unfold SeqAt.shaped
  rw [e.lay a, Bool.true_and]
  exact decide_eq_true (Nat.le_trans (e.dep a) hn)
theorem EE.eqD {α : Type} [DecidableEq α] {n : Nat} {enc : α → D} (e : EE n enc) (hn : n ≤ 64) (a b : α) : eqD (enc a) (enc b) = some (decide (a = b)) := by
  unfold Z.eqD
  rw [if_pos ⟨e.shaped hn a, e.shaped hn b⟩, e.eqv]
theorem EE.oEq {α : Type} [DecidableEq α] {n : Nat} {enc : α → D} (e : EE n enc) (hn : n ≤ 64) (a b : α) : oEq (enc a) (enc b) = some (.bl (decide (a = b))) := by
  unfold Z.oEq
  rw [e.eqD hn]
  rfl
theorem EE.oNe {α : Type} [DecidableEq α] {n : Nat} {enc : α → D} (e : EE n enc) (hn : n ≤ 64) (a b : α) : oNe (enc a) (enc b) = some (.bl (!decide (a = b))) := by
  unfold Z.oNe
  rw [e.eqD hn]
  rfl
theorem EE.int : EE 0 D.int := ⟨fun _ => rfl, fun _ => Nat.le_refl _, fun a b => by
  show (a == b) = decide (a = b)
  rw [Bool.beq_eq_decide_eq]⟩
theorem EE.bl : EE 0 D.bl := ⟨fun _ => rfl, fun _ => Nat.le_refl _, fun a b => by
  show (a == b) = decide (a = b)
  rw [Bool.beq_eq_decide_eq]⟩
theorem EE.opt : EE 0 encO := ⟨fun a => by cases a <;> rfl, fun a => by cases a <;> exact Nat.le_refl _, fun a b => by
  cases a <;> cases b
  · rfl
  · rfl
  · rfl
  · rename_i a b
    show (a == b) = decide (some a = some b)
    rw [Bool.beq_eq_decide_eq]
    simp⟩
theorem EE.list {α : Type} [DecidableEq α] {n : Nat} {enc : α → D} (e : EE n enc) : EE (n + 1) (fun xs : List α => D.lst (xs.map enc)) := by
  refine ⟨fun xs => ?_, fun xs => ?_, fun xs => ?_⟩
  · show PyData.canLayAll0 (D.pdL (xs.map enc)) = true
    induction xs with
    | nil => rfl
    | cons x xs ih =>
      show ((enc x).pd.canLay0 && PyData.canLayAll0 (D.pdL (xs.map enc))) = true
      rw [e.lay, ih]
      rfl
  · show PyData.depthAll (D.pdL (xs.map enc)) + 1 ≤ n + 1
    apply Nat.succ_le_succ
    induction xs with
    | nil => exact Nat.zero_le _
    | cons x xs ih =>
      show max (enc x).pd.depth (PyData.depthAll (D.pdL (xs.map enc))) ≤ n
      exact Nat.max_le.mpr ⟨e.dep x, ih⟩
  · induction xs with
    | nil =>
      intro ys
      cases ys with
      | nil => rfl
      | cons y ys => rfl
    | cons x xs ih =>
      intro ys
      cases ys with
      | nil => rfl
      | cons y ys =>
        show (PyData.eqv (enc x).pd (enc y).pd && PyData.eqvAll (D.pdL (xs.map enc)) (D.pdL (ys.map enc))) = _
        have ih' : PyData.eqvAll (D.pdL (xs.map enc)) (D.pdL (ys.map enc)) = decide (xs = ys) := ih ys
        rw [e.eqv, ih', ← Bool.decide_and]
        congr 1
        rw [List.cons.injEq]
theorem EE.tup2 {α β : Type} [DecidableEq α] [DecidableEq β] {n m : Nat} {enc : α → D} {enc' : β → D} (e : EE n enc) (e' : EE m enc') : EE (max n m + 1) (fun p : α × β => D.tup [enc p.1, enc' p.2]) := by
  refine ⟨fun p => ?_, fun p => ?_, fun p q => ?_⟩
  · show ((enc p.1).pd.canLay0 && ((enc' p.2).pd.canLay0 && true)) = true
    rw [e.lay, e'.lay]
    rfl
  · show max (enc p.1).pd.depth (max (enc' p.2).pd.depth 0) + 1 ≤ max n m + 1
    have h1 := e.dep p.1
    have h2 := e'.dep p.2
    omega
  · show (PyData.eqv (enc p.1).pd (enc q.1).pd && (PyData.eqv (enc' p.2).pd (enc' q.2).pd && true)) = _
    rw [e.eqv, e'.eqv, Bool.and_true, ← Bool.decide_and]
    congr 1
    rw [Prod.ext_iff]
theorem pdL_map {α : Type} {enc : α → D} : ∀ xs : List α, D.pdL (xs.map enc) = xs.map fun x => (enc x).pd
  | [] => rfl
  | x :: xs => by
    show (enc x).pd :: D.pdL (xs.map enc) = _
    rw [pdL_map xs]
    rfl
theorem EE.index {α : Type} [DecidableEq α] {n : Nat} {enc : α → D} (e : EE n enc) (hn : n ≤ 63) (xs : List α) (y : α) : oIndex (.lst (xs.map enc)) (enc y) = (xs.findIdx? fun x => decide (x = y)).map fun j => D.int (j : Nat) := by
  have h1 := e.list.shaped (by omega) xs
  have h2 := e.shaped (by omega) y
  have h1' : SeqAt.shaped (.list (D.pdL (xs.map enc))) = true := h1
  unfold oIndex
  simp only
  rw [if_pos ⟨h1', h2⟩, pdL_map, List.findIdx?_map]
  congr 2
  funext x
  exact e.eqv x y
theorem EE.mem {α : Type} [DecidableEq α] {n : Nat} {enc : α → D} (e : EE n enc) (hn : n ≤ 63) (xs : List α) (y : α) : memD (enc y) (xs.map enc) = some (decide (y ∈ xs)) := by
  have h1 := e.list.shaped (by omega) xs
  have h2 := e.shaped (by omega) y
  have h1' : SeqAt.shaped (.list (D.pdL (xs.map enc))) = true := h1
  unfold memD
  rw [if_pos ⟨h2, h1'⟩, pdL_map]
  congr 1
  rw [List.any_map, Bool.eq_iff_iff, List.any_eq_true, decide_eq_true_iff]
  constructor
  · rintro ⟨x, hx, h⟩
    have h' : PyData.eqv (enc x).pd (enc y).pd = true := h
    rw [e.eqv] at h'
    rw [← of_decide_eq_true h']
    exact hx
  · intro h
    refine ⟨y, h, ?_⟩
    show PyData.eqv (enc y).pd (enc y).pd = true
    rw [e.eqv]
    exact decide_eq_true rfl
@[simp] theorem oEq_int {a b : Int} : oEq (.int a) (.int b) = some (.bl (decide (a = b))) := EE.int.oEq (by decide) a b
@[simp] theorem oNe_int {a b : Int} : oNe (.int a) (.int b) = some (.bl (!decide (a = b))) := EE.int.oNe (by decide) a b
@[simp] theorem oEq_bl {a b : Bool} : oEq (.bl a) (.bl b) = some (.bl (decide (a = b))) := EE.bl.oEq (by decide) a b
@[simp] theorem oNe_bl {a b : Bool} : oNe (.bl a) (.bl b) = some (.bl (!decide (a = b))) := EE.bl.oNe (by decide) a b
@[simp] theorem oEq_opt {a b : Option Int} : oEq (encO a) (encO b) = some (.bl (decide (a = b))) := EE.opt.oEq (by decide) a b
@[simp] theorem oNe_opt {a b : Option Int} : oNe (encO a) (encO b) = some (.bl (!decide (a = b))) := EE.opt.oNe (by decide) a b
end Z


set_option maxRecDepth 100000
set_option maxHeartbeats 4000000
/-! X1: an exception whose __init__ (of a base class of its own) says super().__init__(at), then self.at = at. -/
namespace Z
open PySem PySem.Spec PyProof.Rows L2

/-- what is asked of the class C of the new exception; D: the class that bears __init__ -/
structure AtC (K : PySem.W.Frag) (D C : Addr) : Prop where
  ox : OexC K C
  noat : PySem.W.findIn K (.ref C) "at" = some none
  up : PySem.W.ks_superIn K C D "__init__" = some (some (.builtin "ValueError.__init__"))
  ve : PySem.W.subIn K (.ref C) (.type "ValueError") = some true
  un : PySem.W.mroIn K C (.ref D) = some true
/-- the promise of __init__ -/
def spAt (K : PySem.W.Frag) (D : Addr) : Sp := fun vs H Q _ => ∃ (a C : Addr) (y : V), vs = [.ref a, y] ∧ AtC K D C ∧ H a = some (exo a C none) ∧
  ∀ dx, H dx = none → dx ≠ a → Q .non (upd (upd H dx (exd dx [("at", y)])) a (exo a C (some dx)))

section
variable {P : Program} {w : World} {K : PySem.W.Frag} {mg : Str → Option Value} {base : Heap} {A : Around} {E : Value → Shared → Prop}
/-- the bound wrapper called -/
theorem call_wrap {h : Heap} {g : Array GenState} {d : Drawn} {t : Nat} {os : OsState} {u e C t0 : Addr} {vals : List Value} {Q : Value → Shared → Prop}
    {nm q : Str} {N : Addr} {bs bm : List Value} {hdct : Bool} {sn : List Str} {sub : List Value} {ab : Bool} {col : Option Bool} {dd : Option Addr} {k0 k1 k2 k3 k5 : Option Value}
    (cC : h.get? C = some (excClassObj nm q C N bs bm hdct sn sub ab col dd k0 k1 k2 k3 k5 "ValueError.__new__")) (ce : h.get? e = some (PySem.W.excObj C t0 none .none)) (cu : h.get? u = some (PySem.W.kxs_mw "ValueError.__init__" e)) (hv : vals.length ≤ sizeLine)
    (k : ∀ h' t1, (∀ b o, b ≠ e → h.get? b = some o → h'.get? b = some o) → h'.get? e = some (PySem.W.excObj C t1 none .none) → Q .none ⟨h', g, d, t, os⟩) :
    wpAny (model P w) A (call (.ref u) vals) Q E ⟨h, g, d, t, os⟩ := by
  refine wpAny_call (codeAny_of_tree ?_)
  show wpAny _ A.in1 (callAny (.ref u) ⟨vals, []⟩) _ _ _
  simp only [callAny]
  refine wpAny_bind (wpAny_load cu ?_)
  have yes : (Value.type "method-wrapper" == Value.type "method" || Value.type "method-wrapper" == Value.type "builtin_function_or_method" || Value.type "method-wrapper" == Value.type "method-wrapper") = true := by decide
  simp only [PySem.W.kxs_mw, yes, if_true]
  refine PySem.W.KFB.if_so (by decide) ?_
  refine wpAny_bind (PySem.W.check_bound_init F.excBase_ValueError.toExcCallFacts cC ce rfl ?_)
  refine wpAny_bind (wpAny_pure (wpAny_pure ?_))
  refine ⟨plainId_quiet F.excBase_ValueError.init.plain _, codeAny_builtin F.excBase_ValueError.initEntry ?_⟩
  exact PySem.W.exc_init_tree (cls := .ref C) (t0 := t0) (dv := none) (c2 := .none) (c3 := .none) (b4 := .bool false) ce hv fun h' k1 k2 k3 => k h' _ k1 k2
/-- the call of the wrapper in the text -/
theorem with_wrap {s : Shared} {pos : Pos} {u e : Addr} {i : String} {env : Env} {x : Expr} {Q : Value → Shared → Prop}
    (h : wpAny (model P w) A (spliced (backTo pos (starEach [x] env))) (fun vs s1 => PySem.W.KxsAt i u e s1.heap ∧ wpAny (model P w) A (call (.ref u) vs) Q E s1) E s)
    (he : starEach [x] env = (false, eval x env) :: starEach [] env := by rfl) : wpAny (model P w) A (callWith pos (.ref u) [] (backTo pos (starEach [x] env)) []) Q E s := by
  rw [he] at h ⊢
  exact PySem.W.kxs_callWith (i := i) (x := e) rfl (PySem.Calls.evalArgs_plain h)
end

/-- the text of __init__ -/
structure InitSt (st : Stmt) : Prop where
  body : ∃ p0 p1 p2 p3 p4 p5 p6 p7 p8 p9 : Pos, defBody st = [.Expr (.Call (.Attribute (.Call (.Name "super" p0) [] [] p1) "__init__" p2) [.Name "at" p3] [] p4) p5, .Assign [.Attribute (.Name "self" p6) "at" p7] (.Name "at" p8) p9] ∧
    ∀ env : Env, ∃ pl : Sem Bool, eval (.Call (.Attribute (.Call (.Name "super" p0) [] [] p1) "__init__" p2) [.Name "at" p3] [] p4) env = (do
      let ov ← attributeBase (.Call (.Name "super" p0) [] [] p1) "__init__" env (eval (.Call (.Name "super" p0) [] [] p1) env)
      standAt p2.atName
      let (f, first) ← holding [ov] (getMethod ov "__init__" pl)
      callWith p4 f first (backTo p4 (starEach [.Name "at" p3] env)) [])
  ar : ∃ ar : Arg, ((defArgs st).posonlyargs ++ (defArgs st).args).head? = some ar ∧ ar.arg = "self"
  sc : NdefX.NScope ["self", "at", "__class__"] ["self", "at"] ["__class__"] (defScope st)
  gs : (defScope st).names.lookup ("super" : Str) = some .globalImplicit
  fr : (defScope st).names.lookup ("__class__" : Str) = some .free
  lo : (defScope st).names.lookup ("self" : Str) = some .local
/-- where it stands -/
structure InitAt (P : Program) (K : PySem.W.Frag) (D fI : Addr) (fd : FuncData) (st : Stmt) : Prop where
  ex : ∃ (cc cda : Addr) (qual file : Str) (dV kV doc pm ct oc ccl cl : Value) (an od cdd cld : Option Addr) (osl ccs csl : Array (Option Value)) (vs : Array Value) (tf : Tok) (cdD : ClassData),
    fd = PySem.W.ksFn "__init__" qual (defArgs st) (defBody st) (defScope st) dV kV doc pm an (.ref cda) ct cc ∧ K.lookup fI = some ⟨oc, od, .func fd, osl⟩ ∧ PySem.W.codeIn K (.ref cda) qual = true ∧
    K.lookup cda = some ⟨ccl, cdd, .fields vs, ccs⟩ ∧ vs[2]? = some (.str file tf) ∧ ((P.main.file : Str) == file) = true ∧ K.lookup cc = some ⟨cl, cld, .cell (some (.ref D)), csl⟩ ∧ PySem.W.clsIn K D = some cdD
  sup : PySem.W.nsIn K mainGlobals "super" = some none
  op : PySem.W.nsIn K cStatics "thirdparty.any" = some none
  top : (P.main.scope.names.lookup ("super" : Str)).isSome = false
/-- super().__init__(at) -/
theorem sup_stmt {X : Cx} {σ : L2.St} {H : Hp} {s : Shared} {D C a f cc cda : Addr} {y : V} {fd : FuncData} {ar : Arg} {file : Str} {tf : Tok} {oc ccl cl : Value} {od cdd cld : Option Addr} {osl ccs csl : Array (Option Value)} {vs : Array Value} {cdD : ClassData} {body : List Stmt}
    {p0 p1 p2 p3 p4 p5 : Pos} (I : Inv X [] σ H s) (hgs : X.env.kindOf "super" = some .globalImplicit) (hfr : X.env.kindOf "__class__" = some .free) (hlo : X.env.kindOf "self" = some .local)
    (hfu : X.env.func = some f) (hf : X.K.lookup f = some ⟨oc, od, .func fd, osl⟩) (har : (fd.params.posonlyargs ++ fd.params.args).head? = some ar) (hself : ar.arg = "self") (hco : X.env.code = .ref cda)
    (hcode : X.K.lookup cda = some ⟨ccl, cdd, .fields vs, ccs⟩) (hvs : vs[2]? = some (.str file tf)) (hfile : ((X.prog.main.file : Str) == file) = true) (hcell : X.K.lookup cc = some ⟨cl, cld, .cell (some (.ref D)), csl⟩) (hcl : X.env.cells.lookup ("__class__" : Str) = some cc)
    (hD : PySem.W.clsIn X.K D = some cdD) (hsup : PySem.W.nsIn X.K mainGlobals "super" = some none) (hop : PySem.W.nsIn X.K cStatics "thirdparty.any" = some none) (htop : (X.prog.main.scope.names.lookup ("super" : Str)).isSome = false)
    (n0 : X.N[0]? = some ("self" : Str)) (n1 : X.N[1]? = some ("at" : Str)) (v0 : σ[0]? = some (some (.ref a))) (v1 : σ[1]? = some (some y)) (hat : Vis X.env.scope "at") (TC : AtC X.K D C) (ea : H a = some (exo a C none)) (hint : interactive X.env = false)
    (hswap : swapsWith (.Call (.Attribute (.Call (.Name "super" p0) [] [] p1) "__init__" p2) [.Name "at" p3] [] p4) none p5.line X.env = pure false) {pl : Sem Bool}
    (hev : eval (.Call (.Attribute (.Call (.Name "super" p0) [] [] p1) "__init__" p2) [.Name "at" p3] [] p4) X.env = (do
      let ov ← attributeBase (.Call (.Name "super" p0) [] [] p1) "__init__" X.env (eval (.Call (.Name "super" p0) [] [] p1) X.env)
      standAt p2.atName
      let (f, first) ← holding [ov] (getMethod ov "__init__" pl)
      callWith p4 f first (backTo p4 (starEach [.Name "at" p3] X.env)) []))
    (hst : starEach [.Name "at" p3] X.env = (false, eval (.Name "at" p3) X.env) :: starEach [] X.env) :
    _root_.PySem.wpAt (model X.prog X.w) X.A (.func body X.env) (exec (.Expr (.Call (.Attribute (.Call (.Name "super" p0) [] [] p1) "__init__" p2) [.Name "at" p3] [] p4) p5) X.env) (fun fl s' => fl = .next ∧ Inv X [] σ H s') X.xe s := by
  have KX := I.kIn
  have hk := I.ok.kind
  obtain ⟨m, hn, hlk⟩ := I.loc
  obtain ⟨mb, hmb, hbb⟩ := I.ok.mod.blt
  have hms : m "self" = some (.ref a) := by
    obtain ⟨u, ru, hu⟩ := hlk 0 _ _ n0 v0 (.inl hlo)
    obtain rfl : u = Value.ref a := ru
    rcases hu with ⟨_, hu⟩ | ⟨hu | hu, _⟩
    · exact hu
    · rw [hlo] at hu
      cases hu
    · rw [hlo] at hu
      cases hu
  have bD : ∃ oD, s.heap.get? D = some oD ∧ oD.data = .cls cdD := by
    unfold PySem.W.clsIn at hD
    split at hD
    · rename_i c d cd' sl ho
      cases hD
      exact ⟨_, KX _ _ ho, rfl⟩
    · cases hD
  obtain ⟨oD, hD1, hD2⟩ := bD
  obtain ⟨nm, q, N, bs, bm, sn, sub, ab, col, dd, k0, k1, k2, k3, k5, hC, hbm⟩ := TC.ox.cls
  have hcC : PySem.W.clsIn X.K C = some { name := nm, bases := bs, mro := .ref C :: bm, ns := N, qualname := q, hasDict := true, slotNames := sn, subclasses := sub, abstract := ab, collection := col, hasDel := false } := by
    unfold PySem.W.clsIn
    rw [hC] <;> rfl
  obtain ⟨t1, ho⟩ := exo_at I.hok ea
  have hxC : a ≠ C := by
    rintro rfl
    rw [KX _ _ hC] at ho
    cases ho
  have hup := TC.up
  unfold PySem.W.ks_superIn at hup
  rw [hcC] at hup
  refine ks_wpAt_Expr_any (ks_wpAt_MethodCall (pl := pl) (ks_wpAt_super_base (env := X.env) hgs hfr rfl hfu (KX _ _ hf) rfl har hco (KX _ _ hcode) rfl hvs hfile htop ?_) hev) hint hswap
  refine PySem.W.ks_loadName_global hk hgs (PySem.Calls.loadGlobal_builtin (mg := X.mg) (mb := mb) (by rw [I.ok.glob]; exact I.ok.mod.glob.keeps I.bk) (PySem.W.mg_none_of I.ok.mod.kin I.ok.mod.glob hsup) (by rw [I.ok.blt]; exact hmb.keeps I.bk)
    ((hbb _ (by decide +kernel)).trans (show bootBuiltins "super" = some (.type "super") by first | rfl | kernel_rfl)) ⟨rfl, ?_⟩)
  refine wpAny_loadName_free hk hfr hcl ⟨_, KX _ _ hcell, rfl⟩ ?_
  rw [hself]
  refine wpAny_loadName_local hk hlo hn hms ?_
  obtain ⟨hp, g, dr, tk, os⟩ := s
  refine ks_wpAny_isType_cls hD1 hD2 ⟨rfl, ?_⟩
  refine ks_wpAny_call_super hD1 hD2 ho rfl (fun c e => nomatch e) (PySem.W.looks_mroIn KX TC.un) (fun h' e k => ?_)
  have I1 : Inv X [] σ H ⟨h', g, dr, tk, os⟩ := I.kept (t' := tk) k
  have KX1 := I1.kIn
  have J : PySem.W.InstAt h' a _ C none := ⟨k _ _ ho, rfl, rfl, trivial⟩
  refine PySem.W.kxs_getMethod PySem.W.kxs_ValueError (C := C) (D := D) (x := a) e (PySem.W.looks_opaque KX1 hop) (l₀ := .ref C :: bm) (fun A' Q' E' s' k' q' => wpAny_bind ((PySem.W.looks_clsIn KX1 hcC) A' _ E' s' k' (wpAny_pure q'))) rfl KX1 hup
    (J.type.andThen (PySem.W.looks_subIn KX1 TC.ve)) hxC (by decide) ?_
  have I2 : Inv X [] σ H ⟨h'.push (PySem.W.kxs_mw "ValueError.__init__" a), g, dr, tk + 1, os⟩ := I1.kept (t' := tk + 1) fun b o e => Heap.get?_push_of_some _ e
  have hsz : h'.objs.size < (h'.push (PySem.W.kxs_mw "ValueError.__init__" a)).objs.size := by rw [Heap.size_push]; exact Nat.lt_succ_self _
  have hu0 : (h'.push (PySem.W.kxs_mw "ValueError.__init__" a)).get? h'.objs.size = some (PySem.W.kxs_mw "ValueError.__init__" a) := Heap.get?_push_size _ rfl
  have I3 : Inv X [(h'.objs.size, PySem.W.kxs_mw "ValueError.__init__" a)] σ H ⟨h'.push (PySem.W.kxs_mw "ValueError.__init__" a), g, dr, tk + 1, os⟩ := I2.pins_of fun p hp => by
    rw [List.mem_singleton.mp hp]
    exact ⟨hu0, I1.hok.fresh (Nat.le_refl _), Nat.ne_of_gt I1.lt, I1.nofs (Nat.le_refl _), fun v z => nomatch z⟩
  refine with_wrap (i := "ValueError.__init__") (e := a) (thn ((pa_cons (pe_var n1 hat) pa_nil hst).run p4 _ _ σ H (fun ws H' => ws = [y] ∧ H' = H) I3 ⟨y, v1, rfl, rfl⟩) fun us s3 ⟨ws, H3, I4, r4, ew, eH⟩ => ?_)
  subst ew
  subst eH
  have hu3 := (I4.pin (h'.objs.size, PySem.W.kxs_mw "ValueError.__init__" a) (List.mem_append_right _ (List.mem_singleton.mpr rfl))).1
  refine ⟨hu3, ?_⟩
  obtain ⟨t2, ho3⟩ := exo_at I4.hok ea
  have I5 : Inv X [] σ H3 s3 := I4.pins_of fun p hp => nomatch hp
  obtain ⟨hp3, g3, dr3, tk3, os3⟩ := s3
  have hlen : us.length ≤ sizeLine := by
    have := Paired.length r4
    rw [List.length_singleton] at this
    rw [← this, sizeLine_eq]
    omega
  refine call_wrap (I5.kIn _ _ hC) ho3 hu3 hlen fun h6 t6 k6 e6 => ⟨rfl, ?_⟩
  have J6 := I5.write (t' := tk3) (x := a) (e := a) (o := exo a C none) (by rw [ea]; exact True.intro) (.inl rfl) k6 ⟨_, e6⟩ (exo_ok e6)
  have same : upd H3 a (exo a C none) = H3 := by
    funext b
    by_cases hb : b = a
    · rw [hb, upd_same, ea]
    · rw [upd_ne hb]
  rw [same] at J6
  exact J6
theorem init_ok {P : Program} {w : World} {K : PySem.W.Frag} {mg : Str → Option Value} {base : Heap} {D fI : Addr} {fd : FuncData} {st : Stmt} (T : InitSt st) (Z : InitAt P K D fI fd st) : FnOk P w K mg base CX0 1 fI fd ["self", "at"] (spAt K D) := by
  constructor
  · intro vs H Q E h
    obtain ⟨a, C, y, rfl, _⟩ := h
    rfl
  intro A outer s H args us vs Q E hr e0 hbi rv hsp
  obtain ⟨a, C, y, rfl, TC, ea, q⟩ := hsp
  obtain ⟨⟨cc, cda, qual, file, dV, kV, doc, pm, ct, oc, ccl, cl, an, od, cdd, cld, osl, ccs, csl, vs0, tf, cdD, rfl, lk, hcd, hcode, hvs, hfile, hcell, hD⟩, hsup, hop, htop⟩ := Z
  obtain ⟨⟨p0, p1, p2, p3, p4, p5, p6, p7, p8, p9, hbody, hev⟩, ⟨ar, har, hself⟩, S, hgs, hfr, hlo⟩ := T
  have kp : ∀ b o, base.get? b = some o → s.heap.get? b = some o := fun b o e => (e0.bs b o e).1
  have KX := e0.mod.kin.keeps kp
  have hbase : base.get? cc = some ⟨cl, cld, .cell (some (.ref D)), csl⟩ := e0.mod.kin _ _ hcell
  have nocell : ∀ x ∈ (defScope st).names, x.2 ≠ .cell := S.nocell
  have hloc : ∀ x ∈ List.zip (["self", "at"] : List Str) us, List.lookup (α := Str) x.1 (defScope st).names = some .local := by
    rintro ⟨z, v⟩ hz
    exact S.par z (List.of_mem_zip hz).1
  refine ks_codeAny_call_defAt (fd := PySem.W.ksFn "__init__" qual (defArgs st) (defBody st) (defScope st) dV kV doc pm an (.ref cda) ct cc) (body := defBody st) (binds := List.zip (["self", "at"] : List Str) us) hr.depth (KX _ _ lk) rfl
    (e0.mod.nolimit.keeps kp) (PySem.W.codeRec_of KX hcd) rfl hbi nocell hloc (fun h0 hns hk => ?_) S.co S.gen S.kind
  have CA : NdefX.CellsAt [("__class__", cc)] ["__class__"] [none] s.heap H := by
    have look : ∀ y c, List.lookup y [(("__class__" : Str), cc)] = some c → y = "__class__" ∧ c = cc := by
      intro y c h
      simp only [List.lookup] at h
      split at h
      · rename_i e
        cases h
        exact ⟨by simpa using e, rfl⟩
      · cases h
    refine ⟨rfl, fun y c h => ?_, fun y z c h1 h2 => (look y c h1).1.trans (look z c h2).1.symm, fun i y hi => ?_⟩
    · obtain ⟨_, rfl⟩ := look y c h
      exact ⟨(e0.bs _ _ hbase).2, _, _, kp _ _ hbase, rfl⟩
    · match i, hi with
      | 0, hi =>
        cases hi
        exact ⟨cc, rfl, fun v h => nomatch h⟩
      | i + 1, hi => simp at hi
  have I := NdefX.inv_startN (CX := CX0) (F := ⟨"__init__", qual, defArgs st, defBody st, defScope st, [("__class__", cc)], cda⟩) (f := fI) (E := E) (tk := s.toks + (List.zip (["self", "at"] : List Str) us).length) S hr.hd e0 rfl rv CA hns hk
  have hb2 : PSs (NdefX.ncx CX0 P w K mg base ["self", "at", "__class__"] ⟨"__init__", qual, defArgs st, defBody st, defScope st, [("__class__", cc)], cda⟩ fI A outer s H E) [.Assign [.Attribute (.Name "self" p6) "at" p7] (.Name "at" p8) p9]
      (tOst K "at" (tVar 0) (tVar 1)) := pss_one (ps_ost (pe_var (X := NdefX.ncx CX0 P w K mg base ["self", "at", "__class__"] ⟨"__init__", qual, defArgs st, defBody st, defScope st, [("__class__", cc)], cda⟩ fI A outer s H E) (i := 0) rfl (.inl hlo)) (pe_var (i := 1) rfl (.inl (S.par "at" (by decide)))))
  generalize hX : NdefX.ncx CX0 P w K mg base ["self", "at", "__class__"] ⟨"__init__", qual, defArgs st, defBody st, defScope st, [("__class__", cc)], cda⟩ fI A outer s H E = X at I hb2
  rw [hbody]
  refine ks_wpAt_execs_cons (ks_wpAt_mono (Q := fun fl s1 => fl = .next ∧ Inv X [] (NdefX.startF ["self", "at", "__class__"] [.ref a, y] [none]) H s1) (E := X.xe) ?_ (fun fl s' h => ?_) fun e s' h => ?_)
  · subst hX
    obtain ⟨pl, hpl⟩ := hev (NdefX.envF ⟨"__init__", qual, defArgs st, defBody st, defScope st, [("__class__", cc)], cda⟩ fI s.heap.objs.size)
    exact sup_stmt I hgs hfr hlo rfl lk har hself rfl hcode hvs hfile hcell rfl hD hsup hop htop rfl rfl rfl rfl (.inl (S.par "at" (by decide))) TC ea (by unfold interactive; rw [show (NdefX.ncx CX0 P w K mg base ["self", "at", "__class__"] ⟨"__init__", qual, defArgs st, defBody st, defScope st, [("__class__", cc)], cda⟩ fI A outer s H E).env.scope.kind = .function from S.kind]; rfl) rfl hpl rfl
  · obtain ⟨rfl, J⟩ := h
    refine wpAt_of_wpAny ?_
    subst hX
    refine wpAny_mono (hb2.run [] s' _ H { nx := fun _ H' => Q .non H', rt := Q } J ?_) ?_ fun _ _ z => z
    · refine ⟨y, rfl, .ref a, rfl, a, C, rfl, TC.ox, TC.noat, .inl ⟨ea, fun dx hdx hne => q dx hdx hne⟩⟩
    · intro fl s2 hs
      cases fl with
      | brk => obtain ⟨_, _, _, z⟩ := hs; exact z.elim
      | cont => obtain ⟨_, _, _, z⟩ := hs; exact z.elim
      | ret u =>
        obtain ⟨v, _, H', J2, rv', z⟩ := hs
        exact ⟨v, H', J2.os, J2.bare, J2.base, J2.hok, rv', z⟩
      | next =>
        obtain ⟨_, H', J2, z⟩ := hs
        exact ⟨V.non, H', J2.os, J2.bare, J2.base, J2.hok, rfl, z⟩
  · subst hX
    exact h
end Z


set_option maxRecDepth 100000
set_option maxHeartbeats 4000000
/-! X2: a list comprehension over a list while an exception is handled (an except suite). -/
namespace Z
open PySem PySem.Spec PyProof.Rows L2
section
variable {prog : Program} {w : World} {A : Around} {E : Value → Shared → Prop} {s : Shared}
/-- the end of a list's iterator, an exception being handled -/
theorem list_stop_hot {it l x1 : Addr} {i : Nat} {items : Array Value} {Q : Option Value → Shared → Prop} (hot : HotX.HotAt A x1 s.heap) (hit : s.heap.IsListIter it l i) (hl : s.heap.IsList l items) (hx : items[i]? = none) (hne : x1 ≠ it)
    (k : ∀ h', (∀ b o, b ≠ it → s.heap.get? b = some o → h'.get? b = some o) → Q none { s with heap := h' }) : wpAny (model prog w) A (pyNext (.ref it)) Q E s := by
  obtain ⟨o, ho, hc, hd⟩ := id hit
  obtain ⟨ol, hol, _, nl, hdl⟩ := hl
  obtain ⟨hh, o1, vs1, h1, d1, c1⟩ := hot
  unfold pyNext
  refine wpAny_bind (wpAny_attempt (wpAny_callSpecial?_slot (name := Str.ofString "__next__") hit.typeIs slot_listiter_next (wpAny_call_entry slot_listiter_next hit.typeIs entry_listiter_next ?_ (args_listiter_next _))))
  show wpAny _ _ (field (.ref it) 0 >>= _) _ _ s
  refine wpAny_bind (wpAny_field ho hd (x := .ref l) rfl ?_)
  have no : ¬ ((Value.ref l == Value.none) = true) := Bool.false_ne_true
  show wpAny _ _ (if (Value.ref l == Value.none) = true then _ else _) _ _ s
  rw [if_neg no]
  show wpAny _ _ (field (.ref it) 1 >>= _) _ _ s
  refine wpAny_bind (wpAny_field ho hd (x := .int i 0) rfl ?_)
  show wpAny _ _ (seqItems? (.ref l) >>= _) _ _ s
  refine wpAny_bind (wpAny_seqItems hol hdl ?_)
  simp only [Int.toNat_natCast, hx]
  refine wpAny_bind (wpAny_rule (wpAny_bind (wpAny_setField ho hd (by simp) ?_)))
  show wpAny _ _ (newExc (.type "StopIteration") [] >>= _) _ _ _
  refine wpAny_bind ?_
  simp only [newExc, newTuple]
  refine wpAny_bind (wpAny_newObj_type ?_ (by size_fits))
  refine wpAny_bind (m := firstArgMember _ _) (wpAny_of_eq (a := Value.none) (by first | rfl | (simp only [firstArgMember]; rfl)) ?_)
  refine wpAny_newObj_type ?_ (by size_fits)
  generalize hu : s.heap.update it (Obj.mapFields (·.setIfInBounds 0 Value.none)) = hq
  have keep : ∀ b o', b ≠ it → s.heap.get? b = some o' → hq.get? b = some o' := fun b o' hb e => by
    rw [← hu, Heap.get?_update_other _ _ (Ne.symm hb)]
    exact e
  have g1 := keep _ _ hne h1
  have g2 := Heap.get?_push_of_some { cls := .type "tuple", data := .seq ([] : List Value).toArray } g1
  refine HotX.raiseNew_hot ⟨hh, o1, vs1, Heap.get?_push_of_some _ g2, d1, c1⟩ (Nat.ne_of_lt (Heap.lt_size g2)) (Heap.get?_push_size _ rfl) rfl (by first | (simp; done) | (simp; omega) | (simp only [Array.size_append]; simp; omega)) ?_
  refine wpAny_bind (wpAny_isInstance (T := "StopIteration") (b := true) ⟨_, Heap.get?_update_self _ (Heap.get?_push_size _ rfl) rfl, rfl⟩ isSubtype_stop ?_)
  refine wpAny_pure (k _ fun b o' hb e => ?_)
  have g3 := Heap.get?_push_of_some { cls := .type "tuple", data := .seq ([] : List Value).toArray } (keep b o' hb e)
  rw [Heap.get?_update_other _ _ (Nat.ne_of_gt (Heap.lt_size g3))]
  exact Heap.get?_push_of_some _ g3
/-- the end of a tuple's iterator, an exception being handled -/
theorem tup_stop_hot {it l x1 : Addr} {i : Nat} {items : Array Value} {Q : Option Value → Shared → Prop} (hot : HotX.HotAt A x1 s.heap) (hit : IsTupIter s.heap it l i) (hl : IsTup s.heap l items) (hx : items[i]? = none) (hne : x1 ≠ it)
    (k : ∀ h', (∀ b o, b ≠ it → s.heap.get? b = some o → h'.get? b = some o) → Q none { s with heap := h' }) : wpAny (model prog w) A (pyNext (.ref it)) Q E s := by
  obtain ⟨o, ho, hc, hd⟩ := id hit
  obtain ⟨ol, hol, _, nl, hdl⟩ := hl
  obtain ⟨hh, o1, vs1, h1, d1, c1⟩ := hot
  unfold pyNext
  refine wpAny_bind (wpAny_attempt (wpAny_callSpecial?_slot (name := Str.ofString "__next__") hit.typeIs slot_tupleiter_next (wpAny_call_entry slot_tupleiter_next hit.typeIs entry_tupleiter_next ?_ (args_tupleiter_next _))))
  show wpAny _ _ (field (.ref it) 0 >>= _) _ _ s
  refine wpAny_bind (wpAny_field ho hd (x := .ref l) rfl ?_)
  have no : ¬ ((Value.ref l == Value.none) = true) := Bool.false_ne_true
  show wpAny _ _ (if (Value.ref l == Value.none) = true then _ else _) _ _ s
  rw [if_neg no]
  show wpAny _ _ (field (.ref it) 1 >>= _) _ _ s
  refine wpAny_bind (wpAny_field ho hd (x := .int i 0) rfl ?_)
  show wpAny _ _ (seqItems? (.ref l) >>= _) _ _ s
  refine wpAny_bind (wpAny_seqItems hol hdl ?_)
  simp only [Int.toNat_natCast, hx]
  refine wpAny_bind (wpAny_rule (wpAny_bind (wpAny_setField ho hd (by simp) ?_)))
  show wpAny _ _ (newExc (.type "StopIteration") [] >>= _) _ _ _
  refine wpAny_bind ?_
  simp only [newExc, newTuple]
  refine wpAny_bind (wpAny_newObj_type ?_ (by size_fits))
  refine wpAny_bind (m := firstArgMember _ _) (wpAny_of_eq (a := Value.none) (by first | rfl | (simp only [firstArgMember]; rfl)) ?_)
  refine wpAny_newObj_type ?_ (by size_fits)
  generalize hu : s.heap.update it (Obj.mapFields (·.setIfInBounds 0 Value.none)) = hq
  have keep : ∀ b o', b ≠ it → s.heap.get? b = some o' → hq.get? b = some o' := fun b o' hb e => by
    rw [← hu, Heap.get?_update_other _ _ (Ne.symm hb)]
    exact e
  have g1 := keep _ _ hne h1
  have g2 := Heap.get?_push_of_some { cls := .type "tuple", data := .seq ([] : List Value).toArray } g1
  refine HotX.raiseNew_hot ⟨hh, o1, vs1, Heap.get?_push_of_some _ g2, d1, c1⟩ (Nat.ne_of_lt (Heap.lt_size g2)) (Heap.get?_push_size _ rfl) rfl (by first | (simp; done) | (simp; omega) | (simp only [Array.size_append]; simp; omega)) ?_
  refine wpAny_bind (wpAny_isInstance (T := "StopIteration") (b := true) ⟨_, Heap.get?_update_self _ (Heap.get?_push_size _ rfl) rfl, rfl⟩ isSubtype_stop ?_)
  refine wpAny_pure (k _ fun b o' hb e => ?_)
  have g3 := Heap.get?_push_of_some { cls := .type "tuple", data := .seq ([] : List Value).toArray } (keep b o' hb e)
  rw [Heap.get?_update_other _ _ (Nat.ne_of_gt (Heap.lt_size g3))]
  exact Heap.get?_push_of_some _ g3
theorem assign_tup_hot {env : Env} {elts : List Expr} {x1 : Nat} {pos : Pos} {t a : Addr} {items : Array Value} {Q : Unit → Shared → Prop} (hot : HotX.HotAt A a s.heap) (ht : IsTup s.heap t items)
    (hn : (assignEach elts env).length = items.size) (hstar : (assignEach elts env).findIdx? (·.1) = none)
    (h : ∀ h', Heap.ExtBut s.heap.objs.size s.heap h' → wpAny (model prog w) A (assignInOrder ((assignEach elts env).map (·.2)) items.toList) Q E { s with heap := h' }) :
    wpAny (model prog w) A (assign (.Tuple elts x1 pos) env (.ref t)) Q E s := by
  rw [assign_Tuple]
  refine wpAny_bind (wpAny_standAt ?_)
  unfold unpack
  rw [hn, hstar]
  refine wpAny_bind (wpAny_holding ?_)
  have hlt : t ≠ s.heap.objs.size := by obtain ⟨o, ho, _⟩ := ht; exact Nat.ne_of_lt (Heap.lt_size ho)
  unfold unpackItems
  refine wpAny_bind ?_
  · unfold notIterableAtAll
    refine wpAny_bind (wpAny_specialOf ht.typeIs slot_tuple_iter.lookup ?_)
    refine wpAny_pure ?_
    simp only [Bool.false_eq_true, if_false]
    refine wpAny_bind (wpAny_holding (iter_tuple ht ?_))
    refine wpAny_bind (wpAny_holding (draw_tuple hlt items.size 0 _ _ ⟨_, Heap.get?_push_size _ rfl, rfl, rfl⟩ (ht.push _) (by omega) fun h₁ hit₁ hs₁ => ?_))
    have hall : List.take items.size (List.drop 0 items.toList) = items.toList := by
      rw [List.drop_zero]; exact List.take_of_length_le (by simp)
    rw [hall]
    rw [if_neg (by simp)]
    have ht₁ : IsTup h₁ t items := (ht.push _).extBut hs₁.extBut hlt
    obtain ⟨hh, o1, vs1, g1, d1, c1⟩ := hot
    have hla : a ≠ s.heap.objs.size := Nat.ne_of_lt (Heap.lt_size g1)
    have hot₁ : HotX.HotAt A a h₁ := ⟨hh, o1, vs1, hs₁.extBut _ _ hla (Heap.get?_push_of_some _ g1), d1, c1⟩
    refine wpAny_bind (wpAny_holding (tup_stop_hot hot₁ hit₁ ht₁ (by simp) hla fun h₂ he₂ => ?_))
    simp only [Option.isSome_none, Bool.false_eq_true, if_false]
    refine wpAny_pure (h h₂ fun b o hb e => he₂ b o hb (hs₁.extBut b o hb (Heap.get?_push_of_some _ e)))
end
end Z
namespace Z
open PySem PySem.Spec PyProof.Rows L2
section
variable {X : Cx}
/-- an exception is handled, whatever the state -/
def HotI (X : Cx) (a : Addr) : Prop := ∀ {pins : List (Addr × Obj)} {σ : L2.St} {H : Hp} {s : Shared}, Inv X pins σ H s → HotX.HotAt X.A a s.heap
theorem pg_tupH {es : List Expr} {k : Nat} {t : TGs} {n : Nat} {a : Addr} {pos : Pos} (hh : HotI X a) (h : PGs X es t)
    (hn : (assignEach es X.env).length = n := by rfl) (hst : (assignEach es X.env).findIdx? (·.1) = none := by rfl) : PG X (.Tuple es k pos) (gTup X.K n t) := by
  refine ⟨fun pins s σ H v u Q I r hw => ?_⟩
  obtain ⟨a, xs, e1, hq, hl, hw⟩ := hw
  subst e1
  cases r
  obtain ⟨its, rv, ht, hz⟩ := I.tuple hq
  refine assign_tup_hot (hh I) ht (by simp [hn, ← hl, rv.length]) hst fun h' hx => ?_
  have I1 : Inv X pins σ H { s with heap := h' } := I.kept (t' := s.toks) fun b o e => hx b o (Nat.ne_of_lt (Heap.lt_size e)) e
  exact h.run pins _ σ H xs _ Q I1 (by simpa using rv) hw
/-- what is handled where a block begins -/
def HotB (X : Cx) (a : Addr) (s : Shared) (H : Hp) (fp : List Addr) : Prop := X.A.handled = some (.ref a) ∧ ∃ (oe : Obj) (vs : Array Value), s.heap.get? a = some oe ∧ oe.data = .fields vs ∧ vs[2]? = some .none ∧ H a = none ∧ a ∉ frs X.stack ∧ a ∉ fp
theorem HotB.hot {a : Addr} {s : Shared} {H : Hp} {scope : Scope} {ce : Env} {fp : List Addr} (h : HotB X a s H fp) : HotI (X.blk s H scope ce fp) a := fun J => by
  obtain ⟨hA, oe, ve, h1, h2, h3, h4, h5, h6⟩ := h
  exact ⟨hA, oe, ve, J.base.keep a oe h1 h4 h5 h6, h2, h3⟩
/-- what is handled: the object at a, whose context is None -/
def HotP (X : Cx) (a : Addr) : Prop := X.A.handled = some (.ref a) ∧ ∃ (oe : Obj) (vs : Array Value), (a, oe) ∈ X.pn ∧ oe.data = .fields vs ∧ vs[2]? = some .none
theorem pe_lcH {a : Addr} {elt tg iter : Expr} {ifs : List Expr} {scope : Scope} {own : List (Str × Nat)} {pos : Pos} {ti : TE} {g : TG} {tt : TT} {te : TE} (hh : HotP X a) (hN : X.N.Nodup) (hi : PE X iter ti) (ok : BlkOk X.N X.env.scope scope own)
    (hg : ∀ (s : Shared) (H : Hp) (C : Addr) (cl : List (Str × Addr)) (fp : List Addr), HotB X a s H fp → PG (X.blk s H scope (compEnvC scope cl C X.env) fp) tg g) (ht : ∀ (s : Shared) (H : Hp) (C : Addr) (cl : List (Str × Addr)) (fp : List Addr), PTs (X.blk s H scope (compEnvC scope cl C X.env) fp) ifs tt)
    (he : ∀ (s : Shared) (H : Hp) (C : Addr) (cl : List (Str × Addr)) (fp : List Addr), PE (X.blk s H scope (compEnvC scope cl C X.env) fp) elt te) (hs : ∀ x, foldedSetIterable iter X.env x = pure x := by intro _; rfl) :
    PE X (.ListComp elt [⟨tg, iter, ifs, 0⟩] scope pos) (tLc (iList X.K ti) g tt te (own.map (·.2))) := by
  refine ⟨fun pins s σ H Q I h => ?_⟩
  rw [eval_ListComp]
  obtain ⟨hA, oe, ve, hpn, hde, hv2⟩ := hh
  have hcl : ∀ y ∈ scope.names, y.2 = .free → ∃ c, X.env.cells.lookup y.1 = some c := by
    intro y hy e
    rcases ok.free y hy e with z | z
    · exact I.ok.has _ (.inl z)
    · exact I.ok.has _ (.inr z)
  refine wpAny_comprehension_free rfl hs (closure_ok hcl) ok.kind (fun y hy e => by rw [ok.uniq y hy, e]) (thn (hi.run pins s σ H _ I h) fun xv s1 ⟨x, H1, I1, r1, q1⟩ => ?_)
  obtain ⟨l, rfl, ⟨xs, hq⟩, q⟩ := q1
  cases r1
  obtain ⟨its, rv, p, hz⟩ := I1.list hq
  -- the iterator
  refine wpAny_pyIter_list p.isList ?_
  obtain ⟨it, hit⟩ : ∃ it, s1.heap.objs.size = it := ⟨_, rfl⟩
  rw [hit]
  have itn : H1 it = none := I1.hok.fresh (Nat.le_of_eq hit)
  generalize hs2 : ({ s1 with heap := s1.heap.push { cls := .type "list_iterator", data := .fields #[.ref l, .int 0 0] } } : Shared) = s2
  have I2 : Inv X pins σ H1 s2 := by
    rw [← hs2]
    exact I1.kept (t' := s1.toks) fun b o e => Heap.get?_push_of_some _ e
  have hh2 : s2.heap.IsListIter it l 0 := by
    rw [← hs2, ← hit]
    exact ⟨_, Heap.get?_push_size _ rfl, rfl, rfl⟩
  have lt2 : it < s2.heap.objs.size := by
    obtain ⟨o, e, _⟩ := hh2
    exact Heap.lt_size e
  have fp2 : FpOk X pins H1 it := I1.fpOk (Nat.le_of_eq hit) itn
  -- the new list
  refine wpAny_newObj_type (newEnv_comp ?_) (by show 0 ≤ sizeLine; decide)
  obtain ⟨D, hD⟩ : ∃ D, s2.heap.objs.size = D := ⟨_, rfl⟩
  rw [hD]
  have Dn : H1 D = none := I2.hok.fresh (Nat.le_of_eq hD)
  have itD : it ≠ D := by
    rw [← hD]
    exact Nat.ne_of_lt lt2
  obtain ⟨W, ⟨m0, w0⟩, turn⟩ := q D Dn
  generalize hs3 : ({ s2 with heap := s2.heap.push { cls := .type "list", data := .seq ([] : List Value).toArray } } : Shared) = s3
  have I3 : Inv X pins σ (upd H1 D (.lst [])) s3 := by
    rw [← hs3]
    refine I2.laid (t' := s2.toks) (fun b o e => Heap.get?_push_of_some _ e) (Nat.le_of_eq hD) ⟨Nat.zero_le _, [], 0, .nil, ?_⟩
    rw [← hD]
    exact Heap.get?_push_size _ rfl
  have k3 : ∀ b o, s2.heap.get? b = some o → s3.heap.get? b = some o := by
    rw [← hs3]
    exact fun b o e => Heap.get?_push_of_some _ e
  have hh3 : s3.heap.IsListIter it l 0 := hh2.at fun o e => k3 _ _ e
  have lt3 : it < s3.heap.objs.size := by
    obtain ⟨o, e, _⟩ := hh3
    exact Heap.lt_size e
  have f3 : ∀ b ∈ [it], FpOk X pins (upd H1 D (.lst [])) b ∧ b < s3.heap.objs.size := by
    intro b hb
    rw [List.mem_singleton.mp hb]
    refine ⟨⟨?_, fp2.2⟩, lt3⟩
    rw [upd_ne itD]
    exact itn
  have hex : s3.heap.get? a = some oe := (I3.pin (a, oe) (List.mem_append_left _ hpn)).1
  have han : (upd H1 D (.lst [])) a = none := (I3.pin (a, oe) (List.mem_append_left _ hpn)).2.1
  have hit_a : a ≠ it := fun e => (f3 it (List.mem_singleton.mpr rfl)).1.2.2.2.2.2 (a, oe) (List.mem_append_left _ hpn) e
  have anf0 : a ∉ frs X.stack := fun hm => by
    have z := I3.pin (a, oe) (List.mem_append_left _ hpn)
    rcases List.mem_cons.mp (I3.stkSub a hm) with y | y
    · exact z.2.2.1 y
    · exact z.2.2.2.1 y
  have pg := hg s3 (upd H1 D (.lst [])) s3.heap.objs.size (cellsFrom (s3.heap.objs.size + 1) scope.names (cloFrom X.env.cells scope.names [])) [it] ⟨hA, oe, ve, hex, hde, hv2, han, anf0, fun hm => hit_a (List.mem_singleton.mp hm)⟩
  have I4 := block_start I3 ok hN f3
  have pt := ht s3 (upd H1 D (.lst [])) s3.heap.objs.size (cellsFrom (s3.heap.objs.size + 1) scope.names (cloFrom X.env.cells scope.names [])) [it]
  have pe := he s3 (upd H1 D (.lst [])) s3.heap.objs.size (cellsFrom (s3.heap.objs.size + 1) scope.names (cloFrom X.env.cells scope.names [])) [it]
  show codeAny _ _ (.compStart (.ListComp elt [⟨tg, iter, ifs, 0⟩] scope pos) 0 (.ref it) (.ref D) (compEnvC scope (cellsFrom (s3.heap.objs.size + 1) scope.names (cloFrom X.env.cells scope.names [])) s3.heap.objs.size X.env))
    (compPost (model X.prog X.w) X.A X.xe none (EP X pins σ Q) (.ref D) s3.heap.objs.size) { s3 with heap := pushCells (s3.heap.push { cls := .type "dict", data := .dict #[] }) scope.names }
  generalize hce : compEnvC scope (cellsFrom (s3.heap.objs.size + 1) scope.names (cloFrom X.env.cells scope.names [])) s3.heap.objs.size X.env = ce at I4 pg pt pe ⊢
  have ceL : ce.locals = s3.heap.objs.size := by
    rw [← hce]
    rfl
  have hitn : (upd H1 D (.lst [])) it = none := (f3 it (List.mem_singleton.mpr rfl)).1.1
  generalize hH3 : upd H1 D (.lst []) = H3 at I3 I4 pg pt pe w0 f3 han hitn
  generalize hs4 : ({ s3 with heap := pushCells (s3.heap.push { cls := .type "dict", data := .dict #[] }) scope.names } : Shared) = s4 at I4 ⊢
  have hh4 : s4.heap.IsListIter it l 0 := hh3.at fun o e => by
    rw [← hs4]
    exact pushCells_keeps _ _ _ _ (Heap.get?_push_of_some _ e)
  have anf : a ∉ frs X.stack := fun hm => by
    have z := I3.pin (a, oe) (List.mem_append_left _ hpn)
    rcases List.mem_cons.mp (I3.stkSub a hm) with y | y
    · exact z.2.2.1 y
    · exact z.2.2.2.1 y
  -- what is handled stays
  have hot : ∀ {σ' : L2.St} {H' : Hp} {s' : Shared} {pl : List (Addr × Obj)}, Inv (X.blk s3 H3 scope ce [it]) pl σ' H' s' → HotX.HotAt X.A a s'.heap := fun {σ' H' s' pl} J =>
    ⟨hA, oe, ve, J.base.keep a oe hex han anf (fun hm => hit_a (List.mem_singleton.mp hm)), hde, hv2⟩
  have free : ∀ {σ' : L2.St} {H' : Hp} {s' : Shared}, Inv (X.blk s3 H3 scope ce [it]) [] σ' H' s' → H' it = none → FpOk (X.blk s3 H3 scope ce [it]) [] H' it := fun {σ' H' s'} J hn =>
    ⟨hn, (J.ok.exf it (List.mem_singleton.mpr rfl)).1, J.ok.exfs it (List.mem_singleton.mpr rfl), .inl (List.mem_singleton.mpr rfl), fun x c e => (J.ok.exf it (List.mem_singleton.mpr rfl)).2 x c e,
      fun p hp => absurd (show p ∈ ([] : List (Addr × Obj)) ++ [] from hp) (by simp)⟩
  have loop : codeAny (model X.prog X.w) X.A (.compLoop (.ListComp elt [⟨tg, iter, ifs, 0⟩] scope pos) 0 (.ref it) (.ref D) ce) (compPost (model X.prog X.w) X.A X.xe none (EP X pins σ Q) (.ref D) s3.heap.objs.size) s4 := by
    refine compLoop_any (fun n s' => ∃ i H', Inv (X.blk s3 H3 scope ce [it]) [] (L2.wipe σ (own.map (·.2))) H' s' ∧ s'.heap.IsListIter it l i ∧ H' it = none ∧ W i n H') ?_ m0 ⟨0, H3, I4, hh4, hitn, w0⟩
    rintro n s5 ⟨i, H5, I5, st5, n5, w5⟩
    have F5 := free I5 n5
    obtain ⟨e0, e1, e2, e3, e4, e5⟩ := F5
    rcases turn i n H5 w5 with ⟨⟨xs5, hq5, hx5⟩, qq⟩ | ⟨⟨xs5, x5, hq5, hx5⟩, Nx, hNx, step⟩
    · obtain ⟨its5, rv5, p5, hz5⟩ := I5.list hq5
      have hl5 := rv5.length
      refine list_stop_hot (hot I5) st5 p5.isList (by simp; omega) hit_a fun h' eb => ?_
      have I6 : Inv (X.blk s3 H3 scope ce [it]) [] (L2.wipe σ (own.map (·.2))) H5 { s5 with heap := h' } := I5.turned (t' := s5.toks) eb e0 e1 e3 e4 e5
      have I7 : Inv X pins σ H5 { s5 with heap := h' } := I3.call' (ch := [it]) I6.os I6.base I6.hok I6.bare fun b hb => by
        rw [List.mem_singleton.mp hb]
        have z := (f3 it (List.mem_singleton.mpr rfl)).1
        exact ⟨z.2.2.2.1, z.2.1, z.2.2.2.2.1, z.2.2.2.2.2⟩
      have nC : H5 s3.heap.objs.size = none := by
        have z : H5 ce.locals = none := I6.free
        rw [ceL] at z
        exact z
      obtain ⟨m, hn, _⟩ := I6.loc
      have hn : h'.Ns ce.locals m := hn
      rw [ceL] at hn
      obtain ⟨g0, g1, g2, g3, g4, g5⟩ := I3.fpOk (H' := H5) (Nat.le_refl _) nC
      exact ⟨m, hn, fun h'' sb => ⟨.ref D, H5, I7.turned (t' := s5.toks) (fun b o hb e => (sb.2 b hb).trans e) g0 g1 g3 g4 g5, rfl, qq⟩⟩
    · obtain ⟨its5, rv5, p5, hz5⟩ := I5.list hq5
      obtain ⟨u, hu, ru⟩ := rv5.get hx5
      refine wpAny_pyNext_list_item st5 p5.isList (x := u) (by simpa using hu) fun h' st' sb => ?_
      have I7 : Inv (X.blk s3 H3 scope ce [it]) [] (L2.wipe σ (own.map (·.2))) H5 { s5 with heap := h' } := I5.turned (t' := s5.toks) (fun b o hb e => (sb.2 b hb).trans e) e0 e1 e3 e4 e5
      obtain ⟨o, oe', oc, od⟩ := id st'
      refine go_of (s := { s5 with heap := h' }) oe' oc od (by decide) ?_
      have fo : ∀ b ∈ [it], ∃ o, h'.get? b = some o ∧ ∀ v, o.data ≠ .cell v := fun b hb => by
        rw [List.mem_singleton.mp hb]
        exact ⟨o, oe', fun v z => by rw [od] at z; cases z⟩
      have I7' := I7.pinned (fp := [it]) (fun b hb => by rw [List.mem_singleton.mp hb]; exact free I7 n5) fo
      refine thnF (pg.run _ _ _ H5 x5 u _ I7' ru (step x5 H5 ⟨rfl, fun ys hy => by rw [I5.list_inj hy hq5]; exact hx5⟩)) fun _ s8 ⟨σ8, H8, I8, hw8, q8⟩ => ?_
      refine thnF (pt.run _ s8 σ8 H8 _ I8 q8) fun b s9 ⟨H9, I9, q9⟩ => ?_
      have fin : ∀ {s' : Shared} {H' : Hp}, Inv (X.blk s3 H3 scope ce [it]) ([] ++ pinsAt [it] h') σ8 H' s' → Nx H' → ∃ m, m < n ∧ ∃ i H', Inv (X.blk s3 H3 scope ce [it]) [] (L2.wipe σ (own.map (·.2))) H' s' ∧ s'.heap.IsListIter it l i ∧ H' it = none ∧ W i m H' := fun {s' H'} I' nx => by
        obtain ⟨m', hm, w'⟩ := hNx H' nx
        have z := I'.pin (it, o) (List.mem_append_right _ (List.mem_append_right _ (mem_pinsAt (List.mem_singleton.mpr rfl) oe')))
        have hl : (L2.wipe σ (own.map (·.2))).length = σ8.length := by rw [← hw8, L2.wipe_length]
        refine ⟨m', hm, i + 1, H', (I'.unpinned (pins := [])).weak hl (fun j v e => ?_), st'.at fun o' e => ?_, z.2.1, w'⟩
        · rw [← hw8] at e
          exact (L2.wipe_some e).1
        · rw [oe'] at e
          cases e
          exact z.1
      cases b with
      | false =>
        simp only [Bool.false_eq_true, if_false] at q9 ⊢
        exact fin I9 q9
      | true =>
        simp only [if_true] at q9 ⊢
        refine thnF (pe.run _ s9 σ8 H9 _ I9 q9) fun zz s10 ⟨yv, H10, I10, r10, acc, hD10, hz10, nx⟩ => ?_
        exact app_ok (X := X.blk s3 H3 scope ce [it]) I10 hD10 hz10 r10 fun s11 I11 => fin I11 nx
  exact codeAny_compStart_list loop (wpAny_pyIter_listiter hh4 loop)
end
end Z


set_option maxRecDepth 100000
set_option maxHeartbeats 4000000
/-! X3: raise, defs that raise, their calls. -/
namespace Z
open PySem PySem.Spec PyProof.Rows L2

/-- an exception class of the program: its name x, its address, D the class that bears __init__ -/
structure ExcAt (P : Program) (w : World) (K : PySem.W.Frag) (mg : Str → Option Value) (base : Heap) (x : Str) : Prop where
  ex : ∃ (C D fI : Addr) (fd : FuncData) (st : Stmt), mg x = some (.ref C) ∧ AtC K D C ∧ PySem.W.findIn K (.ref C) "__init__" = some (some (.ref fI)) ∧ PySem.W.typeIn K (.ref fI) = some (.type "function") ∧
    FnOk P w K mg base CX0 1 fI fd ["self", "at"] (spAt K D) ∧ Binds K fd ["self", "at"] []

section
variable {X : Cx} {a e : Expr} {es : List Expr} {fz : Bool} {f : EV → Option D} {k : EV → Option (List D)} {W : WX} {pos p p' : Pos} {x : Str}
/-- the exception is made: its context is None -/
theorem pmk_at {ta : TA} (T : ExcAt X.prog X.w X.K X.mg X.base x) (hr : Room 2 X.A) (hg : Gl X x) (ha : PA X [e] ta) (hdb : (x == ("__debug__" : Str)) = false := by decide)
    (he : starEach [e] X.env = (false, eval e X.env) :: starEach [] X.env := by rfl) (hpl : (backTo pos (starEach [] X.env)).any (·.1) = false := by rfl) :
    L2N.PMk X (.Call (.Name x p) [e] [] pos) (fun σ H Q => ta σ H fun vs H1 => ∃ y, vs = [y] ∧ ∀ C dd H', X.mg x = some (.ref C) → Same H1 H' → H1 dd = none → H' = upd H1 dd (.xd [("at", y)]) → Q (.ref C) (some dd) H') := by
  obtain ⟨C, D, fI, fd, st, hm, TC, iC, tI, F1, hb⟩ := T.ex
  intro pins s σ H Q I h
  obtain ⟨nm, q, N, bs, bm, sn, sub, ab, col, dd, k0, k1, k2, k3, k5, hC, hbm⟩ := TC.ox.cls
  refine wpAny_Call_Name_kw (ld_glob I hg hm ?_ hdb)
  refine PySem.W.callWith_K (h₀ := X.base) I.ok.mod.kin TC.ox.kC (thn (ha.run pos pins s σ H _ I h) fun us s1 ⟨vs, H1, I1, r1, y, ev, q1⟩ => ⟨I1.kIn, ?_⟩) he hpl
  subst ev
  show wpAny _ _ (call (.ref C) us) _ _ _
  obtain ⟨hp, g, dr, tk, os⟩ := s1
  obtain ⟨n, hn⟩ : ∃ n, hp.objs.size + 1 = n := ⟨_, rfl⟩
  have up : hp.objs.size ≤ n := by omega
  have fresh : H1 n = none := I1.hok.fresh up
  have kk : ∀ b o, hp.get? b = some o → ((hp.push (PySem.W.kdv_tup us)).push (PySem.HandSPX.excO C hp.objs.size)).get? b = some o := fun b o e => Heap.get?_push_of_some _ (Heap.get?_push_of_some _ e)
  have hget : ((hp.push (PySem.W.kdv_tup us)).push (PySem.HandSPX.excO C hp.objs.size)).get? n = some (PySem.HandSPX.excO C hp.objs.size) := by
    rw [← hn]
    heap_get
  have I2 : Inv X pins σ (upd H1 n (exo n C none)) ⟨(hp.push (PySem.W.kdv_tup us)).push (PySem.HandSPX.excO C hp.objs.size), g, dr, tk, os⟩ :=
    I1.laid (t' := tk) (a := n) (o := exo n C none) (h' := (hp.push (PySem.W.kdv_tup us)).push (PySem.HandSPX.excO C hp.objs.size)) kk up (exo_ok hget)
  have r2 : Vals [V.ref n, y] (Value.ref n :: us) := .cons rfl r1
  have hus : us.length = 1 := (Paired.length r1).symm
  have hz : us.length ≤ sizeLine := by
    rw [hus, sizeLine_eq]
    omega
  have hq : spAt X.K D [V.ref n, y] (upd H1 n (exo n C none)) (fun v H2 => v = .non ∧ ∃ dx, H1 dx = none ∧ dx ≠ n ∧ H2 = upd (upd (upd H1 n (exo n C none)) dx (exd dx [("at", y)])) n (exo n C (some dx))) (fun _ _ _ => False) :=
    ⟨n, C, y, rfl, TC, upd_same, fun dx h1 h2 => ⟨rfl, dx, by rw [upd_ne h2] at h1; exact h1, h2, rfl⟩⟩
  refine wpAny_call (PySem.HandSPX.call_own F.excBase_ValueError (fun Y => PySem.HandSPX.refsVE_contains Y bm hbm) (I1.kIn _ _ hC) (PySem.W.looks_findIn I1.kIn iC) (fun self => PySem.W.bind_fn I1.kIn self tI) hz ?_)
  rw [hn]
  have bb := hb _ (Value.ref n :: us) I2.kIn (by simp [hus])
  rw [List.append_nil] at bb
  refine codeAny_mono (F1.run _ X.stack _ _ ⟨Value.ref n :: us, []⟩ (Value.ref n :: us) _ _ (fun _ _ _ => False) (hr.make C us []) (I2.env0.make C us []) bb r2 hq) fun r s' hr' => ?_
  cases r with
  | error er => exact (show False from hr').elim
  | ok fl =>
    cases fl with
    | next => exact False.elim hr'
    | brk => exact False.elim hr'
    | cont => exact False.elim hr'
    | ret u =>
      obtain ⟨v, H2, os2, bare2, un2, hok2, rv, ev, dx, hd1, hdn, eH⟩ := hr'
      subst ev
      obtain ⟨h2, g2, d2, t2, os'⟩ := s'
      have ea : H2 n = some (exo n C (some dx)) := by rw [eH, upd_same]
      have ed : H2 dx = some (exd dx [("at", y)]) := by rw [eH, upd_ne hdn, upd_same]
      obtain ⟨t0, G, J, kG, ge, hoe, na⟩ := mk_end0 (d2 := d2) (t2 := t2) I1 up kk un2 hok2 os2 bare2 ea ed hd1
      refine ⟨rv, n, _, _, ⟨G, g2, d2, t2, os'⟩, _, .ref C, some dx, rfl, J, kG, ge, hoe, ⟨rfl, rfl, fun vs e => by cases e; rfl⟩, rfl, rfl, na, rfl, bare2, raises_own TC.ox.exC TC.ox.tyC, ?_⟩
      have eq : upd (L2.del H2 n) dx (.xd [("at", y)]) = upd H1 dx (.xd [("at", y)]) := by
        funext b
        by_cases b1 : b = dx
        · rw [b1, upd_same, upd_same]
        · rw [upd_ne b1, upd_ne b1]
          by_cases b2 : b = n
          · rw [b2, L2.del_same, fresh]
          · rw [L2.del_ne b2, eH, upd_ne b2, upd_ne b1, upd_ne b2]
      rw [eq]
      exact q1 C dx _ hm (same_upd hd1) hd1 rfl
/-- raise X(e) -/
def sRaise (x : Str) (f : EV → Option D) : EV → Option Fl := fun ev => (f ev).map fun d => .ex ev x d
theorem s_raise (hc : X.calm = true) (tk : L2N.Takes X W) (T : ExcAt X.prog X.w X.K X.mg X.base x) (hr : Room 2 X.A) (hg : Gl X x) (ha : EOk X e true f) (hdb : (x == ("__debug__" : Str)) = false := by decide)
    (he : starEach [e] X.env = (false, eval e X.env) :: starEach [] X.env := by rfl) (hpl : (backTo pos (starEach [] X.env)).any (·.1) = false := by rfl) :
    SOk X W (.Raise (some (.Call (.Name x p) [e] [] pos)) none p') (sRaise x f) := by
  obtain ⟨C0, _, _, _, _, hm0, _⟩ := T.ex
  obtain ⟨t, pe, re⟩ := ha
  refine ⟨_, L2N.ps_raise hc tk (pmk_at T hr hg (pa_cons pe pa_nil he) hdb he hpl), fun F0 H0 ev σ F H E r s he q => ?_⟩
  obtain ⟨d, h1, rfl⟩ := Option.map_eq_some_iff.mp he
  refine re F0 H0 ev σ F H d _ s h1 fun v F1 H1 x1 r1 z1 => ⟨v, rfl, fun C dd H' hm _ hdd hH => ?_⟩
  have s1 := s.up x1
  subst hH
  exact q σ F1 _ C dd v (s1.up (.allocH s1.sub hdd)) hm upd_same (z1 rfl)
/-! ### defs that raise -/
inductive Rx where
  | ok (d : D) | ex (x : Str) (d : D)
def runFnX (n m : Nat) (u : EV → Option Fl) : List D → Option Rx := fun ds => if ds.length = n then (match u (evStart ds m) with
  | some (.rt d) => some (.ok d)
  | some (.nx _) => some (.ok .non)
  | some (.ex _ x d) => some (.ex x d)
  | _ => none) else none
def okx (o : List D → Option Rx) : List D → Option D := fun ds => match o ds with
  | some (.ok d) => some d
  | _ => none
def FSpX (K : PySem.W.Frag) (mg : Str → Option Value) (n : Nat) (g : List D → Option Rx) : Sp := fun vs H Q E => vs.length = n ∧ ∃ F ds r, Same F H ∧ RepL K F vs ds ∧ g ds = some r ∧ match r with
  | .ok d => ∀ v F' H', Ext F H F' H' → Rep K F' v d → Q v H'
  | .ex x d => ∀ C dd v F' H', mg x = some (.ref C) → Ext F H F' H' → H' dd = some (.xd [("at", v)]) → Rep K F' v d → E (.ref C) (some dd) H'
structure FnAtX (P : Program) (w : World) (K : PySem.W.Frag) (mg : Str → Option Value) (base : Heap) (x : Str) (lv n : Nat) (o : List D → Option Rx) : Prop where
  ex : ∃ (f : Addr) (fd : FuncData) (ps : List Str), mg x = some (.ref f) ∧ PySem.W.keepIn K (.ref f) = true ∧ Binds K fd ps [] ∧ FnOk P w K mg base (L2N.CX P w) lv f fd ps (FSpX K mg n o)
/-- where it does not raise it is a def like others -/
theorem FnAtX.calm {P : Program} {w : World} {K : PySem.W.Frag} {mg : Str → Option Value} {base : Heap} {lv n : Nat} {o : List D → Option Rx} (G : FnAtX P w K mg base x lv n o) : FnAt P w K mg base x lv n (okx o) := by
  obtain ⟨f, fd, ps, h1, h2, h3, h4⟩ := G.ex
  refine ⟨L2N.CX P w, f, fd, ps, fun X hP hw pins σ H s e s' I h => ?_, h1, h2, h3, h4.imp fun vs H Q E h => ?_⟩
  · obtain ⟨_, _, _, _, _, _, _, _, _, _, _, _, z⟩ := h
    exact z.elim
  · obtain ⟨hl, F, ds, d, s, r, he, q⟩ := h
    unfold okx at he
    split at he
    · rename_i d' ho
      cases he
      exact ⟨hl, F, ds, .ok d, s, r, ho, q⟩
    · cases he
theorem fn_atX {P : Program} {w : World} {K : PySem.W.Frag} {mg : Str → Option Value} {base : Heap} {x qual : Str} {st : Stmt} {N ps : List Str} {k n m : Nat} {u : EV → Option Fl} (T : DefAt K mg x qual st) (S : FnScope N ps (defScope st))
    (hn : ps.length = n) (hm : N.length - n = m)
    (hbi : ∀ (kV doc pm : Value) (an : Option Addr) (cdv ct : Value) (us : List Value), us.length = ps.length → bindArgs (PySem.W.fnOf qual qual (defArgs st) (defBody st) (defScope st) .none kV doc pm an cdv ct) ⟨us, []⟩ = pure (ps.zip us))
    (hb : ∀ (f : Addr) (cdv : Value) (A : Around) (outer : List Env) (s : Shared) (H : Hp) (E : XK), Room k (A.deeper (envOfC qual (defScope st) s.heap.objs.size f cdv)) →
      BOk (cxOf (L2N.CX P w) P w K mg base N qual (defScope st) f cdv A outer s H E) (fun cls d _ H => E cls d H) (defBody st) u) : FnAtX P w K mg base x (k + 1) n (runFnX n m u) := by
  obtain ⟨f, fd, h1, F⟩ := T
  have kp := F.kp
  have bi := F.binds hbi
  obtain ⟨oc, od, kV, doc, pm, an, cdv, ct, osl, rfl, lk, hcd⟩ := F.ex
  refine ⟨f, _, ps, h1, kp, bi, fn_of lk hcd S (fun vs H Q E h => h.1.trans hn.symm) fun A outer s H vs Q E hr h => ?_⟩
  obtain ⟨hl, F0, ds, r, hs, rr, he, q⟩ := h
  obtain ⟨t, p, run⟩ := hb f cdv A outer s H E hr
  refine ⟨t, p, ?_⟩
  have hds : ds.length = n := by rw [← rr.len]; exact hl
  unfold runFnX at he
  rw [if_pos hds] at he
  have s0 : SR K F0 H (evStart ds m) (L2.start N vs) F0 H := start_sr hs rr (by rw [hds]; exact hm.symm)
  split at he
  · rename_i d' hu
    cases he
    exact run F0 H _ _ F0 H _ _ s0 hu fun v F' H' x rr => q v F' H' x rr
  · rename_i e' hu
    cases he
    exact run F0 H _ _ F0 H _ _ s0 hu fun σ' F' H' s' => q .non F' H' s'.ext .non
  · rename_i e' x' d' hu
    cases he
    exact run F0 H _ _ F0 H _ _ s0 hu fun σ' F' H' C dd v s' hm' hd' rv' => q C dd v F' H' hm' s'.ext hd' rv'
  · cases he
end
end Z


set_option maxRecDepth 100000
set_option maxHeartbeats 4000000
/-! X4: calls that raise as statements; try .. except X as e, its suite. -/
namespace Z
open PySem PySem.Spec PyProof.Rows L2
section
variable {X : Cx} {a e : Expr} {es : List Expr} {fz : Bool} {k : EV → Option (List D)} {W : WX} {pos p : Pos} {x : Str} {K : PySem.W.Frag} {mg : Str → Option Value}
/-! ### calls that may raise -/
def XRun (K : PySem.W.Frag) (mg : Str → Option Value) (W : WX) (f : EV → Option Rx) (t : TE) : Prop :=
  ∀ (F0 H0 : Hp) (ev : EV) (σ : L2.St) (F H : Hp) (r : Rx) (Q : VK), SR K F0 H0 ev σ F H → f ev = some r → (match r with
    | .ok d => ∀ v F' H', Ext F H F' H' → Rep K F' v d → Q v H'
    | .ex x d => ∀ C dd v F' H', mg x = some (.ref C) → Ext F H F' H' → H' dd = some (.xd [("at", v)]) → Rep K F' v d → W (.ref C) (some dd) σ H') → t σ H Q
def XOk (X : Cx) (W : WX) (e : Expr) (f : EV → Option Rx) : Prop := ∃ t, PE X e t ∧ XRun X.K X.mg W f t
def xCall (g : List D → Option Rx) (k : EV → Option (List D)) : EV → Option Rx := fun ev => (k ev).bind g
theorem x_call {lv j n : Nat} {g : List D → Option Rx} (tk : L2N.Takes X W) (G : FnAtX X.prog X.w X.K X.mg X.base x lv n g) (hr : Room j X.A) (hj : lv ≤ j) (hg : Gl X x) (ha : AOk X (e :: es) true k) (hn : (e :: es).length = n)
    (hl : ∀ ev ds, k ev = some ds → ds.length = (e :: es).length) (hdb : (x == ("__debug__" : Str)) = false := by decide)
    (he : starEach (e :: es) X.env = (false, eval e X.env) :: starEach es X.env := by rfl) (hpl : (backTo pos (starEach es X.env)).any (·.1) = false := by rfl) : XOk X W (.Call (.Name x p) (e :: es) [] pos) (xCall g k) := by
  obtain ⟨f, fd, ps, h1, h2, h3, h4⟩ := G.ex
  obtain ⟨t, pa, ra⟩ := ha
  refine ⟨_, pe_callS h4 (hr.mono hj) hg h1 h2 h3 (fun σ => L2N.passAt tk σ) pa hdb he hpl, fun F0 H0 ev σ F H r Q s he q => ?_⟩
  obtain ⟨ds, g1, g2⟩ := Option.bind_eq_some_iff.mp he
  refine ra F0 H0 ev σ F H ds _ s g1 fun vs F1 H1 x1 _ z1 => ⟨?_, F1, ds, r, (s.up x1).sub, z1 rfl, g2, ?_⟩
  · rw [(z1 rfl).len, hl _ _ g1]
    exact hn
  · cases r with
    | ok d => exact fun v F' H' x2 r2 => q v F' H' (x1.trans x2) r2
    | ex x d => exact fun C dd v F' H' hm x2 hd r2 => q C dd v F' H' hm (x1.trans x2) hd r2
def sDropX (f : EV → Option Rx) : EV → Option Fl := fun ev => (f ev).map fun r => match r with
  | .ok _ => .nx ev
  | .ex x d => .ex ev x d
theorem s_exprX {f : EV → Option Rx} (he : XOk X W e f) (hs : swapsWith e none pos.line X.env = pure false := by rfl) : SOk X W (.Expr e pos) (sDropX f) := by
  obtain ⟨t, p, r⟩ := he
  refine ⟨_, ps_expr p hs, fun F0 H0 ev σ F H E r' s he q => ?_⟩
  obtain ⟨d, h1, rfl⟩ := Option.map_eq_some_iff.mp he
  refine r F0 H0 ev σ F H d _ s h1 ?_
  cases d with
  | ok d => exact fun v F1 H1 x1 _ => q σ F1 H1 (s.up x1)
  | ex x d => exact fun C dd v F1 H1 hm x1 hd rv => q σ F1 H1 C dd v (s.up x1) hm hd rv
def sRetX (f : EV → Option Rx) : EV → Option Fl := fun ev => (f ev).map fun r => match r with
  | .ok d => .rt d
  | .ex x d => .ex ev x d
theorem s_retX {f : EV → Option Rx} (he : XOk X W e f) : SOk X W (.Return (some e) pos) (sRetX f) := by
  obtain ⟨t, p, r⟩ := he
  refine ⟨_, ps_ret p, fun F0 H0 ev σ F H E r' s he q => ?_⟩
  obtain ⟨d, h1, rfl⟩ := Option.map_eq_some_iff.mp he
  refine r F0 H0 ev σ F H d _ s h1 ?_
  cases d with
  | ok d => exact fun v F1 H1 x1 r1 => q v F1 H1 (s.up x1).ext r1
  | ex x d => exact fun C dd v F1 H1 hm x1 hd rv => q σ F1 H1 C dd v (s.up x1) hm hd rv
def sSetX (i : Nat) (f : EV → Option Rx) : EV → Option Fl := fun ev => (f ev).map fun r => match r with
  | .ok d => .nx (ev.set i (.fro d))
  | .ex x d => .ex ev x d
theorem s_setX {i : Nat} {y : Str} {pos' : Pos} {f : EV → Option Rx} (hN : X.N.Nodup) (hi : X.N[i]? = some y) (hx : Loc X.env.scope y) (he : XOk X W e f) (hs : swapsWith e (some (.Name y pos')) pos.line X.env = pure false := by rfl)
    (hf : X.fn y = true ∨ X.env.scope.names.lookup y = some .local := by first | exact .inl rfl | exact .inr rfl | assumption) : SOk X W (.Assign [.Name y pos'] e pos) (sSetX i f) := by
  obtain ⟨t, p, r⟩ := he
  refine ⟨_, ps_set hN hi hx p hs hf, fun F0 H0 ev σ F H E r' s he q => ?_⟩
  obtain ⟨d, h1, rfl⟩ := Option.map_eq_some_iff.mp he
  refine r F0 H0 ev σ F H d _ s h1 ?_
  cases d with
  | ok d => exact fun v F1 H1 x1 r1 => q _ F1 H1 ((s.up x1).setFro r1)
  | ex x d => exact fun C dd v F1 H1 hm x1 hd rv => q σ F1 H1 C dd v (s.up x1) hm hd rv
end

/-! ### the suite -/
/-- what a raised class must say -/
structure ExI (K : PySem.W.Frag) (C : Addr) : Prop where
  cl : (PySem.W.clsIn K C).isSome = true
  ga : PySem.W.findIn K (.ref C) "__getattribute__" = some (some (.builtin "BaseException.__getattribute__"))
  gt : PySem.W.findIn K (.ref C) "__getattr__" = some none
  sb : PySem.W.subIn K (.ref C) (.type "BaseException") = some true
  ha : PySem.W.findIn K (.ref C) "__class__" = some (some (.builtin "object.__class__"))
  hn : PySem.W.specialIn K (.builtin "object.__class__") "__get__" = some (some (.builtin "getset_descriptor.__get__"))
  tk : PySem.W.takesIn K (.builtin "object.__class__") = some true
  hm : PySem.W.mroIn K C (.type "object") = some true
  hd : PySem.W.hasDictIn K C = true
  no : PySem.W.findIn K (.ref C) "at" = some none
/-- slot i holds the exception at a; xs: the names of the classes that may come -/
structure Sx where
  i : Nat
  xs : List Str
  a : Addr
  cls : Value
  d : Option Addr
structure Cau (K : PySem.W.Frag) (mg : Str → Option Value) (S : Sx) (σ : L2.St) (F H : Hp) (x : Str) (vd : D) : Prop where
  sl : σ[S.i]? = some (some (.ref S.a))
  ex : ∃ C dd v, S.cls = .ref C ∧ mg x = some (.ref C) ∧ S.d = some dd ∧ H dd = some (.xd [("at", v)]) ∧ Rep K F v vd
  mem : x ∈ S.xs
section
variable {X Y : Cx} {S : Sx} {a e b : Expr} {es : List Expr} {fz fa fb : Bool} {f g : Str → D → EV → Option D} {k : Str → D → EV → Option (List D)} {W : WX} {pos p p1 p2 : Pos} {x : Str} {K : PySem.W.Frag} {mg : Str → Option Value}
  {σ : L2.St} {F H F' H' : Hp} {vd : D} {oe : Obj} {pn : List (Addr × Obj)}
theorem Cau.up (c : Cau K mg S σ F H x vd) (y : Ext F H F' H') : Cau K mg S σ F' H' x vd := by
  obtain ⟨C, dd, v, h1, h2, h3, h4, h5⟩ := c.ex
  exact ⟨c.sl, ⟨C, dd, v, h1, h2, h3, y.keep _ _ h4, h5.mono y.fr⟩, c.mem⟩
def ERunX (K : PySem.W.Frag) (mg : Str → Option Value) (S : Sx) (fz : Bool) (f : Str → D → EV → Option D) (t : TE) : Prop :=
  ∀ (F0 H0 : Hp) (ev : EV) (σ : L2.St) (F H : Hp) (x : Str) (vd d : D) (Q : VK), SR K F0 H0 ev σ F H → Cau K mg S σ F H x vd → f x vd ev = some d →
    (∀ v F' H', Ext F H F' H' → Rep K H' v d → (fz = true → Rep K F' v d) → Q v H') → t σ H Q
def ESu (Y : Cx) (S : Sx) (e : Expr) (fz : Bool) (f : Str → D → EV → Option D) : Prop := ∃ t, PE Y e t ∧ ERunX Y.K Y.mg S fz f t
def ARunX (K : PySem.W.Frag) (mg : Str → Option Value) (S : Sx) (fz : Bool) (f : Str → D → EV → Option (List D)) (t : TA) : Prop :=
  ∀ (F0 H0 : Hp) (ev : EV) (σ : L2.St) (F H : Hp) (x : Str) (vd : D) (ds : List D) (Q : List V → Hp → Prop), SR K F0 H0 ev σ F H → Cau K mg S σ F H x vd → f x vd ev = some ds →
    (∀ vs F' H', Ext F H F' H' → RepL K H' vs ds → (fz = true → RepL K F' vs ds) → Q vs H') → t σ H Q
def ASu (Y : Cx) (S : Sx) (es : List Expr) (fz : Bool) (f : Str → D → EV → Option (List D)) : Prop := ∃ t, PA Y es t ∧ ARunX Y.K Y.mg S fz f t
def xK {α : Type} (f : EV → Option α) : Str → D → EV → Option α := fun _ _ => f
theorem su_of {f : EV → Option D} (h : EOk Y e fz f) : ESu Y S e fz (xK f) := by
  obtain ⟨t, p, r⟩ := h
  exact ⟨t, p, fun F0 H0 ev σ F H x vd d Q s _ he q => r F0 H0 ev σ F H d Q s he q⟩
def xNil : Str → D → EV → Option (List D) := fun _ _ _ => some []
def xCons (f : Str → D → EV → Option D) (g : Str → D → EV → Option (List D)) : Str → D → EV → Option (List D) := fun x d ev => (f x d ev).bind fun y => (g x d ev).map (y :: ·)
theorem as_nil : ASu Y S [] true xNil := ⟨_, pa_nil, fun F0 H0 ev σ F H x vd d Q s c he q => by
  cases he
  exact q [] F H (.refl s.sub) .nil fun _ => .nil⟩
theorem as_cons (ha : ESu Y S e fa f) (hb : ASu Y S es fb k) (hs : starEach (e :: es) Y.env = (false, eval e Y.env) :: starEach es Y.env := by rfl) : ASu Y S (e :: es) (fa && fb) (xCons f k) := by
  obtain ⟨ta, pa, ra⟩ := ha
  obtain ⟨tb, pb, rb⟩ := hb
  refine ⟨_, pa_cons pa pb hs, fun F0 H0 ev σ F H x vd d Q s c he q => ?_⟩
  obtain ⟨y, h1, he⟩ := Option.bind_eq_some_iff.mp he
  obtain ⟨xs, h2, rfl⟩ := Option.map_eq_some_iff.mp he
  refine ra F0 H0 ev σ F H x vd y _ s c h1 fun v F1 H1 x1 r1 z1 => ?_
  refine rb F0 H0 ev σ F1 H1 x vd xs _ (s.up x1) (c.up x1) h2 fun vs F2 H2 x2 r2 z2 => ?_
  refine q (v :: vs) F2 H2 (x1.trans x2) (.cons (r1.mono x2.keep) r2) fun z => ?_
  rw [Bool.and_eq_true] at z
  exact .cons ((z1 z.1).mono x2.fr) (z2 z.2)
def xTup (k : Str → D → EV → Option (List D)) : Str → D → EV → Option D := fun x d ev => (k x d ev).bind fun ds => if ds.length ≤ 1000 then some (.tup ds) else none
theorem su_tup {x1} (h : ASu Y S es true k) : ESu Y S (.Tuple es x1 pos) true (xTup k) := by
  obtain ⟨t, p, r⟩ := h
  refine ⟨_, pe_tup p, fun F0 H0 ev σ F H x vd d Q s c he q => ?_⟩
  obtain ⟨ds, h1, he⟩ := Option.bind_eq_some_iff.mp he
  obtain ⟨h2, rfl⟩ := of_ite he
  refine r F0 H0 ev σ F H x vd ds _ s c h1 fun vs F1 H1 x1 r1 z1 => ⟨len_line (by rw [r1.len]; exact h2), fun p np => ?_⟩
  have s1 := s.up x1
  have y : Ext F1 H1 (upd F1 p (.tup vs)) (upd H1 p (.tup vs)) := .alloc s1.sub np
  exact q _ _ _ (x1.trans y) (.tup upd_same (r1.mono y.keep)) fun _ => .tup upd_same ((z1 rfl).mono y.fr)
def xLst (k : Str → D → EV → Option (List D)) : Str → D → EV → Option D := fun x d ev => (k x d ev).bind fun ds => if ds.length ≤ 1000 then some (.lst ds) else none
theorem su_lst (h : ASu Y S es true k) : ESu Y S (.List es pos) true (xLst k) := by
  obtain ⟨t, p, r⟩ := h
  refine ⟨_, pe_lst p, fun F0 H0 ev σ F H x vd d Q s c he q => ?_⟩
  obtain ⟨ds, h1, he⟩ := Option.bind_eq_some_iff.mp he
  obtain ⟨h2, rfl⟩ := of_ite he
  refine r F0 H0 ev σ F H x vd ds _ s c h1 fun vs F1 H1 x1 r1 z1 => ⟨len_line (by rw [r1.len]; exact h2), fun p np => ?_⟩
  have s1 := s.up x1
  have y : Ext F1 H1 (upd F1 p (.lst vs)) (upd H1 p (.lst vs)) := .alloc s1.sub np
  exact q _ _ _ (x1.trans y) (.lst upd_same (r1.mono y.keep)) fun _ => .lst upd_same ((z1 rfl).mono y.fr)
/-- e.at -/
def xAt : Str → D → EV → Option D := fun _ d _ => some d
theorem su_at {n : Str} {i : Nat} {xs : List Str} {a : Addr} {cls : Value} {d : Option Addr} (hI : ∀ x ∈ xs, ∀ C, X.mg x = some (.ref C) → ExI X.K C) (hz : Zc cls d oe) (hf : ∃ vs, oe.data = .fields vs) (hp : PE (X.suite a ((a, oe) :: pn)) (.Name n p1) (tVar i))
    (hb : attributeBase (.Name n p1) "at" X.env (eval (.Name n p1) X.env) = eval (.Name n p1) X.env := by rfl) : ESu (X.suite a ((a, oe) :: pn)) ⟨i, xs, a, cls, d⟩ (.Attribute (.Name n p1) "at" pos) true xAt := by
  refine ⟨fun σ H Q => ∃ (C dd : Addr) (v : V), ExI X.K C ∧ σ[i]? = some (some (.ref a)) ∧ cls = .ref C ∧ d = some dd ∧ H dd = some (.xd [("at", v)]) ∧ Q v H, ⟨fun pins s σ H Q I h => ?_⟩, fun F0 H0 ev σ F H x vd dw Q s c he q => ?_⟩
  · obtain ⟨C, dd, v, ei, h1, h2, h3, h4, q⟩ := h
    have T : XfC X.K C := ⟨ei.ga, ei.gt, ei.sb, ei.hd⟩
    exact (pe_xf T ei.no hz hf hp hb).run pins s σ H Q I ⟨.ref a, h1, rfl, h2, dd, _, v, h3, h4, rfl, q⟩
  · cases he
    obtain ⟨C, dd, v, h1, h2, h3, h4, h5⟩ := c.ex
    exact ⟨C, dd, v, hI x c.mem C h2, c.sl, h1, h3, h4, q v F H (.refl s.sub) (h5.mono s.sub) fun _ => h5⟩
/-- isinstance(e, T) -/
def rIsX (X : Cx) (S : Sx) : List V → Hp → VK → Prop := fun vs H Q => ∃ (C dd T : Addr) (v : V) (b : Bool), vs = [.ref S.a, .ref T] ∧ ExI X.K C ∧ S.cls = .ref C ∧ S.d = some dd ∧ H dd = some (.xd [("at", v)]) ∧ PySem.W.kitOne X.K (.ref C) (.ref T) = some b ∧ Q (.bl b) H
theorem call_isX (hz : Zc S.cls S.d oe) (hf : ∃ vs, oe.data = .fields vs) : CallR (X.suite S.a ((S.a, oe) :: pn)) (.builtin "isinstance") (rIsX X S) := by
  intro pins s σ H us ws Q I r h
  obtain ⟨C, dd, T, v, b, rfl, ei, h1, h2, h3, h4, q⟩ := h
  cases r with
  | cons rx rr =>
    cases rr with
    | cons rt rr =>
      cases rr
      cases rx
      cases rt
      obtain ⟨hget, _⟩ := I.pin (S.a, oe) (List.mem_append.mpr (.inl List.mem_cons_self))
      obtain ⟨vs, hv⟩ := hf
      have hx : ObjOk X.prog X.w H s.heap dd (.xd [("at", v)]) := I.hok dd _ h3
      obtain ⟨mA, hns, hr⟩ := hx
      obtain ⟨od, ho, hl⟩ := lookIn_ns hns
      have J : PySem.W.InstAt s.heap S.a oe C (some od) := ⟨hget, hz.1.trans h1, by unfold PySem.W.notCls; rw [hv] <;> rfl, by rw [hz.2, h2]; exact ho⟩
      exact PySem.W.kia_one (PySem.W.kitx_exc ei.cl ei.ga ei.gt ei.sb ei.ha ei.hn ei.tk ei.hm) I.kIn J h4 (fun z => nomatch z) fun tk => ⟨.bl b, H, I.kept (t' := tk) fun _ _ z => z, rfl, q⟩
/-- the class that is asked for -/
def IsiAt (K : PySem.W.Frag) (mg : Str → Option Value) (xs : List Str) (tn : Str) : Prop := ∃ T, mg tn = some (.ref T) ∧ ∀ x ∈ xs, ∀ C, mg x = some (.ref C) → PySem.W.kitOne K (.ref C) (.ref T) = some (decide (x = tn))
def xIsi (tn : Str) : Str → D → EV → Option D := fun x _ _ => some (.bl (decide (x = tn)))
theorem su_isi {n tn : Str} {i : Nat} {xs : List Str} {a : Addr} {cls : Value} {d : Option Addr} (hI : ∀ x ∈ xs, ∀ C, X.mg x = some (.ref C) → ExI X.K C) (hT : IsiAt X.K X.mg xs tn) (hz : Zc cls d oe) (hf : ∃ vs, oe.data = .fields vs) (hp : PE (X.suite a ((a, oe) :: pn)) (.Name n p1) (tVar i))
    (hg : Gl X "isinstance") (hm : X.mg "isinstance" = none) (hgt : Gl X tn) (hdt : (tn == ("__debug__" : Str)) = false := by decide)
    (he : starEach (.Name n p1 :: [.Name tn p2]) X.env = (false, eval (.Name n p1) X.env) :: starEach [.Name tn p2] X.env := by rfl)
    (he2 : starEach [.Name tn p2] X.env = (false, eval (.Name tn p2) X.env) :: starEach [] X.env := by rfl) (hpl : (backTo pos (starEach [.Name tn p2] X.env)).any (·.1) = false := by rfl) :
    ESu (X.suite a ((a, oe) :: pn)) ⟨i, xs, a, cls, d⟩ (.Call (.Name "isinstance" p) [.Name n p1, .Name tn p2] [] pos) true (xIsi tn) := by
  obtain ⟨T, hT1, hT2⟩ := hT
  have pT : PE (X.suite a ((a, oe) :: pn)) (.Name tn p2) (tC (.ref T)) := pe_glob (X := X.suite a ((a, oe) :: pn)) hgt hT1 rfl hdt
  refine ⟨_, pe_callB (X := X.suite a ((a, oe) :: pn)) (call_isX (S := ⟨i, xs, a, cls, d⟩) hz hf) hg hm (by rfl) (pa_cons hp (pa_cons pT pa_nil he2) he) (by decide) (by decide) he hpl, fun F0 H0 ev σ F H x vd dw Q s c he q => ?_⟩
  cases he
  obtain ⟨C, dd, v, h1, h2, h3, h4, h5⟩ := c.ex
  exact ⟨.ref a, c.sl, C, dd, T, v, _, rfl, hI x c.mem C h2, h1, h3, h4, hT2 x c.mem C h2, q _ F H (.refl s.sub) (.bl _) fun _ => .bl _⟩
/-! statements of the suite -/
def SuRun (K : PySem.W.Frag) (mg : Str → Option Value) (S : Sx) (u : Str → D → EV → Option Fl) (t : TS) : Prop :=
  ∀ (F0 H0 : Hp) (ev : EV) (σ : L2.St) (F H : Hp) (x : Str) (vd : D) (E : Ends) (r : Fl), SR K F0 H0 ev σ F H → Cau K mg S σ F H x vd → u x vd ev = some r → Post K mg F0 H0 WF E r → t E σ H
def BSu (Y : Cx) (S : Sx) (sts : List Stmt) (u : Str → D → EV → Option Fl) : Prop := ∃ t, PSs Y sts t ∧ SuRun Y.K Y.mg S u t
variable {st : Stmt} {sts : List Stmt} {u w : Str → D → EV → Option Fl}
theorem bs_of {u : EV → Option Fl} (h : BOk Y WF sts u) : BSu Y S sts (xK u) := by
  obtain ⟨t, p, r⟩ := h
  exact ⟨t, p, fun F0 H0 ev σ F H x vd E r' s _ he q => r F0 H0 ev σ F H E r' s he q⟩
def xRet (f : Str → D → EV → Option D) : Str → D → EV → Option Fl := fun x d ev => (f x d ev).map .rt
theorem bs_ret (h : ESu Y S e true f) : BSu Y S [.Return (some e) pos] (xRet f) := by
  obtain ⟨t, p, r⟩ := h
  refine ⟨_, pss_one (ps_ret p), fun F0 H0 ev σ F H x vd E r' s c he q => ?_⟩
  obtain ⟨d, h1, rfl⟩ := Option.map_eq_some_iff.mp he
  exact r F0 H0 ev σ F H x vd d _ s c h1 fun v F1 H1 x1 _ z1 => q v F1 H1 (s.up x1).ext (z1 rfl)
def xSet (j : Nat) (f : Str → D → EV → Option D) (u : Str → D → EV → Option Fl) : Str → D → EV → Option Fl := fun x d ev => (f x d ev).bind fun y => u x d (ev.set j (.fro y))
theorem bs_set {j : Nat} {y : Str} {pos' : Pos} (hij : (j == S.i) = false) (hN : Y.N.Nodup) (hi : Y.N[j]? = some y) (hx : Loc Y.env.scope y) (h : ESu Y S e true f) (hb : BSu Y S sts u) (hs : swapsWith e (some (.Name y pos')) pos.line Y.env = pure false := by rfl)
    (hf : Y.fn y = true ∨ Y.env.scope.names.lookup y = some .local := by first | exact .inl rfl | exact .inr rfl | assumption) : BSu Y S (.Assign [.Name y pos'] e pos :: sts) (xSet j f u) := by
  obtain ⟨t, p, r⟩ := h
  obtain ⟨t2, p2, r2⟩ := hb
  refine ⟨_, pss_cons (ps_set hN hi hx p hs hf) p2, fun F0 H0 ev σ F H x vd E r' s c he q => ?_⟩
  obtain ⟨d, h1, h2⟩ := Option.bind_eq_some_iff.mp he
  refine r F0 H0 ev σ F H x vd d _ s c h1 fun v F1 H1 x1 _ z1 => ?_
  have c1 := c.up x1
  exact r2 F0 H0 _ _ F1 H1 x vd E r' ((s.up x1).setFro (z1 rfl)) ⟨by rw [set_ne_get (fun z => by rw [z] at hij; simp at hij)]; exact c1.sl, c1.ex, c1.mem⟩ h2 q
end

/-! ### a comprehension over a list, in a suite -/
section
variable {X Y : Cx} {tg iter elt e : Expr} {ifs : List Expr} {scope : Scope} {own : List (Str × Nat)} {pos : Pos} {f g : EV → Option D} {ws : List Nat} {m : D → EV → Option EV} {p : EV → Option Bool} {K : PySem.W.Frag}
theorem irun_list {t : TE} (r : ERun K true f t) : IRun K true (iLst f) (iList K t) := by
  intro F0 H0 ev σ F H ds R s he q
  unfold iLst at he
  split at he
  · rename_i ds' h1
    cases he
    refine r F0 H0 ev σ F H _ _ s h1 fun v F1 H1 x1 r1 z1 => ?_
    obtain ⟨l, vs, rfl, e1, rr⟩ := (z1 rfl).lst_inv
    have s1 := s.up x1
    exact ⟨l, rfl, ⟨_, SqL.of (s1.sub _ _ e1)⟩, q _ F1 H1 x1 (by rw [if_pos rfl]; exact walkD_list e1 rr)⟩
  · cases he
theorem g_tupH {a : Addr} {es : List Expr} {kk n : Nat} {ws : List Nat} {ms : List D → EV → Option EV} (hh : HotI Y a) (hg : GsOk Y es n ws ms)
    (hn : (assignEach es Y.env).length = n := by rfl) (hst : (assignEach es Y.env).findIdx? (·.1) = none := by rfl) : GOk Y (.Tuple es kk pos) ws (mTup ms) := by
  obtain ⟨t, p, r, l⟩ := hg
  refine ⟨_, pg_tupH hh p hn hst, fun F0 H0 ev ev' σ F H v d Q s rd he q => ?_⟩
  unfold mTup at he
  split at he
  · obtain ⟨a, vs, rfl, h1, rr⟩ := rd.tup_inv
    exact ⟨a, vs, rfl, SqT.of (s.sub _ _ h1), by rw [rr.len]; exact l _ _ _ he, r F0 H0 ev ev' σ F H vs _ Q s rr he q⟩
  · cases he
theorem f_lcH {a : Addr} (hh : HotP Y a) (hN : Y.N.Nodup) (hi : EOk Y iter true f) (ok : blkC Y.N Y.env.scope scope own = true)
    (hg : ∀ (s : Shared) (H : Hp) (C : Addr) (cl : List (Str × Addr)) (fp : List Addr), HotI (Y.blk s H scope (compEnvC scope cl C Y.env) fp) a → GOk (Y.blk s H scope (compEnvC scope cl C Y.env) fp) tg ws m)
    (ht : TsOkB Y scope ifs p) (he : EOkB Y scope elt true g) (hw : ∀ i ∈ ws, i ∈ own.map (·.2) := by decide) (hs : ∀ x, foldedSetIterable iter Y.env x = pure x := by intro _; rfl) :
    FOk Y (.ListComp elt [⟨tg, iter, ifs, 0⟩] scope pos) (kComp (iLst f) m p g (own.map (·.2))) := by
  obtain ⟨ti, pi, ri⟩ := hi
  obtain ⟨tt, pt, rt⟩ := ht
  obtain ⟨te, pe, re⟩ := he
  refine ⟨_, pe_lcH (own := own) (g := tG Y.K ws m) hh hN pi (blkOk_by ok) (fun s H C cl fp hb => ?_) pt pe hs, lc_run (irun_list ri) (fun F0 H0 ev ev' σ F H v d Q s r he q => ⟨F0, H0, ev, ev', F, d, s, r, he, q⟩) rt re hw⟩
  obtain ⟨t, p, r⟩ := hg s H C cl fp hb.hot
  exact ⟨fun pins s' σ H' v u Q I rv ⟨F0, H0, ev, ev', F, d, s, rd, he, q⟩ => p.run pins s' σ H' v u Q I rv (r F0 H0 ev ev' σ F H' v d Q s rd he q)⟩
/-- sep.join(a new list of texts) -/
def strsOf : List D → Option (List Str)
  | [] => some []
  | .str x :: ds => (strsOf ds).map (x :: ·)
  | _ :: _ => none
theorem RepL.strs {F : Hp} : ∀ {vs : List V} {ds : List D} {ys : List Str}, RepL K F vs ds → strsOf ds = some ys → vs = ys.map V.str
  | _, _, _, .nil, h => by
    cases h
    rfl
  | _, _, _, .cons (d := d) r rr, h => by
    cases r with
    | str x =>
      obtain ⟨zs, h1, rfl⟩ := Option.map_eq_some_iff.mp h
      rw [RepL.strs rr h1]
      rfl
    | _ => cases h
def cJoin (f : EV → Option D) (g : EV → Option D) : EV → Option D := fun ev => match f ev, g ev with
  | some (.str a), some (.lst ds) => (strsOf ds).bind fun ys => if (ys.map (·.length)).sum + ys.length * a.length ≤ 16777216 then some (.str (Txt.join a ys)) else none
  | _, _ => none
theorem e_join {o : Expr} {fa : Bool} {apos cpos : Pos} (ho : EOk X o fa f) (he : EOk X e true g) (hs : starEach [e] X.env = [(false, eval e X.env)] := by rfl) (hbase : attributeBase o "join" X.env (eval o X.env) = eval o X.env := by rfl) (hline : (apos.endLine == cpos.line) = true := by rfl) :
    EOk X (.Call (.Attribute o "join" apos) [e] [] cpos) true (cJoin f g) := by
  obtain ⟨to, po, ro⟩ := ho
  obtain ⟨te, pe, re⟩ := he
  refine ⟨_, pe_join po pe hs hbase hline, fun F0 H0 ev σ F H d Q s he q => ?_⟩
  unfold cJoin at he
  split at he
  · rename_i a ds h1 h2
    obtain ⟨ys, h3, he⟩ := Option.bind_eq_some_iff.mp he
    obtain ⟨h4, rfl⟩ := of_ite he
    refine ro F0 H0 ev σ F H _ _ s h1 fun v F1 H1 x1 r1 _ => ?_
    cases r1
    refine ⟨⟨a, rfl⟩, re F0 H0 ev σ F1 H1 _ _ (s.up x1) h2 fun v F2 H2 x2 _ z2 => ?_⟩
    obtain ⟨l, vs, rfl, e1, rr⟩ := (z2 rfl).lst_inv
    have s2 := (s.up x1).up x2
    have e2 := rr.strs h3
    subst e2
    exact ⟨a, l, ys, rfl, rfl, .inl (SqL.of (s2.sub _ _ e1)), h4, q _ F2 H2 (x1.trans x2) (.str _) fun _ => .str _⟩
  · cases he
end

/-! ### try -/
section
variable {X : Cx} {x n : Str} {c : Value} {i : Nat} {xs : List Str} {body suite : List Stmt} {b₀ : Stmt} {np pos pos' : Pos} {u : EV → Option Fl} {us : Str → D → EV → Option Fl} {W : WX}
def sTry (i : Nat) (xs : List Str) (u : EV → Option Fl) (us : Str → D → EV → Option Fl) : EV → Option Fl := fun ev => (u ev).bind fun r => match r with
  | .ex e x d => if x ∈ xs ∧ i < e.length then (us x d (e.set i .un)).bind fun r2 => (match r2 with
    | .nx e' => some (.nx (e'.set i .un))
    | .rt d => some (.rt d)
    | .bk e' => some (.bk (e'.set i .un))
    | .ct e' => some (.ct (e'.set i .un))
    | .ex _ _ _ => none) else none
  | r => some r
def tBdy (K : PySem.W.Frag) (mg : Str → Option Value) (u : EV → Option Fl) (W : WX) : TS := fun D σ H => ∃ F0 H0 ev F r, SR K F0 H0 ev σ F H ∧ u ev = some r ∧ Post K mg F0 H0 W D r
def tSu (K : PySem.W.Frag) (mg : Str → Option Value) (i : Nat) (xs : List Str) (us : Str → D → EV → Option Fl) : Addr → Value → Option Addr → TS := fun a cls d D σ H =>
  ∃ F0 H0 ev F x vd r, SR K F0 H0 ev σ F H ∧ Cau K mg ⟨i, xs, a, cls, d⟩ σ F H x vd ∧ us x vd ev = some r ∧ Post K mg F0 H0 WF D r
theorem takes_no {X : Cx} : L2N.Takes X WF := fun u s' ⟨_, _, _, _, _, _, _, _, _, _, _, _, _, _, _, _, w⟩ => w.elim
theorem s_try (hs : X.stack = X.env :: X.outer) (hf : X.env.frame = some X.env.locals) (hN : X.N.Nodup) (hi : X.N[i]? = some n) (hln : X.env.kindOf n = some .local) (hc : Names X x c)
    (hcl : ∀ y ∈ xs, ∀ C, X.mg y = some (.ref C) → PySem.W.exmOne X.K (.ref C) c = some true)
    (hb : ∀ (W : WX) (pn : List (Addr × Obj)) (xe : Value → Shared → Prop), L2N.Takes (X.tr pn xe) W → PassesOwn (model X.prog X.w) X.A X.env xe → BOk (X.tr pn xe) W body u)
    (hsu : ∀ (a : Addr) (oe : Obj) (cls : Value) (d : Option Addr) (pn : List (Addr × Obj)), L2N.Zn cls d oe → (∃ vs, oe.data = .fields vs) → BSu (X.suite a ((a, oe) :: pn)) ⟨i, xs, a, cls, d⟩ (b₀ :: suite) us) :
    SOk X W (.Try body [.ExceptHandler (some (.Name x np)) (some n) (b₀ :: suite) pos'] [] [] pos) (sTry i xs u us) := by
  refine ⟨_, L2N.ps_try_as hs hf hN hi hln hc takes_no (tb := tBdy X.K X.mg u) (ts := tSu X.K X.mg i xs us) (fun W pn xe tk po => ?_) (fun a oe cls d pn hz hf => ?_), fun F0 H0 ev σ F H E r s he q => ?_⟩
  · obtain ⟨t, p, r⟩ := hb W pn xe tk po
    exact ⟨fun pins s σ H D I ⟨F0, H0, ev, F, r', s1, h1, h2⟩ => p.run pins s σ H D I (r F0 H0 ev σ F H D r' s1 h1 h2)⟩
  · obtain ⟨t, p, r⟩ := hsu a oe cls d pn hz hf
    exact ⟨fun pins s σ H D I ⟨F0, H0, ev, F, x, vd, r', s1, c1, h1, h2⟩ => p.run pins s σ H D I (r F0 H0 ev σ F H x vd D r' s1 c1 h1 h2)⟩
  · obtain ⟨r1, g1, g2⟩ := Option.bind_eq_some_iff.mp he
    refine ⟨F0, H0, ev, F, r1, s, g1, ?_⟩
    cases r1 with
    | nx e => cases g2; exact q
    | rt d => cases g2; exact q
    | bk e => cases g2; exact q
    | ct e => cases g2; exact q
    | ex e y d =>
      obtain ⟨hy, g2⟩ := (show (y ∈ xs ∧ i < e.length) ∧ _ = some r by
        by_cases h : y ∈ xs ∧ i < e.length
        · exact ⟨h, by simpa only [if_pos h] using g2⟩
        · simp only [if_neg h] at g2
          cases g2)
      obtain ⟨r2, g3, g4⟩ := Option.bind_eq_some_iff.mp g2
      intro σ1 F1 H1 C dd v s1 hm hd rv
      refine ⟨true, hcl y hy.1 C hm, fun _ a na => ?_, fun z => nomatch z⟩
      refine ⟨F0, H0, e.set i .un, F1, y, d, r2, s1.setUn, ⟨List.getElem?_set_self (by rw [s1.len]; exact hy.2), ⟨C, dd, v, rfl, hm, rfl, hd, rv⟩, hy.1⟩, g3, ?_⟩
      cases r2 with
      | nx e' => cases g4; exact fun σ' F' H' s' => q _ F' H' s'.setUn
      | rt d => cases g4; exact q
      | bk e' => cases g4; exact fun σ' F' H' s' => q _ F' H' s'.setUn
      | ct e' => cases g4; exact fun σ' F' H' s' => q _ F' H' s'.setUn
      | ex e' y' d' => cases g4
end
end Z


set_option maxRecDepth 100000
set_option maxHeartbeats 4000000
/-! X5: what the top says of the exception classes. -/
namespace Z
open PySem PySem.Spec PyProof.Rows L2
/-- x: an exception class of the program whose __init__ is st's text -/
def ExcTx (P : Program) (K : PySem.W.Frag) (mg : Str → Option Value) (x : Str) (st : Stmt) : Prop := ∃ (C D fI : Addr) (fd : FuncData), mg x = some (.ref C) ∧ AtC K D C ∧ PySem.W.findIn K (.ref C) "__init__" = some (some (.ref fI)) ∧
  PySem.W.typeIn K (.ref fI) = some (.type "function") ∧ InitAt P K D fI fd st ∧ Binds K fd ["self", "at"] [] ∧ ExI K C
theorem ExcTx.at {P : Program} {w : World} {K : PySem.W.Frag} {mg : Str → Option Value} {base : Heap} {x : Str} {st : Stmt} (T : InitSt st) (E : ExcTx P K mg x st) : ExcAt P w K mg base x := by
  obtain ⟨C, D, fI, fd, h1, h2, h3, h4, h5, h6, _⟩ := E
  exact ⟨C, D, fI, fd, st, h1, h2, h3, h4, init_ok T h5, h6⟩
theorem ExcTx.exi {P : Program} {K : PySem.W.Frag} {mg : Str → Option Value} {x : Str} {st : Stmt} (E : ExcTx P K mg x st) : ∀ C, mg x = some (.ref C) → ExI K C := by
  obtain ⟨C, D, fI, fd, h1, h2, h3, h4, h5, h6, h7⟩ := E
  intro C' h
  rw [h1] at h
  cases h
  exact h7
theorem exc_mk {P : Program} {K : PySem.W.Frag} {h : Heap} {mg : Str → Option Value} {x : Str} {st : Stmt} (X : K.In h) (G : h.Ns mainGlobals mg)
    {C D fI cc cda N : Addr} {nm q : Str} {bs bm : List Value} {sn : List Str} {sub : List Value} {ab : Bool} {col : Option Bool} {dd : Option Addr} {k0 k1 k2 k3 k5 : Option Value}
    {qual file : Str} {dV kV doc pm ct oc ccl cl : Value} {an od cdd cld : Option Addr} {osl ccs csl : Array (Option Value)} {vs : Array Value} {tf : Tok} {cdD : ClassData}
    (a : PySem.W.nsIn K mainGlobals x = some (some (.ref C)))
    (l : K.lookup C = some (excClassObj nm q C N bs bm true sn sub ab col dd k0 k1 k2 k3 k5 "ValueError.__new__")) (r : PySem.HandSPX.refsVE bm = true)
    (sa : PySem.W.findIn K (.ref C) "__setattr__" = some (some (.builtin "object.__setattr__"))) (sb : PySem.W.subIn K (.ref C) (.type "BaseException") = some true) (ty : PySem.W.typeIn K (.ref C) = some (.type "type"))
    (kp : PySem.W.keepIn K (.ref C) = true) (no : PySem.W.findIn K (.ref C) "at" = some none) (i : PySem.W.findIn K (.ref C) "__init__" = some (some (.ref fI))) (ti : PySem.W.typeIn K (.ref fI) = some (.type "function"))
    (lf : K.lookup fI = some ⟨oc, od, .func (PySem.W.ksFn "__init__" qual (defArgs st) (defBody st) (defScope st) dV kV doc pm an (.ref cda) ct cc), osl⟩) (cd : PySem.W.codeIn K (.ref cda) qual = true)
    (lc : K.lookup cda = some ⟨ccl, cdd, .fields vs, ccs⟩) (hv : vs[2]? = some (.str file tf)) (hfile : ((P.main.file : Str) == file) = true) (lcc : K.lookup cc = some ⟨cl, cld, .cell (some (.ref D)), csl⟩)
    (hD : PySem.W.clsIn K D = some cdD) (hs : PySem.W.nsIn K mainGlobals "super" = some none) (op : PySem.W.nsIn K cStatics "thirdparty.any" = some none) (top : (P.main.scope.names.lookup ("super" : Str)).isSome = false)
    (up : PySem.W.ks_superIn K C D "__init__" = some (some (.builtin "ValueError.__init__"))) (ve : PySem.W.subIn K (.ref C) (.type "ValueError") = some true) (un : PySem.W.mroIn K C (.ref D) = some true)
    (bi : ∀ us : List Value, us.length = 2 → bindArgs (PySem.W.ksFn "__init__" qual (defArgs st) (defBody st) (defScope st) dV kV doc pm an (.ref cda) ct cc) ⟨us, []⟩ = pure ((["self", "at"] : List Str).zip us))
    (ga : PySem.W.findIn K (.ref C) "__getattribute__" = some (some (.builtin "BaseException.__getattribute__"))) (gt : PySem.W.findIn K (.ref C) "__getattr__" = some none)
    (ha : PySem.W.findIn K (.ref C) "__class__" = some (some (.builtin "object.__class__"))) (hn : PySem.W.specialIn K (.builtin "object.__class__") "__get__" = some (some (.builtin "getset_descriptor.__get__")))
    (tk : PySem.W.takesIn K (.builtin "object.__class__") = some true) (hm : PySem.W.mroIn K C (.type "object") = some true) (hd : PySem.W.hasDictIn K C = true) (ic : PySem.W.isClsIn K C = true) : ExcTx P K mg x st :=
  ⟨C, D, fI, _, PySem.W.mg_of X G a, ⟨⟨⟨_, _, _, _, _, _, _, _, _, _, _, _, _, _, _, l, r⟩, sa, sb, ty, kp⟩, no, up, ve, un⟩, i, ti,
    ⟨⟨cc, cda, qual, file, dV, kV, doc, pm, ct, oc, ccl, cl, an, od, cdd, cld, osl, ccs, csl, vs, tf, cdD, rfl, lf, cd, lc, hv, hfile, lcc, hD⟩, hs, op, top⟩, .all bi, ⟨ic, ga, gt, sb, ha, hn, tk, hm, hd, no⟩⟩
/-! what is caught, what is asked -/
def addrOf (K : PySem.W.Frag) (x : Str) : Option Addr := match PySem.W.nsIn K mainGlobals x with
  | some (some (.ref a)) => some a
  | _ => none
theorem addr_of {K : PySem.W.Frag} {h : Heap} {mg : Str → Option Value} {x : Str} {a : Addr} (X : K.In h) (G : h.Ns mainGlobals mg) (e : addrOf K x = some a) : mg x = some (.ref a) := by
  unfold addrOf at e
  split at e
  · rename_i a' ha
    cases e
    exact PySem.W.mg_of X G ha
  · cases e
def isiB (K : PySem.W.Frag) (xs : List Str) (tn : Str) : Bool := match addrOf K tn with
  | some T => xs.all fun x => match addrOf K x with
    | some C => PySem.W.kitOne K (.ref C) (.ref T) == some (decide (x = tn))
    | none => false
  | none => false
theorem isi_mk {K : PySem.W.Frag} {h : Heap} {mg : Str → Option Value} {xs : List Str} {tn : Str} (X : K.In h) (G : h.Ns mainGlobals mg) (e : isiB K xs tn = true) : IsiAt K mg xs tn := by
  unfold isiB at e
  split at e
  · rename_i T hT
    refine ⟨T, addr_of X G hT, fun x hx C hC => ?_⟩
    have := List.all_eq_true.mp e x hx
    split at this
    · rename_i C' hC'
      have := addr_of X G hC'
      rw [hC] at this
      cases this
      exact beq_iff_eq.mp (by assumption)
    · cases this
  · cases e
def CatchAt (K : PySem.W.Frag) (mg : Str → Option Value) (xs : List Str) (cx : Str) : Prop := ∃ N, mg cx = some (.ref N) ∧ ∀ x ∈ xs, ∀ C, mg x = some (.ref C) → PySem.W.exmOne K (.ref C) (.ref N) = some true
def catchB (K : PySem.W.Frag) (xs : List Str) (tn : Str) : Bool := match addrOf K tn with
  | some T => xs.all fun x => match addrOf K x with
    | some C => PySem.W.exmOne K (.ref C) (.ref T) == some true
    | none => false
  | none => false
theorem catch_mk {K : PySem.W.Frag} {h : Heap} {mg : Str → Option Value} {xs : List Str} {tn : Str} (X : K.In h) (G : h.Ns mainGlobals mg) (e : catchB K xs tn = true) : CatchAt K mg xs tn := by
  unfold catchB at e
  split at e
  · rename_i T hT
    refine ⟨T, addr_of X G hT, fun x hx C hC => ?_⟩
    have := List.all_eq_true.mp e x hx
    split at this
    · rename_i C' hC'
      have := addr_of X G hC'
      rw [hC] at this
      cases this
      exact beq_iff_eq.mp (by assumption)
    · cases this
  · cases e
/-- each of several classes -/
def AllExc (P : Program) (K : PySem.W.Frag) (mg : Str → Option Value) (st : Stmt) : List Str → Prop
  | [] => True
  | x :: xs => ExcTx P K mg x st ∧ AllExc P K mg st xs
theorem AllExc.exi {P : Program} {K : PySem.W.Frag} {mg : Str → Option Value} {st : Stmt} : ∀ {xs : List Str}, AllExc P K mg st xs → ∀ x ∈ xs, ∀ C, mg x = some (.ref C) → ExI K C
  | [], _, _, hx, _, _ => nomatch hx
  | y :: xs, h, x, hx, C, hC => by
    rcases List.mem_cons.mp hx with rfl | hx
    · exact h.1.exi C hC
    · exact AllExc.exi h.2 x hx C hC
section
variable {X : Cx} {cx n : Str} {i : Nat} {xs : List Str} {body suite : List Stmt} {b₀ : Stmt} {np pos pos' : Pos} {u : EV → Option Fl} {us : Str → D → EV → Option Fl} {W : WX}
/-- try, of a class of the program -/
theorem s_tryN (T : CatchAt X.K X.mg xs cx) (hg : Gl X cx) (hs : X.stack = X.env :: X.outer) (hf : X.env.frame = some X.env.locals) (hN : X.N.Nodup) (hi : X.N[i]? = some n) (hln : X.env.kindOf n = some .local)
    (hb : ∀ (W : WX) (pn : List (Addr × Obj)) (xe : Value → Shared → Prop), L2N.Takes (X.tr pn xe) W → PassesOwn (model X.prog X.w) X.A X.env xe → BOk (X.tr pn xe) W body u)
    (hsu : ∀ (a : Addr) (oe : Obj) (cls : Value) (d : Option Addr) (pn : List (Addr × Obj)), L2N.Zn cls d oe → (∃ vs, oe.data = .fields vs) → BSu (X.suite a ((a, oe) :: pn)) ⟨i, xs, a, cls, d⟩ (b₀ :: suite) us) (hdb : (cx == ("__debug__" : Str)) = false := by decide) :
    SOk X W (.Try body [.ExceptHandler (some (.Name cx np)) (some n) (b₀ :: suite) pos'] [] [] pos) (sTry i xs u us) := by
  obtain ⟨N, h1, h2⟩ := T
  exact s_try hs hf hN hi hln ⟨hg, hdb, .inl h1⟩ h2 hb hsu
/-- what is handled in a suite -/
theorem hotP {a : Addr} {oe : Obj} {cls : Value} {d : Option Addr} {pn : List (Addr × Obj)} (hz : L2N.Zn cls d oe) (hf : ∃ vs, oe.data = .fields vs) : HotP (X.suite a ((a, oe) :: pn)) a := by
  obtain ⟨vs, hv⟩ := hf
  exact ⟨rfl, oe, vs, List.mem_cons_self, hv, hz.2.2 vs hv⟩
end
/-- a def without parameters, called -/
theorem e_fn0 {X : Cx} {x : Str} {p pos : Pos} {lv j : Nat} {o : List D → Option D} (G : FnAt X.prog X.w X.K X.mg X.base x lv 0 o) (hr : Room j X.A) (hj : lv ≤ j) (hg : Gl X x) (hdb : (x == ("__debug__" : Str)) = false := by decide) : EOk X (.Call (.Name x p) [] [] pos) true (cCB o aNil) := by
  obtain ⟨CX, f, fd, ps, h0, h1, h2, h3, h4⟩ := G.ex
  refine ⟨_, pe_call0 h4 (hr.mono hj) hg h1 h2 h3 .nil (h0 X rfl rfl) hdb, fun F0 H0 ev σ F H d Q s he q => ?_⟩
  obtain ⟨ds, g1, g2⟩ := Option.bind_eq_some_iff.mp he
  cases g1
  exact ⟨rfl, F, [], d, s.sub, .nil, g2, fun v F' H' x r => q v F' H' x (r.mono x.sub) fun _ => r⟩
end Z


set_option maxRecDepth 100000
set_option maxHeartbeats 4000000
namespace K62
open PySem PySem.Spec PyProof.Rows L2 Z
def topS (i : Nat) : Stmt := PySem.Challenge.pw_waysflooded_k62_whole_ways_by_two_costs.main.body.getD i (.Pass ⟨0, 0, 0, 0⟩)
def initS : Stmt := match topS 1 with
  | .ClassDef (body := b) .. => b.getD 0 (.Pass ⟨0, 0, 0, 0⟩)
  | _ => .Pass ⟨0, 0, 0, 0⟩
theorem init_st : InitSt initS := ⟨⟨_, _, _, _, _, _, _, _, _, _, rfl, fun _ => ⟨_, rfl⟩⟩, ⟨_, rfl, rfl⟩, NdefX.nscope_by (by decide +kernel), by decide +kernel, by decide +kernel, by decide +kernel⟩
structure Txt (P : Program) (K : PySem.W.Frag) (mg : Str → Option Value) : Prop where
  d_is_span : DefAt K mg "is_span" "is_span" (topS 14)
  d_hops_of : DefAt K mg "hops_of" "hops_of" (topS 17)
  d_unbeaten : DefAt K mg "unbeaten" "unbeaten" (topS 18)
  d__law_draws : DefAt K mg "_law_draws" "_law_draws" (topS 29)
  d__law_mix : DefAt K mg "_law_mix" "_law_mix" (topS 30)
  d__law_walks : DefAt K mg "_law_walks" "_law_walks" (topS 34)
  d__law_front : DefAt K mg "_law_front" "_law_front" (topS 35)
  d__law_two : DefAt K mg "_law_two" "_law_two" (topS 39)
  d_next_front : DefAt K mg "next_front" "next_front" (topS 19)
  d_walk_by : DefAt K mg "walk_by" "walk_by" (topS 25)
  d__law_net : DefAt K mg "_law_net" "_law_net" (topS 31)
  d__law_minutes : DefAt K mg "_law_minutes" "_law_minutes" (topS 32)
  d__law_cheapest : DefAt K mg "_law_cheapest" "_law_cheapest" (topS 36)
  d_check_links : DefAt K mg "check_links" "check_links" (topS 10)
  d_check_router : DefAt K mg "check_router" "check_router" (topS 15)
  d_find_fronts : DefAt K mg "find_fronts" "find_fronts" (topS 20)
  d__law_doubled : DefAt K mg "_law_doubled" "_law_doubled" (topS 33)
  d_check_net : DefAt K mg "check_net" "check_net" (topS 16)
  d_fronts : DefAt K mg "fronts" "fronts" (topS 21)
  d_are_fronts : DefAt K mg "are_fronts" "are_fronts" (topS 22)
  d_check_ends : DefAt K mg "check_ends" "check_ends" (topS 24)
  d_cheapest : DefAt K mg "cheapest" "cheapest" (topS 26)
  d_limits : DefAt K mg "limits" "limits" (topS 27)
  d__law_error : DefAt K mg "_law_error" "_law_error" (topS 37)
  d__law_faults : DefAt K mg "_law_faults" "_law_faults" (topS 38)
  d_law : DefAt K mg "law" "law" (topS 40)
  c_MOST_COST : IntAt mg "MOST_COST" 1000
  c_MOST_LINKS : IntAt mg "MOST_LINKS" 40
  c_MOST_MINUTES : IntAt mg "MOST_MINUTES" 1000
  c_MOST_PAIRS : IntAt mg "MOST_PAIRS" 300
  c_MOST_ROUTERS : IntAt mg "MOST_ROUTERS" 16
  n_abs : mg "abs" = none
  n_all : mg "all" = none
  n_enumerate : mg "enumerate" = none
  n_int : mg "int" = none
  n_isinstance : mg "isinstance" = none
  n_len : mg "len" = none
  n_max : mg "max" = none
  n_min : mg "min" = none
  n_range : mg "range" = none
  n_repr : mg "repr" = none
  n_set : mg "set" = none
  n_sorted : mg "sorted" = none
  n_tuple : mg "tuple" = none
  x_TooMany : ExcTx P K mg "TooMany" initS
  x_BadRouter : ExcTx P K mg "BadRouter" initS
  x_BadLink : ExcTx P K mg "BadLink" initS
  x_BadRange : ExcTx P K mg "BadRange" initS
  i_BadLink : IsiAt K mg ["TooMany", "BadRouter", "BadLink", "BadRange"] "BadLink"
  i_BadRange : IsiAt K mg ["TooMany", "BadRouter", "BadLink", "BadRange"] "BadRange"
  i_BadRouter : IsiAt K mg ["TooMany", "BadRouter", "BadLink", "BadRange"] "BadRouter"
  i_TooMany : IsiAt K mg ["TooMany", "BadRouter", "BadLink", "BadRange"] "TooMany"
  k_NetError : CatchAt K mg ["TooMany", "BadRouter", "BadLink", "BadRange"] "NetError"
theorem excs {P : Program} {K : PySem.W.Frag} {mg : Str → Option Value} (T : Txt P K mg) : ∀ x ∈ (["TooMany", "BadRouter", "BadLink", "BadRange"] : List Str), ∀ C, mg x = some (.ref C) → ExI K C := AllExc.exi (st := initS) ⟨T.x_TooMany, T.x_BadRouter, T.x_BadLink, T.x_BadRange, trivial⟩
/-! ### is_span -/
abbrev st_is_span : Stmt := topS 14
theorem sc_is_span : FnScope ["told", "one"] ["told"] (defScope st_is_span) := ⟨rfl, rfl, rfl, by decide +kernel, rfl, by decide +kernel, by decide +kernel⟩
noncomputable def is_span_e1 : EV → Option D :=
(cCh (cC (.int 0)) (chLink oLe (cVar 1) (chLast oLe (cC (.int 1000)))))
noncomputable def is_span_s1 : EV → Option Fl :=
(sRet (cAnd (c2 oEq (cCB bLen (aCons (cVar 0) aNil)) (cC (.int 2))) (cCB bAll (aCons (cLst (kComp (iTuple (cVar 0)) (mName 1) (fun _ => some true) is_span_e1 [1])) aNil))))
noncomputable def body_is_span : EV → Option Fl :=
is_span_s1
noncomputable def m_is_span : List D → Option D := runFn 1 1 body_is_span
theorem ok_is_span {P : Program} {w : World} {K : PySem.W.Frag} {mg : Str → Option Value} {base : Heap} (T : Txt P K mg) : FnAt P w K mg base "is_span" 1 1 m_is_span := by
  refine fn_at (N := ["told", "one"]) (ps := ["told"]) T.d_is_span sc_is_span rfl rfl (fun _ _ _ _ _ _ us hl => match us, hl with | [_], _ => rfl) fun f cdv A outer s H E hr => ?_
  exact (b_one (s_ret (e_and (fa := true) (fb := true) (e_cmp (fa := true) (fb := true) (op_eqD hr.units) r_eq (e_cb call_len_seq cr_len (by rfl) T.n_len boot_len (a_cons (fa := true) (fb := true) (e_var (pv 0)) a_nil)) e_int) (e_one (e_cb (cr_all rfl) r_all (by rfl) T.n_all boot_all (a_cons (fa := true) (fb := true) (e_f (f_lc (own := [("one", 1)]) rfl sc_is_span.nd (i_tup (e_var (pv 0))) (by kernel_rfl) (gB fun _ _ _ _ _ => (g_name (pg_name sc_is_span.nd rfl (Or.inl rfl)))) (tsB fun _ _ _ _ _ => ts_nil) (eB fun _ _ _ _ _ => (e_chn e_int (ch_link op_le r_le (e_var (pv 1)) (ch_last op_le r_le (e_gc T.c_MOST_MINUTES (by rfl)))))))) a_nil))))))
/-! ### hops_of -/
abbrev st_hops_of : Stmt := topS 17
theorem sc_hops_of : FnScope ["links", "minutes", "router", "found", "k", "one", "two", "there", "back"] ["links", "minutes", "router"] (defScope st_hops_of) := ⟨rfl, rfl, rfl, by decide +kernel, rfl, by decide +kernel, by decide +kernel⟩
noncomputable def hops_of_s1 : EV → Option Fl :=
(sSetL 3 (lO (kList aNil)))
noncomputable def hops_of_b1 : EV → Option Fl :=
(sSeq (sIf (tOf (c2 oEq (cVar 5) (cVar 2)))
(sApp 3 (cTup (aCons (cTup (aCons (cVar 4) (aCons (cC (.int 0)) aNil))) (aCons (cVar 6) (aCons (cVar 7) (aCons (c2 oIx (c2 oIx (cVar 1) (cVar 4)) (cC (.int 0))) aNil))))))
sNx)
(sIf (tOf (c2 oEq (cVar 6) (cVar 2)))
(sApp 3 (cTup (aCons (cTup (aCons (cVar 4) (aCons (cC (.int 1)) aNil))) (aCons (cVar 5) (aCons (cVar 8) (aCons (c2 oIx (c2 oIx (cVar 1) (cVar 4)) (cC (.int 1))) aNil))))))
sNx))
noncomputable def hops_of_s2 : EV → Option Fl :=
(sFor (iEn (aCons (cVar 0) aNil)) (mTup (mCons (mName 4) (mCons (mTup (mCons (mName 5) (mCons (mName 6) (mCons (mName 7) (mCons (mName 8) mNil))))) mNil)))
hops_of_b1)
noncomputable def hops_of_s3 : EV → Option Fl :=
(sFrz 3 (sRet (cVar 3)))
noncomputable def body_hops_of : EV → Option Fl :=
(sSeq hops_of_s1
(sSeq hops_of_s2
hops_of_s3))
noncomputable def m_hops_of : List D → Option D := runFn 3 6 body_hops_of
theorem ok_hops_of {P : Program} {w : World} {K : PySem.W.Frag} {mg : Str → Option Value} {base : Heap} (T : Txt P K mg) : FnAt P w K mg base "hops_of" 1 3 m_hops_of := by
  refine fn_at (N := ["links", "minutes", "router", "found", "k", "one", "two", "there", "back"]) (ps := ["links", "minutes", "router"]) T.d_hops_of sc_hops_of rfl rfl (fun _ _ _ _ _ _ us hl => match us, hl with | [_, _, _], _ => rfl) fun f cdv A outer s H E hr => ?_
  exact (b_cons (s_set sc_hops_of.nd rfl (Or.inl rfl) (r_f (f_lst a_nil)))
(b_cons (s_for PassesOwn.never rfl (i_enum (by rfl) T.n_enumerate (a_cons (fa := true) (fb := true) (e_var (pv 0)) a_nil)) (g_tup rfl (gs_cons (g_name (pg_name sc_hops_of.nd rfl (Or.inl rfl))) (gs_cons (g_tup rfl (gs_cons (g_name (pg_name sc_hops_of.nd rfl (Or.inl rfl))) (gs_cons (g_name (pg_name sc_hops_of.nd rfl (Or.inl rfl))) (gs_cons (g_name (pg_name sc_hops_of.nd rfl (Or.inl rfl))) (gs_cons (g_name (pg_name sc_hops_of.nd rfl (Or.inl rfl))) gs_nil))))) gs_nil)))
(b_cons (s_if (t_cmp (op_eqD hr.units) r_eq (e_var (pv 5)) (e_var (pv 2)))
(b_one (s_app (pv 3) (e_tup (a_cons (fa := true) (fb := true) (e_tup (a_cons (fa := true) (fb := true) (e_var (pv 4)) (a_cons (fa := true) (fb := true) e_int a_nil))) (a_cons (fa := true) (fb := true) (e_var (pv 6)) (a_cons (fa := true) (fb := true) (e_var (pv 7)) (a_cons (fa := true) (fb := true) (e_ix (fa := true) (fb := true) (e_ix (fa := true) (fb := true) (e_var (pv 1)) (e_var (pv 4))) e_int) a_nil)))))))
b_nil)
(b_one (s_if (t_cmp (op_eqD hr.units) r_eq (e_var (pv 6)) (e_var (pv 2)))
(b_one (s_app (pv 3) (e_tup (a_cons (fa := true) (fb := true) (e_tup (a_cons (fa := true) (fb := true) (e_var (pv 4)) (a_cons (fa := true) (fb := true) e_int a_nil))) (a_cons (fa := true) (fb := true) (e_var (pv 5)) (a_cons (fa := true) (fb := true) (e_var (pv 8)) (a_cons (fa := true) (fb := true) (e_ix (fa := true) (fb := true) (e_ix (fa := true) (fb := true) (e_var (pv 1)) (e_var (pv 4))) e_int) a_nil)))))))
b_nil))))
(b_one (s_frz 3 (s_ret (e_var (pv 3)))))))
/-! ### unbeaten -/
abbrev st_unbeaten : Stmt := topS 18
theorem sc_unbeaten : FnScope ["pairs", "found", "cost", "time"] ["pairs"] (defScope st_unbeaten) := ⟨rfl, rfl, rfl, by decide +kernel, rfl, by decide +kernel, by decide +kernel⟩
noncomputable def unbeaten_s1 : EV → Option Fl :=
(sSetL 1 (lO (kList aNil)))
noncomputable def unbeaten_b1 : EV → Option Fl :=
(sIf (tOrZ (tOf (c2 oEq (cFlat (cCB bLen (aCons (cOwn 1) aNil))) (cC (.int 0)))) (tOf (c2 oLt (cVar 3) (c2 oIx (cIxo 1 (c1 oNeg (cC (.int 1)))) (cC (.int 1))))))
(sApp 1 (cTup (aCons (cVar 2) (aCons (cVar 3) aNil))))
sNx)
noncomputable def unbeaten_s2 : EV → Option Fl :=
(sFor (iLst (cLst (kSS (aCons (cVar 0) aNil)))) (mTup (mCons (mName 2) (mCons (mName 3) mNil)))
unbeaten_b1)
noncomputable def unbeaten_s3 : EV → Option Fl :=
(sFrz 1 (sRet (cVar 1)))
noncomputable def body_unbeaten : EV → Option Fl :=
(sSeq unbeaten_s1
(sSeq unbeaten_s2
unbeaten_s3))
noncomputable def m_unbeaten : List D → Option D := runFn 1 3 body_unbeaten
theorem ok_unbeaten {P : Program} {w : World} {K : PySem.W.Frag} {mg : Str → Option Value} {base : Heap} (T : Txt P K mg) : FnAt P w K mg base "unbeaten" 1 1 m_unbeaten := by
  refine fn_at (N := ["pairs", "found", "cost", "time"]) (ps := ["pairs"]) T.d_unbeaten sc_unbeaten rfl rfl (fun _ _ _ _ _ _ us hl => match us, hl with | [_], _ => rfl) fun f cdv A outer s H E hr => ?_
  exact (b_cons (s_set sc_unbeaten.nd rfl (Or.inl rfl) (r_f (f_lst a_nil)))
(b_cons (s_for PassesOwn.never rfl (i_list (e_f (f_ss rfl (units64 hr) (by rfl) T.n_sorted (by rfl) T.n_set (a_cons (fa := true) (fb := true) (e_var (pv 0)) a_nil)))) (g_tup rfl (gs_cons (g_name (pg_name sc_unbeaten.nd rfl (Or.inl rfl))) (gs_cons (g_name (pg_name sc_unbeaten.nd rfl (Or.inl rfl))) gs_nil)))
(b_one (s_if (t_w (w_or (t_cmp (op_eqD hr.units) r_eq (e_flat (e_cb call_len_seq cr_len (by rfl) T.n_len boot_len (a_cons (fa := false) (fb := true) (e_own (pv 1)) a_nil))) e_int) (w_or1 (t_cmp op_lt r_lt (e_var (pv 3)) (e_ix (fa := true) (fb := true) (e_ixo (pv 1) (e_neg e_int)) e_int)))))
(b_one (s_app (pv 1) (e_tup (a_cons (fa := true) (fb := true) (e_var (pv 2)) (a_cons (fa := true) (fb := true) (e_var (pv 3)) a_nil)))))
b_nil)))
(b_one (s_frz 1 (s_ret (e_var (pv 1)))))))
/-! ### _law_draws -/
abbrev st__law_draws : Stmt := topS 29
theorem sc__law_draws : FnScope ["script", "draws", "k", "rest", "turn", "stirred"] ["script"] (defScope st__law_draws) := ⟨rfl, rfl, rfl, by decide +kernel, rfl, by decide +kernel, by decide +kernel⟩
noncomputable def _law_draws_s1 : EV → Option Fl :=
(sSetL 1 (lO (kList aNil)))
noncomputable def _law_draws_b1 : EV → Option Fl :=
(sIf (tOf (c2 oGt (cVar 3) (cC (.int 0))))
(sSeq (sApp 1 (c2 oMod (cCB bInt (aCons (cVar 3) aNil)) (cC (.int 65536))))
(sSetL 3 (lF (c2 oDiv (cVar 3) (cC (.int 65536))))))
sNx)
noncomputable def _law_draws_b2 : EV → Option Fl :=
(sSeq (sSetL 3 (lF (cCB bAbs (aCons (c2 oIx (cVar 0) (cVar 2)) aNil))))
(sIf (tOf (c2 oGe (cVar 3) (c2 oPow (cC (.int 10)) (cC (.int 18)))))
(sFor (iR1 (aCons (cC (.int 60)) aNil)) (mName 4)
_law_draws_b1)
(sSeq (sSetL 5 (lF (c2 oMod (cCB bInt (aCons (c2 oAdd (c2 oMul (cVar 3) (cC (.int 48271))) (c2 oMul (c2 oAdd (cVar 2) (cC (.int 1))) (cC (.int 69621)))) aNil)) (cC (.int 2147483647)))))
(sSeq (sSetL 5 (lF (c2 oMod (cCB bInt (aCons (c2 oAdd (c2 oAdd (c2 oMul (cVar 5) (cC (.int 16807))) (c2 oMul (cC (.int 11)) (cVar 2))) (cC (.int 5))) aNil)) (cC (.int 2147483629)))))
(sSeq (sApp 1 (c2 oMod (cCB bInt (aCons (cVar 5) aNil)) (cC (.int 65536))))
(sApp 1 (c2 oMod (cCB bInt (aCons (c2 oDiv (cVar 5) (cC (.int 65536))) aNil)) (cC (.int 32768)))))))))
noncomputable def _law_draws_s2 : EV → Option Fl :=
(sFor (iR1 (aCons (cCB bMin (aCons (cC (.int 63)) (aCons (cCB bLen (aCons (cVar 0) aNil)) aNil))) aNil)) (mName 2)
_law_draws_b2)
noncomputable def _law_draws_s3 : EV → Option Fl :=
(sFrz 1 (sRet (cVar 1)))
noncomputable def body__law_draws : EV → Option Fl :=
(sSeq _law_draws_s1
(sSeq _law_draws_s2
_law_draws_s3))
noncomputable def m__law_draws : List D → Option D := runFn 1 5 body__law_draws
theorem ok__law_draws {P : Program} {w : World} {K : PySem.W.Frag} {mg : Str → Option Value} {base : Heap} (T : Txt P K mg) : FnAt P w K mg base "_law_draws" 1 1 m__law_draws := by
  refine fn_at (N := ["script", "draws", "k", "rest", "turn", "stirred"]) (ps := ["script"]) T.d__law_draws sc__law_draws rfl rfl (fun _ _ _ _ _ _ us hl => match us, hl with | [_], _ => rfl) fun f cdv A outer s H E hr => ?_
  exact (b_cons (s_set sc__law_draws.nd rfl (Or.inl rfl) (r_f (f_lst a_nil)))
(b_cons (s_for PassesOwn.never rfl (i_range1 (by rfl) T.n_range (a_cons (fa := true) (fb := true) (e_cb (call_min2 rfl) cr_min2 (by rfl) T.n_min boot_min (a_cons (fa := true) (fb := true) e_int (a_cons (fa := true) (fb := true) (e_cb call_len_seq cr_len (by rfl) T.n_len boot_len (a_cons (fa := true) (fb := true) (e_var (pv 0)) a_nil)) a_nil))) a_nil)) (g_name (pg_name sc__law_draws.nd rfl (Or.inl rfl)))
(b_cons (s_set sc__law_draws.nd rfl (Or.inl rfl) (r_e (e_cb call_abs cr_abs (by rfl) T.n_abs boot_abs (a_cons (fa := true) (fb := true) (e_ix (fa := true) (fb := true) (e_var (pv 0)) (e_var (pv 2))) a_nil))))
(b_one (s_if (t_cmp op_ge r_ge (e_var (pv 3)) (e_op (fa := true) (fb := true) op_pow r_pow e_int e_int))
(b_one (s_for PassesOwn.never rfl (i_range1 (by rfl) T.n_range (a_cons (fa := true) (fb := true) e_int a_nil)) (g_name (pg_name sc__law_draws.nd rfl (Or.inl rfl)))
(b_one (s_if (t_cmp op_gt r_gt (e_var (pv 3)) e_int)
(b_cons (s_app (pv 1) (e_op (fa := true) (fb := true) op_mod r_mod (e_cty call_int1 cr_int (by rfl) T.n_int PyProof.Rows.boot_int (a_cons (fa := true) (fb := true) (e_var (pv 3)) a_nil)) e_int))
(b_one (s_set sc__law_draws.nd rfl (Or.inl rfl) (r_e (e_op (fa := true) (fb := true) op_fdiv r_div (e_var (pv 3)) e_int)))))
b_nil))))
(b_cons (s_set sc__law_draws.nd rfl (Or.inl rfl) (r_e (e_op (fa := true) (fb := true) op_mod r_mod (e_cty call_int1 cr_int (by rfl) T.n_int PyProof.Rows.boot_int (a_cons (fa := true) (fb := true) (e_op (fa := true) (fb := true) op_add r_add (e_op (fa := true) (fb := true) op_mul r_mul (e_var (pv 3)) e_int) (e_op (fa := true) (fb := true) op_mul r_mul (e_op (fa := true) (fb := true) op_add r_add (e_var (pv 2)) e_int) e_int)) a_nil)) e_int)))
(b_cons (s_set sc__law_draws.nd rfl (Or.inl rfl) (r_e (e_op (fa := true) (fb := true) op_mod r_mod (e_cty call_int1 cr_int (by rfl) T.n_int PyProof.Rows.boot_int (a_cons (fa := true) (fb := true) (e_op (fa := true) (fb := true) op_add r_add (e_op (fa := true) (fb := true) op_add r_add (e_op (fa := true) (fb := true) op_mul r_mul (e_var (pv 5)) e_int) (e_op (fa := true) (fb := true) op_mul r_mul e_int (e_var (pv 2)))) e_int) a_nil)) e_int)))
(b_cons (s_app (pv 1) (e_op (fa := true) (fb := true) op_mod r_mod (e_cty call_int1 cr_int (by rfl) T.n_int PyProof.Rows.boot_int (a_cons (fa := true) (fb := true) (e_var (pv 5)) a_nil)) e_int))
(b_one (s_app (pv 1) (e_op (fa := true) (fb := true) op_mod r_mod (e_cty call_int1 cr_int (by rfl) T.n_int PyProof.Rows.boot_int (a_cons (fa := true) (fb := true) (e_op (fa := true) (fb := true) op_fdiv r_div (e_var (pv 5)) e_int) a_nil)) e_int))))))))))
(b_one (s_frz 1 (s_ret (e_var (pv 1)))))))
/-! ### _law_mix -/
abbrev st__law_mix : Stmt := topS 30
theorem sc__law_mix : FnScope ["draws", "k", "many", "cell"] ["draws", "k", "many"] (defScope st__law_mix) := ⟨rfl, rfl, rfl, by decide +kernel, rfl, by decide +kernel, by decide +kernel⟩
noncomputable def _law_mix_s1 : EV → Option Fl :=
(sSetL 3 (lF (cC (.int 0))))
noncomputable def _law_mix_s2 : EV → Option Fl :=
(sIf (tOf (c2 oGt (cCB bLen (aCons (cVar 0) aNil)) (cC (.int 0))))
(sSetL 3 (lF (c2 oIx (cVar 0) (c2 oMod (cCB bInt (aCons (cVar 1) aNil)) (cCB bLen (aCons (cVar 0) aNil))))))
sNx)
noncomputable def _law_mix_s3 : EV → Option Fl :=
(sIf (tOf (c2 oLt (cVar 1) (cCB bLen (aCons (cVar 0) aNil))))
(sRet (c2 oMod (cCB bInt (aCons (cVar 3) aNil)) (cVar 2)))
sNx)
noncomputable def _law_mix_s4 : EV → Option Fl :=
(sRet (c2 oMod (cCB bInt (aCons (c2 oDiv (cCB bInt (aCons (c2 oAdd (c2 oMul (cVar 3) (cC (.int 7919))) (c2 oMul (cVar 1) (cC (.int 104729)))) aNil)) (cC (.int 3))) aNil)) (cVar 2)))
noncomputable def body__law_mix : EV → Option Fl :=
(sSeq _law_mix_s1
(sSeq _law_mix_s2
(sSeq _law_mix_s3
_law_mix_s4)))
noncomputable def m__law_mix : List D → Option D := runFn 3 1 body__law_mix
theorem ok__law_mix {P : Program} {w : World} {K : PySem.W.Frag} {mg : Str → Option Value} {base : Heap} (T : Txt P K mg) : FnAt P w K mg base "_law_mix" 1 3 m__law_mix := by
  refine fn_at (N := ["draws", "k", "many", "cell"]) (ps := ["draws", "k", "many"]) T.d__law_mix sc__law_mix rfl rfl (fun _ _ _ _ _ _ us hl => match us, hl with | [_, _, _], _ => rfl) fun f cdv A outer s H E hr => ?_
  exact (b_cons (s_set sc__law_mix.nd rfl (Or.inl rfl) (r_e e_int))
(b_cons (s_if (t_cmp op_gt r_gt (e_cb call_len_seq cr_len (by rfl) T.n_len boot_len (a_cons (fa := true) (fb := true) (e_var (pv 0)) a_nil)) e_int)
(b_one (s_set sc__law_mix.nd rfl (Or.inl rfl) (r_e (e_ix (fa := true) (fb := true) (e_var (pv 0)) (e_op (fa := true) (fb := true) op_mod r_mod (e_cty call_int1 cr_int (by rfl) T.n_int PyProof.Rows.boot_int (a_cons (fa := true) (fb := true) (e_var (pv 1)) a_nil)) (e_cb call_len_seq cr_len (by rfl) T.n_len boot_len (a_cons (fa := true) (fb := true) (e_var (pv 0)) a_nil)))))))
b_nil)
(b_cons (s_if (t_cmp op_lt r_lt (e_var (pv 1)) (e_cb call_len_seq cr_len (by rfl) T.n_len boot_len (a_cons (fa := true) (fb := true) (e_var (pv 0)) a_nil)))
(b_one (s_ret (e_op (fa := true) (fb := true) op_mod r_mod (e_cty call_int1 cr_int (by rfl) T.n_int PyProof.Rows.boot_int (a_cons (fa := true) (fb := true) (e_var (pv 3)) a_nil)) (e_var (pv 2)))))
b_nil)
(b_one (s_ret (e_op (fa := true) (fb := true) op_mod r_mod (e_cty call_int1 cr_int (by rfl) T.n_int PyProof.Rows.boot_int (a_cons (fa := true) (fb := true) (e_op (fa := true) (fb := true) op_fdiv r_div (e_cty call_int1 cr_int (by rfl) T.n_int PyProof.Rows.boot_int (a_cons (fa := true) (fb := true) (e_op (fa := true) (fb := true) op_add r_add (e_op (fa := true) (fb := true) op_mul r_mul (e_var (pv 3)) e_int) (e_op (fa := true) (fb := true) op_mul r_mul (e_var (pv 1)) e_int)) a_nil)) e_int) a_nil)) (e_var (pv 2))))))))
/-! ### _law_walks -/
abbrev st__law_walks : Stmt := topS 34
theorem sc__law_walks : FnScope ["many", "links", "minutes", "start", "goal", "rows", "found", "step", "more", "hops", "seen", "pair", "k", "end", "there"] ["many", "links", "minutes", "start", "goal"] (defScope st__law_walks) := ⟨rfl, rfl, rfl, by decide +kernel, rfl, by decide +kernel, by decide +kernel⟩
noncomputable def _law_walks_s1 : EV → Option Fl :=
(sPar 5 6 (lF (cLst (kList (aCons (cTup (aCons (cLst (kList aNil)) (aCons (cLst (kList (aCons (cVar 3) aNil))) (aCons (cTup (aCons (cC (.int 0)) (aCons (cC (.int 0)) aNil))) aNil)))) aNil)))) (lO (kList aNil)))
noncomputable def _law_walks_b1 : EV → Option Fl :=
(sIf (tAndZ (tOf (c2 oEq (c2 oIx (c2 oIx (cVar 1) (cVar 12)) (cVar 13)) (c2 oIx (cVar 10) (c1 oNeg (cC (.int 1)))))) (tOf (c2 oNotIn (c2 oIx (c2 oIx (cVar 1) (cVar 12)) (c2 oSub (cC (.int 1)) (cVar 13))) (cVar 10))))
(sSeq (sSetL 14 (lF (cTup (aCons (c2 oAdd (c2 oIx (cVar 11) (cC (.int 0))) (c2 oIx (c2 oIx (cVar 1) (cVar 12)) (c2 oAdd (cC (.int 2)) (cVar 13)))) (aCons (c2 oAdd (c2 oIx (cVar 11) (cC (.int 1))) (c2 oIx (c2 oIx (cVar 2) (cVar 12)) (cVar 13))) aNil)))))
(sApp 8 (cTup (aCons (cLst (kCat (cVar 9) (cLst (kList (aCons (cTup (aCons (cVar 12) (aCons (cVar 13) aNil))) aNil))))) (aCons (cLst (kCat (cVar 10) (cLst (kList (aCons (c2 oIx (c2 oIx (cVar 1) (cVar 12)) (c2 oSub (cC (.int 1)) (cVar 13))) aNil))))) (aCons (cVar 14) aNil))))))
sNx)
noncomputable def _law_walks_b2 : EV → Option Fl :=
(sFor (iR1 (aCons (cC (.int 2)) aNil)) (mName 13)
_law_walks_b1)
noncomputable def _law_walks_b3 : EV → Option Fl :=
(sIf (tOf (c2 oEq (c2 oIx (cVar 10) (c1 oNeg (cC (.int 1)))) (cVar 4)))
(sApp 6 (cTup (aCons (cVar 11) (aCons (cVar 9) aNil))))
(sFor (iR1 (aCons (cCB bLen (aCons (cVar 1) aNil)) aNil)) (mName 12)
_law_walks_b2))
noncomputable def _law_walks_b4 : EV → Option Fl :=
(sSeq (sSetL 8 (lO (kList aNil)))
(sSeq (sFor (iLst (cVar 5)) (mTup (mCons (mName 9) (mCons (mName 10) (mCons (mName 11) mNil))))
_law_walks_b3)
(sFrz 8 (sSetL 5 (lF (cVar 8))))))
noncomputable def _law_walks_s2 : EV → Option Fl :=
(sFor (iR1 (aCons (cVar 0) aNil)) (mName 7)
_law_walks_b4)
noncomputable def _law_walks_s3 : EV → Option Fl :=
(sFrz 6 (sRet (cVar 6)))
noncomputable def body__law_walks : EV → Option Fl :=
(sSeq _law_walks_s1
(sSeq _law_walks_s2
_law_walks_s3))
noncomputable def m__law_walks : List D → Option D := runFn 5 10 body__law_walks
theorem ok__law_walks {P : Program} {w : World} {K : PySem.W.Frag} {mg : Str → Option Value} {base : Heap} (T : Txt P K mg) : FnAt P w K mg base "_law_walks" 1 5 m__law_walks := by
  refine fn_at (N := ["many", "links", "minutes", "start", "goal", "rows", "found", "step", "more", "hops", "seen", "pair", "k", "end", "there"]) (ps := ["many", "links", "minutes", "start", "goal"]) T.d__law_walks sc__law_walks rfl rfl (fun _ _ _ _ _ _ us hl => match us, hl with | [_, _, _, _, _], _ => rfl) fun f cdv A outer s H E hr => ?_
  exact (b_cons (s_par rfl sc__law_walks.nd rfl rfl (by decide) rfl rfl (r_e (e_f (f_lst (a_cons (fa := true) (fb := true) (e_tup (a_cons (fa := true) (fb := true) (e_f (f_lst a_nil)) (a_cons (fa := true) (fb := true) (e_f (f_lst (a_cons (fa := true) (fb := true) (e_var (pv 3)) a_nil))) (a_cons (fa := true) (fb := true) (e_tup (a_cons (fa := true) (fb := true) e_int (a_cons (fa := true) (fb := true) e_int a_nil))) a_nil)))) a_nil)))) (r_f (f_lst a_nil)) (by rfl))
(b_cons (s_for PassesOwn.never rfl (i_range1 (by rfl) T.n_range (a_cons (fa := true) (fb := true) (e_var (pv 0)) a_nil)) (g_name (pg_name sc__law_walks.nd rfl (Or.inl rfl)))
(b_cons (s_set sc__law_walks.nd rfl (Or.inl rfl) (r_f (f_lst a_nil)))
(b_cons (s_for PassesOwn.never rfl (i_list (e_var (pv 5))) (g_tup rfl (gs_cons (g_name (pg_name sc__law_walks.nd rfl (Or.inl rfl))) (gs_cons (g_name (pg_name sc__law_walks.nd rfl (Or.inl rfl))) (gs_cons (g_name (pg_name sc__law_walks.nd rfl (Or.inl rfl))) gs_nil))))
(b_one (s_if (t_cmp (op_eqD hr.units) r_eq (e_ix (fa := true) (fb := true) (e_var (pv 10)) (e_neg e_int)) (e_var (pv 4)))
(b_one (s_app (pv 6) (e_tup (a_cons (fa := true) (fb := true) (e_var (pv 11)) (a_cons (fa := true) (fb := true) (e_var (pv 9)) a_nil)))))
(b_one (s_for PassesOwn.never rfl (i_range1 (by rfl) T.n_range (a_cons (fa := true) (fb := true) (e_cb call_len_seq cr_len (by rfl) T.n_len boot_len (a_cons (fa := true) (fb := true) (e_var (pv 1)) a_nil)) a_nil)) (g_name (pg_name sc__law_walks.nd rfl (Or.inl rfl)))
(b_one (s_for PassesOwn.never rfl (i_range1 (by rfl) T.n_range (a_cons (fa := true) (fb := true) e_int a_nil)) (g_name (pg_name sc__law_walks.nd rfl (Or.inl rfl)))
(b_one (s_if (t_w (w_and (t_cmp (op_eqD hr.units) r_eq (e_ix (fa := true) (fb := true) (e_ix (fa := true) (fb := true) (e_var (pv 1)) (e_var (pv 12))) (e_var (pv 13))) (e_ix (fa := true) (fb := true) (e_var (pv 10)) (e_neg e_int))) (w_and1 (t_cmp (op_notInD (units65 hr)) r_notin (e_ix (fa := true) (fb := true) (e_ix (fa := true) (fb := true) (e_var (pv 1)) (e_var (pv 12))) (e_op (fa := true) (fb := true) op_sub r_sub e_int (e_var (pv 13)))) (e_var (pv 10))))))
(b_cons (s_set sc__law_walks.nd rfl (Or.inl rfl) (r_e (e_tup (a_cons (fa := true) (fb := true) (e_op (fa := true) (fb := true) op_add r_add (e_ix (fa := true) (fb := true) (e_var (pv 11)) e_int) (e_ix (fa := true) (fb := true) (e_ix (fa := true) (fb := true) (e_var (pv 1)) (e_var (pv 12))) (e_op (fa := true) (fb := true) op_add r_add e_int (e_var (pv 13))))) (a_cons (fa := true) (fb := true) (e_op (fa := true) (fb := true) op_add r_add (e_ix (fa := true) (fb := true) (e_var (pv 11)) e_int) (e_ix (fa := true) (fb := true) (e_ix (fa := true) (fb := true) (e_var (pv 2)) (e_var (pv 12))) (e_var (pv 13)))) a_nil)))))
(b_one (s_app (pv 8) (e_tup (a_cons (fa := true) (fb := true) (e_f (f_cat (e_var (pv 9)) (e_f (f_lst (a_cons (fa := true) (fb := true) (e_tup (a_cons (fa := true) (fb := true) (e_var (pv 12)) (a_cons (fa := true) (fb := true) (e_var (pv 13)) a_nil))) a_nil))))) (a_cons (fa := true) (fb := true) (e_f (f_cat (e_var (pv 10)) (e_f (f_lst (a_cons (fa := true) (fb := true) (e_ix (fa := true) (fb := true) (e_ix (fa := true) (fb := true) (e_var (pv 1)) (e_var (pv 12))) (e_op (fa := true) (fb := true) op_sub r_sub e_int (e_var (pv 13)))) a_nil))))) (a_cons (fa := true) (fb := true) (e_var (pv 14)) a_nil)))))))
b_nil)))))))))
(b_one (s_frz 8 (s_set sc__law_walks.nd rfl (Or.inl rfl) (r_e (e_var (pv 8)))))))))
(b_one (s_frz 6 (s_ret (e_var (pv 6)))))))
/-! ### _law_front -/
abbrev st__law_front : Stmt := topS 35
theorem sc__law_front : FnScope ["walks", "pairs", "pair", "hops", "one", "two"] ["walks"] (defScope st__law_front) := ⟨rfl, rfl, rfl, by decide +kernel, rfl, by decide +kernel, by decide +kernel⟩
noncomputable def _law_front_e1 : EV → Option D :=
(cVar 2)
noncomputable def _law_front_s1 : EV → Option Fl :=
(sSetL 1 (lF (cLst (kSS (aCons (cLst (kComp (iLst (cVar 0)) (mTup (mCons (mName 2) (mCons (mName 3) mNil))) (fun _ => some true) _law_front_e1 [2, 3])) aNil)))))
noncomputable def _law_front_e2 : EV → Option D :=
(cVar 5)
noncomputable def _law_front_q1 : EV → Option Bool :=
(tAndZ (tOf (c2 oNe (cVar 5) (cVar 4))) (tAndZ (tOf (c2 oLe (c2 oIx (cVar 5) (cC (.int 0))) (c2 oIx (cVar 4) (cC (.int 0))))) (tOf (c2 oLe (c2 oIx (cVar 5) (cC (.int 1))) (c2 oIx (cVar 4) (cC (.int 1)))))))
noncomputable def _law_front_e3 : EV → Option D :=
(cVar 4)
noncomputable def _law_front_q2 : EV → Option Bool :=
(tOf (c2 oEq (cLst (kComp (iLst (cVar 1)) (mName 5) _law_front_q1 _law_front_e2 [5])) (cLst (kList aNil))))
noncomputable def _law_front_s2 : EV → Option Fl :=
(sRet (cLst (kComp (iLst (cVar 1)) (mName 4) _law_front_q2 _law_front_e3 [4])))
noncomputable def body__law_front : EV → Option Fl :=
(sSeq _law_front_s1
_law_front_s2)
noncomputable def m__law_front : List D → Option D := runFn 1 5 body__law_front
theorem ok__law_front {P : Program} {w : World} {K : PySem.W.Frag} {mg : Str → Option Value} {base : Heap} (T : Txt P K mg) : FnAt P w K mg base "_law_front" 1 1 m__law_front := by
  refine fn_at (N := ["walks", "pairs", "pair", "hops", "one", "two"]) (ps := ["walks"]) T.d__law_front sc__law_front rfl rfl (fun _ _ _ _ _ _ us hl => match us, hl with | [_], _ => rfl) fun f cdv A outer s H E hr => ?_
  exact (b_cons (s_set sc__law_front.nd rfl (Or.inr rfl) (r_e (e_f (f_ss rfl (units64 hr) (by rfl) T.n_sorted (by rfl) T.n_set (a_cons (fa := true) (fb := true) (e_f (f_lc (own := [("pair", 2), ("hops", 3)]) rfl sc__law_front.nd (i_list (e_var (pv 0))) (by kernel_rfl) (gB fun _ _ _ _ _ => (g_tup rfl (gs_cons (g_name (pg_name sc__law_front.nd rfl (Or.inl rfl))) (gs_cons (g_name (pg_name sc__law_front.nd rfl (Or.inl rfl))) gs_nil)))) (tsB fun _ _ _ _ _ => ts_nil) (eB fun _ _ _ _ _ => (e_var (pv 2))))) a_nil)))))
(b_one (s_ret (e_f (f_lc (own := [("one", 4)]) rfl sc__law_front.nd (i_list (e_var (pv 1))) (by kernel_rfl) (gB fun _ _ _ _ _ => (g_name (pg_name sc__law_front.nd rfl (Or.inr rfl)))) (tsB fun _ _ _ _ _ => (ts_one (t_cmp (op_eqD hr.units) r_eq (e_f (f_lc (own := [("two", 5)]) rfl sc__law_front.nd (i_list (e_var (pv 1))) (by kernel_rfl) (gB fun _ _ _ _ _ => (g_name (pg_name sc__law_front.nd rfl (Or.inl rfl)))) (tsB fun _ _ _ _ _ => (ts_one (t_w (w_and (t_cmp (op_neD hr.units) r_ne (e_var (pv 5)) (e_var (pv 4))) (w_and (t_cmp op_le r_le (e_ix (fa := true) (fb := true) (e_var (pv 5)) e_int) (e_ix (fa := true) (fb := true) (e_var (pv 4)) e_int)) (w_and1 (t_cmp op_le r_le (e_ix (fa := true) (fb := true) (e_var (pv 5)) e_int) (e_ix (fa := true) (fb := true) (e_var (pv 4)) e_int)))))))) (eB fun _ _ _ _ _ => (e_var (pv 5))))) (e_f (f_lst a_nil))))) (eB fun _ _ _ _ _ => (e_var (pv 4))))))))
/-! ### _law_two -/
abbrev st__law_two : Stmt := topS 39
theorem sc__law_two : FnScope ["k", "found", "turn"] ["k"] (defScope st__law_two) := ⟨rfl, rfl, rfl, by decide +kernel, rfl, by decide +kernel, by decide +kernel⟩
noncomputable def _law_two_s1 : EV → Option Fl :=
(sSetL 1 (lF (cC (.int 1))))
noncomputable def _law_two_b1 : EV → Option Fl :=
(sSetL 1 (lF (c2 oMul (cVar 1) (cC (.int 2)))))
noncomputable def _law_two_s2 : EV → Option Fl :=
(sFor (iR1 (aCons (cVar 0) aNil)) (mName 2)
_law_two_b1)
noncomputable def _law_two_s3 : EV → Option Fl :=
(sRet (cVar 1))
noncomputable def body__law_two : EV → Option Fl :=
(sSeq _law_two_s1
(sSeq _law_two_s2
_law_two_s3))
noncomputable def m__law_two : List D → Option D := runFn 1 2 body__law_two
theorem ok__law_two {P : Program} {w : World} {K : PySem.W.Frag} {mg : Str → Option Value} {base : Heap} (T : Txt P K mg) : FnAt P w K mg base "_law_two" 1 1 m__law_two := by
  refine fn_at (N := ["k", "found", "turn"]) (ps := ["k"]) T.d__law_two sc__law_two rfl rfl (fun _ _ _ _ _ _ us hl => match us, hl with | [_], _ => rfl) fun f cdv A outer s H E hr => ?_
  exact (b_cons (s_set sc__law_two.nd rfl (Or.inl rfl) (r_e e_int))
(b_cons (s_for PassesOwn.never rfl (i_range1 (by rfl) T.n_range (a_cons (fa := true) (fb := true) (e_var (pv 0)) a_nil)) (g_name (pg_name sc__law_two.nd rfl (Or.inl rfl)))
(b_one (s_set sc__law_two.nd rfl (Or.inl rfl) (r_e (e_op (fa := true) (fb := true) op_mul r_mul (e_var (pv 1)) e_int)))))
(b_one (s_ret (e_var (pv 1))))))
/-! ### next_front -/
abbrev st_next_front : Stmt := topS 19
theorem sc_next_front : FnScope ["links", "minutes", "router", "told", "found", "_", "other", "cost", "time", "more", "late"] ["links", "minutes", "router", "told"] (defScope st_next_front) := ⟨rfl, rfl, rfl, by decide +kernel, rfl, by decide +kernel, by decide +kernel⟩
noncomputable def next_front_s1 : EV → Option Fl :=
(sSetL 4 (lO (kList aNil)))
noncomputable def next_front_e1 : EV → Option D :=
(cTup (aCons (c2 oAdd (cVar 7) (cVar 9)) (aCons (c2 oAdd (cVar 8) (cVar 10)) aNil)))
noncomputable def next_front_b1 : EV → Option Fl :=
(sExt 4 (cLst (kComp (iLst (c2 oIx (cVar 3) (cVar 6))) (mTup (mCons (mName 9) (mCons (mName 10) mNil))) (fun _ => some true) next_front_e1 [9, 10])))
noncomputable def next_front_s2 : EV → Option Fl :=
(sFor (iLst (cCB m_hops_of (aCons (cVar 0) (aCons (cVar 1) (aCons (cVar 2) aNil))))) (mTup (mCons (mName 5) (mCons (mName 6) (mCons (mName 7) (mCons (mName 8) mNil)))))
next_front_b1)
noncomputable def next_front_s3 : EV → Option Fl :=
(sFrz 4 (sRet (cCB m_unbeaten (aCons (cVar 4) aNil))))
noncomputable def body_next_front : EV → Option Fl :=
(sSeq next_front_s1
(sSeq next_front_s2
next_front_s3))
noncomputable def m_next_front : List D → Option D := runFn 4 7 body_next_front
theorem ok_next_front {P : Program} {w : World} {K : PySem.W.Frag} {mg : Str → Option Value} {base : Heap} (T : Txt P K mg) : FnAt P w K mg base "next_front" 2 4 m_next_front := by
  refine fn_at (N := ["links", "minutes", "router", "told", "found", "_", "other", "cost", "time", "more", "late"]) (ps := ["links", "minutes", "router", "told"]) T.d_next_front sc_next_front rfl rfl (fun _ _ _ _ _ _ us hl => match us, hl with | [_, _, _, _], _ => rfl) fun f cdv A outer s H E hr => ?_
  exact (b_cons (s_set sc_next_front.nd rfl (Or.inl rfl) (r_f (f_lst a_nil)))
(b_cons (s_for PassesOwn.never rfl (i_list (e_fn (ok_hops_of T) hr (by decide) (by rfl) (a_cons (fa := true) (fb := true) (e_var (pv 0)) (a_cons (fa := true) (fb := true) (e_var (pv 1)) (a_cons (fa := true) (fb := true) (e_var (pv 2)) a_nil))) rfl (aCons_len (aCons_len (aCons_len (fun _ _ h => aNil_len h)))))) (g_tup rfl (gs_cons (g_name (pg_name sc_next_front.nd rfl (Or.inl rfl))) (gs_cons (g_name (pg_name sc_next_front.nd rfl (Or.inl rfl))) (gs_cons (g_name (pg_name sc_next_front.nd rfl (Or.inr rfl))) (gs_cons (g_name (pg_name sc_next_front.nd rfl (Or.inr rfl))) gs_nil)))))
(b_one (s_ext (pv 4) (e_f (f_lc (own := [("more", 9), ("late", 10)]) rfl sc_next_front.nd (i_list (e_ix (fa := true) (fb := true) (e_var (pv 3)) (e_var (pv 6)))) (by kernel_rfl) (gB fun _ _ _ _ _ => (g_tup rfl (gs_cons (g_name (pg_name sc_next_front.nd rfl (Or.inl rfl))) (gs_cons (g_name (pg_name sc_next_front.nd rfl (Or.inl rfl))) gs_nil)))) (tsB fun _ _ _ _ _ => ts_nil) (eB fun _ _ _ _ _ => (e_tup (a_cons (fa := true) (fb := true) (e_op (fa := true) (fb := true) op_add r_add (e_var (pv 7)) (e_var (pv 9))) (a_cons (fa := true) (fb := true) (e_op (fa := true) (fb := true) op_add r_add (e_var (pv 8)) (e_var (pv 10))) a_nil)))))))))
(b_one (s_frz 4 (s_ret (e_fn (ok_unbeaten T) hr (by decide) (by rfl) (a_cons (fa := true) (fb := true) (e_var (pv 4)) a_nil) rfl (aCons_len (fun _ _ h => aNil_len h))))))))
/-! ### walk_by -/
abbrev st_walk_by : Stmt := topS 25
theorem sc_walk_by : FnScope ["links", "minutes", "told", "start", "goal", "pair", "found", "here", "left", "rows", "hop", "other", "cost", "time"] ["links", "minutes", "told", "start", "goal", "pair"] (defScope st_walk_by) := ⟨rfl, rfl, rfl, by decide +kernel, rfl, by decide +kernel, by decide +kernel⟩
noncomputable def walk_by_s1 : EV → Option Fl :=
(sPar3 6 7 8 (lO (kList aNil)) (lF (cVar 3)) (lF (cVar 5)))
noncomputable def walk_by_b1 : EV → Option Fl :=
(sIf (tOf (c2 oIn (cTup (aCons (c2 oSub (c2 oIx (cVar 8) (cC (.int 0))) (cVar 12)) (aCons (c2 oSub (c2 oIx (cVar 8) (cC (.int 1))) (cVar 13)) aNil))) (c2 oIx (cVar 2) (cVar 11))))
(sApp 9 (cTup (aCons (cVar 10) (aCons (cVar 11) (aCons (cTup (aCons (c2 oSub (c2 oIx (cVar 8) (cC (.int 0))) (cVar 12)) (aCons (c2 oSub (c2 oIx (cVar 8) (cC (.int 1))) (cVar 13)) aNil))) aNil)))))
sNx)
noncomputable def walk_by_b2 : EV → Option Fl :=
(sSeq (sSetL 9 (lO (kList aNil)))
(sSeq (sFor (iLst (cCB m_hops_of (aCons (cVar 0) (aCons (cVar 1) (aCons (cVar 7) aNil))))) (mTup (mCons (mName 10) (mCons (mName 11) (mCons (mName 12) (mCons (mName 13) mNil)))))
walk_by_b1)
(sSeq (sFrz 9 (sAsg (cCB bMinD (aCons (cVar 9) aNil)) (mTup (mCons (mName 10) (mCons (mName 7) (mCons (mName 8) mNil))))))
(sApp 6 (cVar 10)))))
noncomputable def walk_by_t1 : EV → Option Bool :=
(tOf (c2 oNe (cVar 7) (cVar 4)))
noncomputable def walk_by_s2 : EV → Option Fl :=
(sWhile walk_by_t1
walk_by_b2)
noncomputable def walk_by_s3 : EV → Option Fl :=
(sFrz 6 (sRet (cVar 6)))
noncomputable def body_walk_by : EV → Option Fl :=
(sSeq walk_by_s1
(sSeq walk_by_s2
walk_by_s3))
noncomputable def m_walk_by : List D → Option D := runFn 6 8 body_walk_by
theorem ok_walk_by {P : Program} {w : World} {K : PySem.W.Frag} {mg : Str → Option Value} {base : Heap} (T : Txt P K mg) : FnAt P w K mg base "walk_by" 2 6 m_walk_by := by
  refine fn_at (N := ["links", "minutes", "told", "start", "goal", "pair", "found", "here", "left", "rows", "hop", "other", "cost", "time"]) (ps := ["links", "minutes", "told", "start", "goal", "pair"]) T.d_walk_by sc_walk_by rfl rfl (fun _ _ _ _ _ _ us hl => match us, hl with | [_, _, _, _, _, _], _ => rfl) fun f cdv A outer s H E hr => ?_
  exact (b_cons (s_par3 rfl sc_walk_by.nd rfl rfl rfl (by decide) (by decide) (by decide) (r_f (f_lst a_nil)) (r_e (e_var (pv 3))) (r_e (e_var (pv 5))) (fun _ pa => ps_par3 rfl sc_walk_by.nd rfl rfl rfl (by decide) (by decide) (by decide) rfl rfl rfl pa (by rfl)))
(b_cons (s_whl PassesOwn.never (t_cmp (op_neD hr.units) r_ne (e_var (pv 7)) (e_var (pv 4)))
(b_cons (s_set sc_walk_by.nd rfl (Or.inl rfl) (r_f (f_lst a_nil)))
(b_cons (s_for PassesOwn.never rfl (i_list (e_fn (ok_hops_of T) hr (by decide) (by rfl) (a_cons (fa := true) (fb := true) (e_var (pv 0)) (a_cons (fa := true) (fb := true) (e_var (pv 1)) (a_cons (fa := true) (fb := true) (e_var (pv 7)) a_nil))) rfl (aCons_len (aCons_len (aCons_len (fun _ _ h => aNil_len h)))))) (g_tup rfl (gs_cons (g_name (pg_name sc_walk_by.nd rfl (Or.inl rfl))) (gs_cons (g_name (pg_name sc_walk_by.nd rfl (Or.inl rfl))) (gs_cons (g_name (pg_name sc_walk_by.nd rfl (Or.inl rfl))) (gs_cons (g_name (pg_name sc_walk_by.nd rfl (Or.inl rfl))) gs_nil)))))
(b_one (s_if (t_cmp (op_inD (units65 hr)) r_in (e_tup (a_cons (fa := true) (fb := true) (e_op (fa := true) (fb := true) op_sub r_sub (e_ix (fa := true) (fb := true) (e_var (pv 8)) e_int) (e_var (pv 12))) (a_cons (fa := true) (fb := true) (e_op (fa := true) (fb := true) op_sub r_sub (e_ix (fa := true) (fb := true) (e_var (pv 8)) e_int) (e_var (pv 13))) a_nil))) (e_ix (fa := true) (fb := true) (e_var (pv 2)) (e_var (pv 11))))
(b_one (s_app (pv 9) (e_tup (a_cons (fa := true) (fb := true) (e_var (pv 10)) (a_cons (fa := true) (fb := true) (e_var (pv 11)) (a_cons (fa := true) (fb := true) (e_tup (a_cons (fa := true) (fb := true) (e_op (fa := true) (fb := true) op_sub r_sub (e_ix (fa := true) (fb := true) (e_var (pv 8)) e_int) (e_var (pv 12))) (a_cons (fa := true) (fb := true) (e_op (fa := true) (fb := true) op_sub r_sub (e_ix (fa := true) (fb := true) (e_var (pv 8)) e_int) (e_var (pv 13))) a_nil))) a_nil))))))
b_nil)))
(b_cons (s_frz 9 (s_asg (e_cb (cr_minD rfl (units100 hr)) r_minD (by rfl) T.n_min boot_min (a_cons (fa := true) (fb := true) (e_var (pv 9)) a_nil)) (g_tup rfl (gs_cons (g_name (pg_name sc_walk_by.nd rfl (Or.inl rfl))) (gs_cons (g_name (pg_name sc_walk_by.nd rfl (Or.inl rfl))) (gs_cons (g_name (pg_name sc_walk_by.nd rfl (Or.inl rfl))) gs_nil))))))
(b_one (s_app (pv 6) (e_var (pv 10))))))))
(b_one (s_frz 6 (s_ret (e_var (pv 6)))))))
/-! ### _law_net -/
abbrev st__law_net : Stmt := topS 31
theorem sc__law_net : FnScope ["draws", "k", "many", "found", "own", "pair", "t", "one"] ["draws", "k"] (defScope st__law_net) := ⟨rfl, rfl, rfl, by decide +kernel, rfl, by decide +kernel, by decide +kernel⟩
noncomputable def _law_net_s1 : EV → Option Fl :=
(sPar 2 3 (lF (c2 oAdd (cC (.int 2)) (cCB m__law_mix (aCons (cVar 0) (aCons (cVar 1) (aCons (cC (.int 5)) aNil)))))) (lO (kList aNil)))
noncomputable def _law_net_b1 : EV → Option Fl :=
(sSeq (sSetL 5 (lF (c2 oIx (cLst (kList (aCons (cTup (aCons (c2 oSub (cVar 4) (cC (.int 1))) (aCons (cVar 4) aNil))) (aCons (cTup (aCons (cVar 4) (aCons (c2 oSub (cVar 4) (cC (.int 1))) aNil))) aNil)))) (cCB m__law_mix (aCons (cVar 0) (aCons (c2 oAdd (cVar 1) (cVar 4)) (aCons (cC (.int 2)) aNil)))))))
(sApp 3 (cTup (aCons (c2 oIx (cVar 5) (cC (.int 0))) (aCons (c2 oIx (cVar 5) (cC (.int 1))) (aCons (cC (.int 1)) (aCons (cC (.int 1)) aNil)))))))
noncomputable def _law_net_s2 : EV → Option Fl :=
(sFor (iR2 (aCons (cC (.int 1)) (aCons (cVar 2) aNil))) (mName 4)
_law_net_b1)
noncomputable def _law_net_b2 : EV → Option Fl :=
(sSeq (sSetL 7 (lF (cCB m__law_mix (aCons (cVar 0) (aCons (c2 oAdd (c2 oAdd (cVar 1) (cC (.int 21))) (c2 oMul (cC (.int 3)) (cVar 6))) (aCons (cVar 2) aNil))))))
(sApp 3 (cTup (aCons (cVar 7) (aCons (c2 oMod (cCB bInt (aCons (c2 oAdd (c2 oAdd (cVar 7) (cC (.int 1))) (cCB m__law_mix (aCons (cVar 0) (aCons (c2 oAdd (c2 oAdd (cVar 1) (cC (.int 22))) (c2 oMul (cC (.int 3)) (cVar 6))) (aCons (c2 oSub (cVar 2) (cC (.int 1))) aNil))))) aNil)) (cVar 2)) (aCons (cC (.int 1)) (aCons (cC (.int 1)) aNil)))))))
noncomputable def _law_net_s3 : EV → Option Fl :=
(sFor (iR1 (aCons (cCB m__law_mix (aCons (cVar 0) (aCons (c2 oAdd (cVar 1) (cC (.int 20))) (aCons (cC (.int 4)) aNil)))) aNil)) (mName 6)
_law_net_b2)
noncomputable def _law_net_s4 : EV → Option Fl :=
(sFrz 3 (sRet (cTup (aCons (cVar 2) (aCons (cVar 3) aNil)))))
noncomputable def body__law_net : EV → Option Fl :=
(sSeq _law_net_s1
(sSeq _law_net_s2
(sSeq _law_net_s3
_law_net_s4)))
noncomputable def m__law_net : List D → Option D := runFn 2 6 body__law_net
theorem ok__law_net {P : Program} {w : World} {K : PySem.W.Frag} {mg : Str → Option Value} {base : Heap} (T : Txt P K mg) : FnAt P w K mg base "_law_net" 2 2 m__law_net := by
  refine fn_at (N := ["draws", "k", "many", "found", "own", "pair", "t", "one"]) (ps := ["draws", "k"]) T.d__law_net sc__law_net rfl rfl (fun _ _ _ _ _ _ us hl => match us, hl with | [_, _], _ => rfl) fun f cdv A outer s H E hr => ?_
  exact (b_cons (s_par rfl sc__law_net.nd rfl rfl (by decide) rfl rfl (r_e (e_op (fa := true) (fb := true) op_add r_add e_int (e_fn (ok__law_mix T) hr (by decide) (by rfl) (a_cons (fa := true) (fb := true) (e_var (pv 0)) (a_cons (fa := true) (fb := true) (e_var (pv 1)) (a_cons (fa := true) (fb := true) e_int a_nil))) rfl (aCons_len (aCons_len (aCons_len (fun _ _ h => aNil_len h))))))) (r_f (f_lst a_nil)) (by rfl))
(b_cons (s_for PassesOwn.never rfl (i_range2 (by rfl) T.n_range (a_cons (fa := true) (fb := true) e_int (a_cons (fa := true) (fb := true) (e_var (pv 2)) a_nil))) (g_name (pg_name sc__law_net.nd rfl (Or.inl rfl)))
(b_cons (s_set sc__law_net.nd rfl (Or.inl rfl) (r_e (e_ix (fa := true) (fb := true) (e_f (f_lst (a_cons (fa := true) (fb := true) (e_tup (a_cons (fa := true) (fb := true) (e_op (fa := true) (fb := true) op_sub r_sub (e_var (pv 4)) e_int) (a_cons (fa := true) (fb := true) (e_var (pv 4)) a_nil))) (a_cons (fa := true) (fb := true) (e_tup (a_cons (fa := true) (fb := true) (e_var (pv 4)) (a_cons (fa := true) (fb := true) (e_op (fa := true) (fb := true) op_sub r_sub (e_var (pv 4)) e_int) a_nil))) a_nil)))) (e_fn (ok__law_mix T) hr (by decide) (by rfl) (a_cons (fa := true) (fb := true) (e_var (pv 0)) (a_cons (fa := true) (fb := true) (e_op (fa := true) (fb := true) op_add r_add (e_var (pv 1)) (e_var (pv 4))) (a_cons (fa := true) (fb := true) e_int a_nil))) rfl (aCons_len (aCons_len (aCons_len (fun _ _ h => aNil_len h))))))))
(b_one (s_app (pv 3) (e_tup (a_cons (fa := true) (fb := true) (e_ix (fa := true) (fb := true) (e_var (pv 5)) e_int) (a_cons (fa := true) (fb := true) (e_ix (fa := true) (fb := true) (e_var (pv 5)) e_int) (a_cons (fa := true) (fb := true) e_int (a_cons (fa := true) (fb := true) e_int a_nil)))))))))
(b_cons (s_for PassesOwn.never rfl (i_range1 (by rfl) T.n_range (a_cons (fa := true) (fb := true) (e_fn (ok__law_mix T) hr (by decide) (by rfl) (a_cons (fa := true) (fb := true) (e_var (pv 0)) (a_cons (fa := true) (fb := true) (e_op (fa := true) (fb := true) op_add r_add (e_var (pv 1)) e_int) (a_cons (fa := true) (fb := true) e_int a_nil))) rfl (aCons_len (aCons_len (aCons_len (fun _ _ h => aNil_len h))))) a_nil)) (g_name (pg_name sc__law_net.nd rfl (Or.inl rfl)))
(b_cons (s_set sc__law_net.nd rfl (Or.inl rfl) (r_e (e_fn (ok__law_mix T) hr (by decide) (by rfl) (a_cons (fa := true) (fb := true) (e_var (pv 0)) (a_cons (fa := true) (fb := true) (e_op (fa := true) (fb := true) op_add r_add (e_op (fa := true) (fb := true) op_add r_add (e_var (pv 1)) e_int) (e_op (fa := true) (fb := true) op_mul r_mul e_int (e_var (pv 6)))) (a_cons (fa := true) (fb := true) (e_var (pv 2)) a_nil))) rfl (aCons_len (aCons_len (aCons_len (fun _ _ h => aNil_len h)))))))
(b_one (s_app (pv 3) (e_tup (a_cons (fa := true) (fb := true) (e_var (pv 7)) (a_cons (fa := true) (fb := true) (e_op (fa := true) (fb := true) op_mod r_mod (e_cty call_int1 cr_int (by rfl) T.n_int PyProof.Rows.boot_int (a_cons (fa := true) (fb := true) (e_op (fa := true) (fb := true) op_add r_add (e_op (fa := true) (fb := true) op_add r_add (e_var (pv 7)) e_int) (e_fn (ok__law_mix T) hr (by decide) (by rfl) (a_cons (fa := true) (fb := true) (e_var (pv 0)) (a_cons (fa := true) (fb := true) (e_op (fa := true) (fb := true) op_add r_add (e_op (fa := true) (fb := true) op_add r_add (e_var (pv 1)) e_int) (e_op (fa := true) (fb := true) op_mul r_mul e_int (e_var (pv 6)))) (a_cons (fa := true) (fb := true) (e_op (fa := true) (fb := true) op_sub r_sub (e_var (pv 2)) e_int) a_nil))) rfl (aCons_len (aCons_len (aCons_len (fun _ _ h => aNil_len h)))))) a_nil)) (e_var (pv 2))) (a_cons (fa := true) (fb := true) e_int (a_cons (fa := true) (fb := true) e_int a_nil)))))))))
(b_one (s_frz 3 (s_ret (e_tup (a_cons (fa := true) (fb := true) (e_var (pv 2)) (a_cons (fa := true) (fb := true) (e_var (pv 3)) a_nil)))))))))
/-! ### _law_minutes -/
abbrev st__law_minutes : Stmt := topS 32
theorem sc__law_minutes : FnScope ["draws", "k", "links", "found", "plan", "t", "far", "row", "end"] ["draws", "k", "links"] (defScope st__law_minutes) := ⟨rfl, rfl, rfl, by decide +kernel, rfl, by decide +kernel, by decide +kernel⟩
noncomputable def _law_minutes_s1 : EV → Option Fl :=
(sPar 3 4 (lO (kList aNil)) (lF (cCB m__law_mix (aCons (cVar 0) (aCons (cVar 1) (aCons (cC (.int 2)) aNil))))))
noncomputable def _law_minutes_e1 : EV → Option D :=
(c2 oAdd (cCB bMax (aCons (cC (.int 0)) (aCons (c2 oSub (cC (.int 40)) (c2 oMul (cC (.int 4)) (c2 oIx (c2 oIx (cVar 2) (cVar 5)) (c2 oAdd (cC (.int 2)) (cVar 8))))) aNil))) (c2 oMul (c2 oIx (cVar 7) (cVar 8)) (cCB bInt (aCons (c2 oLt (cVar 6) (cC (.int 13))) aNil))))
noncomputable def _law_minutes_b1 : EV → Option Fl :=
(sSeq (sSetL 6 (lF (c2 oIx (cLst (kList (aCons (cC (.int 3)) (aCons (cC (.int 12)) (aCons (cC (.int 1001)) aNil))))) (cCB m__law_mix (aCons (cVar 0) (aCons (c2 oAdd (cVar 1) (cC (.int 1))) (aCons (cC (.int 3)) aNil)))))))
(sSeq (sSetL 7 (lF (cLst (kList (aCons (cCB m__law_mix (aCons (cVar 0) (aCons (c2 oAdd (c2 oAdd (cVar 1) (cC (.int 2))) (c2 oMul (cC (.int 2)) (cVar 5))) (aCons (cVar 6) aNil)))) (aCons (c2 oIx (cLst (kList (aCons (cCB m__law_mix (aCons (cVar 0) (aCons (c2 oAdd (c2 oAdd (cVar 1) (cC (.int 3))) (c2 oMul (cC (.int 2)) (cVar 5))) (aCons (cVar 6) aNil)))) (aCons (cC (.int 0)) aNil)))) (cCB bInt (aCons (c2 oEq (cCB m__law_mix (aCons (cVar 0) (aCons (c2 oAdd (c2 oAdd (cVar 1) (cC (.int 60))) (cVar 5)) (aCons (cC (.int 6)) aNil)))) (cC (.int 0))) aNil))) aNil))))))
(sSeq (sIf (tOf (c2 oEq (cVar 4) (cC (.int 1))))
(sSetL 7 (lF (cLst (kComp (iR1 (aCons (cC (.int 2)) aNil)) (mName 8) (fun _ => some true) _law_minutes_e1 [8]))))
sNx)
(sApp 3 (cCB bTuple (aCons (cVar 7) aNil))))))
noncomputable def _law_minutes_s2 : EV → Option Fl :=
(sFor (iR1 (aCons (cCB bLen (aCons (cVar 2) aNil)) aNil)) (mName 5)
_law_minutes_b1)
noncomputable def _law_minutes_s3 : EV → Option Fl :=
(sFrz 3 (sRet (cVar 3)))
noncomputable def body__law_minutes : EV → Option Fl :=
(sSeq _law_minutes_s1
(sSeq _law_minutes_s2
_law_minutes_s3))
noncomputable def m__law_minutes : List D → Option D := runFn 3 6 body__law_minutes
theorem ok__law_minutes {P : Program} {w : World} {K : PySem.W.Frag} {mg : Str → Option Value} {base : Heap} (T : Txt P K mg) : FnAt P w K mg base "_law_minutes" 2 3 m__law_minutes := by
  refine fn_at (N := ["draws", "k", "links", "found", "plan", "t", "far", "row", "end"]) (ps := ["draws", "k", "links"]) T.d__law_minutes sc__law_minutes rfl rfl (fun _ _ _ _ _ _ us hl => match us, hl with | [_, _, _], _ => rfl) fun f cdv A outer s H E hr => ?_
  exact (b_cons (s_par rfl sc__law_minutes.nd rfl rfl (by decide) rfl rfl (r_f (f_lst a_nil)) (r_e (e_fn (ok__law_mix T) hr (by decide) (by rfl) (a_cons (fa := true) (fb := true) (e_var (pv 0)) (a_cons (fa := true) (fb := true) (e_var (pv 1)) (a_cons (fa := true) (fb := true) e_int a_nil))) rfl (aCons_len (aCons_len (aCons_len (fun _ _ h => aNil_len h)))))) (by rfl))
(b_cons (s_for PassesOwn.never rfl (i_range1 (by rfl) T.n_range (a_cons (fa := true) (fb := true) (e_cb call_len_seq cr_len (by rfl) T.n_len boot_len (a_cons (fa := true) (fb := true) (e_var (pv 2)) a_nil)) a_nil)) (g_name (pg_name sc__law_minutes.nd rfl (Or.inr rfl)))
(b_cons (s_set sc__law_minutes.nd rfl (Or.inr rfl) (r_e (e_ix (fa := true) (fb := true) (e_f (f_lst (a_cons (fa := true) (fb := true) e_int (a_cons (fa := true) (fb := true) e_int (a_cons (fa := true) (fb := true) e_int a_nil))))) (e_fn (ok__law_mix T) hr (by decide) (by rfl) (a_cons (fa := true) (fb := true) (e_var (pv 0)) (a_cons (fa := true) (fb := true) (e_op (fa := true) (fb := true) op_add r_add (e_var (pv 1)) e_int) (a_cons (fa := true) (fb := true) e_int a_nil))) rfl (aCons_len (aCons_len (aCons_len (fun _ _ h => aNil_len h))))))))
(b_cons (s_set sc__law_minutes.nd rfl (Or.inr rfl) (r_e (e_f (f_lst (a_cons (fa := true) (fb := true) (e_fn (ok__law_mix T) hr (by decide) (by rfl) (a_cons (fa := true) (fb := true) (e_var (pv 0)) (a_cons (fa := true) (fb := true) (e_op (fa := true) (fb := true) op_add r_add (e_op (fa := true) (fb := true) op_add r_add (e_var (pv 1)) e_int) (e_op (fa := true) (fb := true) op_mul r_mul e_int (e_var (pv 5)))) (a_cons (fa := true) (fb := true) (e_var (pv 6)) a_nil))) rfl (aCons_len (aCons_len (aCons_len (fun _ _ h => aNil_len h))))) (a_cons (fa := true) (fb := true) (e_ix (fa := true) (fb := true) (e_f (f_lst (a_cons (fa := true) (fb := true) (e_fn (ok__law_mix T) hr (by decide) (by rfl) (a_cons (fa := true) (fb := true) (e_var (pv 0)) (a_cons (fa := true) (fb := true) (e_op (fa := true) (fb := true) op_add r_add (e_op (fa := true) (fb := true) op_add r_add (e_var (pv 1)) e_int) (e_op (fa := true) (fb := true) op_mul r_mul e_int (e_var (pv 5)))) (a_cons (fa := true) (fb := true) (e_var (pv 6)) a_nil))) rfl (aCons_len (aCons_len (aCons_len (fun _ _ h => aNil_len h))))) (a_cons (fa := true) (fb := true) e_int a_nil)))) (e_cty call_int1 cr_int (by rfl) T.n_int PyProof.Rows.boot_int (a_cons (fa := true) (fb := true) (e_cmp (fa := true) (fb := true) (op_eqD hr.units) r_eq (e_fn (ok__law_mix T) hr (by decide) (by rfl) (a_cons (fa := true) (fb := true) (e_var (pv 0)) (a_cons (fa := true) (fb := true) (e_op (fa := true) (fb := true) op_add r_add (e_op (fa := true) (fb := true) op_add r_add (e_var (pv 1)) e_int) (e_var (pv 5))) (a_cons (fa := true) (fb := true) e_int a_nil))) rfl (aCons_len (aCons_len (aCons_len (fun _ _ h => aNil_len h))))) e_int) a_nil))) a_nil))))))
(b_cons (s_if (t_cmp (op_eqD hr.units) r_eq (e_var (pv 4)) e_int)
(b_one (s_set sc__law_minutes.nd rfl (Or.inr rfl) (r_e (e_f (f_lc (own := [("end", 8)]) rfl sc__law_minutes.nd (i_range1 (by rfl) T.n_range (a_cons (fa := true) (fb := true) e_int a_nil)) (by kernel_rfl) (gB fun _ _ _ _ _ => (g_name (pg_name sc__law_minutes.nd rfl (Or.inl rfl)))) (tsB fun _ _ _ _ _ => ts_nil) (eB fun _ _ _ _ _ => (e_op (fa := true) (fb := true) op_add r_add (e_cb (call_max2 rfl) cr_max2 (by rfl) T.n_max boot_max (a_cons (fa := true) (fb := true) e_int (a_cons (fa := true) (fb := true) (e_op (fa := true) (fb := true) op_sub r_sub e_int (e_op (fa := true) (fb := true) op_mul r_mul e_int (e_ix (fa := true) (fb := true) (e_ix (fa := true) (fb := true) (e_var (pv 2)) (e_var (pv 5))) (e_op (fa := true) (fb := true) op_add r_add e_int (e_var (pv 8)))))) a_nil))) (e_op (fa := true) (fb := true) op_mul r_mul (e_ix (fa := true) (fb := true) (e_var (pv 7)) (e_var (pv 8))) (e_cty call_int1 cr_int (by rfl) T.n_int PyProof.Rows.boot_int (a_cons (fa := true) (fb := true) (e_cmp (fa := true) (fb := true) op_lt r_lt (e_var (pv 6)) e_int) a_nil))))))))))
b_nil)
(b_one (s_app (pv 3) (e_cty call_tuple_of r_tuple (by rfl) T.n_tuple (by first | rfl | kernel_rfl) (a_cons (fa := true) (fb := true) (e_var (pv 7)) a_nil))))))))
(b_one (s_frz 3 (s_ret (e_var (pv 3)))))))
/-! ### _law_cheapest -/
abbrev st__law_cheapest : Stmt := topS 36
theorem sc__law_cheapest : FnScope ["walks", "limit", "good", "pair", "hops"] ["walks", "limit"] (defScope st__law_cheapest) := ⟨rfl, rfl, rfl, by decide +kernel, rfl, by decide +kernel, by decide +kernel⟩
noncomputable def _law_cheapest_e1 : EV → Option D :=
(cVar 3)
noncomputable def _law_cheapest_q1 : EV → Option Bool :=
(tOf (c2 oLe (c2 oIx (cVar 3) (cC (.int 1))) (cVar 1)))
noncomputable def _law_cheapest_s1 : EV → Option Fl :=
(sSetL 2 (lF (cLst (kComp (iLst (cCB m__law_front (aCons (cVar 0) aNil))) (mName 3) _law_cheapest_q1 _law_cheapest_e1 [3]))))
noncomputable def _law_cheapest_s2 : EV → Option Fl :=
(sIf (tOf (c2 oEq (cVar 2) (cLst (kList aNil))))
(sRet (cC .non))
sNx)
noncomputable def _law_cheapest_e2 : EV → Option D :=
(cVar 4)
noncomputable def _law_cheapest_q2 : EV → Option Bool :=
(tOf (c2 oEq (cVar 3) (c2 oIx (cVar 2) (cC (.int 0)))))
noncomputable def _law_cheapest_s3 : EV → Option Fl :=
(sRet (cTup (aCons (c2 oIx (cVar 2) (cC (.int 0))) (aCons (cCB bMinD (aCons (cLst (kComp (iLst (cVar 0)) (mTup (mCons (mName 3) (mCons (mName 4) mNil))) _law_cheapest_q2 _law_cheapest_e2 [3, 4])) aNil)) aNil))))
noncomputable def body__law_cheapest : EV → Option Fl :=
(sSeq _law_cheapest_s1
(sSeq _law_cheapest_s2
_law_cheapest_s3))
noncomputable def m__law_cheapest : List D → Option D := runFn 2 3 body__law_cheapest
theorem ok__law_cheapest {P : Program} {w : World} {K : PySem.W.Frag} {mg : Str → Option Value} {base : Heap} (T : Txt P K mg) : FnAt P w K mg base "_law_cheapest" 2 2 m__law_cheapest := by
  refine fn_at (N := ["walks", "limit", "good", "pair", "hops"]) (ps := ["walks", "limit"]) T.d__law_cheapest sc__law_cheapest rfl rfl (fun _ _ _ _ _ _ us hl => match us, hl with | [_, _], _ => rfl) fun f cdv A outer s H E hr => ?_
  exact (b_cons (s_set sc__law_cheapest.nd rfl (Or.inr rfl) (r_e (e_f (f_lc (own := [("pair", 3)]) rfl sc__law_cheapest.nd (i_list (e_fn (ok__law_front T) hr (by decide) (by rfl) (a_cons (fa := true) (fb := true) (e_var (pv 0)) a_nil) rfl (aCons_len (fun _ _ h => aNil_len h)))) (by kernel_rfl) (gB fun _ _ _ _ _ => (g_name (pg_name sc__law_cheapest.nd rfl (Or.inl rfl)))) (tsB fun _ _ _ _ _ => (ts_one (t_cmp op_le r_le (e_ix (fa := true) (fb := true) (e_var (pv 3)) e_int) (e_var (pv 1))))) (eB fun _ _ _ _ _ => (e_var (pv 3)))))))
(b_cons (s_if (t_cmp (op_eqD hr.units) r_eq (e_var (pv 2)) (e_f (f_lst a_nil)))
(b_one (s_ret e_non))
b_nil)
(b_one (s_ret (e_tup (a_cons (fa := true) (fb := true) (e_ix (fa := true) (fb := true) (e_var (pv 2)) e_int) (a_cons (fa := true) (fb := true) (e_cb (cr_minD rfl (units100 hr)) r_minD (by rfl) T.n_min boot_min (a_cons (fa := true) (fb := true) (e_f (f_lc (own := [("pair", 3), ("hops", 4)]) rfl sc__law_cheapest.nd (i_list (e_var (pv 0))) (by kernel_rfl) (gB fun _ _ _ _ _ => (g_tup rfl (gs_cons (g_name (pg_name sc__law_cheapest.nd rfl (Or.inl rfl))) (gs_cons (g_name (pg_name sc__law_cheapest.nd rfl (Or.inl rfl))) gs_nil)))) (tsB fun _ _ _ _ _ => (ts_one (t_cmp (op_eqD hr.units) r_eq (e_var (pv 3)) (e_ix (fa := true) (fb := true) (e_var (pv 2)) e_int)))) (eB fun _ _ _ _ _ => (e_var (pv 4))))) a_nil)) a_nil)))))))
/-! ### check_links -/
abbrev st_check_links : Stmt := topS 10
theorem sc_check_links : FnScope ["routers", "links", "k", "one", "two", "there", "back"] ["routers", "links"] (defScope st_check_links) := ⟨rfl, rfl, rfl, by decide +kernel, rfl, by decide +kernel, by decide +kernel⟩
noncomputable def check_links_b1 : EV → Option Fl :=
(sSeq (sIf (tOrZ (tOf (c2 oGe (cVar 2) (cC (.int 40)))) (tOrZ (tNotZ (tOf (cCh (cC (.int 0)) (chLink oLe (cVar 3) (chLast oLt (cVar 0)))))) (tOrZ (tNotZ (tOf (cCh (cC (.int 0)) (chLink oLe (cVar 4) (chLast oLt (cVar 0)))))) (tOf (c2 oEq (cVar 3) (cVar 4))))))
(sRaise "BadLink" (cVar 2))
sNx)
(sIf (tOrZ (tNotZ (tOf (cCh (cC (.int 1)) (chLink oLe (cVar 5) (chLast oLe (cC (.int 1000))))))) (tNotZ (tOf (cCh (cC (.int 1)) (chLink oLe (cVar 6) (chLast oLe (cC (.int 1000))))))))
(sRaise "BadLink" (cVar 2))
sNx))
noncomputable def check_links_s1 : EV → Option Fl :=
(sFor (iEn (aCons (cVar 1) aNil)) (mTup (mCons (mName 2) (mCons (mTup (mCons (mName 3) (mCons (mName 4) (mCons (mName 5) (mCons (mName 6) mNil))))) mNil)))
check_links_b1)
noncomputable def body_check_links : EV → Option Fl :=
check_links_s1
noncomputable def mx_check_links : List D → Option Rx := runFnX 2 5 body_check_links
noncomputable def m_check_links : List D → Option D := okx mx_check_links
theorem okx_check_links {P : Program} {w : World} {K : PySem.W.Frag} {mg : Str → Option Value} {base : Heap} (T : Txt P K mg) : FnAtX P w K mg base "check_links" 3 2 mx_check_links := by
  refine fn_atX (N := ["routers", "links", "k", "one", "two", "there", "back"]) (ps := ["routers", "links"]) T.d_check_links sc_check_links rfl rfl (fun _ _ _ _ _ _ us hl => match us, hl with | [_, _], _ => rfl) fun f cdv A outer s H E hr => ?_
  exact (b_one (s_for (passes_of rfl) rfl (i_enum (by rfl) T.n_enumerate (a_cons (fa := true) (fb := true) (e_var (pv 1)) a_nil)) (g_tup rfl (gs_cons (g_name (pg_name sc_check_links.nd rfl (Or.inl rfl))) (gs_cons (g_tup rfl (gs_cons (g_name (pg_name sc_check_links.nd rfl (Or.inl rfl))) (gs_cons (g_name (pg_name sc_check_links.nd rfl (Or.inl rfl))) (gs_cons (g_name (pg_name sc_check_links.nd rfl (Or.inl rfl))) (gs_cons (g_name (pg_name sc_check_links.nd rfl (Or.inl rfl))) gs_nil))))) gs_nil)))
(b_cons (s_if (t_w (w_or (t_cmp op_ge r_ge (e_var (pv 2)) (e_gc T.c_MOST_LINKS (by rfl))) (w_or (t_not (t_chn e_int (th_link op_le r_le (e_var (pv 3)) (th_last op_lt r_lt (e_var (pv 0)))))) (w_or (t_not (t_chn e_int (th_link op_le r_le (e_var (pv 4)) (th_last op_lt r_lt (e_var (pv 0)))))) (w_or1 (t_cmp (op_eqD hr.units) r_eq (e_var (pv 3)) (e_var (pv 4))))))))
(b_one (s_raise rfl (L2N.takes_of rfl rfl rfl rfl) (ExcTx.at init_st T.x_BadLink) (hr.mono (by decide)) (by rfl) (e_var (pv 2))))
b_nil)
(b_one (s_if (t_w (w_or (t_not (t_chn e_int (th_link op_le r_le (e_var (pv 5)) (th_last op_le r_le (e_gc T.c_MOST_COST (by rfl)))))) (w_or1 (t_not (t_chn e_int (th_link op_le r_le (e_var (pv 6)) (th_last op_le r_le (e_gc T.c_MOST_COST (by rfl)))))))))
(b_one (s_raise rfl (L2N.takes_of rfl rfl rfl rfl) (ExcTx.at init_st T.x_BadLink) (hr.mono (by decide)) (by rfl) (e_var (pv 2))))
b_nil)))))
theorem ok_check_links {P : Program} {w : World} {K : PySem.W.Frag} {mg : Str → Option Value} {base : Heap} (T : Txt P K mg) : FnAt P w K mg base "check_links" 3 2 m_check_links := (okx_check_links T).calm
/-! ### check_router -/
abbrev st_check_router : Stmt := topS 15
theorem sc_check_router : FnScope ["routers", "router"] ["routers", "router"] (defScope st_check_router) := ⟨rfl, rfl, rfl, by decide +kernel, rfl, by decide +kernel, by decide +kernel⟩
noncomputable def check_router_s1 : EV → Option Fl :=
(sIf (tNotZ (tOf (cCh (cC (.int 0)) (chLink oLe (cVar 1) (chLast oLt (cVar 0))))))
(sRaise "BadRouter" (cVar 1))
sNx)
noncomputable def body_check_router : EV → Option Fl :=
check_router_s1
noncomputable def mx_check_router : List D → Option Rx := runFnX 2 0 body_check_router
noncomputable def m_check_router : List D → Option D := okx mx_check_router
theorem okx_check_router {P : Program} {w : World} {K : PySem.W.Frag} {mg : Str → Option Value} {base : Heap} (T : Txt P K mg) : FnAtX P w K mg base "check_router" 3 2 mx_check_router := by
  refine fn_atX (N := ["routers", "router"]) (ps := ["routers", "router"]) T.d_check_router sc_check_router rfl rfl (fun _ _ _ _ _ _ us hl => match us, hl with | [_, _], _ => rfl) fun f cdv A outer s H E hr => ?_
  exact (b_one (s_if (t_not (t_chn e_int (th_link op_le r_le (e_var (pv 1)) (th_last op_lt r_lt (e_var (pv 0))))))
(b_one (s_raise rfl (L2N.takes_of rfl rfl rfl rfl) (ExcTx.at init_st T.x_BadRouter) (hr.mono (by decide)) (by rfl) (e_var (pv 1))))
b_nil))
theorem ok_check_router {P : Program} {w : World} {K : PySem.W.Frag} {mg : Str → Option Value} {base : Heap} (T : Txt P K mg) : FnAt P w K mg base "check_router" 3 2 m_check_router := (okx_check_router T).calm
/-! ### find_fronts -/
abbrev st_find_fronts : Stmt := topS 20
theorem sc_find_fronts : FnScope ["routers", "links", "minutes", "goal", "told", "_", "rows", "router"] ["routers", "links", "minutes", "goal"] (defScope st_find_fronts) := ⟨rfl, rfl, rfl, by decide +kernel, rfl, by decide +kernel, by decide +kernel⟩
noncomputable def find_fronts_e1 : EV → Option D :=
(cIf (tOf (c2 oEq (cVar 7) (cVar 3))) (cLst (kList (aCons (cTup (aCons (cC (.int 0)) (aCons (cC (.int 0)) aNil))) aNil))) (cLst (kList aNil)))
noncomputable def find_fronts_s1 : EV → Option Fl :=
(sSetL 4 (lF (cLst (kComp (iR1 (aCons (cVar 0) aNil)) (mName 7) (fun _ => some true) find_fronts_e1 [7]))))
noncomputable def find_fronts_e2 : EV → Option D :=
(cCB m_next_front (aCons (cVar 1) (aCons (cVar 2) (aCons (cVar 7) (aCons (cVar 4) aNil)))))
noncomputable def find_fronts_e3 : EV → Option D :=
(cIf (tOf (c2 oEq (cVar 7) (cVar 3))) (c2 oIx (cVar 4) (cVar 3)) (c2 oIx (cVar 6) (cVar 7)))
noncomputable def find_fronts_b1 : EV → Option Fl :=
(sSeq (sSetL 6 (lF (cLst (kComp (iR1 (aCons (cVar 0) aNil)) (mName 7) (fun _ => some true) find_fronts_e2 [7]))))
(sSetL 4 (lF (cLst (kComp (iR1 (aCons (cVar 0) aNil)) (mName 7) (fun _ => some true) find_fronts_e3 [7])))))
noncomputable def find_fronts_s2 : EV → Option Fl :=
(sFor (iR1 (aCons (cVar 0) aNil)) (mName 5)
find_fronts_b1)
noncomputable def find_fronts_b2 : EV → Option Fl :=
(sIf (tOf (c2 oGt (cCB bLen (aCons (c2 oIx (cVar 4) (cVar 7)) aNil)) (cC (.int 300))))
(sRaise "TooMany" (cCB bLen (aCons (c2 oIx (cVar 4) (cVar 7)) aNil)))
sNx)
noncomputable def find_fronts_s3 : EV → Option Fl :=
(sFor (iR1 (aCons (cVar 0) aNil)) (mName 7)
find_fronts_b2)
noncomputable def find_fronts_s4 : EV → Option Fl :=
(sRet (cVar 4))
noncomputable def body_find_fronts : EV → Option Fl :=
(sSeq find_fronts_s1
(sSeq find_fronts_s2
(sSeq find_fronts_s3
find_fronts_s4)))
noncomputable def mx_find_fronts : List D → Option Rx := runFnX 4 4 body_find_fronts
noncomputable def m_find_fronts : List D → Option D := okx mx_find_fronts
theorem okx_find_fronts {P : Program} {w : World} {K : PySem.W.Frag} {mg : Str → Option Value} {base : Heap} (T : Txt P K mg) : FnAtX P w K mg base "find_fronts" 3 4 mx_find_fronts := by
  refine fn_atX (N := ["routers", "links", "minutes", "goal", "told", "_", "rows", "router"]) (ps := ["routers", "links", "minutes", "goal"]) T.d_find_fronts sc_find_fronts rfl rfl (fun _ _ _ _ _ _ us hl => match us, hl with | [_, _, _, _], _ => rfl) fun f cdv A outer s H E hr => ?_
  exact (b_cons (s_set sc_find_fronts.nd rfl (Or.inr rfl) (r_e (e_f (f_lc (own := [("router", 7)]) rfl sc_find_fronts.nd (i_range1 (by rfl) T.n_range (a_cons (fa := true) (fb := true) (e_var (pv 0)) a_nil)) (by kernel_rfl) (gB fun _ _ _ _ _ => (g_name (pg_name sc_find_fronts.nd rfl (Or.inl rfl)))) (tsB fun _ _ _ _ _ => ts_nil) (eB fun _ _ _ _ _ => (e_if (fa := true) (fb := true) (t_cmp (op_eqD hr.units) r_eq (e_var (pv 7)) (e_var (pv 3))) (e_f (f_lst (a_cons (fa := true) (fb := true) (e_tup (a_cons (fa := true) (fb := true) e_int (a_cons (fa := true) (fb := true) e_int a_nil))) a_nil))) (e_f (f_lst a_nil))))))))
(b_cons (s_for (passes_of rfl) rfl (i_range1 (by rfl) T.n_range (a_cons (fa := true) (fb := true) (e_var (pv 0)) a_nil)) (g_name (pg_name sc_find_fronts.nd rfl (Or.inl rfl)))
(b_cons (s_set sc_find_fronts.nd rfl (Or.inr rfl) (r_e (e_f (f_lc (own := [("router", 7)]) rfl sc_find_fronts.nd (i_range1 (by rfl) T.n_range (a_cons (fa := true) (fb := true) (e_var (pv 0)) a_nil)) (by kernel_rfl) (gB fun _ _ _ _ _ => (g_name (pg_name sc_find_fronts.nd rfl (Or.inl rfl)))) (tsB fun _ _ _ _ _ => ts_nil) (eB fun _ _ _ _ _ => (e_fn (ok_next_front T) hr (by decide) (by rfl) (a_cons (fa := true) (fb := true) (e_var (pv 1)) (a_cons (fa := true) (fb := true) (e_var (pv 2)) (a_cons (fa := true) (fb := true) (e_var (pv 7)) (a_cons (fa := true) (fb := true) (e_var (pv 4)) a_nil)))) rfl (aCons_len (aCons_len (aCons_len (aCons_len (fun _ _ h => aNil_len h)))))))))))
(b_one (s_set sc_find_fronts.nd rfl (Or.inr rfl) (r_e (e_f (f_lc (own := [("router", 7)]) rfl sc_find_fronts.nd (i_range1 (by rfl) T.n_range (a_cons (fa := true) (fb := true) (e_var (pv 0)) a_nil)) (by kernel_rfl) (gB fun _ _ _ _ _ => (g_name (pg_name sc_find_fronts.nd rfl (Or.inl rfl)))) (tsB fun _ _ _ _ _ => ts_nil) (eB fun _ _ _ _ _ => (e_if (fa := true) (fb := true) (t_cmp (op_eqD hr.units) r_eq (e_var (pv 7)) (e_var (pv 3))) (e_ix (fa := true) (fb := true) (e_var (pv 4)) (e_var (pv 3))) (e_ix (fa := true) (fb := true) (e_var (pv 6)) (e_var (pv 7))))))))))))
(b_cons (s_for (passes_of rfl) rfl (i_range1 (by rfl) T.n_range (a_cons (fa := true) (fb := true) (e_var (pv 0)) a_nil)) (g_name (pg_name sc_find_fronts.nd rfl (Or.inl rfl)))
(b_one (s_if (t_cmp op_gt r_gt (e_cb call_len_seq cr_len (by rfl) T.n_len boot_len (a_cons (fa := true) (fb := true) (e_ix (fa := true) (fb := true) (e_var (pv 4)) (e_var (pv 7))) a_nil)) (e_gc T.c_MOST_PAIRS (by rfl)))
(b_one (s_raise rfl (L2N.takes_of rfl rfl rfl rfl) (ExcTx.at init_st T.x_TooMany) (hr.mono (by decide)) (by rfl) (e_cb call_len_seq cr_len (by rfl) T.n_len boot_len (a_cons (fa := true) (fb := true) (e_ix (fa := true) (fb := true) (e_var (pv 4)) (e_var (pv 7))) a_nil))))
b_nil)))
(b_one (s_ret (e_var (pv 4)))))))
theorem ok_find_fronts {P : Program} {w : World} {K : PySem.W.Frag} {mg : Str → Option Value} {base : Heap} (T : Txt P K mg) : FnAt P w K mg base "find_fronts" 3 4 m_find_fronts := (okx_find_fronts T).calm
/-! ### _law_doubled -/
abbrev st__law_doubled : Stmt := topS 33
theorem sc__law_doubled : FnScope ["draws", "k", "many", "links", "t", "one", "two", "there", "back", "more"] ["draws", "k"] (defScope st__law_doubled) := ⟨rfl, rfl, rfl, by decide +kernel, rfl, by decide +kernel, by decide +kernel⟩
noncomputable def _law_doubled_s1 : EV → Option Fl :=
(sAsg (cCB m__law_net (aCons (cVar 0) (aCons (cVar 1) aNil))) (mTup (mCons (mName 2) (mCons (mName 3) mNil))))
noncomputable def _law_doubled_b1 : EV → Option Fl :=
(sSeq (sAsg (c2 oIx (cVar 3) (cCB m__law_mix (aCons (cVar 0) (aCons (c2 oAdd (c2 oAdd (cVar 1) (cC (.int 81))) (c2 oMul (cC (.int 3)) (cVar 4))) (aCons (cCB bLen (aCons (cVar 3) aNil)) aNil))))) (mTup (mCons (mName 5) (mCons (mName 6) (mCons (mName 7) (mCons (mName 8) mNil))))))
(sSeq (sSetL 9 (lF (c2 oAdd (cC (.int 1)) (cCB m__law_mix (aCons (cVar 0) (aCons (c2 oAdd (c2 oAdd (cVar 1) (cC (.int 82))) (c2 oMul (cC (.int 3)) (cVar 4))) (aCons (cC (.int 9)) aNil)))))))
(sSetL 3 (lF (cLst (kCat (cVar 3) (cLst (kList (aCons (cTup (aCons (cVar 5) (aCons (cVar 6) (aCons (c2 oAdd (cC (.int 1)) (c2 oMod (cCB bInt (aCons (c2 oAdd (cVar 7) (cVar 9)) aNil)) (cC (.int 10)))) (aCons (c2 oAdd (cC (.int 1)) (c2 oMod (cCB bInt (aCons (c2 oAdd (cVar 8) (cVar 9)) aNil)) (cC (.int 10)))) aNil))))) aNil)))))))))
noncomputable def _law_doubled_s2 : EV → Option Fl :=
(sFor (iR1 (aCons (c2 oMul (cCB m__law_mix (aCons (cVar 0) (aCons (c2 oAdd (cVar 1) (cC (.int 80))) (aCons (cC (.int 7)) aNil)))) (cCB bInt (aCons (cAnd (c2 oNe (cVar 3) (cLst (kList aNil))) (c2 oLt (cCB bLen (aCons (cVar 3) aNil)) (cC (.int 12)))) aNil))) aNil)) (mName 4)
_law_doubled_b1)
noncomputable def _law_doubled_s3 : EV → Option Fl :=
(sRet (cTup (aCons (cVar 2) (aCons (cVar 3) aNil))))
noncomputable def body__law_doubled : EV → Option Fl :=
(sSeq _law_doubled_s1
(sSeq _law_doubled_s2
_law_doubled_s3))
noncomputable def m__law_doubled : List D → Option D := runFn 2 8 body__law_doubled
theorem ok__law_doubled {P : Program} {w : World} {K : PySem.W.Frag} {mg : Str → Option Value} {base : Heap} (T : Txt P K mg) : FnAt P w K mg base "_law_doubled" 3 2 m__law_doubled := by
  refine fn_at (N := ["draws", "k", "many", "links", "t", "one", "two", "there", "back", "more"]) (ps := ["draws", "k"]) T.d__law_doubled sc__law_doubled rfl rfl (fun _ _ _ _ _ _ us hl => match us, hl with | [_, _], _ => rfl) fun f cdv A outer s H E hr => ?_
  exact (b_cons (s_asg (e_fn (ok__law_net T) hr (by decide) (by rfl) (a_cons (fa := true) (fb := true) (e_var (pv 0)) (a_cons (fa := true) (fb := true) (e_var (pv 1)) a_nil)) rfl (aCons_len (aCons_len (fun _ _ h => aNil_len h)))) (g_tup rfl (gs_cons (g_name (pg_name sc__law_doubled.nd rfl (Or.inl rfl))) (gs_cons (g_name (pg_name sc__law_doubled.nd rfl (Or.inl rfl))) gs_nil))))
(b_cons (s_for PassesOwn.never rfl (i_range1 (by rfl) T.n_range (a_cons (fa := true) (fb := true) (e_op (fa := true) (fb := true) op_mul r_mul (e_fn (ok__law_mix T) hr (by decide) (by rfl) (a_cons (fa := true) (fb := true) (e_var (pv 0)) (a_cons (fa := true) (fb := true) (e_op (fa := true) (fb := true) op_add r_add (e_var (pv 1)) e_int) (a_cons (fa := true) (fb := true) e_int a_nil))) rfl (aCons_len (aCons_len (aCons_len (fun _ _ h => aNil_len h))))) (e_cty call_int1 cr_int (by rfl) T.n_int PyProof.Rows.boot_int (a_cons (fa := true) (fb := true) (e_and (fa := true) (fb := true) (e_cmp (fa := true) (fb := true) (op_neD hr.units) r_ne (e_var (pv 3)) (e_f (f_lst a_nil))) (e_one (e_cmp (fa := true) (fb := true) op_lt r_lt (e_cb call_len_seq cr_len (by rfl) T.n_len boot_len (a_cons (fa := true) (fb := true) (e_var (pv 3)) a_nil)) e_int))) a_nil))) a_nil)) (g_name (pg_name sc__law_doubled.nd rfl (Or.inl rfl)))
(b_cons (s_asg (e_ix (fa := true) (fb := true) (e_var (pv 3)) (e_fn (ok__law_mix T) hr (by decide) (by rfl) (a_cons (fa := true) (fb := true) (e_var (pv 0)) (a_cons (fa := true) (fb := true) (e_op (fa := true) (fb := true) op_add r_add (e_op (fa := true) (fb := true) op_add r_add (e_var (pv 1)) e_int) (e_op (fa := true) (fb := true) op_mul r_mul e_int (e_var (pv 4)))) (a_cons (fa := true) (fb := true) (e_cb call_len_seq cr_len (by rfl) T.n_len boot_len (a_cons (fa := true) (fb := true) (e_var (pv 3)) a_nil)) a_nil))) rfl (aCons_len (aCons_len (aCons_len (fun _ _ h => aNil_len h)))))) (g_tup rfl (gs_cons (g_name (pg_name sc__law_doubled.nd rfl (Or.inl rfl))) (gs_cons (g_name (pg_name sc__law_doubled.nd rfl (Or.inl rfl))) (gs_cons (g_name (pg_name sc__law_doubled.nd rfl (Or.inl rfl))) (gs_cons (g_name (pg_name sc__law_doubled.nd rfl (Or.inl rfl))) gs_nil))))))
(b_cons (s_set sc__law_doubled.nd rfl (Or.inl rfl) (r_e (e_op (fa := true) (fb := true) op_add r_add e_int (e_fn (ok__law_mix T) hr (by decide) (by rfl) (a_cons (fa := true) (fb := true) (e_var (pv 0)) (a_cons (fa := true) (fb := true) (e_op (fa := true) (fb := true) op_add r_add (e_op (fa := true) (fb := true) op_add r_add (e_var (pv 1)) e_int) (e_op (fa := true) (fb := true) op_mul r_mul e_int (e_var (pv 4)))) (a_cons (fa := true) (fb := true) e_int a_nil))) rfl (aCons_len (aCons_len (aCons_len (fun _ _ h => aNil_len h))))))))
(b_one (s_set sc__law_doubled.nd rfl (Or.inl rfl) (r_e (e_f (f_cat (e_var (pv 3)) (e_f (f_lst (a_cons (fa := true) (fb := true) (e_tup (a_cons (fa := true) (fb := true) (e_var (pv 5)) (a_cons (fa := true) (fb := true) (e_var (pv 6)) (a_cons (fa := true) (fb := true) (e_op (fa := true) (fb := true) op_add r_add e_int (e_op (fa := true) (fb := true) op_mod r_mod (e_cty call_int1 cr_int (by rfl) T.n_int PyProof.Rows.boot_int (a_cons (fa := true) (fb := true) (e_op (fa := true) (fb := true) op_add r_add (e_var (pv 7)) (e_var (pv 9))) a_nil)) e_int)) (a_cons (fa := true) (fb := true) (e_op (fa := true) (fb := true) op_add r_add e_int (e_op (fa := true) (fb := true) op_mod r_mod (e_cty call_int1 cr_int (by rfl) T.n_int PyProof.Rows.boot_int (a_cons (fa := true) (fb := true) (e_op (fa := true) (fb := true) op_add r_add (e_var (pv 8)) (e_var (pv 9))) a_nil)) e_int)) a_nil))))) a_nil)))))))))))
(b_one (s_ret (e_tup (a_cons (fa := true) (fb := true) (e_var (pv 2)) (a_cons (fa := true) (fb := true) (e_var (pv 3)) a_nil)))))))
/-! ### check_net -/
abbrev st_check_net : Stmt := topS 16
theorem sc_check_net : FnScope ["routers", "links", "minutes", "k", "told"] ["routers", "links", "minutes"] (defScope st_check_net) := ⟨rfl, rfl, rfl, by decide +kernel, rfl, by decide +kernel, by decide +kernel⟩
noncomputable def check_net_s1 : EV → Option Fl :=
(sIf (tNotZ (tOf (cCh (cC (.int 1)) (chLink oLe (cVar 0) (chLast oLe (cC (.int 16)))))))
(sRaise "BadRouter" (cVar 0))
sNx)
noncomputable def check_net_s2 : EV → Option Fl :=
(sDropX (xCall mx_check_links (aCons (cVar 0) (aCons (cVar 1) aNil))))
noncomputable def check_net_b1 : EV → Option Fl :=
(sIf (tNotZ (tTru (cCB m_is_span (aCons (cVar 4) aNil))))
(sRaise "BadRange" (cVar 3))
sNx)
noncomputable def check_net_s3 : EV → Option Fl :=
(sFor (iEn (aCons (cLst (kSl (cVar 2) pNo (pAt (cCB bLen (aCons (cVar 1) aNil))))) aNil)) (mTup (mCons (mName 3) (mCons (mName 4) mNil)))
check_net_b1)
noncomputable def check_net_s4 : EV → Option Fl :=
(sIf (tOf (c2 oNe (cCB bLen (aCons (cVar 2) aNil)) (cCB bLen (aCons (cVar 1) aNil))))
(sRaise "BadRange" (cCB bLen (aCons (cVar 2) aNil)))
sNx)
noncomputable def body_check_net : EV → Option Fl :=
(sSeq check_net_s1
(sSeq check_net_s2
(sSeq check_net_s3
check_net_s4)))
noncomputable def mx_check_net : List D → Option Rx := runFnX 3 2 body_check_net
noncomputable def m_check_net : List D → Option D := okx mx_check_net
theorem okx_check_net {P : Program} {w : World} {K : PySem.W.Frag} {mg : Str → Option Value} {base : Heap} (T : Txt P K mg) : FnAtX P w K mg base "check_net" 4 3 mx_check_net := by
  refine fn_atX (N := ["routers", "links", "minutes", "k", "told"]) (ps := ["routers", "links", "minutes"]) T.d_check_net sc_check_net rfl rfl (fun _ _ _ _ _ _ us hl => match us, hl with | [_, _, _], _ => rfl) fun f cdv A outer s H E hr => ?_
  exact (b_cons (s_if (t_not (t_chn e_int (th_link op_le r_le (e_var (pv 0)) (th_last op_le r_le (e_gc T.c_MOST_ROUTERS (by rfl))))))
(b_one (s_raise rfl (L2N.takes_of rfl rfl rfl rfl) (ExcTx.at init_st T.x_BadRouter) (hr.mono (by decide)) (by rfl) (e_var (pv 0))))
b_nil)
(b_cons (s_exprX (x_call (L2N.takes_of rfl rfl rfl rfl) (okx_check_links T) hr (by decide) (by rfl) (a_cons (fa := true) (fb := true) (e_var (pv 0)) (a_cons (fa := true) (fb := true) (e_var (pv 1)) a_nil)) rfl (aCons_len (aCons_len (fun _ _ h => aNil_len h)))))
(b_cons (s_for (passes_of rfl) rfl (i_enum (by rfl) T.n_enumerate (a_cons (fa := true) (fb := true) (e_f (f_sl (e_var (pv 2)) p_no (p_at (e_cb call_len_seq cr_len (by rfl) T.n_len boot_len (a_cons (fa := true) (fb := true) (e_var (pv 1)) a_nil))))) a_nil)) (g_tup rfl (gs_cons (g_name (pg_name sc_check_net.nd rfl (Or.inl rfl))) (gs_cons (g_name (pg_name sc_check_net.nd rfl (Or.inl rfl))) gs_nil)))
(b_one (s_if (t_not (t_tru (e_fn (ok_is_span T) hr (by decide) (by rfl) (a_cons (fa := true) (fb := true) (e_var (pv 4)) a_nil) rfl (aCons_len (fun _ _ h => aNil_len h)))))
(b_one (s_raise rfl (L2N.takes_of rfl rfl rfl rfl) (ExcTx.at init_st T.x_BadRange) (hr.mono (by decide)) (by rfl) (e_var (pv 3))))
b_nil)))
(b_one (s_if (t_cmp (op_neD hr.units) r_ne (e_cb call_len_seq cr_len (by rfl) T.n_len boot_len (a_cons (fa := true) (fb := true) (e_var (pv 2)) a_nil)) (e_cb call_len_seq cr_len (by rfl) T.n_len boot_len (a_cons (fa := true) (fb := true) (e_var (pv 1)) a_nil)))
(b_one (s_raise rfl (L2N.takes_of rfl rfl rfl rfl) (ExcTx.at init_st T.x_BadRange) (hr.mono (by decide)) (by rfl) (e_cb call_len_seq cr_len (by rfl) T.n_len boot_len (a_cons (fa := true) (fb := true) (e_var (pv 2)) a_nil))))
b_nil)))))
theorem ok_check_net {P : Program} {w : World} {K : PySem.W.Frag} {mg : Str → Option Value} {base : Heap} (T : Txt P K mg) : FnAt P w K mg base "check_net" 4 3 m_check_net := (okx_check_net T).calm
/-! ### fronts -/
abbrev st_fronts : Stmt := topS 21
theorem sc_fronts : FnScope ["routers", "links", "minutes", "goal"] ["routers", "links", "minutes", "goal"] (defScope st_fronts) := ⟨rfl, rfl, rfl, by decide +kernel, rfl, by decide +kernel, by decide +kernel⟩
noncomputable def fronts_s1 : EV → Option Fl :=
(sDropX (xCall mx_check_net (aCons (cVar 0) (aCons (cVar 1) (aCons (cVar 2) aNil)))))
noncomputable def fronts_s2 : EV → Option Fl :=
(sDropX (xCall mx_check_router (aCons (cVar 0) (aCons (cVar 3) aNil))))
noncomputable def fronts_s3 : EV → Option Fl :=
(sRetX (xCall mx_find_fronts (aCons (cVar 0) (aCons (cVar 1) (aCons (cVar 2) (aCons (cVar 3) aNil))))))
noncomputable def body_fronts : EV → Option Fl :=
(sSeq fronts_s1
(sSeq fronts_s2
fronts_s3))
noncomputable def mx_fronts : List D → Option Rx := runFnX 4 0 body_fronts
noncomputable def m_fronts : List D → Option D := okx mx_fronts
theorem okx_fronts {P : Program} {w : World} {K : PySem.W.Frag} {mg : Str → Option Value} {base : Heap} (T : Txt P K mg) : FnAtX P w K mg base "fronts" 5 4 mx_fronts := by
  refine fn_atX (N := ["routers", "links", "minutes", "goal"]) (ps := ["routers", "links", "minutes", "goal"]) T.d_fronts sc_fronts rfl rfl (fun _ _ _ _ _ _ us hl => match us, hl with | [_, _, _, _], _ => rfl) fun f cdv A outer s H E hr => ?_
  exact (b_cons (s_exprX (x_call (L2N.takes_of rfl rfl rfl rfl) (okx_check_net T) hr (by decide) (by rfl) (a_cons (fa := true) (fb := true) (e_var (pv 0)) (a_cons (fa := true) (fb := true) (e_var (pv 1)) (a_cons (fa := true) (fb := true) (e_var (pv 2)) a_nil))) rfl (aCons_len (aCons_len (aCons_len (fun _ _ h => aNil_len h))))))
(b_cons (s_exprX (x_call (L2N.takes_of rfl rfl rfl rfl) (okx_check_router T) hr (by decide) (by rfl) (a_cons (fa := true) (fb := true) (e_var (pv 0)) (a_cons (fa := true) (fb := true) (e_var (pv 3)) a_nil)) rfl (aCons_len (aCons_len (fun _ _ h => aNil_len h)))))
(b_one (s_retX (x_call (L2N.takes_of rfl rfl rfl rfl) (okx_find_fronts T) hr (by decide) (by rfl) (a_cons (fa := true) (fb := true) (e_var (pv 0)) (a_cons (fa := true) (fb := true) (e_var (pv 1)) (a_cons (fa := true) (fb := true) (e_var (pv 2)) (a_cons (fa := true) (fb := true) (e_var (pv 3)) a_nil)))) rfl (aCons_len (aCons_len (aCons_len (aCons_len (fun _ _ h => aNil_len h))))))))))
theorem ok_fronts {P : Program} {w : World} {K : PySem.W.Frag} {mg : Str → Option Value} {base : Heap} (T : Txt P K mg) : FnAt P w K mg base "fronts" 5 4 m_fronts := (okx_fronts T).calm
/-! ### are_fronts -/
abbrev st_are_fronts : Stmt := topS 22
theorem sc_are_fronts : FnScope ["routers", "links", "minutes", "goal", "told", "others", "router"] ["routers", "links", "minutes", "goal", "told"] (defScope st_are_fronts) := ⟨rfl, rfl, rfl, by decide +kernel, rfl, by decide +kernel, by decide +kernel⟩
noncomputable def are_fronts_s1 : EV → Option Fl :=
(sDropX (xCall mx_check_net (aCons (cVar 0) (aCons (cVar 1) (aCons (cVar 2) aNil)))))
noncomputable def are_fronts_s2 : EV → Option Fl :=
(sDropX (xCall mx_check_router (aCons (cVar 0) (aCons (cVar 3) aNil))))
noncomputable def are_fronts_s3 : EV → Option Fl :=
(sIf (tOrZ (tOf (c2 oNe (cCB bLen (aCons (cVar 4) aNil)) (cVar 0))) (tOf (c2 oNe (c2 oIx (cVar 4) (cVar 3)) (cLst (kList (aCons (cTup (aCons (cC (.int 0)) (aCons (cC (.int 0)) aNil))) aNil))))))
(sRet (cC (.bl false)))
sNx)
noncomputable def are_fronts_e1 : EV → Option D :=
(cVar 6)
noncomputable def are_fronts_q1 : EV → Option Bool :=
(tOf (c2 oNe (cVar 6) (cVar 3)))
noncomputable def are_fronts_s4 : EV → Option Fl :=
(sSetL 5 (lF (cLst (kComp (iR1 (aCons (cVar 0) aNil)) (mName 6) are_fronts_q1 are_fronts_e1 [6]))))
noncomputable def are_fronts_e2 : EV → Option D :=
(c2 oEq (c2 oIx (cVar 4) (cVar 6)) (cCB m_next_front (aCons (cVar 1) (aCons (cVar 2) (aCons (cVar 6) (aCons (cVar 4) aNil))))))
noncomputable def are_fronts_s5 : EV → Option Fl :=
(sRet (cCB bAll (aCons (cLst (kComp (iLst (cVar 5)) (mName 6) (fun _ => some true) are_fronts_e2 [6])) aNil)))
noncomputable def body_are_fronts : EV → Option Fl :=
(sSeq are_fronts_s1
(sSeq are_fronts_s2
(sSeq are_fronts_s3
(sSeq are_fronts_s4
are_fronts_s5))))
noncomputable def mx_are_fronts : List D → Option Rx := runFnX 5 2 body_are_fronts
noncomputable def m_are_fronts : List D → Option D := okx mx_are_fronts
theorem okx_are_fronts {P : Program} {w : World} {K : PySem.W.Frag} {mg : Str → Option Value} {base : Heap} (T : Txt P K mg) : FnAtX P w K mg base "are_fronts" 5 5 mx_are_fronts := by
  refine fn_atX (N := ["routers", "links", "minutes", "goal", "told", "others", "router"]) (ps := ["routers", "links", "minutes", "goal", "told"]) T.d_are_fronts sc_are_fronts rfl rfl (fun _ _ _ _ _ _ us hl => match us, hl with | [_, _, _, _, _], _ => rfl) fun f cdv A outer s H E hr => ?_
  exact (b_cons (s_exprX (x_call (L2N.takes_of rfl rfl rfl rfl) (okx_check_net T) hr (by decide) (by rfl) (a_cons (fa := true) (fb := true) (e_var (pv 0)) (a_cons (fa := true) (fb := true) (e_var (pv 1)) (a_cons (fa := true) (fb := true) (e_var (pv 2)) a_nil))) rfl (aCons_len (aCons_len (aCons_len (fun _ _ h => aNil_len h))))))
(b_cons (s_exprX (x_call (L2N.takes_of rfl rfl rfl rfl) (okx_check_router T) hr (by decide) (by rfl) (a_cons (fa := true) (fb := true) (e_var (pv 0)) (a_cons (fa := true) (fb := true) (e_var (pv 3)) a_nil)) rfl (aCons_len (aCons_len (fun _ _ h => aNil_len h)))))
(b_cons (s_if (t_w (w_or (t_cmp (op_neD hr.units) r_ne (e_cb call_len_seq cr_len (by rfl) T.n_len boot_len (a_cons (fa := true) (fb := true) (e_var (pv 4)) a_nil)) (e_var (pv 0))) (w_or1 (t_cmp (op_neD hr.units) r_ne (e_ix (fa := true) (fb := true) (e_var (pv 4)) (e_var (pv 3))) (e_f (f_lst (a_cons (fa := true) (fb := true) (e_tup (a_cons (fa := true) (fb := true) e_int (a_cons (fa := true) (fb := true) e_int a_nil))) a_nil)))))))
(b_one (s_ret e_bl))
b_nil)
(b_cons (s_setLc (own := [("router", 6)]) rfl sc_are_fronts.nd rfl rfl (sw_true rfl rfl rfl (by decide +kernel)) (i_range1 (by rfl) T.n_range (a_cons (fa := true) (fb := true) (e_var (pv 0)) a_nil)) (by kernel_rfl) (gB fun _ _ _ _ _ => (g_name (pg_name sc_are_fronts.nd rfl (Or.inl rfl)))) (tsB fun _ _ _ _ _ => (ts_one (t_cmp (op_neD hr.units) r_ne (e_var (pv 6)) (e_var (pv 3))))) (eB fun _ _ _ _ _ => (e_var (pv 6))) (hl := lc_fro))
(b_one (s_ret (e_cb (cr_all rfl) r_all (by rfl) T.n_all boot_all (a_cons (fa := true) (fb := true) (e_f (f_lc (own := [("router", 6)]) rfl sc_are_fronts.nd (i_list (e_var (pv 5))) (by kernel_rfl) (gB fun _ _ _ _ _ => (g_name (pg_name sc_are_fronts.nd rfl (Or.inl rfl)))) (tsB fun _ _ _ _ _ => ts_nil) (eB fun _ _ _ _ _ => (e_cmp (fa := true) (fb := true) (op_eqD hr.units) r_eq (e_ix (fa := true) (fb := true) (e_var (pv 4)) (e_var (pv 6))) (e_fn (ok_next_front T) hr (by decide) (by rfl) (a_cons (fa := true) (fb := true) (e_var (pv 1)) (a_cons (fa := true) (fb := true) (e_var (pv 2)) (a_cons (fa := true) (fb := true) (e_var (pv 6)) (a_cons (fa := true) (fb := true) (e_var (pv 4)) a_nil)))) rfl (aCons_len (aCons_len (aCons_len (aCons_len (fun _ _ h => aNil_len h)))))))))) a_nil))))))))
theorem ok_are_fronts {P : Program} {w : World} {K : PySem.W.Frag} {mg : Str → Option Value} {base : Heap} (T : Txt P K mg) : FnAt P w K mg base "are_fronts" 5 5 m_are_fronts := (okx_are_fronts T).calm
/-! ### check_ends -/
abbrev st_check_ends : Stmt := topS 24
theorem sc_check_ends : FnScope ["routers", "links", "minutes", "start", "goal"] ["routers", "links", "minutes", "start", "goal"] (defScope st_check_ends) := ⟨rfl, rfl, rfl, by decide +kernel, rfl, by decide +kernel, by decide +kernel⟩
noncomputable def check_ends_s1 : EV → Option Fl :=
(sDropX (xCall mx_check_net (aCons (cVar 0) (aCons (cVar 1) (aCons (cVar 2) aNil)))))
noncomputable def check_ends_s2 : EV → Option Fl :=
(sDropX (xCall mx_check_router (aCons (cVar 0) (aCons (cVar 3) aNil))))
noncomputable def check_ends_s3 : EV → Option Fl :=
(sDropX (xCall mx_check_router (aCons (cVar 0) (aCons (cVar 4) aNil))))
noncomputable def body_check_ends : EV → Option Fl :=
(sSeq check_ends_s1
(sSeq check_ends_s2
check_ends_s3))
noncomputable def mx_check_ends : List D → Option Rx := runFnX 5 0 body_check_ends
noncomputable def m_check_ends : List D → Option D := okx mx_check_ends
theorem okx_check_ends {P : Program} {w : World} {K : PySem.W.Frag} {mg : Str → Option Value} {base : Heap} (T : Txt P K mg) : FnAtX P w K mg base "check_ends" 5 5 mx_check_ends := by
  refine fn_atX (N := ["routers", "links", "minutes", "start", "goal"]) (ps := ["routers", "links", "minutes", "start", "goal"]) T.d_check_ends sc_check_ends rfl rfl (fun _ _ _ _ _ _ us hl => match us, hl with | [_, _, _, _, _], _ => rfl) fun f cdv A outer s H E hr => ?_
  exact (b_cons (s_exprX (x_call (L2N.takes_of rfl rfl rfl rfl) (okx_check_net T) hr (by decide) (by rfl) (a_cons (fa := true) (fb := true) (e_var (pv 0)) (a_cons (fa := true) (fb := true) (e_var (pv 1)) (a_cons (fa := true) (fb := true) (e_var (pv 2)) a_nil))) rfl (aCons_len (aCons_len (aCons_len (fun _ _ h => aNil_len h))))))
(b_cons (s_exprX (x_call (L2N.takes_of rfl rfl rfl rfl) (okx_check_router T) hr (by decide) (by rfl) (a_cons (fa := true) (fb := true) (e_var (pv 0)) (a_cons (fa := true) (fb := true) (e_var (pv 3)) a_nil)) rfl (aCons_len (aCons_len (fun _ _ h => aNil_len h)))))
(b_one (s_exprX (x_call (L2N.takes_of rfl rfl rfl rfl) (okx_check_router T) hr (by decide) (by rfl) (a_cons (fa := true) (fb := true) (e_var (pv 0)) (a_cons (fa := true) (fb := true) (e_var (pv 4)) a_nil)) rfl (aCons_len (aCons_len (fun _ _ h => aNil_len h))))))))
theorem ok_check_ends {P : Program} {w : World} {K : PySem.W.Frag} {mg : Str → Option Value} {base : Heap} (T : Txt P K mg) : FnAt P w K mg base "check_ends" 5 5 m_check_ends := (okx_check_ends T).calm
/-! ### cheapest -/
abbrev st_cheapest : Stmt := topS 26
theorem sc_cheapest : FnScope ["routers", "links", "minutes", "start", "goal", "limit", "told", "good", "pair"] ["routers", "links", "minutes", "start", "goal", "limit"] (defScope st_cheapest) := ⟨rfl, rfl, rfl, by decide +kernel, rfl, by decide +kernel, by decide +kernel⟩
noncomputable def cheapest_s1 : EV → Option Fl :=
(sDropX (xCall mx_check_ends (aCons (cVar 0) (aCons (cVar 1) (aCons (cVar 2) (aCons (cVar 3) (aCons (cVar 4) aNil)))))))
noncomputable def cheapest_s2 : EV → Option Fl :=
(sIf (tOf (c2 oLt (cVar 5) (cC (.int 0))))
(sRaise "BadRange" (cVar 5))
sNx)
noncomputable def cheapest_s3 : EV → Option Fl :=
(sSetX 6 (xCall mx_find_fronts (aCons (cVar 0) (aCons (cVar 1) (aCons (cVar 2) (aCons (cVar 4) aNil))))))
noncomputable def cheapest_e1 : EV → Option D :=
(cVar 8)
noncomputable def cheapest_q1 : EV → Option Bool :=
(tOf (c2 oLe (c2 oIx (cVar 8) (cC (.int 1))) (cVar 5)))
noncomputable def cheapest_s4 : EV → Option Fl :=
(sSetL 7 (lF (cLst (kComp (iLst (c2 oIx (cVar 6) (cVar 3))) (mName 8) cheapest_q1 cheapest_e1 [8]))))
noncomputable def cheapest_s5 : EV → Option Fl :=
(sIf (tOf (c2 oEq (cCB bLen (aCons (cVar 7) aNil)) (cC (.int 0))))
(sRet (cC .non))
sNx)
noncomputable def cheapest_s6 : EV → Option Fl :=
(sRet (cTup (aCons (c2 oIx (cVar 7) (cC (.int 0))) (aCons (cCB m_walk_by (aCons (cVar 1) (aCons (cVar 2) (aCons (cVar 6) (aCons (cVar 3) (aCons (cVar 4) (aCons (c2 oIx (cVar 7) (cC (.int 0))) aNil))))))) aNil))))
noncomputable def body_cheapest : EV → Option Fl :=
(sSeq cheapest_s1
(sSeq cheapest_s2
(sSeq cheapest_s3
(sSeq cheapest_s4
(sSeq cheapest_s5
cheapest_s6)))))
noncomputable def mx_cheapest : List D → Option Rx := runFnX 6 3 body_cheapest
noncomputable def m_cheapest : List D → Option D := okx mx_cheapest
theorem okx_cheapest {P : Program} {w : World} {K : PySem.W.Frag} {mg : Str → Option Value} {base : Heap} (T : Txt P K mg) : FnAtX P w K mg base "cheapest" 6 6 mx_cheapest := by
  refine fn_atX (N := ["routers", "links", "minutes", "start", "goal", "limit", "told", "good", "pair"]) (ps := ["routers", "links", "minutes", "start", "goal", "limit"]) T.d_cheapest sc_cheapest rfl rfl (fun _ _ _ _ _ _ us hl => match us, hl with | [_, _, _, _, _, _], _ => rfl) fun f cdv A outer s H E hr => ?_
  exact (b_cons (s_exprX (x_call (L2N.takes_of rfl rfl rfl rfl) (okx_check_ends T) hr (by decide) (by rfl) (a_cons (fa := true) (fb := true) (e_var (pv 0)) (a_cons (fa := true) (fb := true) (e_var (pv 1)) (a_cons (fa := true) (fb := true) (e_var (pv 2)) (a_cons (fa := true) (fb := true) (e_var (pv 3)) (a_cons (fa := true) (fb := true) (e_var (pv 4)) a_nil))))) rfl (aCons_len (aCons_len (aCons_len (aCons_len (aCons_len (fun _ _ h => aNil_len h))))))))
(b_cons (s_if (t_cmp op_lt r_lt (e_var (pv 5)) e_int)
(b_one (s_raise rfl (L2N.takes_of rfl rfl rfl rfl) (ExcTx.at init_st T.x_BadRange) (hr.mono (by decide)) (by rfl) (e_var (pv 5))))
b_nil)
(b_cons (s_setX sc_cheapest.nd rfl (Or.inl rfl) (x_call (L2N.takes_of rfl rfl rfl rfl) (okx_find_fronts T) hr (by decide) (by rfl) (a_cons (fa := true) (fb := true) (e_var (pv 0)) (a_cons (fa := true) (fb := true) (e_var (pv 1)) (a_cons (fa := true) (fb := true) (e_var (pv 2)) (a_cons (fa := true) (fb := true) (e_var (pv 4)) a_nil)))) rfl (aCons_len (aCons_len (aCons_len (aCons_len (fun _ _ h => aNil_len h)))))))
(b_cons (s_setLc (own := [("pair", 8)]) rfl sc_cheapest.nd rfl rfl (sw_true rfl rfl rfl (by decide +kernel)) (i_list (e_ix (fa := true) (fb := true) (e_var (pv 6)) (e_var (pv 3)))) (by kernel_rfl) (gB fun _ _ _ _ _ => (g_name (pg_name sc_cheapest.nd rfl (Or.inl rfl)))) (tsB fun _ _ _ _ _ => (ts_one (t_cmp op_le r_le (e_ix (fa := true) (fb := true) (e_var (pv 8)) e_int) (e_var (pv 5))))) (eB fun _ _ _ _ _ => (e_var (pv 8))) (hl := lc_fro))
(b_cons (s_if (t_cmp (op_eqD hr.units) r_eq (e_cb call_len_seq cr_len (by rfl) T.n_len boot_len (a_cons (fa := true) (fb := true) (e_var (pv 7)) a_nil)) e_int)
(b_one (s_ret e_non))
b_nil)
(b_one (s_ret (e_tup (a_cons (fa := true) (fb := true) (e_ix (fa := true) (fb := true) (e_var (pv 7)) e_int) (a_cons (fa := true) (fb := true) (e_fn (ok_walk_by T) hr (by decide) (by rfl) (a_cons (fa := true) (fb := true) (e_var (pv 1)) (a_cons (fa := true) (fb := true) (e_var (pv 2)) (a_cons (fa := true) (fb := true) (e_var (pv 6)) (a_cons (fa := true) (fb := true) (e_var (pv 3)) (a_cons (fa := true) (fb := true) (e_var (pv 4)) (a_cons (fa := true) (fb := true) (e_ix (fa := true) (fb := true) (e_var (pv 7)) e_int) a_nil)))))) rfl (aCons_len (aCons_len (aCons_len (aCons_len (aCons_len (aCons_len (fun _ _ h => aNil_len h)))))))) a_nil))))))))))
theorem ok_cheapest {P : Program} {w : World} {K : PySem.W.Frag} {mg : Str → Option Value} {base : Heap} (T : Txt P K mg) : FnAt P w K mg base "cheapest" 6 6 m_cheapest := (okx_cheapest T).calm
/-! ### limits -/
abbrev st_limits : Stmt := topS 27
theorem sc_limits : FnScope ["routers", "links", "minutes", "start", "goal", "told", "cost", "time"] ["routers", "links", "minutes", "start", "goal"] (defScope st_limits) := ⟨rfl, rfl, rfl, by decide +kernel, rfl, by decide +kernel, by decide +kernel⟩
noncomputable def limits_s1 : EV → Option Fl :=
(sDropX (xCall mx_check_ends (aCons (cVar 0) (aCons (cVar 1) (aCons (cVar 2) (aCons (cVar 3) (aCons (cVar 4) aNil)))))))
noncomputable def limits_s2 : EV → Option Fl :=
(sSetX 5 (xCall mx_find_fronts (aCons (cVar 0) (aCons (cVar 1) (aCons (cVar 2) (aCons (cVar 4) aNil))))))
noncomputable def limits_e1 : EV → Option D :=
(cTup (aCons (cVar 7) (aCons (cVar 6) aNil)))
noncomputable def limits_s3 : EV → Option Fl :=
(sRet (cLst (kSort (aCons (cLst (kComp (iLst (c2 oIx (cVar 5) (cVar 3))) (mTup (mCons (mName 6) (mCons (mName 7) mNil))) (fun _ => some true) limits_e1 [6, 7])) aNil))))
noncomputable def body_limits : EV → Option Fl :=
(sSeq limits_s1
(sSeq limits_s2
limits_s3))
noncomputable def mx_limits : List D → Option Rx := runFnX 5 3 body_limits
noncomputable def m_limits : List D → Option D := okx mx_limits
theorem okx_limits {P : Program} {w : World} {K : PySem.W.Frag} {mg : Str → Option Value} {base : Heap} (T : Txt P K mg) : FnAtX P w K mg base "limits" 6 5 mx_limits := by
  refine fn_atX (N := ["routers", "links", "minutes", "start", "goal", "told", "cost", "time"]) (ps := ["routers", "links", "minutes", "start", "goal"]) T.d_limits sc_limits rfl rfl (fun _ _ _ _ _ _ us hl => match us, hl with | [_, _, _, _, _], _ => rfl) fun f cdv A outer s H E hr => ?_
  exact (b_cons (s_exprX (x_call (L2N.takes_of rfl rfl rfl rfl) (okx_check_ends T) hr (by decide) (by rfl) (a_cons (fa := true) (fb := true) (e_var (pv 0)) (a_cons (fa := true) (fb := true) (e_var (pv 1)) (a_cons (fa := true) (fb := true) (e_var (pv 2)) (a_cons (fa := true) (fb := true) (e_var (pv 3)) (a_cons (fa := true) (fb := true) (e_var (pv 4)) a_nil))))) rfl (aCons_len (aCons_len (aCons_len (aCons_len (aCons_len (fun _ _ h => aNil_len h))))))))
(b_cons (s_setX sc_limits.nd rfl (Or.inl rfl) (x_call (L2N.takes_of rfl rfl rfl rfl) (okx_find_fronts T) hr (by decide) (by rfl) (a_cons (fa := true) (fb := true) (e_var (pv 0)) (a_cons (fa := true) (fb := true) (e_var (pv 1)) (a_cons (fa := true) (fb := true) (e_var (pv 2)) (a_cons (fa := true) (fb := true) (e_var (pv 4)) a_nil)))) rfl (aCons_len (aCons_len (aCons_len (aCons_len (fun _ _ h => aNil_len h)))))))
(b_one (s_ret (e_f (f_sorted (units100 hr) (by rfl) T.n_sorted (a_cons (fa := true) (fb := true) (e_f (f_lc (own := [("cost", 6), ("time", 7)]) rfl sc_limits.nd (i_list (e_ix (fa := true) (fb := true) (e_var (pv 5)) (e_var (pv 3)))) (by kernel_rfl) (gB fun _ _ _ _ _ => (g_tup rfl (gs_cons (g_name (pg_name sc_limits.nd rfl (Or.inl rfl))) (gs_cons (g_name (pg_name sc_limits.nd rfl (Or.inl rfl))) gs_nil)))) (tsB fun _ _ _ _ _ => ts_nil) (eB fun _ _ _ _ _ => (e_tup (a_cons (fa := true) (fb := true) (e_var (pv 7)) (a_cons (fa := true) (fb := true) (e_var (pv 6)) a_nil)))))) a_nil)))))))
theorem ok_limits {P : Program} {w : World} {K : PySem.W.Frag} {mg : Str → Option Value} {base : Heap} (T : Txt P K mg) : FnAt P w K mg base "limits" 6 5 m_limits := (okx_limits T).calm
/-! ### _law_error -/
abbrev st__law_error : Stmt := topS 37
theorem sc__law_error : FnScope ["which", "told", "more", "routers", "links", "minutes", "e", "names", "name", "is_it"] ["which", "told", "more"] (defScope st__law_error) := ⟨rfl, rfl, rfl, by decide +kernel, rfl, by decide +kernel, by decide +kernel⟩
noncomputable def _law_error_s1 : EV → Option Fl :=
(sAsg (cVar 1) (mTup (mCons (mName 3) (mCons (mName 4) (mCons (mName 5) mNil)))))
noncomputable def _law_error_b1 : EV → Option Fl :=
(sIf (tOf (c2 oEq (cVar 0) (cC (.int 0))))
(sDropX (xCall mx_fronts (aCons (cVar 3) (aCons (cVar 4) (aCons (cVar 5) (aCons (c2 oIx (cVar 2) (cC (.int 0))) aNil))))))
(sIf (tOf (c2 oEq (cVar 0) (cC (.int 1))))
(sDropX (xCall mx_are_fronts (aCons (cVar 3) (aCons (cVar 4) (aCons (cVar 5) (aCons (c2 oIx (cVar 2) (cC (.int 0))) (aCons (cLst (kList aNil)) aNil)))))))
(sIf (tOf (c2 oEq (cVar 0) (cC (.int 2))))
(sDropX (xCall mx_cheapest (aCons (cVar 3) (aCons (cVar 4) (aCons (cVar 5) (aCons (c2 oIx (cVar 2) (cC (.int 0))) (aCons (c2 oIx (cVar 2) (cC (.int 1))) (aCons (c2 oIx (cVar 2) (cC (.int 2))) aNil))))))))
(sDropX (xCall mx_limits (aCons (cVar 3) (aCons (cVar 4) (aCons (cVar 5) (aCons (c2 oIx (cVar 2) (cC (.int 0))) (aCons (c2 oIx (cVar 2) (cC (.int 1))) aNil))))))))))
noncomputable def _law_error_e1 : EV → Option D :=
(cVar 8)
noncomputable def _law_error_q1 : EV → Option Bool :=
(tTru (cVar 9))
noncomputable def _law_error_x1 : Str → D → EV → Option Fl :=
(xSet 7 (xLst (xCons (xTup (xCons (xK (cC (.str "link"))) (xCons (xIsi "BadLink") xNil))) (xCons (xTup (xCons (xK (cC (.str "range"))) (xCons (xIsi "BadRange") xNil))) (xCons (xTup (xCons (xK (cC (.str "router"))) (xCons (xIsi "BadRouter") xNil))) (xCons (xTup (xCons (xK (cC (.str "many"))) (xCons (xIsi "TooMany") xNil))) xNil))))) (xRet (xTup (xCons (xK (cJoin (cC (.str " ")) (cLst (kComp (iLst (cVar 7)) (mTup (mCons (mName 8) (mCons (mName 9) mNil))) _law_error_q1 _law_error_e1 [8, 9])))) (xCons xAt xNil)))))
noncomputable def _law_error_s2 : EV → Option Fl :=
(sTry 6 ["TooMany", "BadRouter", "BadLink", "BadRange"] _law_error_b1 _law_error_x1)
noncomputable def _law_error_s3 : EV → Option Fl :=
(sRet (cC .non))
noncomputable def body__law_error : EV → Option Fl :=
(sSeq _law_error_s1
(sSeq _law_error_s2
_law_error_s3))
noncomputable def m__law_error : List D → Option D := runFn 3 7 body__law_error
theorem ok__law_error {P : Program} {w : World} {K : PySem.W.Frag} {mg : Str → Option Value} {base : Heap} (T : Txt P K mg) : FnAt P w K mg base "_law_error" 7 3 m__law_error := by
  refine fn_at (N := ["which", "told", "more", "routers", "links", "minutes", "e", "names", "name", "is_it"]) (ps := ["which", "told", "more"]) T.d__law_error sc__law_error rfl rfl (fun _ _ _ _ _ _ us hl => match us, hl with | [_, _, _], _ => rfl) fun f cdv A outer s H E hr => ?_
  exact (b_cons (s_asg (e_var (pv 1)) (g_tup rfl (gs_cons (g_name (pg_name sc__law_error.nd rfl (Or.inl rfl))) (gs_cons (g_name (pg_name sc__law_error.nd rfl (Or.inl rfl))) (gs_cons (g_name (pg_name sc__law_error.nd rfl (Or.inl rfl))) gs_nil)))))
(b_cons (s_tryN T.k_NetError (by rfl) rfl rfl sc__law_error.nd (i := 6) rfl rfl (fun W pn xe tk po =>
(b_one (s_if (t_cmp (op_eqD hr.units) r_eq (e_var (pv 0)) e_int)
(b_one (s_exprX (x_call tk (okx_fronts T) hr (by decide) (by rfl) (a_cons (fa := true) (fb := true) (e_var (pv 3)) (a_cons (fa := true) (fb := true) (e_var (pv 4)) (a_cons (fa := true) (fb := true) (e_var (pv 5)) (a_cons (fa := true) (fb := true) (e_ix (fa := true) (fb := true) (e_var (pv 2)) e_int) a_nil)))) rfl (aCons_len (aCons_len (aCons_len (aCons_len (fun _ _ h => aNil_len h))))))))
(b_one (s_if (t_cmp (op_eqD hr.units) r_eq (e_var (pv 0)) e_int)
(b_one (s_exprX (x_call tk (okx_are_fronts T) hr (by decide) (by rfl) (a_cons (fa := true) (fb := true) (e_var (pv 3)) (a_cons (fa := true) (fb := true) (e_var (pv 4)) (a_cons (fa := true) (fb := true) (e_var (pv 5)) (a_cons (fa := true) (fb := true) (e_ix (fa := true) (fb := true) (e_var (pv 2)) e_int) (a_cons (fa := true) (fb := true) (e_f (f_lst a_nil)) a_nil))))) rfl (aCons_len (aCons_len (aCons_len (aCons_len (aCons_len (fun _ _ h => aNil_len h)))))))))
(b_one (s_if (t_cmp (op_eqD hr.units) r_eq (e_var (pv 0)) e_int)
(b_one (s_exprX (x_call tk (okx_cheapest T) hr (by decide) (by rfl) (a_cons (fa := true) (fb := true) (e_var (pv 3)) (a_cons (fa := true) (fb := true) (e_var (pv 4)) (a_cons (fa := true) (fb := true) (e_var (pv 5)) (a_cons (fa := true) (fb := true) (e_ix (fa := true) (fb := true) (e_var (pv 2)) e_int) (a_cons (fa := true) (fb := true) (e_ix (fa := true) (fb := true) (e_var (pv 2)) e_int) (a_cons (fa := true) (fb := true) (e_ix (fa := true) (fb := true) (e_var (pv 2)) e_int) a_nil)))))) rfl (aCons_len (aCons_len (aCons_len (aCons_len (aCons_len (aCons_len (fun _ _ h => aNil_len h))))))))))
(b_one (s_exprX (x_call tk (okx_limits T) hr (by decide) (by rfl) (a_cons (fa := true) (fb := true) (e_var (pv 3)) (a_cons (fa := true) (fb := true) (e_var (pv 4)) (a_cons (fa := true) (fb := true) (e_var (pv 5)) (a_cons (fa := true) (fb := true) (e_ix (fa := true) (fb := true) (e_var (pv 2)) e_int) (a_cons (fa := true) (fb := true) (e_ix (fa := true) (fb := true) (e_var (pv 2)) e_int) a_nil))))) rfl (aCons_len (aCons_len (aCons_len (aCons_len (aCons_len (fun _ _ h => aNil_len h)))))))))))))))) (fun a oe cls d pn hz hf =>
(bs_set (by rfl) sc__law_error.nd rfl (Or.inl rfl) (su_lst (as_cons (fa := true) (fb := true) (su_tup (as_cons (fa := true) (fb := true) (su_of e_str) (as_cons (fa := true) (fb := true) (su_isi (excs T) T.i_BadLink hz.zc hf (pv 6) (by rfl) T.n_isinstance (by rfl)) as_nil))) (as_cons (fa := true) (fb := true) (su_tup (as_cons (fa := true) (fb := true) (su_of e_str) (as_cons (fa := true) (fb := true) (su_isi (excs T) T.i_BadRange hz.zc hf (pv 6) (by rfl) T.n_isinstance (by rfl)) as_nil))) (as_cons (fa := true) (fb := true) (su_tup (as_cons (fa := true) (fb := true) (su_of e_str) (as_cons (fa := true) (fb := true) (su_isi (excs T) T.i_BadRouter hz.zc hf (pv 6) (by rfl) T.n_isinstance (by rfl)) as_nil))) (as_cons (fa := true) (fb := true) (su_tup (as_cons (fa := true) (fb := true) (su_of e_str) (as_cons (fa := true) (fb := true) (su_isi (excs T) T.i_TooMany hz.zc hf (pv 6) (by rfl) T.n_isinstance (by rfl)) as_nil))) as_nil))))) (bs_ret (su_tup (as_cons (fa := true) (fb := true) (su_of (e_join e_str (e_f (f_lcH (own := [("name", 8), ("is_it", 9)]) (hotP hz hf) sc__law_error.nd (e_var (pv 7)) (by kernel_rfl) (fun _ _ _ _ _ hh => (g_tupH hh (gs_cons (g_name (pg_name sc__law_error.nd rfl (Or.inl rfl))) (gs_cons (g_name (pg_name sc__law_error.nd rfl (Or.inl rfl))) gs_nil)))) (tsB fun _ _ _ _ _ => (ts_one (t_tru (e_var (pv 9))))) (eB fun _ _ _ _ _ => (e_var (pv 8))))))) (as_cons (fa := true) (fb := true) (su_at (excs T) hz.zc hf (pv 6)) as_nil)))))))
(b_one (s_ret e_non))))
/-! ### _law_faults -/
abbrev st__law_faults : Stmt := topS 38
theorem sc__law_faults : FnScope ["links", "good", "odd", "which", "rows", "wide", "times", "k", "one", "row"] [] (defScope st__law_faults) := ⟨rfl, rfl, rfl, by decide +kernel, rfl, by decide +kernel, by decide +kernel⟩
noncomputable def _law_faults_s1 : EV → Option Fl :=
(sAsg (cTup (aCons (cLst (kList (aCons (cTup (aCons (cC (.int 0)) (aCons (cC (.int 1)) (aCons (cC (.int 1)) (aCons (cC (.int 1)) aNil))))) (aCons (cTup (aCons (cC (.int 1)) (aCons (cC (.int 2)) (aCons (cC (.int 1)) (aCons (cC (.int 1)) aNil))))) aNil)))) (aCons (cLst (kList (aCons (cTup (aCons (cC (.int 0)) (aCons (cC (.int 1000)) aNil))) (aCons (cTup (aCons (cC (.int 5)) (aCons (cC (.int 5)) aNil))) aNil)))) aNil))) (mTup (mCons (mName 0) (mCons (mName 1) mNil))))
noncomputable def _law_faults_s2 : EV → Option Fl :=
(sSetL 2 (lF (cLst (kList (aCons (cTup (aCons (c1 oNeg (cC (.int 1))) (aCons (cC (.int 0)) aNil))) (aCons (cTup (aCons (cC (.int 0)) (aCons (cC (.int 1001)) aNil))) (aCons (cTup (aCons (cC (.int 0)) aNil)) (aCons (cTup (aCons (cC (.int 0)) (aCons (cC (.int 0)) (aCons (cC (.int 0)) aNil)))) aNil))))))))
noncomputable def _law_faults_e1 : EV → Option D :=
(cTup (aCons (cTup (aCons (cC (.int 3)) (aCons (cVar 0) (aCons (cLst (kList (aCons (cTup (aCons (cC (.int 0)) (aCons (cC (.int 0)) aNil))) (aCons (cVar 8) aNil)))) aNil)))) (aCons (cTup (aCons (cC (.str "range")) (aCons (cC (.int 1)) aNil))) aNil)))
noncomputable def _law_faults_e2 : EV → Option D :=
(cVar 9)
noncomputable def _law_faults_q1 : EV → Option Bool :=
(tOf (c2 oNe (cCB m__law_error (aCons (cVar 3) (aCons (c2 oIx (cVar 9) (cC (.int 0))) (aCons (cTup (aCons (cC (.int 9)) (aCons (cC (.int 9)) (aCons (c1 oNeg (cC (.int 1))) aNil)))) aNil)))) (c2 oIx (cVar 9) (cC (.int 1)))))
noncomputable def _law_faults_b1 : EV → Option Fl :=
(sSeq (sSetL 4 (lF (cLst (kList (aCons (cTup (aCons (cTup (aCons (cC (.int 0)) (aCons (cVar 0) (aCons (cLst (kList aNil)) aNil)))) (aCons (cTup (aCons (cC (.str "router")) (aCons (cC (.int 0)) aNil))) aNil))) (aCons (cTup (aCons (cTup (aCons (cC (.int 17)) (aCons (cVar 0) (aCons (cLst (kList aNil)) aNil)))) (aCons (cTup (aCons (cC (.str "router")) (aCons (cC (.int 17)) aNil))) aNil))) (aCons (cTup (aCons (cTup (aCons (cC (.int 2)) (aCons (cVar 0) (aCons (cLst (kList aNil)) aNil)))) (aCons (cTup (aCons (cC (.str "link")) (aCons (cC (.int 1)) aNil))) aNil))) (aCons (cTup (aCons (cTup (aCons (cC (.int 3)) (aCons (cVar 0) (aCons (cLst (kList (aCons (cTup (aCons (cC (.int 9)) (aCons (cC (.int 9)) aNil))) aNil))) aNil)))) (aCons (cTup (aCons (cC (.str "range")) (aCons (cC (.int 1)) aNil))) aNil))) aNil))))))))
(sSeq (sSetL 4 (lF (cLst (kCat (cVar 4) (cLst (kList (aCons (cTup (aCons (cTup (aCons (cC (.int 3)) (aCons (cVar 0) (aCons (cLst (kCat (cVar 1) (cLst (kList (aCons (cTup (aCons (cC (.int 9)) (aCons (cC (.int 9)) aNil))) aNil))))) aNil)))) (aCons (cTup (aCons (cC (.str "range")) (aCons (cC (.int 3)) aNil))) aNil))) (aCons (cTup (aCons (cTup (aCons (cC (.int 3)) (aCons (cVar 0) (aCons (cLst (kList (aCons (c2 oIx (cVar 2) (cC (.int 0))) aNil))) aNil)))) (aCons (cTup (aCons (cC (.str "range")) (aCons (cC (.int 0)) aNil))) aNil))) aNil))))))))
(sSeq (sSetL 4 (lF (cLst (kCat (cVar 4) (cLst (kComp (iLst (cVar 2)) (mName 8) (fun _ => some true) _law_faults_e1 [8]))))))
(sSeq (sIf (tOf (c2 oNe (cLst (kComp (iLst (cVar 4)) (mName 9) _law_faults_q1 _law_faults_e2 [9])) (cLst (kList aNil))))
(sRet (cC (.bl false)))
sNx)
(sSeq (sIf (tOrZ (tOf (c2 oNe (cCB m__law_error (aCons (cVar 3) (aCons (cTup (aCons (cC (.int 3)) (aCons (cVar 0) (aCons (cVar 1) aNil)))) (aCons (cTup (aCons (cC (.int 3)) (aCons (cC (.int 9)) (aCons (c1 oNeg (cC (.int 1))) aNil)))) aNil)))) (cTup (aCons (cC (.str "router")) (aCons (cC (.int 3)) aNil))))) (tOf (c2 oNe (cCB m__law_error (aCons (cVar 3) (aCons (cTup (aCons (cC (.int 3)) (aCons (cVar 0) (aCons (cVar 1) aNil)))) (aCons (cTup (aCons (c1 oNeg (cC (.int 1))) (aCons (cC (.int 9)) (aCons (c1 oNeg (cC (.int 1))) aNil)))) aNil)))) (cTup (aCons (cC (.str "router")) (aCons (c1 oNeg (cC (.int 1))) aNil))))))
(sRet (cC (.bl false)))
sNx)
(sIf (tAndZ (tOf (c2 oGt (cVar 3) (cC (.int 1)))) (tOf (c2 oNe (cCB m__law_error (aCons (cVar 3) (aCons (cTup (aCons (cC (.int 3)) (aCons (cVar 0) (aCons (cVar 1) aNil)))) (aCons (cTup (aCons (cC (.int 2)) (aCons (cC (.int 9)) (aCons (c1 oNeg (cC (.int 1))) aNil)))) aNil)))) (cTup (aCons (cC (.str "router")) (aCons (cC (.int 9)) aNil))))))
(sRet (cC (.bl false)))
sNx))))))
noncomputable def _law_faults_s3 : EV → Option Fl :=
(sFor (iR1 (aCons (cC (.int 4)) aNil)) (mName 3)
_law_faults_b1)
noncomputable def _law_faults_s4 : EV → Option Fl :=
(sPar 5 6 (lF (cLst (kList aNil))) (lF (cLst (kList aNil))))
noncomputable def _law_faults_b2 : EV → Option Fl :=
(sPar 5 6 (lF (cLst (kCat (cVar 5) (cLst (kList (aCons (cTup (aCons (cVar 7) (aCons (c2 oAdd (cVar 7) (cC (.int 1))) (aCons (cC (.int 1)) (aCons (cC (.int 1)) aNil))))) (aCons (cTup (aCons (cVar 7) (aCons (c2 oAdd (cVar 7) (cC (.int 1))) (aCons (c2 oAdd (cC (.int 1)) (cCB m__law_two (aCons (cVar 7) aNil))) (aCons (cC (.int 1)) aNil))))) aNil))))))) (lF (cLst (kCat (cVar 6) (cLst (kList (aCons (cTup (aCons (cCB m__law_two (aCons (cVar 7) aNil)) (aCons (cC (.int 0)) aNil))) (aCons (cTup (aCons (cC (.int 0)) (aCons (cC (.int 0)) aNil))) aNil))))))))
noncomputable def _law_faults_s5 : EV → Option Fl :=
(sFor (iR1 (aCons (cC (.int 9)) aNil)) (mName 7)
_law_faults_b2)
noncomputable def _law_faults_s6 : EV → Option Fl :=
(sIf (tOrZ (tOf (c2 oNe (cCB m__law_error (aCons (cC (.int 0)) (aCons (cTup (aCons (cC (.int 10)) (aCons (cVar 5) (aCons (cVar 6) aNil)))) (aCons (cTup (aCons (cC (.int 9)) (aCons (cC (.int 0)) (aCons (cC (.int 0)) aNil)))) aNil)))) (cTup (aCons (cC (.str "many")) (aCons (cC (.int 512)) aNil))))) (tOf (c2 oIsNot (cCB m_are_fronts (aCons (cC (.int 10)) (aCons (cVar 5) (aCons (cVar 6) (aCons (cC (.int 9)) (aCons (cLst (kList aNil)) aNil)))))) (cC (.bl false)))))
(sRet (cC (.bl false)))
sNx)
noncomputable def _law_faults_s7 : EV → Option Fl :=
(sRet (cAnd (c2 oEq (cCB m__law_error (aCons (cC (.int 2)) (aCons (cTup (aCons (cC (.int 3)) (aCons (cVar 0) (aCons (cVar 1) aNil)))) (aCons (cTup (aCons (cC (.int 0)) (aCons (cC (.int 2)) (aCons (c1 oNeg (cC (.int 1))) aNil)))) aNil)))) (cTup (aCons (cC (.str "range")) (aCons (c1 oNeg (cC (.int 1))) aNil)))) (c2 oEq (cCB m_cheapest (aCons (cC (.int 3)) (aCons (cVar 0) (aCons (cVar 1) (aCons (cC (.int 0)) (aCons (cC (.int 2)) (aCons (cC (.int 5)) aNil))))))) (cTup (aCons (cTup (aCons (cC (.int 2)) (aCons (cC (.int 5)) aNil))) (aCons (cLst (kList (aCons (cTup (aCons (cC (.int 0)) (aCons (cC (.int 0)) aNil))) (aCons (cTup (aCons (cC (.int 1)) (aCons (cC (.int 0)) aNil))) aNil)))) aNil))))))
noncomputable def body__law_faults : EV → Option Fl :=
(sSeq _law_faults_s1
(sSeq _law_faults_s2
(sSeq _law_faults_s3
(sSeq _law_faults_s4
(sSeq _law_faults_s5
(sSeq _law_faults_s6
_law_faults_s7))))))
noncomputable def m__law_faults : List D → Option D := runFn 0 10 body__law_faults
theorem ok__law_faults {P : Program} {w : World} {K : PySem.W.Frag} {mg : Str → Option Value} {base : Heap} (T : Txt P K mg) : FnAt P w K mg base "_law_faults" 8 0 m__law_faults := by
  refine fn_at (N := ["links", "good", "odd", "which", "rows", "wide", "times", "k", "one", "row"]) (ps := []) T.d__law_faults sc__law_faults rfl rfl (fun _ _ _ _ _ _ us hl => match us, hl with | [], _ => rfl) fun f cdv A outer s H E hr => ?_
  exact (b_cons (s_asg (e_tup (a_cons (fa := true) (fb := true) (e_f (f_lst (a_cons (fa := true) (fb := true) (e_tup (a_cons (fa := true) (fb := true) e_int (a_cons (fa := true) (fb := true) e_int (a_cons (fa := true) (fb := true) e_int (a_cons (fa := true) (fb := true) e_int a_nil))))) (a_cons (fa := true) (fb := true) (e_tup (a_cons (fa := true) (fb := true) e_int (a_cons (fa := true) (fb := true) e_int (a_cons (fa := true) (fb := true) e_int (a_cons (fa := true) (fb := true) e_int a_nil))))) a_nil)))) (a_cons (fa := true) (fb := true) (e_f (f_lst (a_cons (fa := true) (fb := true) (e_tup (a_cons (fa := true) (fb := true) e_int (a_cons (fa := true) (fb := true) e_int a_nil))) (a_cons (fa := true) (fb := true) (e_tup (a_cons (fa := true) (fb := true) e_int (a_cons (fa := true) (fb := true) e_int a_nil))) a_nil)))) a_nil))) (g_tup rfl (gs_cons (g_name (pg_name sc__law_faults.nd rfl (Or.inr rfl))) (gs_cons (g_name (pg_name sc__law_faults.nd rfl (Or.inl rfl))) gs_nil))))
(b_cons (s_set sc__law_faults.nd rfl (Or.inl rfl) (r_e (e_f (f_lst (a_cons (fa := true) (fb := true) (e_tup (a_cons (fa := true) (fb := true) (e_neg e_int) (a_cons (fa := true) (fb := true) e_int a_nil))) (a_cons (fa := true) (fb := true) (e_tup (a_cons (fa := true) (fb := true) e_int (a_cons (fa := true) (fb := true) e_int a_nil))) (a_cons (fa := true) (fb := true) (e_tup (a_cons (fa := true) (fb := true) e_int a_nil)) (a_cons (fa := true) (fb := true) (e_tup (a_cons (fa := true) (fb := true) e_int (a_cons (fa := true) (fb := true) e_int (a_cons (fa := true) (fb := true) e_int a_nil)))) a_nil))))))))
(b_cons (s_for PassesOwn.never rfl (i_range1 (by rfl) T.n_range (a_cons (fa := true) (fb := true) e_int a_nil)) (g_name (pg_name sc__law_faults.nd rfl (Or.inr rfl)))
(b_cons (s_set sc__law_faults.nd rfl (Or.inl rfl) (r_e (e_f (f_lst (a_cons (fa := true) (fb := true) (e_tup (a_cons (fa := true) (fb := true) (e_tup (a_cons (fa := true) (fb := true) e_int (a_cons (fa := true) (fb := true) (e_var (pv 0)) (a_cons (fa := true) (fb := true) (e_f (f_lst a_nil)) a_nil)))) (a_cons (fa := true) (fb := true) (e_tup (a_cons (fa := true) (fb := true) e_str (a_cons (fa := true) (fb := true) e_int a_nil))) a_nil))) (a_cons (fa := true) (fb := true) (e_tup (a_cons (fa := true) (fb := true) (e_tup (a_cons (fa := true) (fb := true) e_int (a_cons (fa := true) (fb := true) (e_var (pv 0)) (a_cons (fa := true) (fb := true) (e_f (f_lst a_nil)) a_nil)))) (a_cons (fa := true) (fb := true) (e_tup (a_cons (fa := true) (fb := true) e_str (a_cons (fa := true) (fb := true) e_int a_nil))) a_nil))) (a_cons (fa := true) (fb := true) (e_tup (a_cons (fa := true) (fb := true) (e_tup (a_cons (fa := true) (fb := true) e_int (a_cons (fa := true) (fb := true) (e_var (pv 0)) (a_cons (fa := true) (fb := true) (e_f (f_lst a_nil)) a_nil)))) (a_cons (fa := true) (fb := true) (e_tup (a_cons (fa := true) (fb := true) e_str (a_cons (fa := true) (fb := true) e_int a_nil))) a_nil))) (a_cons (fa := true) (fb := true) (e_tup (a_cons (fa := true) (fb := true) (e_tup (a_cons (fa := true) (fb := true) e_int (a_cons (fa := true) (fb := true) (e_var (pv 0)) (a_cons (fa := true) (fb := true) (e_f (f_lst (a_cons (fa := true) (fb := true) (e_tup (a_cons (fa := true) (fb := true) e_int (a_cons (fa := true) (fb := true) e_int a_nil))) a_nil))) a_nil)))) (a_cons (fa := true) (fb := true) (e_tup (a_cons (fa := true) (fb := true) e_str (a_cons (fa := true) (fb := true) e_int a_nil))) a_nil))) a_nil))))))))
(b_cons (s_set sc__law_faults.nd rfl (Or.inl rfl) (r_e (e_f (f_cat (e_var (pv 4)) (e_f (f_lst (a_cons (fa := true) (fb := true) (e_tup (a_cons (fa := true) (fb := true) (e_tup (a_cons (fa := true) (fb := true) e_int (a_cons (fa := true) (fb := true) (e_var (pv 0)) (a_cons (fa := true) (fb := true) (e_f (f_cat (e_var (pv 1)) (e_f (f_lst (a_cons (fa := true) (fb := true) (e_tup (a_cons (fa := true) (fb := true) e_int (a_cons (fa := true) (fb := true) e_int a_nil))) a_nil))))) a_nil)))) (a_cons (fa := true) (fb := true) (e_tup (a_cons (fa := true) (fb := true) e_str (a_cons (fa := true) (fb := true) e_int a_nil))) a_nil))) (a_cons (fa := true) (fb := true) (e_tup (a_cons (fa := true) (fb := true) (e_tup (a_cons (fa := true) (fb := true) e_int (a_cons (fa := true) (fb := true) (e_var (pv 0)) (a_cons (fa := true) (fb := true) (e_f (f_lst (a_cons (fa := true) (fb := true) (e_ix (fa := true) (fb := true) (e_var (pv 2)) e_int) a_nil))) a_nil)))) (a_cons (fa := true) (fb := true) (e_tup (a_cons (fa := true) (fb := true) e_str (a_cons (fa := true) (fb := true) e_int a_nil))) a_nil))) a_nil))))))))
(b_cons (s_set sc__law_faults.nd rfl (Or.inl rfl) (r_e (e_f (f_cat (e_var (pv 4)) (e_f (f_lc (own := [("one", 8)]) rfl sc__law_faults.nd (i_list (e_var (pv 2))) (by kernel_rfl) (gB fun _ _ _ _ _ => (g_name (pg_name sc__law_faults.nd rfl (Or.inl rfl)))) (tsB fun _ _ _ _ _ => ts_nil) (eB fun _ _ _ _ _ => (e_tup (a_cons (fa := true) (fb := true) (e_tup (a_cons (fa := true) (fb := true) e_int (a_cons (fa := true) (fb := true) (e_var (pv 0)) (a_cons (fa := true) (fb := true) (e_f (f_lst (a_cons (fa := true) (fb := true) (e_tup (a_cons (fa := true) (fb := true) e_int (a_cons (fa := true) (fb := true) e_int a_nil))) (a_cons (fa := true) (fb := true) (e_var (pv 8)) a_nil)))) a_nil)))) (a_cons (fa := true) (fb := true) (e_tup (a_cons (fa := true) (fb := true) e_str (a_cons (fa := true) (fb := true) e_int a_nil))) a_nil))))))))))
(b_cons (s_if (t_cmp (op_neD hr.units) r_ne (e_f (f_lc (own := [("row", 9)]) rfl sc__law_faults.nd (i_list (e_var (pv 4))) (by kernel_rfl) (gB fun _ _ _ _ _ => (g_name (pg_name sc__law_faults.nd rfl (Or.inl rfl)))) (tsB fun _ _ _ _ _ => (ts_one (t_cmp (op_neD hr.units) r_ne (e_fn (ok__law_error T) hr (by decide) (by rfl) (a_cons (fa := true) (fb := true) (e_var (pv 3)) (a_cons (fa := true) (fb := true) (e_ix (fa := true) (fb := true) (e_var (pv 9)) e_int) (a_cons (fa := true) (fb := true) (e_tup (a_cons (fa := true) (fb := true) e_int (a_cons (fa := true) (fb := true) e_int (a_cons (fa := true) (fb := true) (e_neg e_int) a_nil)))) a_nil))) rfl (aCons_len (aCons_len (aCons_len (fun _ _ h => aNil_len h))))) (e_ix (fa := true) (fb := true) (e_var (pv 9)) e_int)))) (eB fun _ _ _ _ _ => (e_var (pv 9))))) (e_f (f_lst a_nil)))
(b_one (s_ret e_bl))
b_nil)
(b_cons (s_if (t_w (w_or (t_cmp (op_neD hr.units) r_ne (e_fn (ok__law_error T) hr (by decide) (by rfl) (a_cons (fa := true) (fb := true) (e_var (pv 3)) (a_cons (fa := true) (fb := true) (e_tup (a_cons (fa := true) (fb := true) e_int (a_cons (fa := true) (fb := true) (e_var (pv 0)) (a_cons (fa := true) (fb := true) (e_var (pv 1)) a_nil)))) (a_cons (fa := true) (fb := true) (e_tup (a_cons (fa := true) (fb := true) e_int (a_cons (fa := true) (fb := true) e_int (a_cons (fa := true) (fb := true) (e_neg e_int) a_nil)))) a_nil))) rfl (aCons_len (aCons_len (aCons_len (fun _ _ h => aNil_len h))))) (e_tup (a_cons (fa := true) (fb := true) e_str (a_cons (fa := true) (fb := true) e_int a_nil)))) (w_or1 (t_cmp (op_neD hr.units) r_ne (e_fn (ok__law_error T) hr (by decide) (by rfl) (a_cons (fa := true) (fb := true) (e_var (pv 3)) (a_cons (fa := true) (fb := true) (e_tup (a_cons (fa := true) (fb := true) e_int (a_cons (fa := true) (fb := true) (e_var (pv 0)) (a_cons (fa := true) (fb := true) (e_var (pv 1)) a_nil)))) (a_cons (fa := true) (fb := true) (e_tup (a_cons (fa := true) (fb := true) (e_neg e_int) (a_cons (fa := true) (fb := true) e_int (a_cons (fa := true) (fb := true) (e_neg e_int) a_nil)))) a_nil))) rfl (aCons_len (aCons_len (aCons_len (fun _ _ h => aNil_len h))))) (e_tup (a_cons (fa := true) (fb := true) e_str (a_cons (fa := true) (fb := true) (e_neg e_int) a_nil)))))))
(b_one (s_ret e_bl))
b_nil)
(b_one (s_if (t_w (w_and (t_cmp op_gt r_gt (e_var (pv 3)) e_int) (w_and1 (t_cmp (op_neD hr.units) r_ne (e_fn (ok__law_error T) hr (by decide) (by rfl) (a_cons (fa := true) (fb := true) (e_var (pv 3)) (a_cons (fa := true) (fb := true) (e_tup (a_cons (fa := true) (fb := true) e_int (a_cons (fa := true) (fb := true) (e_var (pv 0)) (a_cons (fa := true) (fb := true) (e_var (pv 1)) a_nil)))) (a_cons (fa := true) (fb := true) (e_tup (a_cons (fa := true) (fb := true) e_int (a_cons (fa := true) (fb := true) e_int (a_cons (fa := true) (fb := true) (e_neg e_int) a_nil)))) a_nil))) rfl (aCons_len (aCons_len (aCons_len (fun _ _ h => aNil_len h))))) (e_tup (a_cons (fa := true) (fb := true) e_str (a_cons (fa := true) (fb := true) e_int a_nil)))))))
(b_one (s_ret e_bl))
b_nil))))))))
(b_cons (s_par rfl sc__law_faults.nd rfl rfl (by decide) rfl rfl (r_e (e_f (f_lst a_nil))) (r_e (e_f (f_lst a_nil))) (by rfl))
(b_cons (s_for PassesOwn.never rfl (i_range1 (by rfl) T.n_range (a_cons (fa := true) (fb := true) e_int a_nil)) (g_name (pg_name sc__law_faults.nd rfl (Or.inl rfl)))
(b_one (s_par rfl sc__law_faults.nd rfl rfl (by decide) rfl rfl (r_e (e_f (f_cat (e_var (pv 5)) (e_f (f_lst (a_cons (fa := true) (fb := true) (e_tup (a_cons (fa := true) (fb := true) (e_var (pv 7)) (a_cons (fa := true) (fb := true) (e_op (fa := true) (fb := true) op_add r_add (e_var (pv 7)) e_int) (a_cons (fa := true) (fb := true) e_int (a_cons (fa := true) (fb := true) e_int a_nil))))) (a_cons (fa := true) (fb := true) (e_tup (a_cons (fa := true) (fb := true) (e_var (pv 7)) (a_cons (fa := true) (fb := true) (e_op (fa := true) (fb := true) op_add r_add (e_var (pv 7)) e_int) (a_cons (fa := true) (fb := true) (e_op (fa := true) (fb := true) op_add r_add e_int (e_fn (ok__law_two T) hr (by decide) (by rfl) (a_cons (fa := true) (fb := true) (e_var (pv 7)) a_nil) rfl (aCons_len (fun _ _ h => aNil_len h)))) (a_cons (fa := true) (fb := true) e_int a_nil))))) a_nil))))))) (r_e (e_f (f_cat (e_var (pv 6)) (e_f (f_lst (a_cons (fa := true) (fb := true) (e_tup (a_cons (fa := true) (fb := true) (e_fn (ok__law_two T) hr (by decide) (by rfl) (a_cons (fa := true) (fb := true) (e_var (pv 7)) a_nil) rfl (aCons_len (fun _ _ h => aNil_len h))) (a_cons (fa := true) (fb := true) e_int a_nil))) (a_cons (fa := true) (fb := true) (e_tup (a_cons (fa := true) (fb := true) e_int (a_cons (fa := true) (fb := true) e_int a_nil))) a_nil))))))) (by rfl))))
(b_cons (s_if (t_w (w_or (t_cmp (op_neD hr.units) r_ne (e_fn (ok__law_error T) hr (by decide) (by rfl) (a_cons (fa := true) (fb := true) e_int (a_cons (fa := true) (fb := true) (e_tup (a_cons (fa := true) (fb := true) e_int (a_cons (fa := true) (fb := true) (e_var (pv 5)) (a_cons (fa := true) (fb := true) (e_var (pv 6)) a_nil)))) (a_cons (fa := true) (fb := true) (e_tup (a_cons (fa := true) (fb := true) e_int (a_cons (fa := true) (fb := true) e_int (a_cons (fa := true) (fb := true) e_int a_nil)))) a_nil))) rfl (aCons_len (aCons_len (aCons_len (fun _ _ h => aNil_len h))))) (e_tup (a_cons (fa := true) (fb := true) e_str (a_cons (fa := true) (fb := true) e_int a_nil)))) (w_or1 (t_cmp op_isnot r_isnot (e_fn (ok_are_fronts T) hr (by decide) (by rfl) (a_cons (fa := true) (fb := true) e_int (a_cons (fa := true) (fb := true) (e_var (pv 5)) (a_cons (fa := true) (fb := true) (e_var (pv 6)) (a_cons (fa := true) (fb := true) e_int (a_cons (fa := true) (fb := true) (e_f (f_lst a_nil)) a_nil))))) rfl (aCons_len (aCons_len (aCons_len (aCons_len (aCons_len (fun _ _ h => aNil_len h))))))) e_bl))))
(b_one (s_ret e_bl))
b_nil)
(b_one (s_ret (e_and (fa := true) (fb := true) (e_cmp (fa := true) (fb := true) (op_eqD hr.units) r_eq (e_fn (ok__law_error T) hr (by decide) (by rfl) (a_cons (fa := true) (fb := true) e_int (a_cons (fa := true) (fb := true) (e_tup (a_cons (fa := true) (fb := true) e_int (a_cons (fa := true) (fb := true) (e_var (pv 0)) (a_cons (fa := true) (fb := true) (e_var (pv 1)) a_nil)))) (a_cons (fa := true) (fb := true) (e_tup (a_cons (fa := true) (fb := true) e_int (a_cons (fa := true) (fb := true) e_int (a_cons (fa := true) (fb := true) (e_neg e_int) a_nil)))) a_nil))) rfl (aCons_len (aCons_len (aCons_len (fun _ _ h => aNil_len h))))) (e_tup (a_cons (fa := true) (fb := true) e_str (a_cons (fa := true) (fb := true) (e_neg e_int) a_nil)))) (e_one (e_cmp (fa := true) (fb := true) (op_eqD hr.units) r_eq (e_fn (ok_cheapest T) hr (by decide) (by rfl) (a_cons (fa := true) (fb := true) e_int (a_cons (fa := true) (fb := true) (e_var (pv 0)) (a_cons (fa := true) (fb := true) (e_var (pv 1)) (a_cons (fa := true) (fb := true) e_int (a_cons (fa := true) (fb := true) e_int (a_cons (fa := true) (fb := true) e_int a_nil)))))) rfl (aCons_len (aCons_len (aCons_len (aCons_len (aCons_len (aCons_len (fun _ _ h => aNil_len h)))))))) (e_tup (a_cons (fa := true) (fb := true) (e_tup (a_cons (fa := true) (fb := true) e_int (a_cons (fa := true) (fb := true) e_int a_nil))) (a_cons (fa := true) (fb := true) (e_f (f_lst (a_cons (fa := true) (fb := true) (e_tup (a_cons (fa := true) (fb := true) e_int (a_cons (fa := true) (fb := true) e_int a_nil))) (a_cons (fa := true) (fb := true) (e_tup (a_cons (fa := true) (fb := true) e_int (a_cons (fa := true) (fb := true) e_int a_nil))) a_nil)))) a_nil))))))))))))))
/-! ### law -/
abbrev st_law : Stmt := topS 40
theorem sc_law : FnScope ["script", "draws", "many", "links", "minutes", "goal", "kept", "walks", "due", "t", "at", "router", "rows", "k", "bent", "told", "start", "limit", "one", "pair"] ["script"] (defScope st_law) := ⟨rfl, rfl, rfl, by decide +kernel, rfl, by decide +kernel, by decide +kernel⟩
noncomputable def law_s1 : EV → Option Fl :=
(sSetL 1 (lF (cCB m__law_draws (aCons (cVar 0) aNil))))
noncomputable def law_s2 : EV → Option Fl :=
(sAsg (cCB m__law_doubled (aCons (cVar 1) (aCons (cC (.int 10)) aNil))) (mTup (mCons (mName 2) (mCons (mName 3) mNil))))
noncomputable def law_s3 : EV → Option Fl :=
(sAsg (cTup (aCons (cCB m__law_minutes (aCons (cVar 1) (aCons (cC (.int 100)) (aCons (cVar 3) aNil)))) (aCons (cCB m__law_mix (aCons (cVar 1) (aCons (cC (.int 1)) (aCons (cVar 2) aNil)))) aNil))) (mTup (mCons (mName 4) (mCons (mName 5) mNil))))
noncomputable def law_s4 : EV → Option Fl :=
(sSetL 6 (lF (cCB bRepr (aCons (cTup (aCons (cVar 3) (aCons (cVar 4) aNil))) aNil))))
noncomputable def law_e1 : EV → Option D :=
(cCB m__law_walks (aCons (cVar 2) (aCons (cVar 3) (aCons (cVar 4) (aCons (cVar 11) (aCons (cVar 5) aNil))))))
noncomputable def law_s5 : EV → Option Fl :=
(sSetL 7 (lF (cLst (kComp (iR1 (aCons (cVar 2) aNil)) (mName 11) (fun _ => some true) law_e1 [11]))))
noncomputable def law_e2 : EV → Option D :=
(cCB m__law_front (aCons (cVar 18) aNil))
noncomputable def law_s6 : EV → Option Fl :=
(sSetL 8 (lF (cLst (kComp (iLst (cVar 7)) (mName 18) (fun _ => some true) law_e2 [18]))))
noncomputable def law_s7 : EV → Option Fl :=
(sIf (tOrZ (tOf (c2 oNe (cCB bRepr (aCons (cCB m_fronts (aCons (cVar 2) (aCons (cVar 3) (aCons (cVar 4) (aCons (cVar 5) aNil))))) aNil)) (cCB bRepr (aCons (cVar 8) aNil)))) (tOf (c2 oIsNot (cCB m_are_fronts (aCons (cVar 2) (aCons (cVar 3) (aCons (cVar 4) (aCons (cVar 5) (aCons (cVar 8) aNil)))))) (cC (.bl true)))))
(sRet (cC (.bl false)))
sNx)
noncomputable def law_e3 : EV → Option D :=
(cTup (aCons (c2 oIx (cVar 18) (cC (.int 0))) (aCons (c2 oAdd (c2 oIx (cVar 18) (cC (.int 1))) (cC (.int 1))) aNil)))
noncomputable def law_e4 : EV → Option D :=
(cTup (aCons (c2 oIx (cVar 19) (cC (.int 1))) (aCons (c2 oIx (cVar 19) (cC (.int 0))) aNil)))
noncomputable def law_b1 : EV → Option Fl :=
(sSeq (sSetL 10 (lF (c2 oAdd (cC (.int 300)) (c2 oMul (cC (.int 10)) (cVar 9)))))
(sSeq (sSetL 11 (lF (cCB m__law_mix (aCons (cVar 1) (aCons (cVar 10) (aCons (cVar 2) aNil))))))
(sSeq (sPar 12 13 (lF (c2 oIx (cVar 8) (cVar 11))) (lF (cCB m__law_mix (aCons (cVar 1) (aCons (c2 oAdd (cVar 10) (cC (.int 1))) (aCons (cCB bMax (aCons (cC (.int 1)) (aCons (cCB bLen (aCons (c2 oIx (cVar 8) (cVar 11)) aNil)) aNil))) aNil))))))
(sSeq (sSetL 14 (lF (c2 oIx (cLst (kList (aCons (cLst (kCat (cLst (kSl (cVar 12) pNo (pAt (cVar 13)))) (cLst (kSl (cVar 12) (pAt (c2 oAdd (cVar 13) (cC (.int 1)))) pNo)))) (aCons (cLst (kCat (cVar 12) (cLst (kList (aCons (cTup (aCons (cC (.int 99999)) (aCons (cC (.int 0)) aNil))) aNil))))) (aCons (cLst (kRev (cVar 12))) (aCons (cLst (kComp (iLst (cVar 12)) (mName 18) (fun _ => some true) law_e3 [18])) (aCons (cLst (kList (aCons (cTup (aCons (cC (.int 0)) (aCons (cC (.int 0)) aNil))) aNil))) aNil))))))) (cCB m__law_mix (aCons (cVar 1) (aCons (c2 oAdd (cVar 10) (cC (.int 2))) (aCons (cC (.int 5)) aNil)))))))
(sSeq (sSetL 15 (lF (cLst (kCat (cLst (kCat (cLst (kSl (cVar 8) pNo (pAt (cVar 11)))) (cLst (kList (aCons (cVar 14) aNil))))) (cLst (kSl (cVar 8) (pAt (c2 oAdd (cVar 11) (cC (.int 1)))) pNo))))))
(sSeq (sIf (tOf (c2 oNe (cCB bRepr (aCons (cCB m_are_fronts (aCons (cVar 2) (aCons (cVar 3) (aCons (cVar 4) (aCons (cVar 5) (aCons (cVar 15) aNil)))))) aNil)) (cCB bRepr (aCons (c2 oEq (cVar 15) (cVar 8)) aNil))))
(sRet (cC (.bl false)))
sNx)
(sSeq (sPar 16 17 (lF (cCB m__law_mix (aCons (cVar 1) (aCons (c2 oAdd (cVar 10) (cC (.int 3))) (aCons (cVar 2) aNil))))) (lF (cCB m__law_mix (aCons (cVar 1) (aCons (c2 oAdd (cVar 10) (cC (.int 4))) (aCons (c2 oIx (cLst (kList (aCons (cC (.int 12)) (aCons (cC (.int 60)) (aCons (cC (.int 4000)) aNil))))) (cCB m__law_mix (aCons (cVar 1) (aCons (c2 oAdd (cVar 10) (cC (.int 5))) (aCons (cC (.int 3)) aNil))))) aNil))))))
(sSeq (sIf (tOf (c2 oNe (cCB bRepr (aCons (cCB m_cheapest (aCons (cVar 2) (aCons (cVar 3) (aCons (cVar 4) (aCons (cVar 16) (aCons (cVar 5) (aCons (cVar 17) aNil))))))) aNil)) (cCB bRepr (aCons (cCB m__law_cheapest (aCons (c2 oIx (cVar 7) (cVar 16)) (aCons (cVar 17) aNil))) aNil))))
(sRet (cC (.bl false)))
sNx)
(sIf (tOf (c2 oNe (cCB m_limits (aCons (cVar 2) (aCons (cVar 3) (aCons (cVar 4) (aCons (cVar 16) (aCons (cVar 5) aNil)))))) (cLst (kSort (aCons (cLst (kComp (iLst (c2 oIx (cVar 8) (cVar 16))) (mName 19) (fun _ => some true) law_e4 [19])) aNil)))))
(sRet (cC (.bl false)))
sNx)))))))))
noncomputable def law_s8 : EV → Option Fl :=
(sFor (iR1 (aCons (cC (.int 5)) aNil)) (mName 9)
law_b1)
noncomputable def law_s9 : EV → Option Fl :=
(sRet (cAnd (cCB m__law_faults aNil) (c2 oEq (cCB bRepr (aCons (cTup (aCons (cVar 3) (aCons (cVar 4) aNil))) aNil)) (cVar 6))))
noncomputable def body_law : EV → Option Fl :=
(sSeq law_s1
(sSeq law_s2
(sSeq law_s3
(sSeq law_s4
(sSeq law_s5
(sSeq law_s6
(sSeq law_s7
(sSeq law_s8
law_s9))))))))
noncomputable def m_law : List D → Option D := runFn 1 19 body_law
theorem ok_law {P : Program} {w : World} {K : PySem.W.Frag} {mg : Str → Option Value} {base : Heap} (T : Txt P K mg) {f : Addr} {fd : FuncData} (F : Fun K "law" "law" st_law f fd) : FnG P w K mg base 9 f fd ["script"] (FSp K 1 m_law) := by
  refine law_ok (N := ["script", "draws", "many", "links", "minutes", "goal", "kept", "walks", "due", "t", "at", "router", "rows", "k", "bent", "told", "start", "limit", "one", "pair"]) F sc_law rfl fun cdv A outer s H E hr hgd => ?_
  exact (b_cons (s_set sc_law.nd rfl (Or.inl rfl) (r_e (e_fn (ok__law_draws T) hr (by decide) (by rfl) (a_cons (fa := true) (fb := true) (e_var (pv 0)) a_nil) rfl (aCons_len (fun _ _ h => aNil_len h)))))
(b_cons (s_asg (e_fn (ok__law_doubled T) hr (by decide) (by rfl) (a_cons (fa := true) (fb := true) (e_var (pv 1)) (a_cons (fa := true) (fb := true) e_int a_nil)) rfl (aCons_len (aCons_len (fun _ _ h => aNil_len h)))) (g_tup rfl (gs_cons (g_name (pg_name sc_law.nd rfl (Or.inr rfl))) (gs_cons (g_name (pg_name sc_law.nd rfl (Or.inr rfl))) gs_nil))))
(b_cons (s_asg (e_tup (a_cons (fa := true) (fb := true) (e_fn (ok__law_minutes T) hr (by decide) (by rfl) (a_cons (fa := true) (fb := true) (e_var (pv 1)) (a_cons (fa := true) (fb := true) e_int (a_cons (fa := true) (fb := true) (e_var (pv 3)) a_nil))) rfl (aCons_len (aCons_len (aCons_len (fun _ _ h => aNil_len h))))) (a_cons (fa := true) (fb := true) (e_fn (ok__law_mix T) hr (by decide) (by rfl) (a_cons (fa := true) (fb := true) (e_var (pv 1)) (a_cons (fa := true) (fb := true) e_int (a_cons (fa := true) (fb := true) (e_var (pv 2)) a_nil))) rfl (aCons_len (aCons_len (aCons_len (fun _ _ h => aNil_len h))))) a_nil))) (g_tup rfl (gs_cons (g_name (pg_name sc_law.nd rfl (Or.inr rfl))) (gs_cons (g_name (pg_name sc_law.nd rfl (Or.inr rfl))) gs_nil))))
(b_cons (s_set sc_law.nd rfl (Or.inl rfl) (r_e (e_cb (call_reprD (units100 hr) hgd) r_repr (by rfl) T.n_repr boot_repr (a_cons (fa := true) (fb := true) (e_tup (a_cons (fa := true) (fb := true) (e_var (pv 3)) (a_cons (fa := true) (fb := true) (e_var (pv 4)) a_nil))) a_nil))))
(b_cons (s_setLc (own := [("router", 11)]) rfl sc_law.nd rfl rfl (sw_true rfl rfl rfl (by decide +kernel)) (i_range1 (by rfl) T.n_range (a_cons (fa := true) (fb := true) (e_var (pv 2)) a_nil)) (by kernel_rfl) (gB fun _ _ _ _ _ => (g_name (pg_name sc_law.nd rfl (Or.inl rfl)))) (tsB fun _ _ _ _ _ => ts_nil) (eB fun _ _ _ _ _ => (e_fn (ok__law_walks T) hr (by decide) (by rfl) (a_cons (fa := true) (fb := true) (e_var (pv 2)) (a_cons (fa := true) (fb := true) (e_var (pv 3)) (a_cons (fa := true) (fb := true) (e_var (pv 4)) (a_cons (fa := true) (fb := true) (e_var (pv 11)) (a_cons (fa := true) (fb := true) (e_var (pv 5)) a_nil))))) rfl (aCons_len (aCons_len (aCons_len (aCons_len (aCons_len (fun _ _ h => aNil_len h)))))))) (hl := lc_fro))
(b_cons (s_setLc (own := [("one", 18)]) rfl sc_law.nd rfl rfl (sw_true rfl rfl rfl (by decide +kernel)) (i_list (e_var (pv 7))) (by kernel_rfl) (gB fun _ _ _ _ _ => (g_name (pg_name sc_law.nd rfl (Or.inl rfl)))) (tsB fun _ _ _ _ _ => ts_nil) (eB fun _ _ _ _ _ => (e_fn (ok__law_front T) hr (by decide) (by rfl) (a_cons (fa := true) (fb := true) (e_var (pv 18)) a_nil) rfl (aCons_len (fun _ _ h => aNil_len h)))) (hl := lc_fro))
(b_cons (s_if (t_w (w_or (t_cmp (op_neD hr.units) r_ne (e_cb (call_reprD (units100 hr) hgd) r_repr (by rfl) T.n_repr boot_repr (a_cons (fa := true) (fb := true) (e_fn (ok_fronts T) hr (by decide) (by rfl) (a_cons (fa := true) (fb := true) (e_var (pv 2)) (a_cons (fa := true) (fb := true) (e_var (pv 3)) (a_cons (fa := true) (fb := true) (e_var (pv 4)) (a_cons (fa := true) (fb := true) (e_var (pv 5)) a_nil)))) rfl (aCons_len (aCons_len (aCons_len (aCons_len (fun _ _ h => aNil_len h)))))) a_nil)) (e_cb (call_reprD (units100 hr) hgd) r_repr (by rfl) T.n_repr boot_repr (a_cons (fa := true) (fb := true) (e_var (pv 8)) a_nil))) (w_or1 (t_cmp op_isnot r_isnot (e_fn (ok_are_fronts T) hr (by decide) (by rfl) (a_cons (fa := true) (fb := true) (e_var (pv 2)) (a_cons (fa := true) (fb := true) (e_var (pv 3)) (a_cons (fa := true) (fb := true) (e_var (pv 4)) (a_cons (fa := true) (fb := true) (e_var (pv 5)) (a_cons (fa := true) (fb := true) (e_var (pv 8)) a_nil))))) rfl (aCons_len (aCons_len (aCons_len (aCons_len (aCons_len (fun _ _ h => aNil_len h))))))) e_bl))))
(b_one (s_ret e_bl))
b_nil)
(b_cons (s_for PassesOwn.never rfl (i_range1 (by rfl) T.n_range (a_cons (fa := true) (fb := true) e_int a_nil)) (g_name (pg_name sc_law.nd rfl (Or.inl rfl)))
(b_cons (s_set sc_law.nd rfl (Or.inl rfl) (r_e (e_op (fa := true) (fb := true) op_add r_add e_int (e_op (fa := true) (fb := true) op_mul r_mul e_int (e_var (pv 9))))))
(b_cons (s_set sc_law.nd rfl (Or.inl rfl) (r_e (e_fn (ok__law_mix T) hr (by decide) (by rfl) (a_cons (fa := true) (fb := true) (e_var (pv 1)) (a_cons (fa := true) (fb := true) (e_var (pv 10)) (a_cons (fa := true) (fb := true) (e_var (pv 2)) a_nil))) rfl (aCons_len (aCons_len (aCons_len (fun _ _ h => aNil_len h)))))))
(b_cons (s_par rfl sc_law.nd rfl rfl (by decide) rfl rfl (r_e (e_ix (fa := true) (fb := true) (e_var (pv 8)) (e_var (pv 11)))) (r_e (e_fn (ok__law_mix T) hr (by decide) (by rfl) (a_cons (fa := true) (fb := true) (e_var (pv 1)) (a_cons (fa := true) (fb := true) (e_op (fa := true) (fb := true) op_add r_add (e_var (pv 10)) e_int) (a_cons (fa := true) (fb := true) (e_cb (call_max2 rfl) cr_max2 (by rfl) T.n_max boot_max (a_cons (fa := true) (fb := true) e_int (a_cons (fa := true) (fb := true) (e_cb call_len_seq cr_len (by rfl) T.n_len boot_len (a_cons (fa := true) (fb := true) (e_ix (fa := true) (fb := true) (e_var (pv 8)) (e_var (pv 11))) a_nil)) a_nil))) a_nil))) rfl (aCons_len (aCons_len (aCons_len (fun _ _ h => aNil_len h)))))) (by rfl))
(b_cons (s_set sc_law.nd rfl (Or.inl rfl) (r_e (e_ix (fa := true) (fb := true) (e_f (f_lst (a_cons (fa := true) (fb := true) (e_f (f_cat (e_f (f_sl (e_var (pv 12)) p_no (p_at (e_var (pv 13))))) (e_f (f_sl (e_var (pv 12)) (p_at (e_op (fa := true) (fb := true) op_add r_add (e_var (pv 13)) e_int)) p_no)))) (a_cons (fa := true) (fb := true) (e_f (f_cat (e_var (pv 12)) (e_f (f_lst (a_cons (fa := true) (fb := true) (e_tup (a_cons (fa := true) (fb := true) e_int (a_cons (fa := true) (fb := true) e_int a_nil))) a_nil))))) (a_cons (fa := true) (fb := true) (e_f (f_rev (e_var (pv 12)))) (a_cons (fa := true) (fb := true) (e_f (f_lc (own := [("one", 18)]) rfl sc_law.nd (i_list (e_var (pv 12))) (by kernel_rfl) (gB fun _ _ _ _ _ => (g_name (pg_name sc_law.nd rfl (Or.inl rfl)))) (tsB fun _ _ _ _ _ => ts_nil) (eB fun _ _ _ _ _ => (e_tup (a_cons (fa := true) (fb := true) (e_ix (fa := true) (fb := true) (e_var (pv 18)) e_int) (a_cons (fa := true) (fb := true) (e_op (fa := true) (fb := true) op_add r_add (e_ix (fa := true) (fb := true) (e_var (pv 18)) e_int) e_int) a_nil)))))) (a_cons (fa := true) (fb := true) (e_f (f_lst (a_cons (fa := true) (fb := true) (e_tup (a_cons (fa := true) (fb := true) e_int (a_cons (fa := true) (fb := true) e_int a_nil))) a_nil))) a_nil))))))) (e_fn (ok__law_mix T) hr (by decide) (by rfl) (a_cons (fa := true) (fb := true) (e_var (pv 1)) (a_cons (fa := true) (fb := true) (e_op (fa := true) (fb := true) op_add r_add (e_var (pv 10)) e_int) (a_cons (fa := true) (fb := true) e_int a_nil))) rfl (aCons_len (aCons_len (aCons_len (fun _ _ h => aNil_len h))))))))
(b_cons (s_set sc_law.nd rfl (Or.inl rfl) (r_e (e_f (f_cat (e_f (f_cat (e_f (f_sl (e_var (pv 8)) p_no (p_at (e_var (pv 11))))) (e_f (f_lst (a_cons (fa := true) (fb := true) (e_var (pv 14)) a_nil))))) (e_f (f_sl (e_var (pv 8)) (p_at (e_op (fa := true) (fb := true) op_add r_add (e_var (pv 11)) e_int)) p_no))))))
(b_cons (s_if (t_cmp (op_neD hr.units) r_ne (e_cb (call_reprD (units100 hr) hgd) r_repr (by rfl) T.n_repr boot_repr (a_cons (fa := true) (fb := true) (e_fn (ok_are_fronts T) hr (by decide) (by rfl) (a_cons (fa := true) (fb := true) (e_var (pv 2)) (a_cons (fa := true) (fb := true) (e_var (pv 3)) (a_cons (fa := true) (fb := true) (e_var (pv 4)) (a_cons (fa := true) (fb := true) (e_var (pv 5)) (a_cons (fa := true) (fb := true) (e_var (pv 15)) a_nil))))) rfl (aCons_len (aCons_len (aCons_len (aCons_len (aCons_len (fun _ _ h => aNil_len h))))))) a_nil)) (e_cb (call_reprD (units100 hr) hgd) r_repr (by rfl) T.n_repr boot_repr (a_cons (fa := true) (fb := true) (e_cmp (fa := true) (fb := true) (op_eqD hr.units) r_eq (e_var (pv 15)) (e_var (pv 8))) a_nil)))
(b_one (s_ret e_bl))
b_nil)
(b_cons (s_par rfl sc_law.nd rfl rfl (by decide) rfl rfl (r_e (e_fn (ok__law_mix T) hr (by decide) (by rfl) (a_cons (fa := true) (fb := true) (e_var (pv 1)) (a_cons (fa := true) (fb := true) (e_op (fa := true) (fb := true) op_add r_add (e_var (pv 10)) e_int) (a_cons (fa := true) (fb := true) (e_var (pv 2)) a_nil))) rfl (aCons_len (aCons_len (aCons_len (fun _ _ h => aNil_len h)))))) (r_e (e_fn (ok__law_mix T) hr (by decide) (by rfl) (a_cons (fa := true) (fb := true) (e_var (pv 1)) (a_cons (fa := true) (fb := true) (e_op (fa := true) (fb := true) op_add r_add (e_var (pv 10)) e_int) (a_cons (fa := true) (fb := true) (e_ix (fa := true) (fb := true) (e_f (f_lst (a_cons (fa := true) (fb := true) e_int (a_cons (fa := true) (fb := true) e_int (a_cons (fa := true) (fb := true) e_int a_nil))))) (e_fn (ok__law_mix T) hr (by decide) (by rfl) (a_cons (fa := true) (fb := true) (e_var (pv 1)) (a_cons (fa := true) (fb := true) (e_op (fa := true) (fb := true) op_add r_add (e_var (pv 10)) e_int) (a_cons (fa := true) (fb := true) e_int a_nil))) rfl (aCons_len (aCons_len (aCons_len (fun _ _ h => aNil_len h)))))) a_nil))) rfl (aCons_len (aCons_len (aCons_len (fun _ _ h => aNil_len h)))))) (by rfl))
(b_cons (s_if (t_cmp (op_neD hr.units) r_ne (e_cb (call_reprD (units100 hr) hgd) r_repr (by rfl) T.n_repr boot_repr (a_cons (fa := true) (fb := true) (e_fn (ok_cheapest T) hr (by decide) (by rfl) (a_cons (fa := true) (fb := true) (e_var (pv 2)) (a_cons (fa := true) (fb := true) (e_var (pv 3)) (a_cons (fa := true) (fb := true) (e_var (pv 4)) (a_cons (fa := true) (fb := true) (e_var (pv 16)) (a_cons (fa := true) (fb := true) (e_var (pv 5)) (a_cons (fa := true) (fb := true) (e_var (pv 17)) a_nil)))))) rfl (aCons_len (aCons_len (aCons_len (aCons_len (aCons_len (aCons_len (fun _ _ h => aNil_len h)))))))) a_nil)) (e_cb (call_reprD (units100 hr) hgd) r_repr (by rfl) T.n_repr boot_repr (a_cons (fa := true) (fb := true) (e_fn (ok__law_cheapest T) hr (by decide) (by rfl) (a_cons (fa := true) (fb := true) (e_ix (fa := true) (fb := true) (e_var (pv 7)) (e_var (pv 16))) (a_cons (fa := true) (fb := true) (e_var (pv 17)) a_nil)) rfl (aCons_len (aCons_len (fun _ _ h => aNil_len h)))) a_nil)))
(b_one (s_ret e_bl))
b_nil)
(b_one (s_if (t_cmp (op_neD hr.units) r_ne (e_fn (ok_limits T) hr (by decide) (by rfl) (a_cons (fa := true) (fb := true) (e_var (pv 2)) (a_cons (fa := true) (fb := true) (e_var (pv 3)) (a_cons (fa := true) (fb := true) (e_var (pv 4)) (a_cons (fa := true) (fb := true) (e_var (pv 16)) (a_cons (fa := true) (fb := true) (e_var (pv 5)) a_nil))))) rfl (aCons_len (aCons_len (aCons_len (aCons_len (aCons_len (fun _ _ h => aNil_len h))))))) (e_f (f_sorted (units100 hr) (by rfl) T.n_sorted (a_cons (fa := true) (fb := true) (e_f (f_lc (own := [("pair", 19)]) rfl sc_law.nd (i_list (e_ix (fa := true) (fb := true) (e_var (pv 8)) (e_var (pv 16)))) (by kernel_rfl) (gB fun _ _ _ _ _ => (g_name (pg_name sc_law.nd rfl (Or.inl rfl)))) (tsB fun _ _ _ _ _ => ts_nil) (eB fun _ _ _ _ _ => (e_tup (a_cons (fa := true) (fb := true) (e_ix (fa := true) (fb := true) (e_var (pv 19)) e_int) (a_cons (fa := true) (fb := true) (e_ix (fa := true) (fb := true) (e_var (pv 19)) e_int) a_nil)))))) a_nil))))
(b_one (s_ret e_bl))
b_nil)))))))))))
(b_one (s_ret (e_and (fa := true) (fb := true) (e_fn0 (ok__law_faults T) hr (by decide) (by rfl)) (e_one (e_cmp (fa := true) (fb := true) (op_eqD hr.units) r_eq (e_cb (call_reprD (units100 hr) hgd) r_repr (by rfl) T.n_repr boot_repr (a_cons (fa := true) (fb := true) (e_tup (a_cons (fa := true) (fb := true) (e_var (pv 3)) (a_cons (fa := true) (fb := true) (e_var (pv 4)) a_nil))) a_nil)) (e_var (pv 6)))))))))))))))
theorem law_end {l : PySem.W.OpenLaw} {w : World} {K : PySem.W.Frag} {h : Heap} {mg : Str → Option Value} {fa : Addr} (X : K.In h) (G : h.Ns mainGlobals mg) (hfa : mg "law" = some (.ref fa))
    (d_is_span : DefAt K mg "is_span" "is_span" (topS 14))
    (d_hops_of : DefAt K mg "hops_of" "hops_of" (topS 17))
    (d_unbeaten : DefAt K mg "unbeaten" "unbeaten" (topS 18))
    (d__law_draws : DefAt K mg "_law_draws" "_law_draws" (topS 29))
    (d__law_mix : DefAt K mg "_law_mix" "_law_mix" (topS 30))
    (d__law_walks : DefAt K mg "_law_walks" "_law_walks" (topS 34))
    (d__law_front : DefAt K mg "_law_front" "_law_front" (topS 35))
    (d__law_two : DefAt K mg "_law_two" "_law_two" (topS 39))
    (d_next_front : DefAt K mg "next_front" "next_front" (topS 19))
    (d_walk_by : DefAt K mg "walk_by" "walk_by" (topS 25))
    (d__law_net : DefAt K mg "_law_net" "_law_net" (topS 31))
    (d__law_minutes : DefAt K mg "_law_minutes" "_law_minutes" (topS 32))
    (d__law_cheapest : DefAt K mg "_law_cheapest" "_law_cheapest" (topS 36))
    (d_check_links : DefAt K mg "check_links" "check_links" (topS 10))
    (d_check_router : DefAt K mg "check_router" "check_router" (topS 15))
    (d_find_fronts : DefAt K mg "find_fronts" "find_fronts" (topS 20))
    (d__law_doubled : DefAt K mg "_law_doubled" "_law_doubled" (topS 33))
    (d_check_net : DefAt K mg "check_net" "check_net" (topS 16))
    (d_fronts : DefAt K mg "fronts" "fronts" (topS 21))
    (d_are_fronts : DefAt K mg "are_fronts" "are_fronts" (topS 22))
    (d_check_ends : DefAt K mg "check_ends" "check_ends" (topS 24))
    (d_cheapest : DefAt K mg "cheapest" "cheapest" (topS 26))
    (d_limits : DefAt K mg "limits" "limits" (topS 27))
    (d__law_error : DefAt K mg "_law_error" "_law_error" (topS 37))
    (d__law_faults : DefAt K mg "_law_faults" "_law_faults" (topS 38))
    (d_law : DefAt K mg "law" "law" (topS 40))
    (c_MOST_COST : IntAt mg "MOST_COST" 1000)
    (c_MOST_LINKS : IntAt mg "MOST_LINKS" 40)
    (c_MOST_MINUTES : IntAt mg "MOST_MINUTES" 1000)
    (c_MOST_PAIRS : IntAt mg "MOST_PAIRS" 300)
    (c_MOST_ROUTERS : IntAt mg "MOST_ROUTERS" 16)
    (n_abs : mg "abs" = none)
    (n_all : mg "all" = none)
    (n_enumerate : mg "enumerate" = none)
    (n_int : mg "int" = none)
    (n_isinstance : mg "isinstance" = none)
    (n_len : mg "len" = none)
    (n_max : mg "max" = none)
    (n_min : mg "min" = none)
    (n_range : mg "range" = none)
    (n_repr : mg "repr" = none)
    (n_set : mg "set" = none)
    (n_sorted : mg "sorted" = none)
    (n_tuple : mg "tuple" = none)
    (x_TooMany : ExcTx l.prog K mg "TooMany" initS)
    (x_BadRouter : ExcTx l.prog K mg "BadRouter" initS)
    (x_BadLink : ExcTx l.prog K mg "BadLink" initS)
    (x_BadRange : ExcTx l.prog K mg "BadRange" initS)
    (i_BadLink : IsiAt K mg ["TooMany", "BadRouter", "BadLink", "BadRange"] "BadLink")
    (i_BadRange : IsiAt K mg ["TooMany", "BadRouter", "BadLink", "BadRange"] "BadRange")
    (i_BadRouter : IsiAt K mg ["TooMany", "BadRouter", "BadLink", "BadRange"] "BadRouter")
    (i_TooMany : IsiAt K mg ["TooMany", "BadRouter", "BadLink", "BadRange"] "TooMany")
    (k_NetError : CatchAt K mg ["TooMany", "BadRouter", "BadLink", "BadRange"] "NetError") :
    ∃ fd : FuncData, (∀ (s : Shared) (u : Value), BindsTo s fd ⟨[u], []⟩ [("script", u)]) ∧ ∀ base : Heap, K.In base → base.Ns mainGlobals mg → FnG l.prog w K mg base 9 fa fd ["script"] (FSp K 1 m_law) := by
  have T : Txt l.prog K mg := ⟨d_is_span, d_hops_of, d_unbeaten, d__law_draws, d__law_mix, d__law_walks, d__law_front, d__law_two, d_next_front, d_walk_by, d__law_net, d__law_minutes, d__law_cheapest, d_check_links, d_check_router, d_find_fronts, d__law_doubled, d_check_net, d_fronts, d_are_fronts, d_check_ends, d_cheapest, d_limits, d__law_error, d__law_faults, d_law, c_MOST_COST, c_MOST_LINKS, c_MOST_MINUTES, c_MOST_PAIRS, c_MOST_ROUTERS, n_abs, n_all, n_enumerate, n_int, n_isinstance, n_len, n_max, n_min, n_range, n_repr, n_set, n_sorted, n_tuple, x_TooMany, x_BadRouter, x_BadLink, x_BadRange, i_BadLink, i_BadRange, i_BadRouter, i_TooMany, k_NetError⟩
  obtain ⟨f, fd, h1, F⟩ := d_law
  rw [hfa] at h1
  cases h1
  refine ⟨fd, ?_, fun base _ _ => ok_law T F⟩
  obtain ⟨oc, od, kV, doc, pm, an, cdv, ct, osl, rfl, lk, hcd⟩ := F.ex
  exact fun s u => .of_eq rfl
end K62


set_option maxRecDepth 100000
set_option maxHeartbeats 4000000
/-! Y1: typed readings of the readings of layer Z: what each part gives on typed values. -/
namespace Z
open PySem PySem.Spec PyProof.Rows L2
section
variable {α β γ δ ε ζ ρ : Type}
/-! ### guards, binds -/
def gd (p : Prop) [Decidable p] : Option Unit := if p then some () else none
theorem gd_of {p : Prop} [Decidable p] {u : Unit} (h : gd p = some u) : p := by
  unfold gd at h
  split at h
  · assumption
  · cases h
theorem gd_t {p : Prop} [Decidable p] (h : p) : gd p = some () := if_pos h
theorem ob {o : Option α} {f : α → Option β} {b : β} (h : o.bind f = some b) : ∃ a, o = some a ∧ f a = some b := Option.bind_eq_some_iff.mp h
theorem if_t {c : Bool} {a b : Option α} {r : α} (h : (if c = true then a else b) = some r) (hc : c = true) : a = some r := by
  rw [if_pos hc] at h
  exact h
theorem if_f {c : Bool} {a b : Option α} {r : α} (h : (if c = true then a else b) = some r) (hc : c = false) : b = some r := by
  rw [if_neg (by rw [hc]; decide)] at h
  exact h
theorem ite_tr {c : Bool} {a b : α} (hc : c = true) : a = (if c = true then a else b) := (if_pos hc).symm
theorem ite_fl {c : Bool} {a b : α} (hc : c = false) : b = (if c = true then a else b) := (if_neg (by rw [hc]; decide)).symm
theorem cg {e : α → D} {a b : α} (h : a = b) : some (e a) = some (e b) := by rw [h]
theorem cgb {a b : Bool} (h : a = b) : some a = some b := by rw [h]
/-! ### typed data -/
@[reducible] def eN : Unit → D := fun _ => .non
@[reducible] def eL (e : α → D) : List α → D := fun xs => .lst (xs.map e)
@[reducible] def eX (e : α → D) : List α → D := fun xs => .tup (xs.map e)
@[reducible] def e0 : Unit → D := fun _ => .tup []
@[reducible] def e1 (a : α → D) : α → D := fun p => .tup [a p]
@[reducible] def e2 (a : α → D) (b : β → D) : α × β → D := fun p => .tup [a p.1, b p.2]
@[reducible] def e3 (a : α → D) (b : β → D) (c : γ → D) : α × β × γ → D := fun p => .tup [a p.1, b p.2.1, c p.2.2]
@[reducible] def e4 (a : α → D) (b : β → D) (c : γ → D) (d : δ → D) : α × β × γ × δ → D := fun p => .tup [a p.1, b p.2.1, c p.2.2.1, d p.2.2.2]
@[reducible] def e5 (a : α → D) (b : β → D) (c : γ → D) (d : δ → D) (e : ε → D) : α × β × γ × δ × ε → D := fun p => .tup [a p.1, b p.2.1, c p.2.2.1, d p.2.2.2.1, e p.2.2.2.2]
@[reducible] def e6 (a : α → D) (b : β → D) (c : γ → D) (d : δ → D) (e : ε → D) (f : ζ → D) : α × β × γ × δ × ε × ζ → D := fun p => .tup [a p.1, b p.2.1, c p.2.2.1, d p.2.2.2.1, e p.2.2.2.2.1, f p.2.2.2.2.2]
def eO (e : α → D) : Option α → D
  | none => .non
  | some a => e a
theorem eO_none {e : α → D} : eO e none = .non := rfl
theorem eO_some {e : α → D} {a : α} : eO e (some a) = e a := rfl
end
section
variable {α β γ δ ε ζ : Type} [DecidableEq α] [DecidableEq β] [DecidableEq γ] [DecidableEq δ] [DecidableEq ε] [DecidableEq ζ] {n m k l o p : Nat} {a : α → D} {b : β → D} {c : γ → D} {d : δ → D} {e : ε → D} {f : ζ → D}
theorem EE.unit : EE 0 eN := ⟨fun _ => rfl, fun _ => Nat.le_refl _, fun _ _ => rfl⟩
theorem EE.e0 : EE 1 Z.e0 := ⟨fun _ => rfl, fun _ => Nat.le_of_ble_eq_true rfl, fun _ _ => rfl⟩
theorem EE.e1 (x : EE n a) : EE (n + 1) (Z.e1 a) := by
  refine ⟨fun q => ?_, fun q => ?_, fun q r => ?_⟩
  · show ((a q).pd.canLay0 && true) = true
    rw [x.lay]
    rfl
  · show max (a q).pd.depth 0 + 1 ≤ n + 1
    have := x.dep q
    omega
  · show (PyData.eqv (a q).pd (a r).pd && true) = _
    rw [x.eqv, Bool.and_true]
theorem EE.e2 (x : EE n a) (y : EE m b) : EE (max n m + 1) (Z.e2 a b) := EE.tup2 x y
theorem EE.e3 (x : EE n a) (y : EE m b) (z : EE k c) : EE (max n (max m k) + 1) (Z.e3 a b c) := by
  refine ⟨fun q => ?_, fun q => ?_, fun q r => ?_⟩
  · show ((a q.1).pd.canLay0 && ((b q.2.1).pd.canLay0 && ((c q.2.2).pd.canLay0 && true))) = true
    rw [x.lay, y.lay, z.lay]
    rfl
  · show max (a q.1).pd.depth (max (b q.2.1).pd.depth (max (c q.2.2).pd.depth 0)) + 1 ≤ _
    have := x.dep q.1
    have := y.dep q.2.1
    have := z.dep q.2.2
    omega
  · show (PyData.eqv (a q.1).pd (a r.1).pd && (PyData.eqv (b q.2.1).pd (b r.2.1).pd && (PyData.eqv (c q.2.2).pd (c r.2.2).pd && true))) = _
    rw [x.eqv, y.eqv, z.eqv, Bool.and_true, ← Bool.decide_and, ← Bool.decide_and]
    congr 1
    rw [Prod.ext_iff, Prod.ext_iff]
theorem EE.e4 (x : EE n a) (y : EE m b) (z : EE k c) (w : EE l d) : EE (max n (max m (max k l)) + 1) (Z.e4 a b c d) := by
  refine ⟨fun q => ?_, fun q => ?_, fun q r => ?_⟩
  · show ((a q.1).pd.canLay0 && ((b q.2.1).pd.canLay0 && ((c q.2.2.1).pd.canLay0 && ((d q.2.2.2).pd.canLay0 && true)))) = true
    rw [x.lay, y.lay, z.lay, w.lay]
    rfl
  · show max (a q.1).pd.depth (max (b q.2.1).pd.depth (max (c q.2.2.1).pd.depth (max (d q.2.2.2).pd.depth 0))) + 1 ≤ _
    have := x.dep q.1
    have := y.dep q.2.1
    have := z.dep q.2.2.1
    have := w.dep q.2.2.2
    omega
  · show (PyData.eqv (a q.1).pd (a r.1).pd && (PyData.eqv (b q.2.1).pd (b r.2.1).pd && (PyData.eqv (c q.2.2.1).pd (c r.2.2.1).pd && (PyData.eqv (d q.2.2.2).pd (d r.2.2.2).pd && true)))) = _
    rw [x.eqv, y.eqv, z.eqv, w.eqv, Bool.and_true, ← Bool.decide_and, ← Bool.decide_and, ← Bool.decide_and]
    congr 1
    rw [Prod.ext_iff, Prod.ext_iff, Prod.ext_iff]
theorem EE.e5 (x : EE n a) (y : EE m b) (z : EE k c) (w : EE l d) (v : EE o e) : EE (max n (max m (max k (max l o))) + 1) (Z.e5 a b c d e) := by
  refine ⟨fun q => ?_, fun q => ?_, fun q r => ?_⟩
  · show ((a q.1).pd.canLay0 && ((b q.2.1).pd.canLay0 && ((c q.2.2.1).pd.canLay0 && ((d q.2.2.2.1).pd.canLay0 && ((e q.2.2.2.2).pd.canLay0 && true))))) = true
    rw [x.lay, y.lay, z.lay, w.lay, v.lay]
    rfl
  · show max (a q.1).pd.depth (max (b q.2.1).pd.depth (max (c q.2.2.1).pd.depth (max (d q.2.2.2.1).pd.depth (max (e q.2.2.2.2).pd.depth 0)))) + 1 ≤ _
    have := x.dep q.1
    have := y.dep q.2.1
    have := z.dep q.2.2.1
    have := w.dep q.2.2.2.1
    have := v.dep q.2.2.2.2
    omega
  · show (PyData.eqv (a q.1).pd (a r.1).pd && (PyData.eqv (b q.2.1).pd (b r.2.1).pd && (PyData.eqv (c q.2.2.1).pd (c r.2.2.1).pd && (PyData.eqv (d q.2.2.2.1).pd (d r.2.2.2.1).pd && (PyData.eqv (e q.2.2.2.2).pd (e r.2.2.2.2).pd && true))))) = _
    rw [x.eqv, y.eqv, z.eqv, w.eqv, v.eqv, Bool.and_true, ← Bool.decide_and, ← Bool.decide_and, ← Bool.decide_and, ← Bool.decide_and]
    congr 1
    rw [Prod.ext_iff, Prod.ext_iff, Prod.ext_iff, Prod.ext_iff]
theorem EE.eX (x : EE n a) : EE (n + 1) (Z.eX a) := by
  have h := x.list
  exact ⟨fun q => h.lay q, fun q => h.dep q, fun q r => h.eqv q r⟩
/-- data that is never None -/
def NN (a : α → D) : Prop := ∀ q, (a q).isNon = false
theorem pd_non {y : D} (hy : y.isNon = false) : PyData.eqv .none y.pd = false ∧ PyData.eqv y.pd .none = false := by
  cases y <;> first | (constructor <;> rfl) | cases hy
theorem EE.eO (x : EE n a) (hn : NN a) : EE n (Z.eO a) := by
  refine ⟨fun q => ?_, fun q => ?_, fun q r => ?_⟩
  · cases q with
    | none => rfl
    | some q => exact x.lay q
  · cases q with
    | none => exact Nat.zero_le _
    | some q => exact x.dep q
  · cases q with
    | none =>
      cases r with
      | none => rfl
      | some r => exact (pd_non (hn r)).1.trans rfl
    | some q =>
      cases r with
      | none => exact (pd_non (hn q)).2.trans rfl
      | some r =>
        refine (x.eqv q r).trans ?_
        exact decide_eq_decide.mpr (by rw [Option.some.injEq])
end
section
variable {α β γ δ ε ζ : Type}
theorem NN.int : NN D.int := fun _ => rfl
theorem NN.bl : NN D.bl := fun _ => rfl
theorem NN.str : NN D.str := fun _ => rfl
theorem NN.eL {a : α → D} : NN (eL a) := fun _ => rfl
theorem NN.eX {a : α → D} : NN (eX a) := fun _ => rfl
theorem NN.e2 {a : α → D} {b : β → D} : NN (e2 a b) := fun _ => rfl
theorem NN.e3 {a : α → D} {b : β → D} {c : γ → D} : NN (e3 a b c) := fun _ => rfl
theorem NN.e4 {a : α → D} {b : β → D} {c : γ → D} {d : δ → D} : NN (e4 a b c d) := fun _ => rfl
theorem NN.e5 {a : α → D} {b : β → D} {c : γ → D} {d : δ → D} {e : ε → D} : NN (e5 a b c d e) := fun _ => rfl
end
/-! ### expressions -/
section
variable {α β γ : Type} {ev : EV} {f g : EV → Option D} {k : EV → Option (List D)} {p q : EV → Option Bool} {i : Nat} {x y z d : D} {ds : List D} {op : D → D → Option D} {o1 : D → Option D} {ob : List D → Option D} {e : α → D}
theorem y_var (h : ev[i]? = some (.fro d)) : cVar i ev = some d := by rw [v_var, h]; rfl
theorem y_own (h : ev[i]? = some (.own ds)) : cOwn i ev = some (.lst ds) := by rw [v_own, h]; rfl
theorem y_c : cC d ev = some d := rfl
theorem y_2 (hf : f ev = some x) (hg : g ev = some y) (ho : op x y = some z) : c2 op f g ev = some z := by rw [v_c2, hf, hg]; exact ho
theorem y_1 (hf : f ev = some x) (ho : o1 x = some z) : c1 o1 f ev = some z := by rw [v_c1, hf]; exact ho
theorem y_flat (hf : f ev = some x) (h : x.flat = true := by rfl) : cFlat f ev = some x := by rw [v_flat, hf, qFlat_s, if_pos h]
theorem y_cb (hk : k ev = some ds) (ho : ob ds = some d) : cCB ob k ev = some d := by rw [v_cb, hk]; exact ho
theorem y_nil : aNil ev = some [] := rfl
theorem y_cons (hf : f ev = some x) (hk : k ev = some ds) : aCons f k ev = some (x :: ds) := by rw [v_acons, hf, hk]; rfl
theorem y_tup (hk : k ev = some ds) (hl : ds.length ≤ 1000) : cTup k ev = some (.tup ds) := by rw [v_tup, hk, qTup_s, if_pos hl]
theorem y_lst (hk : k ev = some ds) : cLst k ev = some (.lst ds) := by rw [v_lst, hk]; rfl
theorem y_klist (hk : k ev = some ds) (hl : ds.length ≤ 1000) : kList k ev = some ds := by rw [v_klist, hk, qKl_s, if_pos hl]
theorem y_if {b : Bool} (hp : p ev = some b) (ht : b = true → f ev = some d) (hf : b = false → g ev = some d) : cIf p f g ev = some d := by
  rw [v_if, hp]
  cases b with
  | true => exact ht rfl
  | false => exact hf rfl
theorem y_andB {a b : Bool} (hf : f ev = some (.bl a)) (hg : g ev = some (.bl b)) : cAnd f g ev = some (.bl (a && b)) := by
  rw [v_and, hf, qAnd_s, v_truB]
  cases a with
  | true => exact hg
  | false => rfl
theorem y_orB {a b : Bool} (hf : f ev = some (.bl a)) (hg : g ev = some (.bl b)) : cOr f g ev = some (.bl (a || b)) := by
  rw [v_or, hf, qOr_s, v_truB]
  cases a with
  | true => rfl
  | false => exact hg
theorem y_andP {a b : Bool} (hf : f ev = some (.bl a)) (ht : a = true → g ev = some (.bl b)) (hn : a = false → false = b) : cAnd f g ev = some (.bl b) := by
  rw [v_and, hf, qAnd_s, v_truB]
  cases a with
  | true => exact ht rfl
  | false => rw [← hn rfl]; rfl
theorem y_orP {a b : Bool} (hf : f ev = some (.bl a)) (ht : a = true → true = b) (hn : a = false → g ev = some (.bl b)) : cOr f g ev = some (.bl b) := by
  rw [v_or, hf, qOr_s, v_truB]
  cases a with
  | true => rw [← ht rfl]; rfl
  | false => exact hn rfl
/-- x or y, of numbers -/
theorem y_orI {a b : Int} (hf : f ev = some (.int a)) (hg : g ev = some (.int b)) : cOr f g ev = some (.int (if a = 0 then b else a)) := by
  rw [v_or, hf, qOr_s, v_truI]
  by_cases h : a = 0
  · subst h
    exact hg
  · rw [if_neg h]
    have : (a != 0) = true := by simpa using h
    rw [this]
    rfl
def orO (a : Option Int) (b : Int) : Int := match a with
  | some i => if i = 0 then b else i
  | none => b
theorem y_orO {a : Option Int} {b : Int} (hf : f ev = some (eO D.int a)) (hg : g ev = some (.int b)) : cOr f g ev = some (.int (orO a b)) := by
  cases a with
  | none =>
    have hf' : f ev = some .non := hf
    rw [v_or, hf', qOr_s, v_tru0]
    exact hg
  | some i => exact y_orI hf hg
/-! tests -/
theorem y_tof {b : Bool} (hf : f ev = some (.bl b)) : tOf f ev = some b := by rw [v_tof, hf]; rfl
theorem y_tand {a b : Bool} (hp : p ev = some a) (hq : q ev = some b) : tAndZ p q ev = some (a && b) := by
  rw [v_tand, hp]
  cases a with
  | true => exact hq
  | false => rfl
theorem y_tor {a b : Bool} (hp : p ev = some a) (hq : q ev = some b) : tOrZ p q ev = some (a || b) := by
  rw [v_tor, hp]
  cases a with
  | true => rfl
  | false => exact hq
theorem y_tandP {a b : Bool} (hp : p ev = some a) (ht : a = true → q ev = some b) (hn : a = false → false = b) : tAndZ p q ev = some b := by
  rw [v_tand, hp]
  cases a with
  | true => exact ht rfl
  | false => rw [← hn rfl]; rfl
theorem y_torP {a b : Bool} (hp : p ev = some a) (ht : a = true → true = b) (hn : a = false → q ev = some b) : tOrZ p q ev = some b := by
  rw [v_tor, hp]
  cases a with
  | true => rw [← ht rfl]; rfl
  | false => exact hn rfl
theorem y_tnot {b : Bool} (hp : p ev = some b) : tNotZ p ev = some (!b) := by rw [v_tnot, hp]; rfl
theorem y_ttru {b : Bool} (hf : f ev = some x) (h : x.tru = some b) : tTru f ev = some b := by rw [v_ttru, hf]; exact h
theorem tru_L {xs : List α} : (D.lst (xs.map e)).tru = some (!xs.isEmpty) := by cases xs <;> rfl
theorem tru_X {xs : List α} : (D.tup (xs.map e)).tru = some (!xs.isEmpty) := by cases xs <;> rfl
theorem tru_I {a : Int} : (D.int a).tru = some (a != 0) := rfl
theorem tru_B {a : Bool} : (D.bl a).tru = some a := rfl
theorem y_true : (fun _ : EV => some true) ev = some true := rfl
/-! chains -/
theorem y_ch {l : D → EV → Option D} (hf : f ev = some x) (hl : l x ev = some d) : cCh f l ev = some d := by rw [v_ch, hf]; exact hl
theorem y_last {b : Bool} (hg : g ev = some y) (ho : op x y = some (.bl b)) : chLast op g x ev = some (.bl b) := by rw [v_chlast, hg, qLast_s, ho]
theorem y_link {r : D → EV → Option D} {b c : Bool} (hg : g ev = some y) (ho : op x y = some (.bl b)) (hr : r y ev = some (.bl c)) : chLink op g r x ev = some (.bl (b && c)) := by
  rw [v_chlink, hg, qLink_s, ho]
  cases b with
  | true => exact hr
  | false => rfl
/-! ### operators -/
theorem o_add {a b : Int} : oAdd (.int a) (.int b) = some (.int (a + b)) := rfl
theorem o_sub {a b : Int} : oSub (.int a) (.int b) = some (.int (a - b)) := rfl
theorem o_neg {a : Int} : oNeg (.int a) = some (.int (-a)) := rfl
theorem o_not {b : Bool} (h : x.tru = some b) : oNot x = some (.bl (!b)) := by rw [v_not, h]; rfl
def mulT (a b : Int) : Option Int := if (-(2 ^ 64) < a ∧ a < 2 ^ 64) ∨ (-(2 ^ 64) < b ∧ b < 2 ^ 64) then some (a * b) else none
theorem o_mulT {a b r : Int} (h : mulT a b = some r) : oMul (.int a) (.int b) = some (.int r) := by
  unfold mulT at h
  obtain ⟨h1, rfl⟩ := of_ite h
  exact if_pos h1
theorem o_mulL {a b : Int} (h : -(2 ^ 64) < a ∧ a < 2 ^ 64) : oMul (.int a) (.int b) = some (.int (a * b)) := if_pos (.inl h)
theorem o_mulR {a b : Int} (h : -(2 ^ 64) < b ∧ b < 2 ^ 64) : oMul (.int a) (.int b) = some (.int (a * b)) := if_pos (.inr h)
theorem mulT_s {a b : Int} (h : -(2 ^ 64) < a ∧ a < 2 ^ 64) : mulT a b = some (a * b) := if_pos (.inl h)
theorem mulT_r {a b : Int} (h : -(2 ^ 64) < b ∧ b < 2 ^ 64) : mulT a b = some (a * b) := if_pos (.inr h)
theorem o_mod {a b : Int} (h : 0 < b) : oMod (.int a) (.int b) = some (.int (a % b)) := if_pos h
theorem o_div {a b : Int} (h : 0 < b ∧ b < 1073741824) : oDiv (.int a) (.int b) = some (.int (a / b)) := if_pos h
def powT (a b : Int) : Option Int := match oPow (.int a) (.int b) with
  | some (.int r) => some r
  | _ => none
theorem o_powT {a b r : Int} (h : powT a b = some r) : oPow (.int a) (.int b) = some (.int r) := by
  unfold powT at h
  split at h
  · rename_i r' hr
    cases h
    exact hr
  · cases h
theorem pow_1018 : ∃ b : Int, powT 10 18 = some b ∧ b < 4611686018427387904 := by
  obtain ⟨b, h, hb⟩ := pow18
  refine ⟨b, ?_, hb⟩
  unfold powT
  rw [h]
theorem o_lt {a b : Int} : oLt (.int a) (.int b) = some (.bl (decide (a < b))) := rfl
theorem o_le {a b : Int} : oLe (.int a) (.int b) = some (.bl (decide (a ≤ b))) := rfl
theorem o_gt {a b : Int} : oGt (.int a) (.int b) = some (.bl (decide (b < a))) := rfl
theorem o_ge {a b : Int} : oGe (.int a) (.int b) = some (.bl (decide (b ≤ a))) := rfl
theorem o_isO {a : Option α} (hn : NN e) : oIs (eO e a) .non = some (.bl a.isNone) := by
  cases a with
  | none => rfl
  | some a =>
    rw [v_is]
    show some (D.bl (e a).isNon) = _
    rw [hn a]
    rfl
theorem o_isnotO {a : Option α} (hn : NN e) : oIsNot (eO e a) .non = some (.bl (!a.isNone)) := by
  cases a with
  | none => rfl
  | some a =>
    rw [v_isnot]
    show some (D.bl (!(e a).isNon)) = _
    rw [hn a]
    rfl
theorem o_isN (h : x.isNon = false) : oIs x .non = some (.bl false) := by rw [v_is, h]
theorem o_isnotN (h : x.isNon = false) : oIsNot x .non = some (.bl true) := by rw [v_isnot, h]; rfl
theorem o_isnotB {a b : Bool} : oIsNot (.bl a) (.bl b) = some (.bl (!decide (a = b))) := rfl
def memT [DecidableEq α] (a : α) (xs : List α) : Bool := decide (a ∈ xs)
theorem memT_iff [DecidableEq α] {a : α} {xs : List α} : memT a xs = true ↔ a ∈ xs := decide_eq_true_iff
theorem memT_not [DecidableEq α] {a : α} {xs : List α} : memT a xs = false ↔ a ∉ xs := decide_eq_false_iff_not
theorem o_in [DecidableEq α] {n : Nat} (E : EE n e) (hn : n ≤ 63) {xs : List α} {a : α} : oIn (e a) (.lst (xs.map e)) = some (.bl (memT a xs)) := by
  show (memD (e a) (xs.map e)).map D.bl = _
  rw [E.mem hn]
  rfl
theorem o_notin [DecidableEq α] {n : Nat} (E : EE n e) (hn : n ≤ 63) {xs : List α} {a : α} : oNotIn (e a) (.lst (xs.map e)) = some (.bl (!memT a xs)) := by
  show (memD (e a) (xs.map e)).map (fun b => D.bl (!b)) = _
  rw [E.mem hn]
  rfl
theorem o_ixl {xs : List α} {j : Int} {a : α} (h : atI xs j = some a) : oIx (.lst (xs.map e)) (.int j) = some (e a) := by
  rw [v_ixl, Z.atI_map, h]
  rfl
theorem o_ixX {xs : List α} {j : Int} {a : α} (h : atI xs j = some a) : oIx (.tup (xs.map e)) (.int j) = some (e a) := by
  rw [v_ixt, Z.atI_map, h]
  rfl
theorem o_ixt {j : Int} (h : atI ds j = some d) : oIx (.tup ds) (.int j) = some d := h
theorem o_ixs {xs : List Int} {j a : Int} (h : atI xs j = some a) : oIx (.scr xs) (.int j) = some (.int a) := by
  rw [v_ixs, h]
  rfl
def idxT [DecidableEq α] (xs : List α) (a : α) : Option Int := (xs.findIdx? fun x => decide (x = a)).map fun j : Nat => (j : Int)
theorem o_idx [DecidableEq α] {n : Nat} (E : EE n e) (hn : n ≤ 63) {xs : List α} {a : α} {r : Int} (h : idxT xs a = some r) : oIndex (.lst (xs.map e)) (e a) = some (.int r) := by
  rw [E.index hn]
  unfold idxT at h
  cases hx : (xs.findIdx? fun x => decide (x = a)) with
  | none =>
    rw [hx] at h
    cases h
  | some j =>
    rw [hx] at h
    cases h
    rfl
theorem y_ixo {xs : List α} {j : Int} {a : α} (h : ev[i]? = some (.own (xs.map e))) (hg : g ev = some (.int j)) (ha : atI xs j = some a) : cIxo i g ev = some (e a) := by
  rw [v_ixo, h, hg, qIxo_s, Z.atI_map, ha]
  rfl
/-! equality of texts -/
def eqS (a b : Str) : Option Bool := eqD (.str a) (.str b)
theorem o_eqS {a b : Str} {r : Bool} (h : eqS a b = some r) : oEq (.str a) (.str b) = some (.bl r) := by
  unfold eqS at h
  unfold oEq
  rw [h]
  rfl
theorem o_neS {a b : Str} {r : Bool} (h : eqS a b = some r) : oNe (.str a) (.str b) = some (.bl (!r)) := by
  unfold eqS at h
  unfold oNe
  rw [h]
  rfl
/-! ### calls of built-ins -/
theorem b_len {xs : List α} : bLen [.lst (xs.map e)] = some (.int xs.length) := by rw [v_blen, List.length_map]
theorem b_lenX {xs : List α} : bLen [.tup (xs.map e)] = some (.int xs.length) := by rw [v_blent, List.length_map]
theorem b_lent : bLen [.tup ds] = some (.int ds.length) := rfl
theorem b_lens {xs : List Int} : bLen [.scr xs] = some (.int xs.length) := rfl
theorem b_int {a : Int} : bInt [.int a] = some (.int a) := rfl
theorem b_intB {a : Bool} : bInt [.bl a] = some (.int (if a = true then 1 else 0)) := rfl
def absT (a : Int) : Int := if a < 0 then -a else a
def maxT (a b : Int) : Int := if b > a then b else a
def minT (a b : Int) : Int := if b < a then b else a
theorem b_abs {a : Int} : bAbs [.int a] = some (.int (absT a)) := rfl
theorem b_max {a b : Int} : bMax [.int a, .int b] = some (.int (maxT a b)) := rfl
theorem b_min {a b : Int} : bMin [.int a, .int b] = some (.int (minT a b)) := rfl
theorem b_all {xs : List Bool} : bAll [.lst (xs.map D.bl)] = some (.bl (xs.all id)) := by
  have := asBs_map (fun b : Bool => b) xs
  rw [v_ball, this, q1_s, List.map_id']
theorem b_any {xs : List Bool} : bAny [.lst (xs.map D.bl)] = some (.bl (xs.any id)) := by
  have := asBs_map (fun b : Bool => b) xs
  rw [v_bany, this, q1_s, List.map_id']
theorem b_sum {xs : List Int} : bSum [.lst (xs.map D.int)] = some (.int xs.sum) := by
  have := asIs_map (fun b : Int => b) xs
  rw [v_bsum, this, q1_s, List.map_id']
theorem b_tuple {xs : List α} : bTuple [.lst (xs.map e)] = some (.tup (xs.map e)) := rfl
def rpT (d : D) : Option Str := match bRepr [d] with
  | some (.str s) => some s
  | _ => none
theorem b_repr {s : Str} (h : rpT d = some s) : bRepr [d] = some (.str s) := by
  unfold rpT at h
  split at h
  · rename_i s' hs
    cases h
    exact hs
  · cases h
/-! ### new lists -/
theorem map_eq {xs ys : List α} (h : xs = ys) : some (xs.map e) = some (ys.map e) := by rw [h]
theorem y_sl {xs : List α} {l r : EV → Option (Option Int)} {a b : Option Int} (hf : f ev = some (.lst (xs.map e))) (hl : l ev = some a) (hr : r ev = some b) : kSl f l r ev = some ((cutD xs a b).map e) := by
  rw [v_ksl, hf, hl, hr, qSl_s, Z.cutD_map]
theorem y_slo {xs : List α} {l r : EV → Option (Option Int)} {a b : Option Int} (hf : ev[i]? = some (.own (xs.map e))) (hl : l ev = some a) (hr : r ev = some b) : kSlo i l r ev = some ((cutD xs a b).map e) := by
  rw [v_kslo, hf, hl, hr, qSlo_s, Z.cutD_map]
theorem y_pno : pNo ev = some none := rfl
theorem y_pat {j : Int} (hf : f ev = some (.int j)) : pAt f ev = some (some j) := by rw [v_pat, hf]; rfl
theorem y_rev {xs : List α} (hf : f ev = some (.lst (xs.map e))) : kRev f ev = some (xs.reverse.map e) := by rw [v_krev, hf, qRev_s, List.map_reverse]
theorem y_revo {xs : List α} (hf : ev[i]? = some (.own (xs.map e))) : kRevo i ev = some (xs.reverse.map e) := by rw [v_krevo, hf, qRevo_s, List.map_reverse]
theorem y_cat {xs ys : List α} (hf : f ev = some (.lst (xs.map e))) (hg : g ev = some (.lst (ys.map e))) (hl : xs.length + ys.length ≤ 16777216) : kCat f g ev = some ((xs ++ ys).map e) := by
  rw [v_kcat, hf, hg, qCat_s, if_pos (by rw [List.length_map, List.length_map]; exact hl), List.map_append]
def repT (xs : List α) (n : Int) : Option (List α) := if -(2 ^ 63) ≤ n ∧ n < 2 ^ 63 ∧ xs.length * n.toNat ≤ 16777216 then some (List.replicate n.toNat xs).flatten else none
theorem y_rep {xs ys : List α} {n : Int} (hf : f ev = some (.lst (xs.map e))) (hg : g ev = some (.int n)) (h : repT xs n = some ys) : kRep f g ev = some (ys.map e) := by
  unfold repT at h
  obtain ⟨h1, rfl⟩ := of_ite h
  rw [v_krep, hf, hg, qRep_s, if_pos (by rw [List.length_map]; exact h1), List.map_flatten, List.map_replicate]
theorem y_kofL (hk : k ev = some [.lst ds]) : kOf k ev = some ds := by rw [v_kof, hk, qOf_l]
theorem y_kofT (hk : k ev = some [.tup ds]) : kOf k ev = some ds := by rw [v_kof, hk, qOf_t]
theorem y_kown (h : ev[i]? = some (.own ds)) : iOwn i ev = some ds := by rw [v_iown, h]; rfl
/-! a quick sort of pairs, each once -/
def plB (a b : Int × Int) : Bool := decide (a.1 < b.1) || (decide (a.1 = b.1) && decide (a.2 < b.2))
theorem plB_iff {a b : Int × Int} : plB a b = true ↔ plt a b := by
  unfold plB plt
  simp
def umL (a : Int × Int) (f : List (Int × Int) → List (Int × Int)) : List (Int × Int) → List (Int × Int)
  | [] => a :: f []
  | b :: bs => if plB a b = true then a :: f (b :: bs) else if plB b a = true then b :: umL a f bs else umL a f bs
def umg : List (Int × Int) → List (Int × Int) → List (Int × Int)
  | [] => fun l => l
  | a :: as => umL a (umg as)
def usortN : Nat → List (Int × Int) → List (Int × Int)
  | 0, _ => []
  | n + 1, l => match l with
    | [] => []
    | [a] => [a]
    | _ => umg (usortN n (l.take (l.length / 2))) (usortN n (l.drop (l.length / 2)))
def usort (l : List (Int × Int)) : List (Int × Int) := usortN l.length l
theorem pl_eq {a b : Int × Int} (h1 : ¬ plB a b = true) (h2 : ¬ plB b a = true) : a = b := by
  rw [plB_iff] at h1 h2
  unfold plt at h1 h2
  exact Prod.ext (by omega) (by omega)
theorem plt_trans {a b c : Int × Int} (h1 : plt a b) (h2 : plt b c) : plt a c := by
  unfold plt at h1 h2 ⊢
  omega
theorem umL_ok {a : Int × Int} {as : List (Int × Int)} {f : List (Int × Int) → List (Int × Int)} (ha : (a :: as).Pairwise plt) (hf : ∀ l : List (Int × Int), l.Pairwise plt → (f l).Pairwise plt ∧ ∀ x, x ∈ f l ↔ x ∈ as ∨ x ∈ l) :
    ∀ l : List (Int × Int), l.Pairwise plt → (umL a f l).Pairwise plt ∧ ∀ x, x ∈ umL a f l ↔ x ∈ a :: as ∨ x ∈ l
  | [], hl => by
    obtain ⟨h1, h2⟩ := hf [] hl
    obtain ⟨a1, a2⟩ := List.pairwise_cons.mp ha
    refine ⟨List.pairwise_cons.mpr ⟨fun x hx => a1 x (by simpa using (h2 x).mp hx), h1⟩, fun x => ?_⟩
    unfold umL
    rw [List.mem_cons, h2 x, List.mem_cons]
    simp
  | b :: bs, hl => by
    obtain ⟨a1, a2⟩ := List.pairwise_cons.mp ha
    obtain ⟨b1, b2⟩ := List.pairwise_cons.mp hl
    unfold umL
    split
    · rename_i h
      have h := plB_iff.mp h
      obtain ⟨h1, h2⟩ := hf (b :: bs) hl
      refine ⟨List.pairwise_cons.mpr ⟨fun x hx => ?_, h1⟩, fun x => ?_⟩
      · rcases (h2 x).mp hx with z | z
        · exact a1 x z
        · rcases List.mem_cons.mp z with rfl | z
          · exact h
          · exact plt_trans h (b1 x z)
      · rw [List.mem_cons, h2 x, List.mem_cons (a := x) (b := a), or_assoc]
    · rename_i h
      obtain ⟨r1, r2⟩ := umL_ok ha hf bs b2
      split
      · rename_i h'
        have h' := plB_iff.mp h'
        refine ⟨List.pairwise_cons.mpr ⟨fun x hx => ?_, r1⟩, fun x => ?_⟩
        · rcases (r2 x).mp hx with z | z
          · rcases List.mem_cons.mp z with rfl | z
            · exact h'
            · exact plt_trans h' (a1 x z)
          · exact b1 x z
        · rw [List.mem_cons, r2 x, List.mem_cons (a := x) (b := b)]
          constructor
          · rintro (z | z | z)
            · exact .inr (.inl z)
            · exact .inl z
            · exact .inr (.inr z)
          · rintro (z | z | z)
            · exact .inr (.inl z)
            · exact .inl z
            · exact .inr (.inr z)
      · rename_i h'
        have e := pl_eq h h'
        refine ⟨r1, fun x => ?_⟩
        rw [r2 x, List.mem_cons (a := x) (b := b), ← e, List.mem_cons]
        constructor
        · rintro ((z | z) | z)
          · exact .inl (.inl z)
          · exact .inl (.inr z)
          · exact .inr (.inr z)
        · rintro ((z | z) | (z | z))
          · exact .inl (.inl z)
          · exact .inl (.inr z)
          · exact .inl (.inl z)
          · exact .inr z
theorem umg_ok : ∀ as : List (Int × Int), as.Pairwise plt → ∀ l : List (Int × Int), l.Pairwise plt → (umg as l).Pairwise plt ∧ ∀ x, x ∈ umg as l ↔ x ∈ as ∨ x ∈ l
  | [], _, l, hl => ⟨hl, fun x => by simp [umg]⟩
  | a :: as, ha, l, hl => umL_ok ha (umg_ok as (List.pairwise_cons.mp ha).2) l hl
theorem usortN_ok : ∀ (n : Nat) (l : List (Int × Int)), l.length ≤ n → (usortN n l).Pairwise plt ∧ ∀ x, x ∈ usortN n l ↔ x ∈ l
  | 0, l, h => by
    obtain rfl : l = [] := List.length_eq_zero_iff.mp (by omega)
    exact ⟨List.Pairwise.nil, fun _ => Iff.rfl⟩
  | n + 1, [], _ => ⟨List.Pairwise.nil, fun _ => Iff.rfl⟩
  | n + 1, [a], _ => ⟨List.pairwise_singleton _ _, fun _ => Iff.rfl⟩
  | n + 1, a :: b :: l, h => by
    have h0 : (a :: b :: l).length = l.length + 2 := rfl
    obtain ⟨u1, u2⟩ := usortN_ok n ((a :: b :: l).take ((a :: b :: l).length / 2)) (by rw [List.length_take]; omega)
    obtain ⟨v1, v2⟩ := usortN_ok n ((a :: b :: l).drop ((a :: b :: l).length / 2)) (by rw [List.length_drop]; omega)
    obtain ⟨w1, w2⟩ := umg_ok _ u1 _ v1
    refine ⟨w1, fun x => (w2 x).trans ?_⟩
    rw [u2, v2, ← List.mem_append, List.take_append_drop]
theorem plt_ne {a b : Int × Int} (h : plt a b) : a ≠ b := fun e => by
  subst e
  unfold plt at h
  omega
theorem usort_eq (l : List (Int × Int)) : usort l = ssort l := by
  obtain ⟨h1, h2⟩ := usortN_ok l.length l (Nat.le_refl _)
  have n1 : (usort l).Nodup := h1.imp plt_ne
  have n2 : (ssort l).Nodup := (ssort_pw l).imp plt_ne
  refine List.Perm.eq_of_pairwise (le := plt) (fun a b _ _ x y => ?_) h1 (ssort_pw l) ((List.perm_ext_iff_of_nodup n1 n2).mpr fun x => (h2 x).trans mem_ssort.symm)
  unfold plt at x y
  omega
def ssT (xs : List (Int × Int)) : Option (List (Int × Int)) := if (usort xs).length < 1199 then some (usort xs) else none
theorem y_kss {xs ys : List (Int × Int)} (hk : k ev = some [.lst (xs.map (e2 D.int D.int))]) (h : ssT xs = some ys) : kSS k ev = some (ys.map (e2 D.int D.int)) := by
  have hk' : k ev = some [.lst (xs.map encP)] := hk
  unfold ssT at h
  obtain ⟨h1, rfl⟩ := of_ite h
  unfold kSS
  rw [hk']
  show (asPs (xs.map encP)).bind _ = _
  have h1' : (once xs).length < 1199 := by
    rw [usort_eq] at h1
    unfold ssort at h1
    rwa [List.length_mergeSort] at h1
  rw [asPs_map, Option.bind_some, if_pos h1', usort_eq]
  rfl
/-- the order of sorted, on typed data -/
noncomputable def leE (e : α → D) (a b : α) : Bool := leD (e a) (e b)
def AlkT (e : α → D) (xs : List α) : Prop := PySem.W.AllAlike ((xs.map e).map D.pd) ∧ PySem.W.Sortable ((xs.map e).map D.pd) ∧ ∀ d ∈ xs.map e, d.pd.depth ≤ 64
theorem y_sort {xs : List α} (hk : k ev = some [.lst (xs.map e)]) (h : AlkT e xs) : kSort k ev = some ((xs.mergeSort (leE e)).map e) := by
  have h2 : (xs.map e).mergeSort leD = (xs.mergeSort (leE e)).map e := (List.map_mergeSort (r := leE e) (s := leD) (f := e) (l := xs) fun a _ b _ => rfl).symm
  unfold kSort
  rw [hk]
  exact (if_pos h).trans (congrArg some h2)
/-! what is walked -/
theorem y_iL (hf : f ev = some (.lst ds)) : iLst f ev = some ds := by rw [v_ilst, hf]; rfl
theorem y_iT (hf : f ev = some (.tup ds)) : iTuple f ev = some ds := by rw [v_ituple, hf]; rfl
def rangeT (a b : Int) : List Int := (List.range (b - a).toNat).map fun j : Nat => a + (j : Int)
theorem rangeT_D (a b : Int) : rangeD a b = (rangeT a b).map D.int := by
  unfold rangeT rangeD
  rw [List.map_map]
  rfl
theorem rangeT_n (n : Nat) : rangeT 0 n = (List.range n).map fun j : Nat => (j : Int) := by
  unfold rangeT
  rw [show ((n : Int) - 0).toNat = n by omega]
  apply List.map_congr_left
  intro j _
  omega
def r62 (a : Int) : Prop := -4611686018427387904 ≤ a ∧ a < 4611686018427387904
instance (a : Int) : Decidable (r62 a) := inferInstanceAs (Decidable (_ ∧ _))
theorem y_r1 {a : Int} (hk : k ev = some [.int a]) (h : r62 a) : iR1 k ev = some ((rangeT 0 a).map D.int) := by
  rw [v_ir1, hk, qR1_s, if_pos (show _ ∧ _ from h), rangeT_D]
theorem y_r2 {a b : Int} (hk : k ev = some [.int a, .int b]) (h : r62 a) (h' : r62 b) : iR2 k ev = some ((rangeT a b).map D.int) := by
  rw [v_ir2, hk, qR2_s, if_pos ⟨h.1, h.2, h'.1, h'.2⟩, rangeT_D]
def enumT (xs : List α) : List (Int × α) := xs.zipIdx.map fun p => ((p.2 : Int), p.1)
theorem y_en {xs : List α} (hk : k ev = some [.lst (xs.map e)]) : iEn k ev = some ((enumT xs).map (e2 D.int e)) := by
  rw [v_ien, hk, qEn_s]
  unfold enumD enumT
  rw [List.zipIdx_map, List.map_map, List.map_map]
  rfl
theorem y_zp {xs : List α} {ys : List β} {e' : β → D} (hk : k ev = some [.lst (xs.map e), .lst (ys.map e')]) : iZp k ev = some ((xs.zip ys).map (e2 e e')) := by
  rw [v_izp, hk, qZp_s]
  unfold zipD
  rw [List.zip_map, List.map_map]
  rfl
end
end Z


set_option maxRecDepth 100000
set_option maxHeartbeats 4000000
/-! Y2: typed readings of statements, loops, comprehensions, defs. -/
namespace Z
open PySem PySem.Spec PyProof.Rows L2
section
variable {α β σ ρ : Type} {ev : EV} {f g : EV → Option D} {k : EV → Option (List D)} {p q : EV → Option Bool} {i j o : Nat} {d : D} {ds : List D} {e : α → D} {u v : EV → Option Fl}
/-- one slot changed -/
structure Ch (ev ev' : EV) (i : Nat) (l : L) : Prop where
  len : ev'.length = ev.length
  here : ev'[i]? = some l
  fr : ∀ j, j ≠ i → ev'[j]? = ev[j]?
theorem ch_set {l : L} (h : i < ev.length) : Ch ev (ev.set i l) i l := ⟨List.length_set .., List.getElem?_set_self h, fun j hj => List.getElem?_set_ne (Ne.symm hj)⟩
theorem ltn {N : Nat} (h : ev.length = N) (hi : Nat.blt i N = true) : i < ev.length := by
  rw [h]
  exact Nat.blt_eq.mp hi
theorem lta {l : L} (h : ev[i]? = some l) : i < ev.length := (List.getElem?_eq_some_iff.mp h).1
theorem nq {i j : Nat} (h : Nat.beq i j = false) : i ≠ j := fun e => by
  rw [e, show Nat.beq j j = true from Nat.beq_refl j] at h
  cases h
/-- slots outside a list stay -/
def Fr (M : List Nat) (ev ev' : EV) : Prop := ∀ j, M.elem j = false → ev'[j]? = ev[j]?
theorem Fr.refl {M : List Nat} : Fr M ev ev := fun _ _ => rfl
theorem Fr.one {ev1 ev2 : EV} {l : L} {M : List Nat} (h : Fr M ev ev1) (c : Ch ev1 ev2 i l) (hi : M.elem i = true) : Fr M ev ev2 := fun j hj => (c.fr j fun x => by
  rw [x, hi] at hj
  cases hj).trans (h j hj)
theorem Fr.more {ev1 ev2 : EV} {M M' : List Nat} (h : Fr M ev ev1) (c : Fr M' ev1 ev2) (hi : M'.all (M.elem ·) = true) : Fr M ev ev2 := fun j hj => (c j (by
  cases hx : M'.elem j with
  | false => rfl
  | true =>
    have h1 := List.all_eq_true.mp hi j (List.elem_iff.mp hx)
    rw [hj] at h1
    cases h1)).trans (h j hj)
theorem Fr.sub {ev1 : EV} {M M' : List Nat} (c : Fr M' ev ev1) (hi : M'.all (M.elem ·) = true) : Fr M ev ev1 := Fr.more Fr.refl c hi
theorem Fr.at {ev1 : EV} {M : List Nat} {l : L} (h : Fr M ev ev1) (a : ev[j]? = some l) (hj : M.elem j = false) : ev1[j]? = some l := (h j hj).trans a
theorem Ch.at {ev1 : EV} {l l' : L} (h : Ch ev ev1 i l') (a : ev[j]? = some l) (hj : Nat.beq j i = false) : ev1[j]? = some l := (h.fr j (nq hj)).trans a
/-! ### judgements -/
def Spz (x : Option Fl) (P : Fl → Prop) : Prop := ∃ r, x = some r ∧ P r
def Snz (x : Option Fl) (P : EV → Prop) : Prop := ∃ e, x = some (.nx e) ∧ P e
def Tgz (x : Option EV) (P : EV → Prop) : Prop := ∃ e, x = some e ∧ P e
variable {P : EV → Prop} {Q : Fl → Prop}
theorem Snz.mono {x : Option Fl} {P' : EV → Prop} (h : Snz x P) (m : ∀ e, P e → P' e) : Snz x P' := by
  obtain ⟨e, h1, h2⟩ := h
  exact ⟨e, h1, m e h2⟩
theorem Spz.mono {x : Option Fl} {Q' : Fl → Prop} (h : Spz x Q) (m : ∀ e, Q e → Q' e) : Spz x Q' := by
  obtain ⟨e, h1, h2⟩ := h
  exact ⟨e, h1, m e h2⟩
theorem sp_seqn (h : Snz (u ev) fun e => Spz (v e) Q) : Spz (sSeq u v ev) Q := by
  obtain ⟨e, h1, r, h2, h3⟩ := h
  exact ⟨r, (seq_nx h1).trans h2, h3⟩
theorem sn_seqn (h : Snz (u ev) fun e => Snz (v e) P) : Snz (sSeq u v ev) P := by
  obtain ⟨e, h1, r, h2, h3⟩ := h
  exact ⟨r, (seq_nx h1).trans h2, h3⟩
theorem sp_seq (h : Spz (u ev) fun r => (∃ e, r = .nx e ∧ Spz (v e) Q) ∨ ((∀ e, r ≠ .nx e) ∧ Q r)) : Spz (sSeq u v ev) Q := by
  obtain ⟨r, h1, h2⟩ := h
  rcases h2 with ⟨e, rfl, r', h3, h4⟩ | ⟨hn, h3⟩
  · exact ⟨r', (seq_nx h1).trans h3, h4⟩
  · refine ⟨r, ?_, h3⟩
    rw [v_seq, h1]
    cases r with
    | nx e => exact absurd rfl (hn e)
    | rt d => rfl
    | bk e => rfl
    | ct e => rfl
    | ex e x d => rfl
theorem sp_nx (h : Snz (u ev) fun e => Q (.nx e)) : Spz (u ev) Q := by
  obtain ⟨e, h1, h2⟩ := h
  exact ⟨_, h1, h2⟩
/-! ### targets -/
theorem tg_name (hi : i < ev.length) (k : ∀ e, Ch ev e i (.fro d) → P e) : Tgz (mName i d ev) P := ⟨_, rfl, k _ (ch_set hi)⟩
theorem tgs_nil (h : P ev) : Tgz (mNil [] ev) P := ⟨_, rfl, h⟩
theorem tgs_cons {m : D → EV → Option EV} {ms : List D → EV → Option EV} (h : Tgz (m d ev) fun e => Tgz (ms ds e) P) : Tgz (mCons m ms (d :: ds) ev) P := by
  obtain ⟨e, h1, e', h2, h3⟩ := h
  exact ⟨e', by rw [v_mcons, h1]; exact h2, h3⟩
theorem tg_tup {ms : List D → EV → Option EV} (h : Tgz (ms ds ev) P) : Tgz (mTup ms (.tup ds) ev) P := h
/-! ### statements -/
theorem sn_set {l : EV → Option L} {x : L} (hi : i < ev.length) (h : l ev = some x) (k : ∀ e, Ch ev e i x → P e) : Snz (sSetL i l ev) P := ⟨_, by rw [v_setl, h]; rfl, k _ (ch_set hi)⟩
theorem y_lF (h : f ev = some d) : lF f ev = some (.fro d) := by rw [v_lf, h]; rfl
theorem y_lO (h : k ev = some ds) : lO k ev = some (.own ds) := by rw [v_lo, h]; rfl
theorem sn_par {l m : EV → Option L} {x y : L} (hi : i < ev.length) (hj : j < ev.length) (h : l ev = some x) (h' : m ev = some y) (k : ∀ a e, Ch ev a i x → Ch a e j y → P e) : Snz (sPar i j l m ev) P :=
  ⟨_, by rw [v_par, h, h']; rfl, k _ _ (ch_set hi) (ch_set (by rw [List.length_set]; exact hj))⟩
theorem sn_par3 {l m n : EV → Option L} {x y z : L} (hi : i < ev.length) (hj : j < ev.length) (ho : o < ev.length) (h : l ev = some x) (h' : m ev = some y) (h'' : n ev = some z) (k : ∀ a b e, Ch ev a i x → Ch a b j y → Ch b e o z → P e) : Snz (sPar3 i j o l m n ev) P :=
  ⟨_, by rw [v_par3, h, h', h'']; rfl, k _ _ _ (ch_set hi) (ch_set (by rw [List.length_set]; exact hj)) (ch_set (by rw [List.length_set, List.length_set]; exact ho))⟩
theorem sn_asg {m : D → EV → Option EV} (hf : f ev = some d) (h : Tgz (m d ev) P) : Snz (sAsg f m ev) P := by
  obtain ⟨e, h1, h2⟩ := h
  exact ⟨e, by rw [v_asg, hf, qAsg_s, h1]; rfl, h2⟩
theorem sn_app {xs : List α} {a : α} (h : ev[i]? = some (.own (xs.map e))) (hf : f ev = some (e a)) (hl : xs.length < 16777216) (k : ∀ ev', Ch ev ev' i (.own ((xs ++ [a]).map e)) → P ev') : Snz (sApp i f ev) P := by
  refine ⟨ev.set i (.own ((xs ++ [a]).map e)), ?_, k _ (ch_set (lta h))⟩
  rw [v_app, h, hf, qApp_s, if_pos (by rw [List.length_map]; exact hl), List.map_append]
  rfl
theorem sn_ext {xs ys : List α} (h : ev[i]? = some (.own (xs.map e))) (hf : f ev = some (.lst (ys.map e))) (hl : xs.length + ys.length ≤ 16777216) (k : ∀ ev', Ch ev ev' i (.own ((xs ++ ys).map e)) → P ev') : Snz (sExt i f ev) P := by
  refine ⟨ev.set i (.own ((xs ++ ys).map e)), ?_, k _ (ch_set (lta h))⟩
  rw [v_ext, h, hf, qExt_s, if_pos (by rw [List.length_map, List.length_map]; exact hl), List.map_append]
def setT (xs : List α) (n : Int) (a : α) : Option (List α) := (ixN xs.length n).map fun j => xs.set j a
theorem sn_sub {xs ys : List α} {n : Int} {a : α} (h : ev[i]? = some (.own (xs.map e))) (hg : g ev = some (.int n)) (hf : f ev = some (e a)) (hs : setT xs n a = some ys) (k : ∀ ev', Ch ev ev' i (.own (ys.map e)) → P ev') : Snz (sSub i g f ev) P := by
  refine ⟨ev.set i (.own (ys.map e)), ?_, k _ (ch_set (lta h))⟩
  unfold setT at hs
  obtain ⟨j, h1, rfl⟩ := Option.map_eq_some_iff.mp hs
  rw [v_sub, h, hg, hf, qSub_s, List.length_map, h1, qSub2_s, List.map_set]
theorem sn_drop (hf : f ev = some d) (k : P ev) : Snz (sDrop f ev) P := ⟨ev, by rw [v_drop, hf]; rfl, k⟩
theorem sn_nx (k : P ev) : Snz (sNx ev) P := ⟨ev, rfl, k⟩
theorem sn_frz (h : ev[i]? = some (.own ds)) (k : ∀ ev', Ch ev ev' i (.fro (.lst ds)) → Snz (u ev') P) : Snz (sFrz i u ev) P := by
  have := k _ (ch_set (l := .fro (.lst ds)) (lta h))
  rw [v_frz, v_evfrz, h]
  exact this
theorem sp_frz (h : ev[i]? = some (.own ds)) (k : ∀ ev', Ch ev ev' i (.fro (.lst ds)) → Spz (u ev') Q) : Spz (sFrz i u ev) Q := by
  have := k _ (ch_set (l := .fro (.lst ds)) (lta h))
  rw [v_frz, v_evfrz, h]
  exact this
theorem sp_ret (hf : f ev = some d) (k : Q (.rt d)) : Spz (sRet f ev) Q := ⟨_, by rw [v_ret, hf]; rfl, k⟩
theorem sp_retN (k : Q (.rt .non)) : Spz ((fun _ : EV => some (.rt .non)) ev) Q := ⟨_, rfl, k⟩
theorem sp_bk (k : Q (.bk ev)) : Spz (sBk ev) Q := ⟨_, rfl, k⟩
theorem sp_ct (k : Q (.ct ev)) : Spz (sCt ev) Q := ⟨_, rfl, k⟩
theorem sp_if {b : Bool} (hp : p ev = some b) (ht : b = true → Spz (u ev) Q) (hf : b = false → Spz (v ev) Q) : Spz (sIf p u v ev) Q := by
  unfold Spz
  rw [v_sif, hp]
  cases b with
  | true => exact ht rfl
  | false => exact hf rfl
theorem sn_if {b : Bool} (hp : p ev = some b) (ht : b = true → Snz (u ev) P) (hf : b = false → Snz (v ev) P) : Snz (sIf p u v ev) P := by
  unfold Snz
  rw [v_sif, hp]
  cases b with
  | true => exact ht rfl
  | false => exact hf rfl
/-! ### loops -/
def forT (f : σ → α → Option σ) : List α → σ → Option σ
  | [], s => some s
  | a :: as, s => (f s a).bind (forT f as)
theorem forT_nil {f : σ → α → Option σ} {s : σ} : forT f [] s = some s := rfl
theorem forT_cons {f : σ → α → Option σ} {s : σ} {a : α} {as : List α} : forT f (a :: as) s = (f s a).bind (forT f as) := rfl
inductive Cf (σ ρ : Type) where
  | nx (s : σ) | rt (r : ρ) | bk (s : σ)
def forR (f : σ → α → Option (Cf σ ρ)) : List α → σ → Option (Sum σ ρ)
  | [], s => some (.inl s)
  | a :: as, s => (f s a).bind fun o => match o with
    | .nx s' => forR f as s'
    | .rt r => some (.inr r)
    | .bk s' => some (.inl s')
/-- what a body's end says, for a loop without returns -/
def bT (R : EV → Prop) : Fl → Prop
  | .nx e => R e
  | .ct e => R e
  | _ => False
def bR (R : σ → EV → Prop) (er : ρ → D) : Cf σ ρ → Fl → Prop
  | .nx s, .nx e => R s e
  | .nx s, .ct e => R s e
  | .bk s, .bk e => R s e
  | .rt r, .rt d => d = er r
  | _, _ => False
theorem for_go {R : σ → EV → Prop} {m : D → EV → Option EV} {step : σ → α → Option σ} (hb : ∀ s a s' ev, R s ev → step s a = some s' → Tgz (m (e a) ev) fun x => Spz (u x) (bT (R s'))) :
    ∀ {xs : List α} {s s' : σ} {ev : EV}, R s ev → forT step xs s = some s' → ∃ ev', forGo m u (xs.map e) ev = some (.nx ev') ∧ R s' ev'
  | [], s, s', ev, h, hf => by
    cases hf
    exact ⟨ev, rfl, h⟩
  | a :: xs, s, s', ev, h, hf => by
    obtain ⟨s1, h1, h2⟩ := Z.ob hf
    obtain ⟨x, g1, r, g2, g3⟩ := hb s a s1 ev h h1
    rw [List.map_cons]
    unfold forGo
    rw [g1, Option.bind_some, g2, Option.bind_some]
    cases r with
    | nx e' => exact for_go hb g3 h2
    | ct e' => exact for_go hb g3 h2
    | rt d => exact g3.elim
    | bk e' => exact g3.elim
    | ex e' x d => exact g3.elim
theorem sn_for {fi : EV → Option (List D)} {m : D → EV → Option EV} {step : σ → α → Option σ} {xs : List α} {s s' : σ} (R : σ → EV → Prop) (hi : fi ev = some (xs.map e)) (hf : forT step xs s = some s') (h0 : R s ev)
    (hb : ∀ s a s' ev, R s ev → step s a = some s' → Tgz (m (e a) ev) fun x => Spz (u x) (bT (R s'))) (k : ∀ ev', R s' ev' → P ev') : Snz (sFor fi m u ev) P := by
  obtain ⟨ev', h1, h2⟩ := for_go hb h0 hf
  exact ⟨ev', by rw [v_for, hi]; exact h1, k ev' h2⟩
theorem for_goR {R : σ → EV → Prop} {er : ρ → D} {m : D → EV → Option EV} {step : σ → α → Option (Cf σ ρ)} (hb : ∀ s a o ev, R s ev → step s a = some o → Tgz (m (e a) ev) fun x => Spz (u x) (bR R er o)) :
    ∀ {xs : List α} {s : σ} {o : Sum σ ρ} {ev : EV}, R s ev → forR step xs s = some o → ∃ r, forGo m u (xs.map e) ev = some r ∧ ((∃ s' ev', o = .inl s' ∧ r = .nx ev' ∧ R s' ev') ∨ ∃ x, o = .inr x ∧ r = .rt (er x))
  | [], s, o, ev, h, hf => by
    cases hf
    exact ⟨_, rfl, .inl ⟨_, _, rfl, rfl, h⟩⟩
  | a :: xs, s, o, ev, h, hf => by
    obtain ⟨o1, h1, h2⟩ := Z.ob hf
    obtain ⟨x, g1, r, g2, g3⟩ := hb s a o1 ev h h1
    rw [List.map_cons]
    unfold forGo
    rw [g1, Option.bind_some, g2, Option.bind_some]
    cases o1 with
    | nx s1 =>
      cases r with
      | nx e' => exact for_goR hb g3 h2
      | ct e' => exact for_goR hb g3 h2
      | rt d => exact g3.elim
      | bk e' => exact g3.elim
      | ex e' x d => exact g3.elim
    | bk s1 =>
      cases h2
      cases r with
      | bk e' => exact ⟨_, rfl, .inl ⟨_, _, rfl, rfl, g3⟩⟩
      | nx e' => exact g3.elim
      | ct e' => exact g3.elim
      | rt d => exact g3.elim
      | ex e' x d => exact g3.elim
    | rt x =>
      cases h2
      cases r with
      | rt d =>
        rw [show d = er x from g3]
        exact ⟨_, rfl, .inr ⟨_, rfl, rfl⟩⟩
      | nx e' => exact g3.elim
      | ct e' => exact g3.elim
      | bk e' => exact g3.elim
      | ex e' x d => exact g3.elim
theorem sp_for {fi : EV → Option (List D)} {m : D → EV → Option EV} {step : σ → α → Option (Cf σ ρ)} {xs : List α} {s : σ} {o : Sum σ ρ} (R : σ → EV → Prop) (er : ρ → D) (hi : fi ev = some (xs.map e)) (hf : forR step xs s = some o) (h0 : R s ev)
    (hb : ∀ s a o ev, R s ev → step s a = some o → Tgz (m (e a) ev) fun x => Spz (u x) (bR R er o)) (k1 : ∀ s' ev', o = .inl s' → R s' ev' → Q (.nx ev')) (k2 : ∀ r, o = .inr r → Q (.rt (er r))) : Spz (sFor fi m u ev) Q := by
  obtain ⟨r, h1, h2⟩ := for_goR hb h0 hf
  refine ⟨r, by rw [v_for, hi]; exact h1, ?_⟩
  rcases h2 with ⟨s', ev', h3, rfl, h4⟩ | ⟨x, h3, rfl⟩
  · exact k1 s' ev' h3 h4
  · exact k2 x h3
/-! while -/
def whileN (c : σ → Option Bool) (b : σ → Option σ) : Nat → σ → Option σ
  | 0, _ => none
  | n + 1, s => (c s).bind fun t => if t = true then (b s).bind (whileN c b n) else some s
theorem whileN_mono {c : σ → Option Bool} {b : σ → Option σ} : ∀ {n m : Nat} {s r : σ}, whileN c b n s = some r → n ≤ m → whileN c b m s = some r
  | 0, _, _, _, h, _ => nomatch h
  | n + 1, 0, _, _, _, h => absurd h (by omega)
  | n + 1, m + 1, s, r, h, hm => by
    obtain ⟨t, h1, h2⟩ := Z.ob h
    unfold whileN
    rw [h1, Option.bind_some]
    cases t with
    | true =>
      rw [if_pos rfl] at h2 ⊢
      obtain ⟨s1, h3, h4⟩ := Z.ob h2
      rw [h3, Option.bind_some]
      exact whileN_mono h4 (by omega)
    | false =>
      rw [if_neg (by decide)] at h2 ⊢
      exact h2
open Classical in
noncomputable def whileT (c : σ → Option Bool) (b : σ → Option σ) (s : σ) : Option σ := if h : ∃ r n, whileN c b n s = some r then some (choose h) else none
theorem whileT_of {c : σ → Option Bool} {b : σ → Option σ} {n : Nat} {s r : σ} (h : whileN c b n s = some r) : whileT c b s = some r := by
  have hx : ∃ r n, whileN c b n s = some r := ⟨r, n, h⟩
  unfold whileT
  rw [dif_pos hx]
  obtain ⟨m, hm⟩ := Classical.choose_spec hx
  have h1 := whileN_mono h (Nat.le_max_left n m)
  have h2 := whileN_mono hm (Nat.le_max_right n m)
  rw [h1] at h2
  exact h2.symm
theorem whileT_inv {c : σ → Option Bool} {b : σ → Option σ} {s r : σ} (h : whileT c b s = some r) : ∃ n, whileN c b n s = some r := by
  unfold whileT at h
  split at h
  · rename_i hx
    obtain ⟨m, hm⟩ := Classical.choose_spec hx
    cases h
    exact ⟨m, hm⟩
  · cases h
theorem while_go {R : σ → EV → Prop} {t : EV → Option Bool} {c : σ → Option Bool} {b : σ → Option σ} (ht : ∀ s ev r, R s ev → c s = some r → t ev = some r) (hb : ∀ s s' ev, R s ev → b s = some s' → Spz (u ev) (bT (R s'))) :
    ∀ {n : Nat} {s s' : σ} {ev : EV}, R s ev → whileN c b n s = some s' → ∃ ev', whileGo t u n ev = some (.nx ev') ∧ R s' ev'
  | 0, _, _, _, _, h => nomatch h
  | n + 1, s, s', ev, h, hw => by
    obtain ⟨r, h1, h2⟩ := Z.ob hw
    unfold whileGo
    rw [ht s ev r h h1, Option.bind_some]
    cases r with
    | true =>
      rw [if_pos rfl] at h2 ⊢
      obtain ⟨s1, h3, h4⟩ := Z.ob h2
      obtain ⟨x, g1, g2⟩ := hb s s1 ev h h3
      rw [g1, Option.bind_some]
      cases x with
      | nx e' => exact while_go ht hb g2 h4
      | ct e' => exact while_go ht hb g2 h4
      | rt d => exact g2.elim
      | bk e' => exact g2.elim
      | ex e' x d => exact g2.elim
    | false =>
      rw [if_neg (by decide)] at h2 ⊢
      cases h2
      exact ⟨ev, rfl, h⟩
theorem sn_while {t : EV → Option Bool} {c : σ → Option Bool} {b : σ → Option σ} {s s' : σ} (R : σ → EV → Prop) (hf : whileT c b s = some s') (h0 : R s ev) (ht : ∀ s ev r, R s ev → c s = some r → t ev = some r)
    (hb : ∀ s s' ev, R s ev → b s = some s' → Spz (u ev) (bT (R s'))) (k : ∀ ev', R s' ev' → P ev') : Snz (sWhile t u ev) P := by
  obtain ⟨n, hn⟩ := whileT_inv hf
  obtain ⟨ev', h1, h2⟩ := while_go ht hb h0 hn
  exact ⟨ev', sWhile_of h1, k ev' h2⟩
/-! ### comprehensions -/
def compT (g : α → Option (Option β)) : List α → Option (List β)
  | [] => some []
  | a :: as => (g a).bind fun r => (compT g as).bind fun rs => some (match r with
    | some b => b :: rs
    | none => rs)
theorem compT_map (h : α → β) : ∀ xs : List α, compT (fun a => some (some (h a))) xs = some (xs.map h)
  | [] => rfl
  | a :: as => by
    unfold compT
    rw [compT_map h as]
    rfl
theorem compT_maps {g : α → Option (Option β)} {h : α → β} : ∀ {xs : List α}, (∀ a ∈ xs, g a = some (some (h a))) → compT g xs = some (xs.map h)
  | [], _ => rfl
  | a :: as, hg => by
    unfold compT
    rw [hg a List.mem_cons_self, compT_maps fun b hb => hg b (List.mem_cons_of_mem _ hb)]
    rfl
theorem compT_filters {g : α → Option (Option β)} {h : α → β} {c : α → Bool} : ∀ {xs : List α}, (∀ a ∈ xs, g a = some (if c a = true then some (h a) else none)) → compT g xs = some ((xs.filter c).map h)
  | [], _ => rfl
  | a :: as, hg => by
    unfold compT
    rw [hg a List.mem_cons_self, compT_filters fun b hb => hg b (List.mem_cons_of_mem _ hb)]
    rw [List.filter_cons]
    by_cases hc : c a = true
    · rw [if_pos hc, if_pos hc]
      rfl
    · rw [if_neg hc, if_neg hc]
      rfl
theorem wipe_len {vs : List Nat} : (evWipe ev vs).length = ev.length := by
  induction vs with
  | nil => rfl
  | cons v vs ih =>
    show ((evWipe ev vs).set v .un).length = _
    rw [List.length_set, ih]
theorem wipe_fr {vs : List Nat} : Fr vs ev (evWipe ev vs) := by
  induction vs with
  | nil => exact fun _ _ => rfl
  | cons v vs ih =>
    intro j hj
    show ((evWipe ev vs).set v .un)[j]? = _
    rw [List.elem_cons] at hj
    have h1 : (j == v) = false := by
      cases hx : (j == v) with
      | false => rfl
      | true =>
        rw [hx] at hj
        cases hj
    rw [h1] at hj
    rw [List.getElem?_set_ne (fun h => by rw [h, beq_self_eq_true] at h1; cases h1)]
    exact ih j hj
/-- one turn of a comprehension -/
def CE (x : Option (Option D)) (r : Option D) : Prop := x = some r
theorem ce_in {m : D → EV → Option EV} (h : Tgz (m d ev) fun x => ∃ b, p x = some b ∧ (b = true → ∃ y, f x = some y ∧ r = some y) ∧ (b = false → r = none)) : (m d ev).bind (fun ev' => (p ev').bind fun b => if b = true then (f ev').map some else some none) = some r := by
  obtain ⟨x, h1, b, h2, h3, h4⟩ := h
  rw [h1, Option.bind_some, h2, Option.bind_some]
  cases b with
  | true =>
    obtain ⟨y, h5, rfl⟩ := h3 rfl
    rw [if_pos rfl, h5]
    rfl
  | false =>
    rw [if_neg (by decide), h4 rfl]
theorem y_comp {e' : β → D} {fi : EV → Option (List D)} {m : D → EV → Option EV} {vs : List Nat} {g : α → Option (Option β)} {xs : List α} {ys : List β} (hi : fi ev = some (xs.map e)) (hl : xs.length ≤ 16777216) (hc : compT g xs = some ys)
    (he : ∀ a r w, w.length = ev.length → Fr vs ev w → g a = some r → Tgz (m (e a) w) fun x => ∃ b, p x = some b ∧ (b = true → ∃ y, f x = some y ∧ r.map e' = some y) ∧ (b = false → r.map e' = none)) : kComp fi m p f vs ev = some (ys.map e') := by
  unfold kComp
  rw [hi, Option.bind_some, if_pos (by rw [List.length_map]; exact hl)]
  clear hi hl
  induction xs generalizing ys with
  | nil =>
    cases hc
    rfl
  | cons a as ih =>
    obtain ⟨r, h1, h2⟩ := Z.ob hc
    obtain ⟨rs, h3, h4⟩ := Z.ob h2
    rw [List.map_cons]
    unfold compGo
    rw [ce_in (he a r (evWipe ev vs) wipe_len wipe_fr h1), Option.bind_some, ih h3]
    cases h4
    cases r <;> rfl
/-! ### defs -/
theorem y_fn {n m : Nat} {r : ρ} {er : ρ → D} (hn : ds.length = n) (h : Spz (u (evStart ds m)) fun x => x = .rt (er r) ∨ ((∃ e, x = .nx e) ∧ er r = .non)) : runFn n m u ds = some (er r) := by
  obtain ⟨x, h1, h2⟩ := h
  rcases h2 with rfl | ⟨⟨e, rfl⟩, h3⟩
  · exact run_fn hn h1
  · rw [h3]
    exact run_fnN hn h1
end
end Z
namespace Z
open PySem PySem.Spec PyProof.Rows L2
/-! what gen2.py leans on beside -/
section
variable {α β σ ρ : Type} {ev : EV} {f g : EV → Option D} {k : EV → Option (List D)} {p q : EV → Option Bool} {i j o : Nat} {d : D} {ds : List D} {e : α → D} {u v w : EV → Option Fl} {P : EV → Prop} {Q : Fl → Prop}
theorem assoc (u v w : EV → Option Fl) (ev : EV) : sSeq (sSeq u v) w ev = sSeq u (sSeq v w) ev := by
  rw [v_seq, v_seq, v_seq]
  cases u ev with
  | none => rfl
  | some r => cases r <;> first | rw [qSeq_n, qSeq_n, v_seq] | rfl
theorem sp_assoc (h : Spz (sSeq u (sSeq v w) ev) Q) : Spz (sSeq (sSeq u v) w ev) Q := by
  rw [assoc]
  exact h
theorem sn_assoc (h : Snz (sSeq u (sSeq v w) ev) P) : Snz (sSeq (sSeq u v) w ev) P := by
  rw [assoc]
  exact h
theorem sp_ret_seq (hf : f ev = some d) (k : Q (.rt d)) : Spz (sSeq (sRet f) v ev) Q := ⟨.rt d, by rw [v_seq, v_ret, hf]; rfl, k⟩
theorem sp_retN_seq (k : Q (.rt .non)) : Spz (sSeq (fun _ : EV => some (.rt .non)) v ev) Q := ⟨.rt .non, rfl, k⟩
theorem sp_bk_seq (k : Q (.bk ev)) : Spz (sSeq sBk v ev) Q := ⟨.bk ev, rfl, k⟩
theorem sp_ct_seq (k : Q (.ct ev)) : Spz (sSeq sCt v ev) Q := ⟨.ct ev, rfl, k⟩
theorem sp_frz_seq (h : ev[i]? = some (.own ds)) (k : ∀ ev', Ch ev ev' i (.fro (.lst ds)) → Spz (sSeq u v ev') Q) : Spz (sSeq (sFrz i u) v ev) Q := by
  have := k _ (ch_set (l := .fro (.lst ds)) (lta h))
  unfold Spz at this ⊢
  rw [v_seq] at this ⊢
  rw [v_frz, v_evfrz, h]
  exact this
theorem sp_if_seq {b : Bool} (hp : p ev = some b) (ht : b = true → Spz (sSeq u w ev) Q) (hf : b = false → Spz (sSeq v w ev) Q) : Spz (sSeq (sIf p u v) w ev) Q := by
  unfold Spz
  rw [v_seq, v_sif, hp]
  cases b with
  | true =>
    have := ht rfl
    unfold Spz at this
    rw [v_seq] at this
    exact this
  | false =>
    have := hf rfl
    unfold Spz at this
    rw [v_seq] at this
    exact this
theorem sn_if_seq {b : Bool} (hp : p ev = some b) (ht : b = true → Snz (sSeq u w ev) P) (hf : b = false → Snz (sSeq v w ev) P) : Snz (sSeq (sIf p u v) w ev) P := by
  unfold Snz
  rw [v_seq, v_sif, hp]
  cases b with
  | true =>
    have := ht rfl
    unfold Snz at this
    rw [v_seq] at this
    exact this
  | false =>
    have := hf rfl
    unfold Snz at this
    rw [v_seq] at this
    exact this
theorem ce_t {e' : β → D} {x : EV} {y : β} {r : Option β} (hf : f x = some (e' y)) (hr : some (some y) = some r) : ∃ z, f x = some z ∧ r.map e' = some z := by
  cases hr
  exact ⟨_, hf, rfl⟩
theorem ce_f {e' : β → D} {r : Option β} (hr : some (none : Option β) = some r) : r.map e' = none := by
  cases hr
  rfl
theorem cgo {x : Option α} {y : α} (h : x = some y) : some (eO e x) = some (e y) := by
  rw [h]
  rfl
def elimT (o : Sum σ ρ) (f : σ → Option β) (g : ρ → Option β) : Option β := match o with
  | .inl s => f s
  | .inr r => g r
theorem sum_l {f : σ → Option β} {g : ρ → Option β} {s : σ} {r : β} (h : elimT (.inl s) f g = some r) : f s = some r := h
theorem sum_r {f : σ → Option β} {g : ρ → Option β} {s : ρ} {r : β} (h : elimT (.inr s) f g = some r) : g s = some r := h
@[simp] theorem elimT_l {f : σ → Option β} {g : ρ → Option β} {s : σ} : elimT (.inl s) f g = f s := rfl
@[simp] theorem elimT_r {f : σ → Option β} {g : ρ → Option β} {s : ρ} : elimT (.inr s) f g = g s := rfl
def x1T : List α → Option α
  | [a] => some a
  | _ => none
def x2T : List α → Option (α × α)
  | [a, b] => some (a, b)
  | _ => none
def x3T : List α → Option (α × α × α)
  | [a, b, c] => some (a, b, c)
  | _ => none
def x4T : List α → Option (α × α × α × α)
  | [a, b, c, d] => some (a, b, c, d)
  | _ => none
def x5T : List α → Option (α × α × α × α × α)
  | [a, b, c, d, x] => some (a, b, c, d, x)
  | _ => none
theorem cgx1 {xs : List α} {y : α} (h : x1T xs = some y) : some (eX e xs) = some (e1 e y) := by
  match xs, h with
  | [a], h => cases h; rfl
theorem cgx2 {xs : List α} {y : α × α} (h : x2T xs = some y) : some (eX e xs) = some (e2 e e y) := by
  match xs, h with
  | [a, b], h => cases h; rfl
theorem cgx3 {xs : List α} {y : α × α × α} (h : x3T xs = some y) : some (eX e xs) = some (e3 e e e y) := by
  match xs, h with
  | [a, b, c], h => cases h; rfl
theorem cgx4 {xs : List α} {y : α × α × α × α} (h : x4T xs = some y) : some (eX e xs) = some (e4 e e e e y) := by
  match xs, h with
  | [a, b, c, d], h => cases h; rfl
theorem cgx5 {xs : List α} {y : α × α × α × α × α} (h : x5T xs = some y) : some (eX e xs) = some (e5 e e e e e y) := by
  match xs, h with
  | [a, b, c, d, x], h => cases h; rfl
open Classical in
noncomputable def gdc (p : Prop) : Option Unit := if p then some () else none
theorem gdc_of {p : Prop} {u : Unit} (h : gdc p = some u) : p := by
  unfold gdc at h
  split at h
  · assumption
  · cases h
theorem gdc_t {p : Prop} (h : p) : gdc p = some () := if_pos h
theorem alk_int (xs : List Int) : AlkT D.int xs := by
  refine ⟨?_, ?_, ?_⟩
  · intro d hd d' hd'
    obtain ⟨e, he, rfl⟩ := List.mem_map.mp hd
    obtain ⟨e', he', rfl⟩ := List.mem_map.mp hd'
    obtain ⟨p, _, rfl⟩ := List.mem_map.mp he
    obtain ⟨q, _, rfl⟩ := List.mem_map.mp he'
    rfl
  · right
    intro d hd
    obtain ⟨e, he, rfl⟩ := List.mem_map.mp hd
    obtain ⟨p, _, rfl⟩ := List.mem_map.mp he
    exact ⟨(fun h => nomatch h), fun _ h => nomatch h⟩
  · intro d hd
    obtain ⟨p, _, rfl⟩ := List.mem_map.mp hd
    exact Nat.zero_le _
theorem alk_pair (xs : List (Int × Int)) : AlkT (e2 D.int D.int) xs := by
  refine ⟨?_, ?_, ?_⟩
  · intro d hd d' hd'
    obtain ⟨e, he, rfl⟩ := List.mem_map.mp hd
    obtain ⟨e', he', rfl⟩ := List.mem_map.mp hd'
    obtain ⟨p, _, rfl⟩ := List.mem_map.mp he
    obtain ⟨q, _, rfl⟩ := List.mem_map.mp he'
    rfl
  · left
    intro d hd
    obtain ⟨e, he, rfl⟩ := List.mem_map.mp hd
    obtain ⟨p, _, rfl⟩ := List.mem_map.mp he
    exact ⟨_, _, rfl⟩
  · intro d hd
    obtain ⟨p, _, rfl⟩ := List.mem_map.mp hd
    show max 0 (max 0 0) + 1 ≤ 64
    decide
theorem y_slT {xs : List α} {l r : EV → Option (Option Int)} {a b : Option Int} (hf : f ev = some (.tup (xs.map e))) (hl : l ev = some a) (hr : r ev = some b) (hg : ¬ (HT.sIx (List.length xs) 0 a = 0 ∧ HT.sIx (List.length xs) (List.length xs) b = List.length xs)) : cSlT f l r ev = some (.tup ((Z.cutD xs a b).map e)) := by
  rw [v_slT, hf, hl, hr, qSlT_s, if_pos (by rw [List.length_map]; exact hg), Z.cutD_map]
/-- the least of a list -/
noncomputable def minE (e : α → D) (xs : List α) : Option α := open Classical in if h : ∃ a, bMinD [.lst (xs.map e)] = some (e a) then some (choose h) else none
theorem b_minE {xs : List α} {a : α} (h : minE e xs = some a) : bMinD [.lst (xs.map e)] = some (e a) := by
  unfold minE at h
  split at h
  · rename_i hx
    cases h
    exact Classical.choose_spec hx
  · cases h
theorem minE_of {xs : List α} {a : α} (hi : ∀ b, e a = e b → a = b) (h : bMinD [.lst (xs.map e)] = some (e a)) : minE e xs = some a := by
  have hx : ∃ a, bMinD [.lst (xs.map e)] = some (e a) := ⟨a, h⟩
  unfold minE
  rw [dif_pos hx]
  have h2 := Classical.choose_spec hx
  exact congrArg some (hi _ (Option.some.inj (h.symm.trans h2))).symm
end
end Z


set_option maxRecDepth 100000
set_option maxHeartbeats 4000000
/-! Y3: exceptions read as returns; typed readings of raising defs and of try. -/
namespace Z
open PySem PySem.Spec PyProof.Rows L2
def okD (d : D) : D := .lst [d]
def exD (x : Str) (d : D) : D := .tup [.str x, d]
def encR : Rx → D
  | .ok d => okD d
  | .ex x d => exD x d
def fz : Fl → Fl
  | .rt d => .rt (okD d)
  | .ex _ x d => .rt (exD x d)
  | r => r
def Hom (u w : EV → Option Fl) : Prop := ∀ ev r, w ev = some r → ∃ r0, u ev = some r0 ∧ fz r0 = r
def HomF (g : List D → Option Rx) (h : List D → Option D) : Prop := ∀ ds x, h ds = some (encR x) → g ds = some x
def isR : D → Option Rx
  | .lst [d] => some (.ok d)
  | .tup [.str x, d] => some (.ex x d)
  | _ => none
theorem isR_enc {x : Rx} : isR (encR x) = some x := by cases x <;> rfl
theorem of_isR {d : D} {x : Rx} (h : isR d = some x) : d = encR x := by
  unfold isR at h
  split at h
  · cases h; rfl
  · cases h; rfl
  · cases h
section
variable {α β σ ρ τ : Type} {ev : EV} {f : EV → Option D} {k : EV → Option (List D)} {p q : EV → Option Bool} {i j o n m : Nat} {d : D} {ds : List D} {e : α → D} {u v w u' v' : EV → Option Fl} {g : List D → Option Rx} {h : List D → Option D} {x : Str} {P : EV → Prop} {Q : Fl → Prop}
def sDropZ (f : EV → Option D) : EV → Option Fl := fun ev => (f ev).bind fun d => (isR d).map fun r => match r with
  | .ok _ => .nx ev
  | .ex x d => .rt (exD x d)
def sRetZ (f : EV → Option D) : EV → Option Fl := fun ev => (f ev).bind fun d => (isR d).map fun r => .rt (encR r)
def sSetZ (i : Nat) (f : EV → Option D) : EV → Option Fl := fun ev => (f ev).bind fun d => (isR d).map fun r => match r with
  | .ok d => .nx (ev.set i (.fro d))
  | .ex x d => .rt (exD x d)
def cOkZ (f : EV → Option D) : EV → Option D := fun ev => (f ev).map okD
def cExZ (x : Str) (f : EV → Option D) : EV → Option D := fun ev => (f ev).map (exD x)
def NR (u : EV → Option Fl) : Prop := ∀ ev r, u ev = some r → fz r = r
theorem hom_nr (h : NR u) : Hom u u := fun ev r e => ⟨r, e, h ev r e⟩
theorem nr_nx : NR sNx := fun ev r e => by cases e; rfl
theorem nr_no : NR sNo := fun ev r e => by cases e
theorem nr_bk : NR sBk := fun ev r e => by cases e; rfl
theorem nr_ct : NR sCt := fun ev r e => by cases e; rfl
theorem nr_set {l : EV → Option L} : NR (sSetL i l) := fun ev r e => by
  obtain ⟨_, _, rfl⟩ := Option.map_eq_some_iff.mp e
  rfl
theorem nr_par {l l' : EV → Option L} : NR (sPar i j l l') := fun ev r e => by
  obtain ⟨_, _, e⟩ := Option.bind_eq_some_iff.mp e
  obtain ⟨_, _, rfl⟩ := Option.map_eq_some_iff.mp e
  rfl
theorem nr_par3 {l l' l'' : EV → Option L} : NR (sPar3 i j o l l' l'') := fun ev r e => by
  obtain ⟨_, _, e⟩ := Option.bind_eq_some_iff.mp e
  obtain ⟨_, _, e⟩ := Option.bind_eq_some_iff.mp e
  obtain ⟨_, _, rfl⟩ := Option.map_eq_some_iff.mp e
  rfl
theorem nr_asg {m : D → EV → Option EV} : NR (sAsg f m) := fun ev r e => by
  obtain ⟨_, _, e⟩ := Option.bind_eq_some_iff.mp e
  obtain ⟨_, _, rfl⟩ := Option.map_eq_some_iff.mp e
  rfl
theorem nr_drop : NR (sDrop f) := fun ev r e => by
  obtain ⟨_, _, rfl⟩ := Option.map_eq_some_iff.mp e
  rfl
theorem nr_app : NR (sApp i f) := fun ev r e => by
  unfold sApp at e
  split at e
  · split at e
    · obtain ⟨_, _, rfl⟩ := Option.map_eq_some_iff.mp e
      rfl
    · cases e
  · cases e
theorem nr_ext : NR (sExt i f) := fun ev r e => by
  unfold sExt at e
  split at e
  · split at e
    · cases e; rfl
    · cases e
  · cases e
theorem o_eqD {a b : D} {r : Bool} (h : eqD a b = some r) : oEq a b = some (.bl r) := by
  unfold oEq
  rw [h]
  rfl
theorem o_neD {a b : D} {r : Bool} (h : eqD a b = some r) : oNe a b = some (.bl (!r)) := by
  unfold oNe
  rw [h]
  rfl
theorem hom_ret : Hom (sRet f) (sRet (cOkZ f)) := fun ev r e => by
  obtain ⟨d1, e1, rfl⟩ := Option.map_eq_some_iff.mp e
  obtain ⟨d, e2, rfl⟩ := Option.map_eq_some_iff.mp (show (f ev).map okD = some d1 from e1)
  exact ⟨.rt d, by unfold sRet; rw [e2]; rfl, rfl⟩
theorem hom_retN : Hom (fun _ => some (.rt .non)) (sRet (cOkZ (cC .non))) := fun ev r e => by
  cases e
  exact ⟨.rt .non, rfl, rfl⟩
theorem hom_raise : Hom (sRaise x f) (sRet (cExZ x f)) := fun ev r e => by
  obtain ⟨d1, e1, rfl⟩ := Option.map_eq_some_iff.mp e
  obtain ⟨d, e2, rfl⟩ := Option.map_eq_some_iff.mp (show (f ev).map (exD x) = some d1 from e1)
  exact ⟨.ex ev x d, by unfold sRaise; rw [e2]; rfl, rfl⟩
theorem call_hom (H : HomF g h) {r : Rx} (e : cCB h k ev = some d) (hr : isR d = some r) : xCall g k ev = some r := by
  obtain ⟨ds, e1, e2⟩ := Option.bind_eq_some_iff.mp e
  rw [of_isR hr] at e2
  unfold xCall
  rw [e1]
  exact H ds r e2
theorem hom_drop (H : HomF g h) : Hom (sDropX (xCall g k)) (sDropZ (cCB h k)) := fun ev r e => by
  obtain ⟨d, e1, e2⟩ := Option.bind_eq_some_iff.mp e
  obtain ⟨y, e3, rfl⟩ := Option.map_eq_some_iff.mp e2
  have := call_hom H e1 e3
  unfold sDropX
  rw [this]
  cases y with
  | ok d => exact ⟨_, rfl, rfl⟩
  | ex x d => exact ⟨_, rfl, rfl⟩
theorem hom_retX (H : HomF g h) : Hom (sRetX (xCall g k)) (sRetZ (cCB h k)) := fun ev r e => by
  obtain ⟨d, e1, e2⟩ := Option.bind_eq_some_iff.mp e
  obtain ⟨y, e3, rfl⟩ := Option.map_eq_some_iff.mp e2
  have := call_hom H e1 e3
  unfold sRetX
  rw [this]
  cases y with
  | ok d => exact ⟨_, rfl, rfl⟩
  | ex x d => exact ⟨_, rfl, rfl⟩
theorem hom_setX (H : HomF g h) : Hom (sSetX i (xCall g k)) (sSetZ i (cCB h k)) := fun ev r e => by
  obtain ⟨d, e1, e2⟩ := Option.bind_eq_some_iff.mp e
  obtain ⟨y, e3, rfl⟩ := Option.map_eq_some_iff.mp e2
  have := call_hom H e1 e3
  unfold sSetX
  rw [this]
  cases y with
  | ok d => exact ⟨_, rfl, rfl⟩
  | ex x d => exact ⟨_, rfl, rfl⟩
theorem hom_seq (h1 : Hom u u') (h2 : Hom v v') : Hom (sSeq u v) (sSeq u' v') := fun ev r e => by
  obtain ⟨r1, e1, e2⟩ := Option.bind_eq_some_iff.mp e
  obtain ⟨r0, g1, g2⟩ := h1 ev r1 e1
  unfold sSeq
  rw [g1]
  subst g2
  cases r0 with
  | nx e' => exact h2 e' r e2
  | rt d => cases e2; exact ⟨_, rfl, rfl⟩
  | bk e' => cases e2; exact ⟨_, rfl, rfl⟩
  | ct e' => cases e2; exact ⟨_, rfl, rfl⟩
  | ex e' x d => cases e2; exact ⟨_, rfl, rfl⟩
theorem hom_if (h1 : Hom u u') (h2 : Hom v v') : Hom (sIf p u v) (sIf p u' v') := fun ev r e => by
  obtain ⟨b, e1, e2⟩ := Option.bind_eq_some_iff.mp e
  unfold sIf
  rw [e1]
  cases b with
  | true => exact h1 ev r e2
  | false => exact h2 ev r e2
theorem hom_frz (h1 : Hom u u') : Hom (sFrz i u) (sFrz i u') := fun ev r e => h1 _ r e
theorem hom_for_go {mm : D → EV → Option EV} (h1 : Hom u u') : ∀ (ds : List D) (ev : EV) (r : Fl), forGo mm u' ds ev = some r → ∃ r0, forGo mm u ds ev = some r0 ∧ fz r0 = r
  | [], ev, r, e => by
    cases e
    exact ⟨_, rfl, rfl⟩
  | d :: ds, ev, r, e => by
    unfold forGo at e ⊢
    obtain ⟨e1, g1, e⟩ := Option.bind_eq_some_iff.mp e
    obtain ⟨r1, g2, e⟩ := Option.bind_eq_some_iff.mp e
    obtain ⟨r0, g3, g4⟩ := h1 e1 r1 g2
    rw [g1, Option.bind_some, g3, Option.bind_some]
    subst g4
    cases r0 with
    | nx e' => exact hom_for_go h1 ds e' r e
    | ct e' => exact hom_for_go h1 ds e' r e
    | rt d => cases e; exact ⟨_, rfl, rfl⟩
    | bk e' => cases e; exact ⟨_, rfl, rfl⟩
    | ex e' x d => cases e; exact ⟨_, rfl, rfl⟩
theorem hom_for {fi : EV → Option (List D)} {mm : D → EV → Option EV} (h1 : Hom u u') : Hom (sFor fi mm u) (sFor fi mm u') := fun ev r e => by
  obtain ⟨ds, e1, e2⟩ := Option.bind_eq_some_iff.mp e
  unfold sFor
  rw [e1]
  exact hom_for_go h1 ds ev r e2
theorem hom_whl_go (h1 : Hom u u') : ∀ (n : Nat) (ev : EV) (r : Fl), whileGo p u' n ev = some r → ∃ r0, whileGo p u n ev = some r0 ∧ fz r0 = r
  | 0, ev, r, e => nomatch e
  | n + 1, ev, r, e => by
    unfold whileGo at e ⊢
    obtain ⟨b, g1, e⟩ := Option.bind_eq_some_iff.mp e
    rw [g1, Option.bind_some]
    cases b with
    | true =>
      rw [if_pos rfl] at e ⊢
      obtain ⟨r1, g2, e⟩ := Option.bind_eq_some_iff.mp e
      obtain ⟨r0, g3, g4⟩ := h1 ev r1 g2
      rw [g3, Option.bind_some]
      subst g4
      cases r0 with
      | nx e' => exact hom_whl_go h1 n e' r e
      | ct e' => exact hom_whl_go h1 n e' r e
      | rt d => cases e; exact ⟨_, rfl, rfl⟩
      | bk e' => cases e; exact ⟨_, rfl, rfl⟩
      | ex e' x d => cases e; exact ⟨_, rfl, rfl⟩
    | false =>
      rw [if_neg (by decide)] at e ⊢
      cases e
      exact ⟨_, rfl, rfl⟩
theorem hom_whl (h1 : Hom u u') : Hom (sWhile p u) (sWhile p u') := fun ev r e => by
  unfold sWhile at e
  split at e
  · rename_i hx
    cases e
    obtain ⟨n, hn⟩ := Classical.choose_spec hx
    obtain ⟨r0, h2, h3⟩ := hom_whl_go h1 n ev _ hn
    exact ⟨r0, sWhile_of h2, h3⟩
  · cases e
theorem homF_of (H : Hom u w) : HomF (runFnX n m u) (runFn n m w) := fun ds x e => by
  unfold runFn at e
  split at e
  · rename_i hn
    unfold runFnX
    rw [if_pos hn]
    split at e
    · rename_i d hd
      cases e
      obtain ⟨r0, h1, h2⟩ := H _ _ hd
      rw [h1]
      cases r0 with
      | rt d0 =>
        have : okD d0 = encR x := Fl.rt.inj h2
        have := (isR_enc (x := .ok d0)).symm.trans ((congrArg isR this).trans isR_enc)
        cases this
        rfl
      | ex e0 y d0 =>
        have : exD y d0 = encR x := Fl.rt.inj h2
        have := (isR_enc (x := .ex y d0)).symm.trans ((congrArg isR this).trans isR_enc)
        cases this
        rfl
      | nx e0 => cases h2
      | bk e0 => cases h2
      | ct e0 => cases h2
    · rename_i e0 hd
      cases x <;> cases e
    · cases e
  · cases e
/-- one that falls through -/
theorem homF_nx (H : Hom u w) : HomF (runFnX n m u) (runFn n m (sSeq w (sRet (cOkZ (cC .non))))) := fun ds x e => by
  unfold runFn at e
  split at e
  · rename_i hn
    unfold runFnX
    rw [if_pos hn]
    split at e
    · rename_i d hd
      cases e
      obtain ⟨r1, g1, g2⟩ := Option.bind_eq_some_iff.mp hd
      obtain ⟨r0, h1, h2⟩ := H _ _ g1
      rw [h1]
      subst h2
      cases r0 with
      | rt d0 =>
        have : okD d0 = encR x := by
          have g3 : (some (Fl.rt (okD d0)) : Option Fl) = some (.rt (encR x)) := g2
          exact Fl.rt.inj (Option.some.inj g3)
        have := (isR_enc (x := .ok d0)).symm.trans ((congrArg isR this).trans isR_enc)
        cases this
        rfl
      | ex e0 y d0 =>
        have : exD y d0 = encR x := by
          have g3 : (some (Fl.rt (exD y d0)) : Option Fl) = some (.rt (encR x)) := g2
          exact Fl.rt.inj (Option.some.inj g3)
        have := (isR_enc (x := .ex y d0)).symm.trans ((congrArg isR this).trans isR_enc)
        cases this
        rfl
      | nx e0 =>
        have : okD .non = encR x := by
          have g3 : (some (Fl.rt (okD .non)) : Option Fl) = some (.rt (encR x)) := g2
          exact Fl.rt.inj (Option.some.inj g3)
        have := (isR_enc (x := .ok .non)).symm.trans ((congrArg isR this).trans isR_enc)
        cases this
        rfl
      | bk e0 => cases g2
      | ct e0 => cases g2
    · rename_i e0 hd
      cases x <;> cases e
    · cases e
  · cases e
/-! ### typed -/
inductive Rz (τ : Type) where
  | ok (a : τ) | ex (x : Str) (i : Int)
def eRz (e : τ → D) : Rz τ → D
  | .ok a => okD (e a)
  | .ex x i => exD x (.int i)
def rxT (e : τ → D) : Rz τ → Rx
  | .ok a => .ok (e a)
  | .ex x i => .ex x (.int i)
theorem encR_rx {e : τ → D} {r : Rz τ} : encR (rxT e r) = eRz e r := by cases r <;> rfl
theorem isR_rz {e : τ → D} {r : Rz τ} : isR (eRz e r) = some (rxT e r) := by cases r <;> rfl
theorem y_xz {e : τ → D} {r : Rz τ} (H : HomF g h) (hz : h ds = some (eRz e r)) : g ds = some (rxT e r) := H ds _ (by rw [encR_rx]; exact hz)
def okR : Rz τ → Option τ
  | .ok a => some a
  | .ex _ _ => none
theorem y_calm {e : τ → D} {t : Option (Rz τ)} {a : τ} (H : HomF g h) (hz : ∀ r, t = some r → h ds = some (eRz e r)) (ht : t.bind okR = some a) : okx g ds = some (e a) := by
  obtain ⟨r, h1, h2⟩ := Z.ob ht
  cases r with
  | ok b =>
    cases h2
    unfold okx
    rw [H ds (.ok (e a)) (hz _ h1)]
  | ex x i => cases h2
def elimR (r : Rz α) (f : α → Option β) (g : Str → Int → Option β) : Option β := match r with
  | .ok a => f a
  | .ex x i => g x i
theorem rz_l {f : α → Option β} {g : Str → Int → Option β} {a : α} {r : β} (h : elimR (.ok a) f g = some r) : f a = some r := h
theorem rz_r {f : α → Option β} {g : Str → Int → Option β} {x : Str} {i : Int} {r : β} (h : elimR (.ex x i) f g = some r) : g x i = some r := h
theorem y_okz {a : τ} {e : τ → D} (h : f ev = some (e a)) : cOkZ f ev = some (eRz e (.ok a)) := by
  unfold cOkZ
  rw [h]
  rfl
theorem y_exz {e : τ → D} {n : Int} (h : f ev = some (.int n)) : cExZ x f ev = some (eRz e (.ex x n)) := by
  unfold cExZ
  rw [h]
  rfl
theorem v_seq' : sSeq u v ev = (u ev).bind fun r => match r with
  | .nx e => v e
  | r => some r := rfl
theorem sp_dropz {r : Rz α} (hf : f ev = some (eRz e r)) (h1 : ∀ a, r = .ok a → Q (.nx ev)) (h2 : ∀ x i, r = .ex x i → Q (.rt (exD x (.int i)))) : Spz (sDropZ f ev) Q := by
  unfold sDropZ
  rw [hf, Option.bind_some, isR_rz]
  cases r with
  | ok a => exact ⟨_, rfl, h1 a rfl⟩
  | ex x i => exact ⟨_, rfl, h2 x i rfl⟩
theorem sp_dropz_seq {r : Rz α} (hf : f ev = some (eRz e r)) (h1 : ∀ a, r = .ok a → Spz (v ev) Q) (h2 : ∀ x i, r = .ex x i → Q (.rt (exD x (.int i)))) : Spz (sSeq (sDropZ f) v ev) Q := by
  unfold sSeq sDropZ
  rw [hf, Option.bind_some, isR_rz]
  cases r with
  | ok a => exact h1 a rfl
  | ex x i => exact ⟨_, rfl, h2 x i rfl⟩
theorem sp_setz {r : Rz α} (hi : i < ev.length) (hf : f ev = some (eRz e r)) (h1 : ∀ a, r = .ok a → ∀ ev', Ch ev ev' i (.fro (e a)) → Q (.nx ev')) (h2 : ∀ x n, r = .ex x n → Q (.rt (exD x (.int n)))) : Spz (sSetZ i f ev) Q := by
  unfold sSetZ
  rw [hf, Option.bind_some, isR_rz]
  cases r with
  | ok a => exact ⟨_, rfl, h1 a rfl _ (ch_set hi)⟩
  | ex x n => exact ⟨_, rfl, h2 x n rfl⟩
theorem sp_setz_seq {r : Rz α} (hi : i < ev.length) (hf : f ev = some (eRz e r)) (h1 : ∀ a, r = .ok a → ∀ ev', Ch ev ev' i (.fro (e a)) → Spz (v ev') Q) (h2 : ∀ x n, r = .ex x n → Q (.rt (exD x (.int n)))) : Spz (sSeq (sSetZ i f) v ev) Q := by
  unfold sSeq sSetZ
  rw [hf, Option.bind_some, isR_rz]
  cases r with
  | ok a => exact h1 a rfl _ (ch_set hi)
  | ex x n => exact ⟨_, rfl, h2 x n rfl⟩
theorem sp_retz {r : Rz α} (hf : f ev = some (eRz e r)) (k : Q (.rt (eRz e r))) : Spz (sRetZ f ev) Q := by
  unfold sRetZ
  rw [hf, Option.bind_some, isR_rz]
  exact ⟨_, rfl, (congrArg (fun z => Q (.rt z)) encR_rx).mpr k⟩
theorem sp_retz_seq {r : Rz α} (hf : f ev = some (eRz e r)) (k : Q (.rt (eRz e r))) : Spz (sSeq (sRetZ f) v ev) Q := by
  unfold sSeq sRetZ
  rw [hf, Option.bind_some, isR_rz]
  exact ⟨_, rfl, (congrArg (fun z => Q (.rt z)) encR_rx).mpr k⟩
/-! try -/
def XB (ev : EV) : Rz Unit → Fl → Prop
  | .ok _, f => f = .nx ev
  | .ex x i, f => f = .ex ev x (.int i)
def unR : Rz α → Rz Unit
  | .ok _ => .ok ()
  | .ex x i => .ex x i
theorem xb_nx : Spz (sNx ev) (XB ev (.ok ())) := ⟨_, rfl, rfl⟩
theorem xb_sdrop (hf : f ev = some d) : Spz (sDrop f ev) (XB ev (.ok ())) := ⟨.nx ev, by unfold sDrop; rw [hf]; rfl, rfl⟩
theorem xb_drop {r : Rz α} (hk : k ev = some ds) (hm : g ds = some (rxT e r)) : Spz (sDropX (xCall g k) ev) (XB ev (unR r)) := by
  unfold sDropX xCall
  rw [hk, Option.bind_some, hm]
  cases r with
  | ok a => exact ⟨_, rfl, rfl⟩
  | ex x i => exact ⟨_, rfl, rfl⟩
theorem xb_seq {r1 r2 : Rz Unit} (h1 : Spz (u ev) (XB ev r1)) (h2 : ∀ a, r1 = .ok a → Spz (v ev) (XB ev r2)) (h3 : ∀ x i, r1 = .ex x i → r2 = .ex x i) : Spz (sSeq u v ev) (XB ev r2) := by
  obtain ⟨f, e1, e2⟩ := h1
  unfold sSeq
  rw [e1]
  cases r1 with
  | ok a =>
    rw [show f = .nx ev from e2]
    exact h2 a rfl
  | ex x i =>
    rw [show f = .ex ev x (.int i) from e2, h3 x i rfl]
    exact ⟨_, rfl, rfl⟩
variable {xs : List Str} {us : Str → D → EV → Option Fl}
theorem sp_try_seq {r : Rz Unit} (hj : j < ev.length) (hb : Spz (u ev) (XB ev r)) (h1 : ∀ a, r = .ok a → Spz (v ev) Q) (h2 : ∀ x n, r = .ex x n → x ∈ xs ∧ ∃ d, us x (.int n) (ev.set j .un) = some (.rt d) ∧ Q (.rt d)) : Spz (sSeq (sTry j xs u us) v ev) Q := by
  obtain ⟨f, e1, e2⟩ := hb
  unfold sSeq sTry
  rw [e1]
  cases r with
  | ok a =>
    rw [show f = .nx ev from e2]
    exact h1 a rfl
  | ex x i =>
    rw [show f = .ex ev x (.int i) from e2]
    obtain ⟨hx, d, h3, h4⟩ := h2 x i rfl
    rw [Option.bind_some]
    show Spz ((if x ∈ xs ∧ j < ev.length then _ else none).bind _) Q
    rw [if_pos ⟨hx, hj⟩, h3]
    exact ⟨_, rfl, h4⟩
def namesT (tab : List (Str × Str)) (x : Str) : List Str := (tab.filter fun p => decide (x = p.2)).map (·.1)
def mkN : List (Str × Str) → Str → D → EV → Option (List D)
  | [] => xNil
  | p :: t => xCons (xTup (xCons (xK (cC (.str p.1))) (xCons (xIsi p.2) xNil))) (mkN t)
theorem mkN_v : ∀ (tab : List (Str × Str)) (x : Str) (d : D) (ev : EV), mkN tab x d ev = some (tab.map fun p => .tup [.str p.1, .bl (decide (x = p.2))])
  | [], _, _, _ => rfl
  | p :: t, x, d, ev => by
    show ((xTup (xCons (xK (cC (.str p.1))) (xCons (xIsi p.2) xNil)) x d ev).bind fun y => (mkN t x d ev).map (y :: ·)) = _
    rw [mkN_v t x d ev]
    rfl
theorem strs_map : ∀ ys : List Str, strsOf (ys.map D.str) = some ys
  | [] => rfl
  | y :: ys => by
    show (strsOf (ys.map D.str)).map (y :: ·) = _
    rw [strs_map ys]
    rfl
theorem us_names {tab : List (Str × Str)} {a b : Nat} {sep : Str} {p : EV → Option Bool} {f : EV → Option D} (hp : p = tTru (cVar b)) (hf : f = cVar a) (hj : j < ev.length) (ha : a < ev.length) (hb : b < ev.length) (hab : Nat.beq a b = false)
    (hl : tab.length ≤ 1000) (hg : ((namesT tab x).map (·.length)).sum + (namesT tab x).length * sep.length ≤ 16777216) :
    xSet j (xLst (mkN tab)) (xRet (xTup (xCons (xK (cJoin (cC (.str sep)) (cLst (kComp (iLst (cVar j)) (mTup (mCons (mName a) (mCons (mName b) mNil))) p f [a, b])))) (xCons xAt xNil)))) x d ev = some (.rt (.tup [.str (Txt.join sep (namesT tab x)), d])) := by
  subst hp hf
  have h1 : xLst (mkN tab) x d ev = some (.lst (tab.map fun p => .tup [.str p.1, .bl (decide (x = p.2))])) := by
    unfold xLst
    rw [mkN_v, Option.bind_some, if_pos (by rw [List.length_map]; exact hl)]
  unfold xSet
  rw [h1, Option.bind_some]
  obtain ⟨e1, he⟩ : ∃ z, ev.set j (.fro (.lst (tab.map fun p => .tup [.str p.1, .bl (decide (x = p.2))]))) = z := ⟨_, rfl⟩
  have hlen : e1.length = ev.length := by rw [← he, List.length_set]
  have h2 : iLst (cVar j) e1 = some (tab.map fun p => .tup [.str p.1, .bl (decide (x = p.2))]) := by
    unfold iLst cVar
    rw [← he, List.getElem?_set_self hj]
  rw [he]
  have h3 : kComp (iLst (cVar j)) (mTup (mCons (mName a) (mCons (mName b) mNil))) (tTru (cVar b)) (cVar a) [a, b] e1 = some ((namesT tab x).map D.str) := by
    unfold kComp
    rw [h2, Option.bind_some, if_pos (by rw [List.length_map]; omega)]
    clear h1 h2 he hg hl
    unfold namesT
    induction tab with
    | nil => rfl
    | cons p t ih =>
      rw [List.map_cons]
      unfold compGo
      rw [ih]
      have hw : (evWipe e1 [a, b]).length = e1.length := wipe_len
      have hba : b ≠ a := fun z => by
        rw [z, show Nat.beq a a = true from Nat.beq_refl a] at hab
        cases hab
      have hB : (((evWipe e1 [a, b]).set a (.fro (.str p.1))).set b (.fro (.bl (decide (x = p.2)))))[b]? = some (.fro (.bl (decide (x = p.2)))) := List.getElem?_set_self (by rw [List.length_set, hw, hlen]; exact hb)
      have hA : (((evWipe e1 [a, b]).set a (.fro (.str p.1))).set b (.fro (.bl (decide (x = p.2)))))[a]? = some (.fro (.str p.1)) := by
        rw [List.getElem?_set_ne hba, List.getElem?_set_self (by rw [hw, hlen]; exact ha)]
      have s1 : (mTup (mCons (mName a) (mCons (mName b) mNil)) (.tup [.str p.1, .bl (decide (x = p.2))]) (evWipe e1 [a, b])) = some (((evWipe e1 [a, b]).set a (.fro (.str p.1))).set b (.fro (.bl (decide (x = p.2))))) := rfl
      rw [s1, Option.bind_some]
      have s2 : cVar b (((evWipe e1 [a, b]).set a (.fro (.str p.1))).set b (.fro (.bl (decide (x = p.2))))) = some (.bl (decide (x = p.2))) := by
        unfold cVar
        rw [hB]
      have s3 : cVar a (((evWipe e1 [a, b]).set a (.fro (.str p.1))).set b (.fro (.bl (decide (x = p.2))))) = some (.str p.1) := by
        unfold cVar
        rw [hA]
      have s4 : tTru (cVar b) (((evWipe e1 [a, b]).set a (.fro (.str p.1))).set b (.fro (.bl (decide (x = p.2))))) = some (decide (x = p.2)) := by
        unfold tTru
        rw [s2]
        rfl
      rw [s4, Option.bind_some, s3, List.filter_cons]
      by_cases hc : x = p.2
      · rw [decide_eq_true hc]
        rfl
      · rw [decide_eq_false hc]
        rfl
  have h4 : cJoin (cC (.str sep)) (cLst (kComp (iLst (cVar j)) (mTup (mCons (mName a) (mCons (mName b) mNil))) (tTru (cVar b)) (cVar a) [a, b])) e1 = some (.str (Txt.join sep (namesT tab x))) := by
    unfold cJoin cLst
    rw [h3]
    show ((strsOf ((namesT tab x).map D.str)).bind _) = _
    rw [strs_map, Option.bind_some, if_pos hg]
  unfold xRet xTup xCons xK
  rw [h4]
  rfl
end
end Z


set_option maxRecDepth 100000
set_option maxHeartbeats 4000000
namespace K62
open PySem PySem.Spec PyProof.Rows L2 Z
/-! ### is_span -/
noncomputable def t_is_span (told : (List Int)) : Option Bool :=
  (if (decide ((List.length told : Int) = 2)) = true then ((gd (List.length told ≤ 16777216)).bind fun _ => (compT (fun (x_2 : Int) => some (some ((decide (0 ≤ x_2)) && (decide (x_2 ≤ 1000))))) told).bind fun v_11 => some (List.all v_11 id)) else some false).bind fun v_13 =>
  some v_13
theorem y_is_span {told : (List Int)} {r_0 : Bool} (ht : t_is_span told = some r_0) : m_is_span [(eX D.int) told] = some (D.bl r_0) := by
  unfold t_is_span at ht
  refine y_fn (er := D.bl) rfl ?_
  obtain ⟨ev_0, he⟩ : ∃ e, evStart [(eX D.int) told] 1 = e := ⟨_, rfl⟩
  rw [he]
  have n_0 : ev_0.length = 2 := by rw [← he]; rfl
  have h_0_0 : ev_0[0]? = some (.fro ((eX D.int) told)) := by rw [← he]; rfl
  clear he
  obtain ⟨v_13, q_14, ht⟩ := ob ht
  refine sp_ret (y_andP (y_2 (y_cb (y_cons (y_var h_0_0) y_nil) b_lenX) y_c (EE.oEq EE.int (Nat.le_of_ble_eq_true rfl) (List.length told : Int) 2)) (fun hc => by have ht := if_t q_14 hc; obtain ⟨_, q_1, ht⟩ := ob ht; have q_1 := gd_of q_1; obtain ⟨v_11, q_12, ht⟩ := ob ht; exact (y_cb (y_cons (y_lst (y_comp (e := D.int) (e' := D.bl) (y_iT (y_var h_0_0)) q_1 q_12 (fun x_2 r_3 w_4 n_5 f_6 ht => by have n_7 := n_5.trans n_0; refine tg_name (ltn n_7 rfl) fun ev_8 c_9 => ?_; have n_10 := c_9.len.trans n_7; exact ⟨true, rfl, (fun _ => ce_t (e' := D.bl) (y := ((decide (0 ≤ x_2)) && (decide (x_2 ≤ 1000)))) (y_ch y_c (y_link (y_var c_9.here) o_le (y_last y_c o_le))) ht), (fun h => nomatch h)⟩))) y_nil) b_all).trans (cg (Option.some.inj ht))) (fun hc => Option.some.inj (if_f q_14 hc))) ?_
  exact Or.inl (congrArg (fun z => Fl.rt (D.bl z)) (Option.some.inj ht))
/-! ### hops_of -/
noncomputable def t_hops_of_b1 (minutes : (List (List Int))) (router : Int) (s_9 : (List ((Int × Int) × Int × Int × Int))) (x_10 : (Int × (Int × Int × Int × Int))) : Option (List ((Int × Int) × Int × Int × Int)) :=
  ((if (decide (x_10.2.1 = router)) = true then ((atI minutes x_10.1).bind fun v_61 =>
(atI v_61 0).bind fun v_63 =>
(some ((x_10.1, 0), x_10.2.2.1, x_10.2.2.2.1, v_63)).bind fun v_65 =>
(gd (List.length s_9 < 16777216)).bind fun _ =>
(some (s_9 ++ [v_65])).bind fun v_68 =>
some v_68) else (some s_9))).bind fun s_59 =>
  ((if (decide (x_10.2.2.1 = router)) = true then ((atI minutes x_10.1).bind fun v_92 =>
(atI v_92 1).bind fun v_94 =>
(some ((x_10.1, 1), x_10.2.1, x_10.2.2.2.2, v_94)).bind fun v_96 =>
(gd (List.length s_59 < 16777216)).bind fun _ =>
(some (s_59 ++ [v_96])).bind fun v_99 =>
some v_99) else (some s_59))).bind fun s_90 =>
  some s_90
noncomputable def t_hops_of (links : (List (Int × Int × Int × Int))) (minutes : (List (List Int))) (router : Int) : Option (List ((Int × Int) × Int × Int × Int)) :=
  (forT (t_hops_of_b1 minutes router) (enumT links) []).bind fun s_7 =>
  some s_7
theorem y_hops_of {links : (List (Int × Int × Int × Int))} {minutes : (List (List Int))} {router : Int} {r_0 : (List ((Int × Int) × Int × Int × Int))} (ht : t_hops_of links minutes router = some r_0) : m_hops_of [(eL (e4 D.int D.int D.int D.int)) links, (eL (eX D.int)) minutes, D.int router] = some ((eL (e4 (e2 D.int D.int) D.int D.int D.int)) r_0) := by
  unfold t_hops_of at ht
  refine y_fn (er := (eL (e4 (e2 D.int D.int) D.int D.int D.int))) rfl ?_
  obtain ⟨ev_0, he⟩ : ∃ e, evStart [(eL (e4 D.int D.int D.int D.int)) links, (eL (eX D.int)) minutes, D.int router] 6 = e := ⟨_, rfl⟩
  rw [he]
  have n_0 : ev_0.length = 9 := by rw [← he]; rfl
  have h_0_0 : ev_0[0]? = some (.fro ((eL (e4 D.int D.int D.int D.int)) links)) := by rw [← he]; rfl
  have h_0_1 : ev_0[1]? = some (.fro ((eL (eX D.int)) minutes)) := by rw [← he]; rfl
  have h_0_2 : ev_0[2]? = some (.fro (D.int router)) := by rw [← he]; rfl
  clear he
  refine sp_seqn ?_
  refine sn_set (ltn n_0 rfl) (y_lO (ds := List.map (e4 (e2 D.int D.int) D.int D.int D.int) []) (y_klist (ds := List.map (e4 (e2 D.int D.int) D.int D.int D.int) []) y_nil (Nat.le_of_ble_eq_true rfl))) fun ev_1 c_2 => ?_
  have n_3 := c_2.len.trans n_0
  have h_4 := c_2.at h_0_0 rfl
  have h_5 := c_2.at h_0_1 rfl
  have h_6 := c_2.at h_0_2 rfl
  refine sp_seqn ?_
  obtain ⟨s_7, q_8, ht⟩ := ob ht
  refine sn_for (e := (e2 D.int (e4 D.int D.int D.int D.int))) (s := []) (fun (s_ : (List ((Int × Int) × Int × Int × Int))) (e_ : EV) => e_.length = 9 ∧ e_[3]? = some (.own (List.map (e4 (e2 D.int D.int) D.int D.int D.int) s_)) ∧ Fr [3, 4, 5, 6, 7, 8] ev_1 e_) (y_en (y_cons (y_var h_4) y_nil)) q_8 ⟨n_3, c_2.here, Fr.refl⟩ ?_ (fun ev_113 r_114 => ?_)
  · intro s_9 x_10 s_11 ev_12 r_13 ht
    unfold t_hops_of_b1 at ht
    obtain ⟨n_14, h_15, f_16⟩ := r_13
    have h_17 := f_16.at h_5 rfl
    have h_18 := f_16.at h_6 rfl
    refine tg_tup (ds := [D.int x_10.1, (e4 D.int D.int D.int D.int) x_10.2]) ?_
    refine tgs_cons ?_
    refine tg_name (ltn n_14 rfl) fun ev_19 c_20 => ?_
    have n_21 := c_20.len.trans n_14
    have h_22 := c_20.at h_17 rfl
    have h_23 := c_20.at h_18 rfl
    have h_24 := c_20.at h_15 rfl
    refine tgs_cons ?_
    refine tg_tup (ds := [D.int x_10.2.1, D.int x_10.2.2.1, D.int x_10.2.2.2.1, D.int x_10.2.2.2.2]) ?_
    refine tgs_cons ?_
    refine tg_name (ltn n_21 rfl) fun ev_25 c_26 => ?_
    have n_27 := c_26.len.trans n_21
    have h_28 := c_26.at h_22 rfl
    have h_29 := c_26.at h_23 rfl
    have h_30 := c_26.at h_24 rfl
    have h_31 := c_26.at c_20.here rfl
    refine tgs_cons ?_
    refine tg_name (ltn n_27 rfl) fun ev_32 c_33 => ?_
    have n_34 := c_33.len.trans n_27
    have h_35 := c_33.at h_28 rfl
    have h_36 := c_33.at h_29 rfl
    have h_37 := c_33.at h_30 rfl
    have h_38 := c_33.at h_31 rfl
    have h_39 := c_33.at c_26.here rfl
    refine tgs_cons ?_
    refine tg_name (ltn n_34 rfl) fun ev_40 c_41 => ?_
    have n_42 := c_41.len.trans n_34
    have h_43 := c_41.at h_35 rfl
    have h_44 := c_41.at h_36 rfl
    have h_45 := c_41.at h_37 rfl
    have h_46 := c_41.at h_38 rfl
    have h_47 := c_41.at h_39 rfl
    have h_48 := c_41.at c_33.here rfl
    refine tgs_cons ?_
    refine tg_name (ltn n_42 rfl) fun ev_49 c_50 => ?_
    have n_51 := c_50.len.trans n_42
    have h_52 := c_50.at h_43 rfl
    have h_53 := c_50.at h_44 rfl
    have h_54 := c_50.at h_45 rfl
    have h_55 := c_50.at h_46 rfl
    have h_56 := c_50.at h_47 rfl
    have h_57 := c_50.at h_48 rfl
    have h_58 := c_50.at c_41.here rfl
    refine tgs_nil ?_
    refine tgs_nil ?_
    refine sp_seqn ?_
    obtain ⟨s_59, q_60, ht⟩ := ob ht
    refine Snz.mono (P := (fun (s_ : (List ((Int × Int) × Int × Int × Int))) (e_ : EV) => e_.length = 9 ∧ e_[3]? = some (.own (List.map (e4 (e2 D.int D.int) D.int D.int D.int) s_)) ∧ Fr [3] ev_49 e_) s_59) ?_ (fun ev_79 r_80 => ?_)
    · refine sn_if (y_tof (y_2 (y_var h_56) (y_var h_53) (EE.oEq EE.int (Nat.le_of_ble_eq_true rfl) x_10.2.1 router))) (fun hc => ?_) (fun hc => ?_)
      · have ht := if_t q_60 hc
        obtain ⟨v_61, q_62, ht⟩ := ob ht
        obtain ⟨v_63, q_64, ht⟩ := ob ht
        obtain ⟨v_65, q_66, ht⟩ := ob ht
        obtain ⟨_, q_67, ht⟩ := ob ht; have q_67 := gd_of q_67
        obtain ⟨v_68, q_69, ht⟩ := ob ht
        refine sn_app (xs := s_9) (a := v_65) (e := (e4 (e2 D.int D.int) D.int D.int D.int)) h_54 (Eq.trans (b := some ((e4 (e2 D.int D.int) D.int D.int D.int) ((x_10.1, 0), x_10.2.2.1, x_10.2.2.2.1, v_63))) (y_tup (y_cons (y_tup (y_cons (y_var h_55) (y_cons y_c y_nil)) (Nat.le_of_ble_eq_true rfl)) (y_cons (y_var h_57) (y_cons (y_var h_58) (y_cons (y_2 (y_2 (y_var h_52) (y_var h_55) (o_ixl q_62)) y_c (o_ixX q_64)) y_nil)))) (Nat.le_of_ble_eq_true rfl)) (cg (Option.some.inj q_66))) q_67 fun ev_70 c_71 => ?_
        have q_69 := c_71.here.trans (congrArg (fun z => some (L.own (List.map (e4 (e2 D.int D.int) D.int D.int D.int) z))) (Option.some.inj q_69))
        have n_72 := c_71.len.trans n_51
        have h_73 := c_71.at h_52 rfl
        have h_74 := c_71.at h_53 rfl
        have h_75 := c_71.at h_55 rfl
        have h_76 := c_71.at h_56 rfl
        have h_77 := c_71.at h_57 rfl
        have h_78 := c_71.at c_50.here rfl
        have ht := Option.some.inj ht
        subst ht
        exact ⟨n_72, q_69, (Fr.refl).one c_71 rfl⟩
      · have ht := if_f q_60 hc
        refine sn_nx ?_
        have ht := Option.some.inj ht
        subst ht
        exact ⟨n_51, h_54, Fr.refl⟩
    obtain ⟨n_81, h_82, f_83⟩ := r_80
    have h_84 := f_83.at h_52 rfl
    have h_85 := f_83.at h_53 rfl
    have h_86 := f_83.at h_55 rfl
    have h_87 := f_83.at h_56 rfl
    have h_88 := f_83.at h_57 rfl
    have h_89 := f_83.at c_50.here rfl
    refine sp_nx ?_
    obtain ⟨s_90, q_91, ht⟩ := ob ht
    refine Snz.mono (P := (fun (s_ : (List ((Int × Int) × Int × Int × Int))) (e_ : EV) => e_.length = 9 ∧ e_[3]? = some (.own (List.map (e4 (e2 D.int D.int) D.int D.int D.int) s_)) ∧ Fr [3] ev_79 e_) s_90) ?_ (fun ev_106 r_107 => ?_)
    · refine sn_if (y_tof (y_2 (y_var h_88) (y_var h_85) (EE.oEq EE.int (Nat.le_of_ble_eq_true rfl) x_10.2.2.1 router))) (fun hc => ?_) (fun hc => ?_)
      · have ht := if_t q_91 hc
        obtain ⟨v_92, q_93, ht⟩ := ob ht
        obtain ⟨v_94, q_95, ht⟩ := ob ht
        obtain ⟨v_96, q_97, ht⟩ := ob ht
        obtain ⟨_, q_98, ht⟩ := ob ht; have q_98 := gd_of q_98
        obtain ⟨v_99, q_100, ht⟩ := ob ht
        refine sn_app (xs := s_59) (a := v_96) (e := (e4 (e2 D.int D.int) D.int D.int D.int)) h_82 (Eq.trans (b := some ((e4 (e2 D.int D.int) D.int D.int D.int) ((x_10.1, 1), x_10.2.1, x_10.2.2.2.2, v_94))) (y_tup (y_cons (y_tup (y_cons (y_var h_86) (y_cons y_c y_nil)) (Nat.le_of_ble_eq_true rfl)) (y_cons (y_var h_87) (y_cons (y_var h_89) (y_cons (y_2 (y_2 (y_var h_84) (y_var h_86) (o_ixl q_93)) y_c (o_ixX q_95)) y_nil)))) (Nat.le_of_ble_eq_true rfl)) (cg (Option.some.inj q_97))) q_98 fun ev_101 c_102 => ?_
        have q_100 := c_102.here.trans (congrArg (fun z => some (L.own (List.map (e4 (e2 D.int D.int) D.int D.int D.int) z))) (Option.some.inj q_100))
        have n_103 := c_102.len.trans n_81
        have h_104 := c_102.at h_84 rfl
        have h_105 := c_102.at h_85 rfl
        have ht := Option.some.inj ht
        subst ht
        exact ⟨n_103, q_100, (Fr.refl).one c_102 rfl⟩
      · have ht := if_f q_91 hc
        refine sn_nx ?_
        have ht := Option.some.inj ht
        subst ht
        exact ⟨n_81, h_82, Fr.refl⟩
    obtain ⟨n_108, h_109, f_110⟩ := r_107
    have h_111 := f_110.at h_84 rfl
    have h_112 := f_110.at h_85 rfl
    have ht := Option.some.inj ht
    subst ht
    exact ⟨n_108, h_109, ((((((((Fr.refl).more f_16 rfl).one c_20 rfl).one c_26 rfl).one c_33 rfl).one c_41 rfl).one c_50 rfl).more f_83 rfl).more f_110 rfl⟩
  obtain ⟨n_115, h_116, f_117⟩ := r_114
  refine sp_frz h_116 fun ev_118 c_119 => ?_
  have n_120 := c_119.len.trans n_115
  refine sp_ret (y_var c_119.here) ?_
  exact Or.inl (congrArg (fun z => Fl.rt ((eL (e4 (e2 D.int D.int) D.int D.int D.int)) z)) (Option.some.inj ht))
/-! ### unbeaten -/
noncomputable def t_unbeaten_b1 (s_9 : (List (Int × Int))) (x_10 : (Int × Int)) : Option (List (Int × Int)) :=
  (if (decide ((List.length s_9 : Int) = 0)) = true then some true else ((atI s_9 (-1)).bind fun v_26 => some (decide (x_10.2 < v_26.2)))).bind fun v_28 =>
  ((if v_28 = true then ((gd (List.length s_9 < 16777216)).bind fun _ =>
(some (s_9 ++ [(x_10.1, x_10.2)])).bind fun v_33 =>
some v_33) else (some s_9))).bind fun s_30 =>
  some s_30
noncomputable def t_unbeaten (pairs : (List (Int × Int))) : Option (List (Int × Int)) :=
  (ssT pairs).bind fun v_5 =>
  (forT (t_unbeaten_b1) v_5 []).bind fun s_7 =>
  some s_7
theorem y_unbeaten {pairs : (List (Int × Int))} {r_0 : (List (Int × Int))} (ht : t_unbeaten pairs = some r_0) : m_unbeaten [(eL (e2 D.int D.int)) pairs] = some ((eL (e2 D.int D.int)) r_0) := by
  unfold t_unbeaten at ht
  refine y_fn (er := (eL (e2 D.int D.int))) rfl ?_
  obtain ⟨ev_0, he⟩ : ∃ e, evStart [(eL (e2 D.int D.int)) pairs] 3 = e := ⟨_, rfl⟩
  rw [he]
  have n_0 : ev_0.length = 4 := by rw [← he]; rfl
  have h_0_0 : ev_0[0]? = some (.fro ((eL (e2 D.int D.int)) pairs)) := by rw [← he]; rfl
  clear he
  refine sp_seqn ?_
  refine sn_set (ltn n_0 rfl) (y_lO (ds := List.map (e2 D.int D.int) []) (y_klist (ds := List.map (e2 D.int D.int) []) y_nil (Nat.le_of_ble_eq_true rfl))) fun ev_1 c_2 => ?_
  have n_3 := c_2.len.trans n_0
  have h_4 := c_2.at h_0_0 rfl
  refine sp_seqn ?_
  obtain ⟨v_5, q_6, ht⟩ := ob ht
  obtain ⟨s_7, q_8, ht⟩ := ob ht
  refine sn_for (e := (e2 D.int D.int)) (s := []) (fun (s_ : (List (Int × Int))) (e_ : EV) => e_.length = 4 ∧ e_[1]? = some (.own (List.map (e2 D.int D.int) s_)) ∧ Fr [1, 2, 3] ev_1 e_) (y_iL (y_lst (y_kss (y_cons (y_var h_4) y_nil) q_6))) q_8 ⟨n_3, c_2.here, Fr.refl⟩ ?_ (fun ev_43 r_44 => ?_)
  · intro s_9 x_10 s_11 ev_12 r_13 ht
    unfold t_unbeaten_b1 at ht
    obtain ⟨n_14, h_15, f_16⟩ := r_13
    refine tg_tup (ds := [D.int x_10.1, D.int x_10.2]) ?_
    refine tgs_cons ?_
    refine tg_name (ltn n_14 rfl) fun ev_17 c_18 => ?_
    have n_19 := c_18.len.trans n_14
    have h_20 := c_18.at h_15 rfl
    refine tgs_cons ?_
    refine tg_name (ltn n_19 rfl) fun ev_21 c_22 => ?_
    have n_23 := c_22.len.trans n_19
    have h_24 := c_22.at h_20 rfl
    have h_25 := c_22.at c_18.here rfl
    refine tgs_nil ?_
    refine sp_nx ?_
    obtain ⟨v_28, q_29, ht⟩ := ob ht
    obtain ⟨s_30, q_31, ht⟩ := ob ht
    refine Snz.mono (P := (fun (s_ : (List (Int × Int))) (e_ : EV) => e_.length = 4 ∧ e_[1]? = some (.own (List.map (e2 D.int D.int) s_)) ∧ Fr [1] ev_21 e_) s_30) ?_ (fun ev_38 r_39 => ?_)
    · refine sn_if (y_torP (y_tof (y_2 (y_flat (y_cb (y_cons (y_own h_24) y_nil) b_len)) y_c (EE.oEq EE.int (Nat.le_of_ble_eq_true rfl) (List.length s_9 : Int) 0))) (fun hc => Option.some.inj (if_t q_29 hc)) (fun hc => by have ht := if_f q_29 hc; obtain ⟨v_26, q_27, ht⟩ := ob ht; exact (y_tof (y_2 (y_var c_22.here) (y_2 (y_ixo h_24 (y_1 y_c o_neg) q_27) y_c (o_ixt (j := 1) (ds := [D.int v_26.1, D.int v_26.2]) (by rfl))) o_lt)).trans (cgb (Option.some.inj ht)))) (fun hc => ?_) (fun hc => ?_)
      · have ht := if_t q_31 hc
        obtain ⟨_, q_32, ht⟩ := ob ht; have q_32 := gd_of q_32
        obtain ⟨v_33, q_34, ht⟩ := ob ht
        refine sn_app (xs := s_9) (a := (x_10.1, x_10.2)) (e := (e2 D.int D.int)) h_24 (y_tup (y_cons (y_var h_25) (y_cons (y_var c_22.here) y_nil)) (Nat.le_of_ble_eq_true rfl)) q_32 fun ev_35 c_36 => ?_
        have q_34 := c_36.here.trans (congrArg (fun z => some (L.own (List.map (e2 D.int D.int) z))) (Option.some.inj q_34))
        have n_37 := c_36.len.trans n_23
        have ht := Option.some.inj ht
        subst ht
        exact ⟨n_37, q_34, (Fr.refl).one c_36 rfl⟩
      · have ht := if_f q_31 hc
        refine sn_nx ?_
        have ht := Option.some.inj ht
        subst ht
        exact ⟨n_23, h_24, Fr.refl⟩
    obtain ⟨n_40, h_41, f_42⟩ := r_39
    have ht := Option.some.inj ht
    subst ht
    exact ⟨n_40, h_41, ((((Fr.refl).more f_16 rfl).one c_18 rfl).one c_22 rfl).more f_42 rfl⟩
  obtain ⟨n_45, h_46, f_47⟩ := r_44
  refine sp_frz h_46 fun ev_48 c_49 => ?_
  have n_50 := c_49.len.trans n_45
  refine sp_ret (y_var c_49.here) ?_
  exact Or.inl (congrArg (fun z => Fl.rt ((eL (e2 D.int D.int)) z)) (Option.some.inj ht))
/-! ### _law_draws -/
noncomputable def t__law_draws_b1 (s_38 : ((List Int) × Int)) (x_39 : Int) : Option ((List Int) × Int) :=
  ((if (decide (0 < s_38.2)) = true then ((gd (List.length s_38.1 < 16777216)).bind fun _ =>
(some (s_38.1 ++ [(s_38.2 % 65536)])).bind fun v_55 =>
some (v_55, (s_38.2 / 65536))) else (some (s_38.1, s_38.2)))).bind fun s_52 =>
  some (s_52.1, s_52.2)
noncomputable def t__law_draws_b2 (script : (List Int)) (s_8 : (List Int)) (x_9 : Int) : Option (List Int) :=
  (atI script x_9).bind fun v_22 =>
  (atI script x_9).bind fun v_24 =>
  (powT 10 18).bind fun v_32 =>
  ((if (decide (v_32 ≤ (absT v_24))) = true then ((forT (t__law_draws_b1) (rangeT 0 60) (s_8, (absT v_24))).bind fun s_36 =>
some s_36.1) else ((some ((((absT v_24) * 48271) + ((x_9 + 1) * 69621)) % 2147483647)).bind fun v_78 =>
(some ((((v_78 * 16807) + (11 * x_9)) + 5) % 2147483629)).bind fun v_86 =>
(gd (List.length s_8 < 16777216)).bind fun _ =>
(some (s_8 ++ [(v_86 % 65536)])).bind fun v_94 =>
(some ((v_86 / 65536) % 32768)).bind fun v_101 =>
(gd (List.length v_94 < 16777216)).bind fun _ =>
(some (v_94 ++ [v_101])).bind fun v_104 =>
some v_104))).bind fun s_34 =>
  some s_34
noncomputable def t__law_draws (script : (List Int)) : Option (List Int) :=
  (gd (r62 (minT 63 (List.length script : Int)))).bind fun _ =>
  (forT (t__law_draws_b2 script) (rangeT 0 (minT 63 (List.length script : Int))) []).bind fun s_6 =>
  some s_6
theorem y__law_draws {script : (List Int)} {r_0 : (List Int)} (ht : t__law_draws script = some r_0) : m__law_draws [D.scr script] = some ((eL D.int) r_0) := by
  unfold t__law_draws at ht
  refine y_fn (er := (eL D.int)) rfl ?_
  obtain ⟨ev_0, he⟩ : ∃ e, evStart [D.scr script] 5 = e := ⟨_, rfl⟩
  rw [he]
  have n_0 : ev_0.length = 6 := by rw [← he]; rfl
  have h_0_0 : ev_0[0]? = some (.fro (D.scr script)) := by rw [← he]; rfl
  clear he
  refine sp_seqn ?_
  refine sn_set (ltn n_0 rfl) (y_lO (ds := List.map D.int []) (y_klist (ds := List.map D.int []) y_nil (Nat.le_of_ble_eq_true rfl))) fun ev_1 c_2 => ?_
  have n_3 := c_2.len.trans n_0
  have h_4 := c_2.at h_0_0 rfl
  refine sp_seqn ?_
  obtain ⟨_, q_5, ht⟩ := ob ht; have q_5 := gd_of q_5
  obtain ⟨s_6, q_7, ht⟩ := ob ht
  refine sn_for (e := D.int) (s := []) (fun (s_ : (List Int)) (e_ : EV) => e_.length = 6 ∧ e_[1]? = some (.own (List.map D.int s_)) ∧ Fr [1, 2, 3, 4, 5] ev_1 e_) (y_r1 (y_cons (x := D.int (minT 63 (List.length script : Int))) (y_cb (y_cons (x := D.int 63) y_c (y_cons (x := D.int (List.length script : Int)) (y_cb (y_cons (y_var h_4) y_nil) b_lens) y_nil)) b_min) y_nil) q_5) q_7 ⟨n_3, c_2.here, Fr.refl⟩ ?_ (fun ev_116 r_117 => ?_)
  · intro s_8 x_9 s_10 ev_11 r_12 ht
    unfold t__law_draws_b2 at ht
    obtain ⟨n_13, h_14, f_15⟩ := r_12
    have h_16 := f_15.at h_4 rfl
    refine tg_name (ltn n_13 rfl) fun ev_17 c_18 => ?_
    have n_19 := c_18.len.trans n_13
    have h_20 := c_18.at h_16 rfl
    have h_21 := c_18.at h_14 rfl
    refine sp_seqn ?_
    obtain ⟨v_22, q_23, ht⟩ := ob ht
    obtain ⟨v_24, q_25, ht⟩ := ob ht
    refine sn_set (ltn n_19 rfl) (y_lF (d := D.int (absT v_24)) (y_cb (y_cons (x := D.int v_24) (y_2 (y_var h_20) (y_var c_18.here) (o_ixs q_25)) y_nil) b_abs)) fun ev_26 c_27 => ?_
    have n_28 := c_27.len.trans n_19
    have h_29 := c_27.at h_20 rfl
    have h_30 := c_27.at h_21 rfl
    have h_31 := c_27.at c_18.here rfl
    refine sp_nx ?_
    obtain ⟨v_32, q_33, ht⟩ := ob ht
    obtain ⟨s_34, q_35, ht⟩ := ob ht
    refine Snz.mono (P := (fun (s_ : (List Int)) (e_ : EV) => e_.length = 6 ∧ e_[1]? = some (.own (List.map D.int s_)) ∧ Fr [1, 3, 4, 5] ev_26 e_) s_34) ?_ (fun ev_110 r_111 => ?_)
    · refine sn_if (y_tof (y_2 (y_var c_27.here) (y_2 y_c y_c (o_powT q_33)) o_ge)) (fun hc => ?_) (fun hc => ?_)
      · have ht := if_t q_35 hc
        obtain ⟨s_36, q_37, ht⟩ := ob ht
        refine sn_for (e := D.int) (s := (s_8, (absT v_24))) (fun (s_ : ((List Int) × Int)) (e_ : EV) => e_.length = 6 ∧ e_[1]? = some (.own (List.map D.int s_.1)) ∧ e_[3]? = some (.fro (D.int s_.2)) ∧ Fr [1, 3, 4] ev_26 e_) (y_r1 (y_cons (x := D.int 60) y_c y_nil) (by decide)) q_37 ⟨n_28, h_30, c_27.here, Fr.refl⟩ ?_ (fun ev_71 r_72 => ?_)
        · intro s_38 x_39 s_40 ev_41 r_42 ht
          unfold t__law_draws_b1 at ht
          obtain ⟨n_43, h_44, h_45, f_46⟩ := r_42
          refine tg_name (ltn n_43 rfl) fun ev_47 c_48 => ?_
          have n_49 := c_48.len.trans n_43
          have h_50 := c_48.at h_44 rfl
          have h_51 := c_48.at h_45 rfl
          refine sp_nx ?_
          obtain ⟨s_52, q_53, ht⟩ := ob ht
          refine Snz.mono (P := (fun (s_ : ((List Int) × Int)) (e_ : EV) => e_.length = 6 ∧ e_[1]? = some (.own (List.map D.int s_.1)) ∧ e_[3]? = some (.fro (D.int s_.2)) ∧ Fr [1, 3] ev_47 e_) s_52) ?_ (fun ev_65 r_66 => ?_)
          · refine sn_if (y_tof (y_2 (y_var h_51) y_c o_gt)) (fun hc => ?_) (fun hc => ?_)
            · have ht := if_t q_53 hc
              refine sn_seqn ?_
              obtain ⟨_, q_54, ht⟩ := ob ht; have q_54 := gd_of q_54
              obtain ⟨v_55, q_56, ht⟩ := ob ht
              refine sn_app (xs := s_38.1) (a := (s_38.2 % 65536)) (e := D.int) h_50 (y_2 (y_cb (y_cons (y_var h_51) y_nil) b_int) y_c (o_mod (by decide))) q_54 fun ev_57 c_58 => ?_
              have q_56 := c_58.here.trans (congrArg (fun z => some (L.own (List.map D.int z))) (Option.some.inj q_56))
              have n_59 := c_58.len.trans n_49
              have h_60 := c_58.at h_51 rfl
              refine sn_set (ltn n_59 rfl) (y_lF (d := D.int (s_38.2 / 65536)) (y_2 (y_var h_60) y_c (o_div (by decide)))) fun ev_61 c_62 => ?_
              have n_63 := c_62.len.trans n_59
              have h_64 := c_62.at q_56 rfl
              have ht := Option.some.inj ht
              subst ht
              exact ⟨n_63, h_64, c_62.here, ((Fr.refl).one c_58 rfl).one c_62 rfl⟩
            · have ht := if_f q_53 hc
              refine sn_nx ?_
              have ht := Option.some.inj ht
              subst ht
              exact ⟨n_49, h_50, h_51, Fr.refl⟩
          obtain ⟨n_67, h_68, h_69, f_70⟩ := r_66
          have ht := Option.some.inj ht
          subst ht
          exact ⟨n_67, h_68, h_69, (((Fr.refl).more f_46 rfl).one c_48 rfl).more f_70 rfl⟩
        obtain ⟨n_73, h_74, h_75, f_76⟩ := r_72
        have h_77 := f_76.at h_29 rfl
        have ht := Option.some.inj ht
        subst ht
        exact ⟨n_73, h_74, (Fr.refl).more f_76 rfl⟩
      · have ht := if_f q_35 hc
        refine sn_seqn ?_
        obtain ⟨v_78, q_79, ht⟩ := ob ht
        refine sn_set (ltn n_28 rfl) (y_lF (d := D.int v_78) (Eq.trans (b := some (D.int ((((absT v_24) * 48271) + ((x_9 + 1) * 69621)) % 2147483647))) (y_2 (y_cb (y_cons (y_2 (y_2 (y_var c_27.here) y_c (o_mulR (by decide))) (y_2 (y_2 (y_var h_31) y_c o_add) y_c (o_mulR (by decide))) o_add) y_nil) b_int) y_c (o_mod (by decide))) (cg (Option.some.inj q_79)))) fun ev_80 c_81 => ?_
        have n_82 := c_81.len.trans n_28
        have h_83 := c_81.at h_29 rfl
        have h_84 := c_81.at h_30 rfl
        have h_85 := c_81.at h_31 rfl
        refine sn_seqn ?_
        obtain ⟨v_86, q_87, ht⟩ := ob ht
        refine sn_set (ltn n_82 rfl) (y_lF (d := D.int v_86) (Eq.trans (b := some (D.int ((((v_78 * 16807) + (11 * x_9)) + 5) % 2147483629))) (y_2 (y_cb (y_cons (y_2 (y_2 (y_2 (y_var c_81.here) y_c (o_mulR (by decide))) (y_2 y_c (y_var h_85) (o_mulL (by decide))) o_add) y_c o_add) y_nil) b_int) y_c (o_mod (by decide))) (cg (Option.some.inj q_87)))) fun ev_88 c_89 => ?_
        have n_90 := c_89.len.trans n_82
        have h_91 := c_89.at h_83 rfl
        have h_92 := c_89.at h_84 rfl
        refine sn_seqn ?_
        obtain ⟨_, q_93, ht⟩ := ob ht; have q_93 := gd_of q_93
        obtain ⟨v_94, q_95, ht⟩ := ob ht
        refine sn_app (xs := s_8) (a := (v_86 % 65536)) (e := D.int) h_92 (y_2 (y_cb (y_cons (y_var c_89.here) y_nil) b_int) y_c (o_mod (by decide))) q_93 fun ev_96 c_97 => ?_
        have q_95 := c_97.here.trans (congrArg (fun z => some (L.own (List.map D.int z))) (Option.some.inj q_95))
        have n_98 := c_97.len.trans n_90
        have h_99 := c_97.at h_91 rfl
        have h_100 := c_97.at c_89.here rfl
        obtain ⟨v_101, q_102, ht⟩ := ob ht
        obtain ⟨_, q_103, ht⟩ := ob ht; have q_103 := gd_of q_103
        obtain ⟨v_104, q_105, ht⟩ := ob ht
        refine sn_app (xs := v_94) (a := v_101) (e := D.int) q_95 (Eq.trans (b := some (D.int ((v_86 / 65536) % 32768))) (y_2 (y_cb (y_cons (y_2 (y_var h_100) y_c (o_div (by decide))) y_nil) b_int) y_c (o_mod (by decide))) (cg (Option.some.inj q_102))) q_103 fun ev_106 c_107 => ?_
        have q_105 := c_107.here.trans (congrArg (fun z => some (L.own (List.map D.int z))) (Option.some.inj q_105))
        have n_108 := c_107.len.trans n_98
        have h_109 := c_107.at h_99 rfl
        have ht := Option.some.inj ht
        subst ht
        exact ⟨n_108, q_105, ((((Fr.refl).one c_81 rfl).one c_89 rfl).one c_97 rfl).one c_107 rfl⟩
    obtain ⟨n_112, h_113, f_114⟩ := r_111
    have h_115 := f_114.at h_29 rfl
    have ht := Option.some.inj ht
    subst ht
    exact ⟨n_112, h_113, ((((Fr.refl).more f_15 rfl).one c_18 rfl).one c_27 rfl).more f_114 rfl⟩
  obtain ⟨n_118, h_119, f_120⟩ := r_117
  refine sp_frz h_119 fun ev_121 c_122 => ?_
  have n_123 := c_122.len.trans n_118
  refine sp_ret (y_var c_122.here) ?_
  exact Or.inl (congrArg (fun z => Fl.rt ((eL D.int) z)) (Option.some.inj ht))
/-! ### _law_mix -/
noncomputable def t__law_mix (draws : (List Int)) (k : Int) (many : Int) : Option Int :=
  ((if (decide (0 < (List.length draws : Int))) = true then ((gd (0 < (List.length draws : Int))).bind fun _ =>
(atI draws (k % (List.length draws : Int))).bind fun v_10 =>
some v_10) else (some 0))).bind fun s_7 =>
  (if (decide (k < (List.length draws : Int))) = true then
    (gd (0 < many)).bind fun _ =>
    some (s_7 % many)
  else
    (gd (0 < many)).bind fun _ =>
    some ((((s_7 * 7919) + (k * 104729)) / 3) % many)
  )
theorem y__law_mix {draws : (List Int)} {k : Int} {many : Int} {r_0 : Int} (ht : t__law_mix draws k many = some r_0) : m__law_mix [(eL D.int) draws, D.int k, D.int many] = some (D.int r_0) := by
  unfold t__law_mix at ht
  refine y_fn (er := D.int) rfl ?_
  obtain ⟨ev_0, he⟩ : ∃ e, evStart [(eL D.int) draws, D.int k, D.int many] 1 = e := ⟨_, rfl⟩
  rw [he]
  have n_0 : ev_0.length = 4 := by rw [← he]; rfl
  have h_0_0 : ev_0[0]? = some (.fro ((eL D.int) draws)) := by rw [← he]; rfl
  have h_0_1 : ev_0[1]? = some (.fro (D.int k)) := by rw [← he]; rfl
  have h_0_2 : ev_0[2]? = some (.fro (D.int many)) := by rw [← he]; rfl
  clear he
  refine sp_seqn ?_
  refine sn_set (ltn n_0 rfl) (y_lF (d := D.int 0) y_c) fun ev_1 c_2 => ?_
  have n_3 := c_2.len.trans n_0
  have h_4 := c_2.at h_0_0 rfl
  have h_5 := c_2.at h_0_1 rfl
  have h_6 := c_2.at h_0_2 rfl
  refine sp_seqn ?_
  obtain ⟨s_7, q_8, ht⟩ := ob ht
  refine Snz.mono (P := (fun (s_ : Int) (e_ : EV) => e_.length = 4 ∧ e_[3]? = some (.fro (D.int s_)) ∧ Fr [3] ev_1 e_) s_7) ?_ (fun ev_18 r_19 => ?_)
  · refine sn_if (y_tof (y_2 (y_cb (y_cons (y_var h_4) y_nil) b_len) y_c o_gt)) (fun hc => ?_) (fun hc => ?_)
    · have ht := if_t q_8 hc
      obtain ⟨_, q_9, ht⟩ := ob ht; have q_9 := gd_of q_9
      obtain ⟨v_10, q_11, ht⟩ := ob ht
      refine sn_set (ltn n_3 rfl) (y_lF (d := D.int v_10) (y_2 (y_var h_4) (y_2 (y_cb (y_cons (y_var h_5) y_nil) b_int) (y_cb (y_cons (y_var h_4) y_nil) b_len) (o_mod q_9)) (o_ixl q_11))) fun ev_12 c_13 => ?_
      have n_14 := c_13.len.trans n_3
      have h_15 := c_13.at h_4 rfl
      have h_16 := c_13.at h_5 rfl
      have h_17 := c_13.at h_6 rfl
      have ht := Option.some.inj ht
      subst ht
      exact ⟨n_14, c_13.here, (Fr.refl).one c_13 rfl⟩
    · have ht := if_f q_8 hc
      refine sn_nx ?_
      have ht := Option.some.inj ht
      subst ht
      exact ⟨n_3, c_2.here, Fr.refl⟩
  obtain ⟨n_20, h_21, f_22⟩ := r_19
  have h_23 := f_22.at h_4 rfl
  have h_24 := f_22.at h_5 rfl
  have h_25 := f_22.at h_6 rfl
  refine sp_if_seq (y_tof (y_2 (y_var h_24) (y_cb (y_cons (y_var h_23) y_nil) b_len) o_lt)) (fun hc => ?_) (fun hc => ?_)
  · have ht := if_t ht hc
    obtain ⟨_, q_26, ht⟩ := ob ht; have q_26 := gd_of q_26
    refine sp_ret_seq (y_2 (y_cb (y_cons (y_var h_21) y_nil) b_int) (y_var h_25) (o_mod q_26)) ?_
    exact Or.inl (congrArg (fun z => Fl.rt (D.int z)) (Option.some.inj ht))
  · have ht := if_f ht hc
    refine sp_seqn ?_
    refine sn_nx ?_
    obtain ⟨_, q_27, ht⟩ := ob ht; have q_27 := gd_of q_27
    refine sp_ret (y_2 (y_cb (y_cons (y_2 (y_cb (y_cons (y_2 (y_2 (y_var h_21) y_c (o_mulR (by decide))) (y_2 (y_var h_24) y_c (o_mulR (by decide))) o_add) y_nil) b_int) y_c (o_div (by decide))) y_nil) b_int) (y_var h_25) (o_mod q_27)) ?_
    exact Or.inl (congrArg (fun z => Fl.rt (D.int z)) (Option.some.inj ht))
/-! ### _law_walks -/
noncomputable def t__law_walks_b1 (links : (List (Int × Int × Int × Int))) (minutes : (List (List Int))) (hops : (List (Int × Int))) (seen : (List Int)) (pair : (Int × Int)) (k : Int) (s_129 : (List ((List (Int × Int)) × (List Int) × (Int × Int)))) (x_130 : Int) : Option (List ((List (Int × Int)) × (List Int) × (Int × Int))) :=
  (atI links k).bind fun v_153 =>
  (atI [v_153.1, v_153.2.1, v_153.2.2.1, v_153.2.2.2] x_130).bind fun v_155 =>
  (atI seen (-1)).bind fun v_157 =>
  (if (decide (v_155 = v_157)) = true then ((atI links k).bind fun v_159 => (atI [v_159.1, v_159.2.1, v_159.2.2.1, v_159.2.2.2] (1 - x_130)).bind fun v_161 => some (!(memT v_161 seen))) else some false).bind fun v_163 =>
  ((if v_163 = true then ((atI links k).bind fun v_167 =>
(atI [v_167.1, v_167.2.1, v_167.2.2.1, v_167.2.2.2] (2 + x_130)).bind fun v_169 =>
(atI minutes k).bind fun v_171 =>
(atI v_171 x_130).bind fun v_173 =>
(some ((pair.1 + v_169), (pair.2 + v_173))).bind fun v_175 =>
(gd (List.length hops + List.length [(k, x_130)] ≤ 16777216)).bind fun _ =>
(atI links k).bind fun v_189 =>
(atI [v_189.1, v_189.2.1, v_189.2.2.1, v_189.2.2.2] (1 - x_130)).bind fun v_191 =>
(gd (List.length seen + List.length [v_191] ≤ 16777216)).bind fun _ =>
(some ((hops ++ [(k, x_130)]), (seen ++ [v_191]), v_175)).bind fun v_194 =>
(gd (List.length s_129 < 16777216)).bind fun _ =>
(some (s_129 ++ [v_194])).bind fun v_197 =>
some v_197) else (some s_129))).bind fun s_165 =>
  some s_165
noncomputable def t__law_walks_b2 (links : (List (Int × Int × Int × Int))) (minutes : (List (List Int))) (hops : (List (Int × Int))) (seen : (List Int)) (pair : (Int × Int)) (s_105 : (List ((List (Int × Int)) × (List Int) × (Int × Int)))) (x_106 : Int) : Option (List ((List (Int × Int)) × (List Int) × (Int × Int))) :=
  (forT (t__law_walks_b1 links minutes hops seen pair x_106) (rangeT 0 2) s_105).bind fun s_127 =>
  some s_127
noncomputable def t__law_walks_b3 (links : (List (Int × Int × Int × Int))) (minutes : (List (List Int))) (goal : Int) (s_49 : ((List ((Int × Int) × (List (Int × Int)))) × (List ((List (Int × Int)) × (List Int) × (Int × Int))))) (x_50 : ((List (Int × Int)) × (List Int) × (Int × Int))) : Option ((List ((Int × Int) × (List (Int × Int)))) × (List ((List (Int × Int)) × (List Int) × (Int × Int)))) :=
  (atI x_50.2.1 (-1)).bind fun v_88 =>
  ((if (decide (v_88 = goal)) = true then ((gd (List.length s_49.1 < 16777216)).bind fun _ =>
(some (s_49.1 ++ [(x_50.2.2, x_50.1)])).bind fun v_93 =>
some (v_93, s_49.2)) else ((gd (r62 (List.length links : Int))).bind fun _ =>
(forT (t__law_walks_b2 links minutes x_50.1 x_50.2.1 x_50.2.2) (rangeT 0 (List.length links : Int)) s_49.2).bind fun s_103 =>
some (s_49.1, s_103)))).bind fun s_90 =>
  some (s_90.1, s_90.2)
noncomputable def t__law_walks_b4 (links : (List (Int × Int × Int × Int))) (minutes : (List (List Int))) (goal : Int) (s_19 : ((List ((List (Int × Int)) × (List Int) × (Int × Int))) × (List ((Int × Int) × (List (Int × Int)))))) (x_20 : Int) : Option ((List ((List (Int × Int)) × (List Int) × (Int × Int))) × (List ((Int × Int) × (List (Int × Int))))) :=
  (forT (t__law_walks_b3 links minutes goal) s_19.1 (s_19.2, [])).bind fun s_47 =>
  some (s_47.2, s_47.1)
noncomputable def t__law_walks (many : Int) (links : (List (Int × Int × Int × Int))) (minutes : (List (List Int))) (start : Int) (goal : Int) : Option (List ((Int × Int) × (List (Int × Int)))) :=
  (gd (r62 many)).bind fun _ =>
  (forT (t__law_walks_b4 links minutes goal) (rangeT 0 many) ([([], [start], (0, 0))], [])).bind fun s_17 =>
  some s_17.2
theorem y__law_walks {many : Int} {links : (List (Int × Int × Int × Int))} {minutes : (List (List Int))} {start : Int} {goal : Int} {r_0 : (List ((Int × Int) × (List (Int × Int))))} (ht : t__law_walks many links minutes start goal = some r_0) : m__law_walks [D.int many, (eL (e4 D.int D.int D.int D.int)) links, (eL (eX D.int)) minutes, D.int start, D.int goal] = some ((eL (e2 (e2 D.int D.int) (eL (e2 D.int D.int)))) r_0) := by
  unfold t__law_walks at ht
  refine y_fn (er := (eL (e2 (e2 D.int D.int) (eL (e2 D.int D.int))))) rfl ?_
  obtain ⟨ev_0, he⟩ : ∃ e, evStart [D.int many, (eL (e4 D.int D.int D.int D.int)) links, (eL (eX D.int)) minutes, D.int start, D.int goal] 10 = e := ⟨_, rfl⟩
  rw [he]
  have n_0 : ev_0.length = 15 := by rw [← he]; rfl
  have h_0_0 : ev_0[0]? = some (.fro (D.int many)) := by rw [← he]; rfl
  have h_0_1 : ev_0[1]? = some (.fro ((eL (e4 D.int D.int D.int D.int)) links)) := by rw [← he]; rfl
  have h_0_2 : ev_0[2]? = some (.fro ((eL (eX D.int)) minutes)) := by rw [← he]; rfl
  have h_0_3 : ev_0[3]? = some (.fro (D.int start)) := by rw [← he]; rfl
  have h_0_4 : ev_0[4]? = some (.fro (D.int goal)) := by rw [← he]; rfl
  clear he
  refine sp_seqn ?_
  refine sn_par (ltn n_0 rfl) (ltn n_0 rfl) (y_lF (d := (eL (e3 (eL (e2 D.int D.int)) (eL D.int) (e2 D.int D.int))) [([], [start], (0, 0))]) (y_lst (y_klist (ds := List.map (e3 (eL (e2 D.int D.int)) (eL D.int) (e2 D.int D.int)) [([], [start], (0, 0))]) (y_cons (x := (e3 (eL (e2 D.int D.int)) (eL D.int) (e2 D.int D.int)) ([], [start], (0, 0))) (y_tup (y_cons (x := (eL (e2 D.int D.int)) []) (y_lst (y_klist (ds := List.map (e2 D.int D.int) []) y_nil (Nat.le_of_ble_eq_true rfl))) (y_cons (x := (eL D.int) [start]) (y_lst (y_klist (ds := List.map D.int [start]) (y_cons (x := D.int start) (y_var h_0_3) y_nil) (Nat.le_of_ble_eq_true rfl))) (y_cons (x := (e2 D.int D.int) (0, 0)) (y_tup (y_cons (x := D.int 0) y_c (y_cons (x := D.int 0) y_c y_nil)) (Nat.le_of_ble_eq_true rfl)) y_nil))) (Nat.le_of_ble_eq_true rfl)) y_nil) (Nat.le_of_ble_eq_true rfl)))) (y_lO (ds := List.map (e2 (e2 D.int D.int) (eL (e2 D.int D.int))) []) (y_klist (ds := List.map D.int []) y_nil (Nat.le_of_ble_eq_true rfl))) fun ev_1 ev_2 c_3 c_4 => ?_
  have n_5 := c_3.len.trans n_0
  have h_6 := c_3.at h_0_0 rfl
  have h_7 := c_3.at h_0_1 rfl
  have h_8 := c_3.at h_0_2 rfl
  have h_9 := c_3.at h_0_4 rfl
  have n_10 := c_4.len.trans n_5
  have h_11 := c_4.at h_6 rfl
  have h_12 := c_4.at h_7 rfl
  have h_13 := c_4.at h_8 rfl
  have h_14 := c_4.at h_9 rfl
  have h_15 := c_4.at c_3.here rfl
  refine sp_seqn ?_
  obtain ⟨_, q_16, ht⟩ := ob ht; have q_16 := gd_of q_16
  obtain ⟨s_17, q_18, ht⟩ := ob ht
  refine sn_for (e := D.int) (s := ([([], [start], (0, 0))], [])) (fun (s_ : ((List ((List (Int × Int)) × (List Int) × (Int × Int))) × (List ((Int × Int) × (List (Int × Int)))))) (e_ : EV) => e_.length = 15 ∧ e_[5]? = some (.fro ((eL (e3 (eL (e2 D.int D.int)) (eL D.int) (e2 D.int D.int))) s_.1)) ∧ e_[6]? = some (.own (List.map (e2 (e2 D.int D.int) (eL (e2 D.int D.int))) s_.2)) ∧ Fr [5, 6, 7, 8, 9, 10, 11, 12, 13, 14] ev_2 e_) (y_r1 (y_cons (x := D.int many) (y_var h_11) y_nil) q_16) q_18 ⟨n_10, h_15, c_4.here, Fr.refl⟩ ?_ (fun ev_270 r_271 => ?_)
  · intro s_19 x_20 s_21 ev_22 r_23 ht
    unfold t__law_walks_b4 at ht
    obtain ⟨n_24, h_25, h_26, f_27⟩ := r_23
    have h_28 := f_27.at h_12 rfl
    have h_29 := f_27.at h_13 rfl
    have h_30 := f_27.at h_14 rfl
    refine tg_name (ltn n_24 rfl) fun ev_31 c_32 => ?_
    have n_33 := c_32.len.trans n_24
    have h_34 := c_32.at h_28 rfl
    have h_35 := c_32.at h_29 rfl
    have h_36 := c_32.at h_30 rfl
    have h_37 := c_32.at h_25 rfl
    have h_38 := c_32.at h_26 rfl
    refine sp_seqn ?_
    refine sn_set (ltn n_33 rfl) (y_lO (ds := List.map (e3 (eL (e2 D.int D.int)) (eL D.int) (e2 D.int D.int)) []) (y_klist (ds := List.map D.int []) y_nil (Nat.le_of_ble_eq_true rfl))) fun ev_39 c_40 => ?_
    have n_41 := c_40.len.trans n_33
    have h_42 := c_40.at h_34 rfl
    have h_43 := c_40.at h_35 rfl
    have h_44 := c_40.at h_36 rfl
    have h_45 := c_40.at h_37 rfl
    have h_46 := c_40.at h_38 rfl
    refine sp_seqn ?_
    obtain ⟨s_47, q_48, ht⟩ := ob ht
    refine sn_for (e := (e3 (eL (e2 D.int D.int)) (eL D.int) (e2 D.int D.int))) (s := (s_19.2, [])) (fun (s_ : ((List ((Int × Int) × (List (Int × Int)))) × (List ((List (Int × Int)) × (List Int) × (Int × Int))))) (e_ : EV) => e_.length = 15 ∧ e_[6]? = some (.own (List.map (e2 (e2 D.int D.int) (eL (e2 D.int D.int))) s_.1)) ∧ e_[8]? = some (.own (List.map (e3 (eL (e2 D.int D.int)) (eL D.int) (e2 D.int D.int)) s_.2)) ∧ Fr [6, 8, 9, 10, 11, 12, 13, 14] ev_39 e_) (y_iL (y_var h_45)) q_48 ⟨n_41, h_46, c_40.here, Fr.refl⟩ ?_ (fun ev_247 r_248 => ?_)
    · intro s_49 x_50 s_51 ev_52 r_53 ht
      unfold t__law_walks_b3 at ht
      obtain ⟨n_54, h_55, h_56, f_57⟩ := r_53
      have h_58 := f_57.at h_42 rfl
      have h_59 := f_57.at h_43 rfl
      have h_60 := f_57.at h_44 rfl
      refine tg_tup (ds := [(eL (e2 D.int D.int)) x_50.1, (eL D.int) x_50.2.1, (e2 D.int D.int) x_50.2.2]) ?_
      refine tgs_cons ?_
      refine tg_name (ltn n_54 rfl) fun ev_61 c_62 => ?_
      have n_63 := c_62.len.trans n_54
      have h_64 := c_62.at h_58 rfl
      have h_65 := c_62.at h_59 rfl
      have h_66 := c_62.at h_60 rfl
      have h_67 := c_62.at h_55 rfl
      have h_68 := c_62.at h_56 rfl
      refine tgs_cons ?_
      refine tg_name (ltn n_63 rfl) fun ev_69 c_70 => ?_
      have n_71 := c_70.len.trans n_63
      have h_72 := c_70.at h_64 rfl
      have h_73 := c_70.at h_65 rfl
      have h_74 := c_70.at h_66 rfl
      have h_75 := c_70.at h_67 rfl
      have h_76 := c_70.at h_68 rfl
      have h_77 := c_70.at c_62.here rfl
      refine tgs_cons ?_
      refine tg_name (ltn n_71 rfl) fun ev_78 c_79 => ?_
      have n_80 := c_79.len.trans n_71
      have h_81 := c_79.at h_72 rfl
      have h_82 := c_79.at h_73 rfl
      have h_83 := c_79.at h_74 rfl
      have h_84 := c_79.at h_75 rfl
      have h_85 := c_79.at h_76 rfl
      have h_86 := c_79.at h_77 rfl
      have h_87 := c_79.at c_70.here rfl
      refine tgs_nil ?_
      refine sp_nx ?_
      obtain ⟨v_88, q_89, ht⟩ := ob ht
      obtain ⟨s_90, q_91, ht⟩ := ob ht
      refine Snz.mono (P := (fun (s_ : ((List ((Int × Int) × (List (Int × Int)))) × (List ((List (Int × Int)) × (List Int) × (Int × Int))))) (e_ : EV) => e_.length = 15 ∧ e_[6]? = some (.own (List.map (e2 (e2 D.int D.int) (eL (e2 D.int D.int))) s_.1)) ∧ e_[8]? = some (.own (List.map (e3 (eL (e2 D.int D.int)) (eL D.int) (e2 D.int D.int)) s_.2)) ∧ Fr [6, 8, 12, 13, 14] ev_78 e_) s_90) ?_ (fun ev_238 r_239 => ?_)
      · refine sn_if (y_tof (y_2 (y_2 (y_var h_87) (y_1 y_c o_neg) (o_ixl q_89)) (y_var h_83) (EE.oEq EE.int (Nat.le_of_ble_eq_true rfl) v_88 goal))) (fun hc => ?_) (fun hc => ?_)
        · have ht := if_t q_91 hc
          obtain ⟨_, q_92, ht⟩ := ob ht; have q_92 := gd_of q_92
          obtain ⟨v_93, q_94, ht⟩ := ob ht
          refine sn_app (xs := s_49.1) (a := (x_50.2.2, x_50.1)) (e := (e2 (e2 D.int D.int) (eL (e2 D.int D.int)))) h_84 (y_tup (y_cons (y_var c_79.here) (y_cons (y_var h_86) y_nil)) (Nat.le_of_ble_eq_true rfl)) q_92 fun ev_95 c_96 => ?_
          have q_94 := c_96.here.trans (congrArg (fun z => some (L.own (List.map (e2 (e2 D.int D.int) (eL (e2 D.int D.int))) z))) (Option.some.inj q_94))
          have n_97 := c_96.len.trans n_80
          have h_98 := c_96.at h_81 rfl
          have h_99 := c_96.at h_82 rfl
          have h_100 := c_96.at h_83 rfl
          have h_101 := c_96.at h_85 rfl
          have ht := Option.some.inj ht
          subst ht
          exact ⟨n_97, q_94, h_101, (Fr.refl).one c_96 rfl⟩
        · have ht := if_f q_91 hc
          obtain ⟨_, q_102, ht⟩ := ob ht; have q_102 := gd_of q_102
          obtain ⟨s_103, q_104, ht⟩ := ob ht
          refine sn_for (e := D.int) (s := s_49.2) (fun (s_ : (List ((List (Int × Int)) × (List Int) × (Int × Int)))) (e_ : EV) => e_.length = 15 ∧ e_[8]? = some (.own (List.map (e3 (eL (e2 D.int D.int)) (eL D.int) (e2 D.int D.int)) s_)) ∧ Fr [8, 12, 13, 14] ev_78 e_) (y_r1 (y_cons (x := D.int (List.length links : Int)) (y_cb (y_cons (y_var h_81) y_nil) b_len) y_nil) q_102) q_104 ⟨n_80, h_85, Fr.refl⟩ ?_ (fun ev_229 r_230 => ?_)
          · intro s_105 x_106 s_107 ev_108 r_109 ht
            unfold t__law_walks_b2 at ht
            obtain ⟨n_110, h_111, f_112⟩ := r_109
            have h_113 := f_112.at h_81 rfl
            have h_114 := f_112.at h_82 rfl
            have h_115 := f_112.at h_86 rfl
            have h_116 := f_112.at h_87 rfl
            have h_117 := f_112.at c_79.here rfl
            refine tg_name (ltn n_110 rfl) fun ev_118 c_119 => ?_
            have n_120 := c_119.len.trans n_110
            have h_121 := c_119.at h_113 rfl
            have h_122 := c_119.at h_114 rfl
            have h_123 := c_119.at h_111 rfl
            have h_124 := c_119.at h_115 rfl
            have h_125 := c_119.at h_116 rfl
            have h_126 := c_119.at h_117 rfl
            refine sp_nx ?_
            obtain ⟨s_127, q_128, ht⟩ := ob ht
            refine sn_for (e := D.int) (s := s_105) (fun (s_ : (List ((List (Int × Int)) × (List Int) × (Int × Int)))) (e_ : EV) => e_.length = 15 ∧ e_[8]? = some (.own (List.map (e3 (eL (e2 D.int D.int)) (eL D.int) (e2 D.int D.int)) s_)) ∧ Fr [8, 13, 14] ev_118 e_) (y_r1 (y_cons (x := D.int 2) y_c y_nil) (by decide)) q_128 ⟨n_120, h_123, Fr.refl⟩ ?_ (fun ev_219 r_220 => ?_)
            · intro s_129 x_130 s_131 ev_132 r_133 ht
              unfold t__law_walks_b1 at ht
              obtain ⟨n_134, h_135, f_136⟩ := r_133
              have h_137 := f_136.at h_121 rfl
              have h_138 := f_136.at h_122 rfl
              have h_139 := f_136.at h_124 rfl
              have h_140 := f_136.at h_125 rfl
              have h_141 := f_136.at h_126 rfl
              have h_142 := f_136.at c_119.here rfl
              refine tg_name (ltn n_134 rfl) fun ev_143 c_144 => ?_
              have n_145 := c_144.len.trans n_134
              have h_146 := c_144.at h_137 rfl
              have h_147 := c_144.at h_138 rfl
              have h_148 := c_144.at h_135 rfl
              have h_149 := c_144.at h_139 rfl
              have h_150 := c_144.at h_140 rfl
              have h_151 := c_144.at h_141 rfl
              have h_152 := c_144.at h_142 rfl
              refine sp_nx ?_
              obtain ⟨v_153, q_154, ht⟩ := ob ht
              obtain ⟨v_155, q_156, ht⟩ := ob ht
              obtain ⟨v_157, q_158, ht⟩ := ob ht
              obtain ⟨v_163, q_164, ht⟩ := ob ht
              obtain ⟨s_165, q_166, ht⟩ := ob ht
              refine Snz.mono (P := (fun (s_ : (List ((List (Int × Int)) × (List Int) × (Int × Int)))) (e_ : EV) => e_.length = 15 ∧ e_[8]? = some (.own (List.map (e3 (eL (e2 D.int D.int)) (eL D.int) (e2 D.int D.int)) s_)) ∧ Fr [8, 14] ev_143 e_) s_165) ?_ (fun ev_208 r_209 => ?_)
              · refine sn_if (y_tandP (y_tof (y_2 (y_2 (y_2 (y_var h_146) (y_var h_152) (o_ixl q_154)) (y_var c_144.here) (o_ixX (e := D.int) (xs := [v_153.1, v_153.2.1, v_153.2.2.1, v_153.2.2.2]) q_156)) (y_2 (y_var h_150) (y_1 y_c o_neg) (o_ixl q_158)) (EE.oEq EE.int (Nat.le_of_ble_eq_true rfl) v_155 v_157))) (fun hc => by have ht := if_t q_164 hc; obtain ⟨v_159, q_160, ht⟩ := ob ht; obtain ⟨v_161, q_162, ht⟩ := ob ht; exact (y_tof (y_2 (y_2 (y_2 (y_var h_146) (y_var h_152) (o_ixl q_160)) (y_2 y_c (y_var c_144.here) o_sub) (o_ixX (e := D.int) (xs := [v_159.1, v_159.2.1, v_159.2.2.1, v_159.2.2.2]) q_162)) (y_var h_150) (o_notin (a := v_161) (xs := x_50.2.1) EE.int (Nat.le_of_ble_eq_true rfl)))).trans (cgb (Option.some.inj ht))) (fun hc => Option.some.inj (if_f q_164 hc))) (fun hc => ?_) (fun hc => ?_)
                · have ht := if_t q_166 hc
                  refine sn_seqn ?_
                  obtain ⟨v_167, q_168, ht⟩ := ob ht
                  obtain ⟨v_169, q_170, ht⟩ := ob ht
                  obtain ⟨v_171, q_172, ht⟩ := ob ht
                  obtain ⟨v_173, q_174, ht⟩ := ob ht
                  obtain ⟨v_175, q_176, ht⟩ := ob ht
                  refine sn_set (ltn n_145 rfl) (y_lF (d := (e2 D.int D.int) v_175) (Eq.trans (b := some ((e2 D.int D.int) ((x_50.2.2.1 + v_169), (x_50.2.2.2 + v_173)))) (y_tup (y_cons (y_2 (y_2 (y_var h_151) y_c (o_ixt (j := 0) (ds := [D.int x_50.2.2.1, D.int x_50.2.2.2]) (by rfl))) (y_2 (y_2 (y_var h_146) (y_var h_152) (o_ixl q_168)) (y_2 y_c (y_var c_144.here) o_add) (o_ixX (e := D.int) (xs := [v_167.1, v_167.2.1, v_167.2.2.1, v_167.2.2.2]) q_170)) o_add) (y_cons (y_2 (y_2 (y_var h_151) y_c (o_ixt (j := 1) (ds := [D.int x_50.2.2.1, D.int x_50.2.2.2]) (by rfl))) (y_2 (y_2 (y_var h_147) (y_var h_152) (o_ixl q_172)) (y_var c_144.here) (o_ixX q_174)) o_add) y_nil)) (Nat.le_of_ble_eq_true rfl)) (cg (Option.some.inj q_176)))) fun ev_177 c_178 => ?_
                  have n_179 := c_178.len.trans n_145
                  have h_180 := c_178.at h_146 rfl
                  have h_181 := c_178.at h_147 rfl
                  have h_182 := c_178.at h_148 rfl
                  have h_183 := c_178.at h_149 rfl
                  have h_184 := c_178.at h_150 rfl
                  have h_185 := c_178.at h_151 rfl
                  have h_186 := c_178.at h_152 rfl
                  have h_187 := c_178.at c_144.here rfl
                  obtain ⟨_, q_188, ht⟩ := ob ht; have q_188 := gd_of q_188
                  obtain ⟨v_189, q_190, ht⟩ := ob ht
                  obtain ⟨v_191, q_192, ht⟩ := ob ht
                  obtain ⟨_, q_193, ht⟩ := ob ht; have q_193 := gd_of q_193
                  obtain ⟨v_194, q_195, ht⟩ := ob ht
                  obtain ⟨_, q_196, ht⟩ := ob ht; have q_196 := gd_of q_196
                  obtain ⟨v_197, q_198, ht⟩ := ob ht
                  refine sn_app (xs := s_129) (a := v_194) (e := (e3 (eL (e2 D.int D.int)) (eL D.int) (e2 D.int D.int))) h_182 (Eq.trans (b := some ((e3 (eL (e2 D.int D.int)) (eL D.int) (e2 D.int D.int)) ((x_50.1 ++ [(x_106, x_130)]), (x_50.2.1 ++ [v_191]), v_175))) (y_tup (y_cons (y_lst (y_cat (xs := x_50.1) (ys := [(x_106, x_130)]) (e := (e2 D.int D.int)) (y_var h_183) (y_lst (y_klist (ds := List.map (e2 D.int D.int) [(x_106, x_130)]) (y_cons (x := (e2 D.int D.int) (x_106, x_130)) (y_tup (y_cons (x := D.int x_106) (y_var h_186) (y_cons (x := D.int x_130) (y_var h_187) y_nil)) (Nat.le_of_ble_eq_true rfl)) y_nil) (Nat.le_of_ble_eq_true rfl))) q_188)) (y_cons (y_lst (y_cat (xs := x_50.2.1) (ys := [v_191]) (e := D.int) (y_var h_184) (y_lst (y_klist (ds := List.map D.int [v_191]) (y_cons (x := D.int v_191) (y_2 (y_2 (y_var h_180) (y_var h_186) (o_ixl q_190)) (y_2 y_c (y_var h_187) o_sub) (o_ixX (e := D.int) (xs := [v_189.1, v_189.2.1, v_189.2.2.1, v_189.2.2.2]) q_192)) y_nil) (Nat.le_of_ble_eq_true rfl))) q_193)) (y_cons (y_var c_178.here) y_nil))) (Nat.le_of_ble_eq_true rfl)) (cg (Option.some.inj q_195))) q_196 fun ev_199 c_200 => ?_
                  have q_198 := c_200.here.trans (congrArg (fun z => some (L.own (List.map (e3 (eL (e2 D.int D.int)) (eL D.int) (e2 D.int D.int)) z))) (Option.some.inj q_198))
                  have n_201 := c_200.len.trans n_179
                  have h_202 := c_200.at h_180 rfl
                  have h_203 := c_200.at h_181 rfl
                  have h_204 := c_200.at h_183 rfl
                  have h_205 := c_200.at h_184 rfl
                  have h_206 := c_200.at h_185 rfl
                  have h_207 := c_200.at h_186 rfl
                  have ht := Option.some.inj ht
                  subst ht
                  exact ⟨n_201, q_198, ((Fr.refl).one c_178 rfl).one c_200 rfl⟩
                · have ht := if_f q_166 hc
                  refine sn_nx ?_
                  have ht := Option.some.inj ht
                  subst ht
                  exact ⟨n_145, h_148, Fr.refl⟩
              obtain ⟨n_210, h_211, f_212⟩ := r_209
              have h_213 := f_212.at h_146 rfl
              have h_214 := f_212.at h_147 rfl
              have h_215 := f_212.at h_149 rfl
              have h_216 := f_212.at h_150 rfl
              have h_217 := f_212.at h_151 rfl
              have h_218 := f_212.at h_152 rfl
              have ht := Option.some.inj ht
              subst ht
              exact ⟨n_210, h_211, (((Fr.refl).more f_136 rfl).one c_144 rfl).more f_212 rfl⟩
            obtain ⟨n_221, h_222, f_223⟩ := r_220
            have h_224 := f_223.at h_121 rfl
            have h_225 := f_223.at h_122 rfl
            have h_226 := f_223.at h_124 rfl
            have h_227 := f_223.at h_125 rfl
            have h_228 := f_223.at h_126 rfl
            have ht := Option.some.inj ht
            subst ht
            exact ⟨n_221, h_222, (((Fr.refl).more f_112 rfl).one c_119 rfl).more f_223 rfl⟩
          obtain ⟨n_231, h_232, f_233⟩ := r_230
          have h_234 := f_233.at h_81 rfl
          have h_235 := f_233.at h_82 rfl
          have h_236 := f_233.at h_83 rfl
          have h_237 := f_233.at h_84 rfl
          have ht := Option.some.inj ht
          subst ht
          exact ⟨n_231, h_237, h_232, (Fr.refl).more f_233 rfl⟩
      obtain ⟨n_240, h_241, h_242, f_243⟩ := r_239
      have h_244 := f_243.at h_81 rfl
      have h_245 := f_243.at h_82 rfl
      have h_246 := f_243.at h_83 rfl
      have ht := Option.some.inj ht
      subst ht
      exact ⟨n_240, h_241, h_242, (((((Fr.refl).more f_57 rfl).one c_62 rfl).one c_70 rfl).one c_79 rfl).more f_243 rfl⟩
    obtain ⟨n_249, h_250, h_251, f_252⟩ := r_248
    have h_253 := f_252.at h_42 rfl
    have h_254 := f_252.at h_43 rfl
    have h_255 := f_252.at h_44 rfl
    refine sp_nx ?_
    refine sn_frz h_251 fun ev_256 c_257 => ?_
    have n_258 := c_257.len.trans n_249
    have h_259 := c_257.at h_253 rfl
    have h_260 := c_257.at h_254 rfl
    have h_261 := c_257.at h_255 rfl
    have h_262 := c_257.at h_250 rfl
    refine sn_set (ltn n_258 rfl) (y_lF (d := (eL (e3 (eL (e2 D.int D.int)) (eL D.int) (e2 D.int D.int))) s_47.2) (y_var c_257.here)) fun ev_263 c_264 => ?_
    have n_265 := c_264.len.trans n_258
    have h_266 := c_264.at h_259 rfl
    have h_267 := c_264.at h_260 rfl
    have h_268 := c_264.at h_261 rfl
    have h_269 := c_264.at h_262 rfl
    have ht := Option.some.inj ht
    subst ht
    exact ⟨n_265, c_264.here, h_269, ((((((Fr.refl).more f_27 rfl).one c_32 rfl).one c_40 rfl).more f_252 rfl).one c_257 rfl).one c_264 rfl⟩
  obtain ⟨n_272, h_273, h_274, f_275⟩ := r_271
  refine sp_frz h_274 fun ev_276 c_277 => ?_
  have n_278 := c_277.len.trans n_272
  refine sp_ret (y_var c_277.here) ?_
  exact Or.inl (congrArg (fun z => Fl.rt ((eL (e2 (e2 D.int D.int) (eL (e2 D.int D.int)))) z)) (Option.some.inj ht))
/-! ### _law_front -/
noncomputable def t__law_front (walks : (List ((Int × Int) × (List (Int × Int))))) : Option (List (Int × Int)) :=
  (gd (List.length walks ≤ 16777216)).bind fun _ =>
  (compT (fun (x_2 : ((Int × Int) × (List (Int × Int)))) => some (some x_2.1)) walks).bind fun v_15 =>
  (ssT v_15).bind fun v_17 =>
  (gd (List.length v_17 ≤ 16777216)).bind fun _ =>
  (compT (fun (x_23 : (Int × Int)) => (gd (List.length v_17 ≤ 16777216)).bind fun _ => (compT (fun (x_35 : (Int × Int)) => (if ((!(decide (x_35 = x_23))) && ((decide (x_35.1 ≤ x_23.1)) && (decide (x_35.2 ≤ x_23.2)))) = true then (some (some x_35)) else some none)) v_17).bind fun v_46 => (if (decide (v_46 = [])) = true then (some (some x_23)) else some none)) v_17).bind fun v_48 =>
  some v_48
theorem y__law_front {walks : (List ((Int × Int) × (List (Int × Int))))} {r_0 : (List (Int × Int))} (ht : t__law_front walks = some r_0) : m__law_front [(eL (e2 (e2 D.int D.int) (eL (e2 D.int D.int)))) walks] = some ((eL (e2 D.int D.int)) r_0) := by
  unfold t__law_front at ht
  refine y_fn (er := (eL (e2 D.int D.int))) rfl ?_
  obtain ⟨ev_0, he⟩ : ∃ e, evStart [(eL (e2 (e2 D.int D.int) (eL (e2 D.int D.int)))) walks] 5 = e := ⟨_, rfl⟩
  rw [he]
  have n_0 : ev_0.length = 6 := by rw [← he]; rfl
  have h_0_0 : ev_0[0]? = some (.fro ((eL (e2 (e2 D.int D.int) (eL (e2 D.int D.int)))) walks)) := by rw [← he]; rfl
  clear he
  refine sp_seqn ?_
  obtain ⟨_, q_1, ht⟩ := ob ht; have q_1 := gd_of q_1
  obtain ⟨v_15, q_16, ht⟩ := ob ht
  obtain ⟨v_17, q_18, ht⟩ := ob ht
  refine sn_set (ltn n_0 rfl) (y_lF (d := (eL (e2 D.int D.int)) v_17) (y_lst (y_kss (y_cons (y_lst (y_comp (e := (e2 (e2 D.int D.int) (eL (e2 D.int D.int)))) (e' := (e2 D.int D.int)) (y_iL (y_var h_0_0)) q_1 q_16 (fun x_2 r_3 w_4 n_5 f_6 ht => by have n_7 := n_5.trans n_0; refine tg_tup (ds := [(e2 D.int D.int) x_2.1, (eL (e2 D.int D.int)) x_2.2]) ?_; refine tgs_cons ?_; refine tg_name (ltn n_7 rfl) fun ev_8 c_9 => ?_; have n_10 := c_9.len.trans n_7; refine tgs_cons ?_; refine tg_name (ltn n_10 rfl) fun ev_11 c_12 => ?_; have n_13 := c_12.len.trans n_10; have h_14 := c_12.at c_9.here rfl; refine tgs_nil ?_; exact ⟨true, rfl, (fun _ => ce_t (e' := (e2 D.int D.int)) (y := x_2.1) (y_var h_14) ht), (fun h => nomatch h)⟩))) y_nil) q_18))) fun ev_19 c_20 => ?_
  have n_21 := c_20.len.trans n_0
  obtain ⟨_, q_22, ht⟩ := ob ht; have q_22 := gd_of q_22
  obtain ⟨v_48, q_49, ht⟩ := ob ht
  refine sp_ret (y_lst (y_comp (e := (e2 D.int D.int)) (e' := (e2 D.int D.int)) (y_iL (y_var c_20.here)) q_22 q_49 (fun x_23 r_24 w_25 n_26 f_27 ht => by have n_28 := n_26.trans n_21; have h_29 := f_27.at c_20.here rfl; refine tg_name (ltn n_28 rfl) fun ev_30 c_31 => ?_; have n_32 := c_31.len.trans n_28; have h_33 := c_31.at h_29 rfl; obtain ⟨_, q_34, ht⟩ := ob ht; have q_34 := gd_of q_34; obtain ⟨v_46, q_47, ht⟩ := ob ht; exact ⟨_, (y_tof (y_2 (y_lst (y_comp (e := (e2 D.int D.int)) (e' := (e2 D.int D.int)) (y_iL (y_var h_33)) q_34 q_47 (fun x_35 r_36 w_37 n_38 f_39 ht => by have n_40 := n_38.trans n_32; have h_41 := f_39.at c_31.here rfl; refine tg_name (ltn n_40 rfl) fun ev_42 c_43 => ?_; have n_44 := c_43.len.trans n_40; have h_45 := c_43.at h_41 rfl; exact ⟨_, (y_tand (y_tof (y_2 (y_var c_43.here) (y_var h_45) (EE.oNe (EE.e2 EE.int EE.int) (Nat.le_of_ble_eq_true rfl) x_35 x_23))) (y_tand (y_tof (y_2 (y_2 (y_var c_43.here) y_c (o_ixt (j := 0) (ds := [D.int x_35.1, D.int x_35.2]) (by rfl))) (y_2 (y_var h_45) y_c (o_ixt (j := 0) (ds := [D.int x_23.1, D.int x_23.2]) (by rfl))) o_le)) (y_tof (y_2 (y_2 (y_var c_43.here) y_c (o_ixt (j := 1) (ds := [D.int x_35.1, D.int x_35.2]) (by rfl))) (y_2 (y_var h_45) y_c (o_ixt (j := 1) (ds := [D.int x_23.1, D.int x_23.2]) (by rfl))) o_le)))), (fun hc => by have ht := if_t ht hc; exact ce_t (e' := (e2 D.int D.int)) (y := x_35) (y_var c_43.here) ht), (fun hc => ce_f (if_f ht hc))⟩))) (y_lst (y_klist (ds := List.map (e2 D.int D.int) []) y_nil (Nat.le_of_ble_eq_true rfl))) (EE.oEq (EE.list (EE.e2 EE.int EE.int)) (Nat.le_of_ble_eq_true rfl) v_46 []))), (fun hc => by have ht := if_t ht hc; exact ce_t (e' := (e2 D.int D.int)) (y := x_23) (y_var c_31.here) ht), (fun hc => ce_f (if_f ht hc))⟩))) ?_
  exact Or.inl (congrArg (fun z => Fl.rt ((eL (e2 D.int D.int)) z)) (Option.some.inj ht))
/-! ### _law_two -/
noncomputable def t__law_two_b1 (s_8 : Int) (x_9 : Int) : Option Int :=
  some (s_8 * 2)
noncomputable def t__law_two (k : Int) : Option Int :=
  (gd (r62 k)).bind fun _ =>
  (forT (t__law_two_b1) (rangeT 0 k) 1).bind fun s_6 =>
  some s_6
theorem y__law_two {k : Int} {r_0 : Int} (ht : t__law_two k = some r_0) : m__law_two [D.int k] = some (D.int r_0) := by
  unfold t__law_two at ht
  refine y_fn (er := D.int) rfl ?_
  obtain ⟨ev_0, he⟩ : ∃ e, evStart [D.int k] 2 = e := ⟨_, rfl⟩
  rw [he]
  have n_0 : ev_0.length = 3 := by rw [← he]; rfl
  have h_0_0 : ev_0[0]? = some (.fro (D.int k)) := by rw [← he]; rfl
  clear he
  refine sp_seqn ?_
  refine sn_set (ltn n_0 rfl) (y_lF (d := D.int 1) y_c) fun ev_1 c_2 => ?_
  have n_3 := c_2.len.trans n_0
  have h_4 := c_2.at h_0_0 rfl
  refine sp_seqn ?_
  obtain ⟨_, q_5, ht⟩ := ob ht; have q_5 := gd_of q_5
  obtain ⟨s_6, q_7, ht⟩ := ob ht
  refine sn_for (e := D.int) (s := 1) (fun (s_ : Int) (e_ : EV) => e_.length = 3 ∧ e_[1]? = some (.fro (D.int s_)) ∧ Fr [1, 2] ev_1 e_) (y_r1 (y_cons (x := D.int k) (y_var h_4) y_nil) q_5) q_7 ⟨n_3, c_2.here, Fr.refl⟩ ?_ (fun ev_23 r_24 => ?_)
  · intro s_8 x_9 s_10 ev_11 r_12 ht
    unfold t__law_two_b1 at ht
    obtain ⟨n_13, h_14, f_15⟩ := r_12
    refine tg_name (ltn n_13 rfl) fun ev_16 c_17 => ?_
    have n_18 := c_17.len.trans n_13
    have h_19 := c_17.at h_14 rfl
    refine sp_nx ?_
    refine sn_set (ltn n_18 rfl) (y_lF (d := D.int (s_8 * 2)) (y_2 (y_var h_19) y_c (o_mulR (by decide)))) fun ev_20 c_21 => ?_
    have n_22 := c_21.len.trans n_18
    have ht := Option.some.inj ht
    subst ht
    exact ⟨n_22, c_21.here, (((Fr.refl).more f_15 rfl).one c_17 rfl).one c_21 rfl⟩
  obtain ⟨n_25, h_26, f_27⟩ := r_24
  refine sp_ret (y_var h_26) ?_
  exact Or.inl (congrArg (fun z => Fl.rt (D.int z)) (Option.some.inj ht))
/-! ### next_front -/
noncomputable def t_next_front_b1 (told : (List (List (Int × Int)))) (s_12 : (List (Int × Int))) (x_13 : ((Int × Int) × Int × Int × Int)) : Option (List (Int × Int)) :=
  (atI told x_13.2.1).bind fun v_44 =>
  (gd (List.length v_44 ≤ 16777216)).bind fun _ =>
  (compT (fun (x_47 : (Int × Int)) => some (some ((x_13.2.2.1 + x_47.1), (x_13.2.2.2 + x_47.2)))) v_44).bind fun v_66 =>
  (gd (List.length s_12 + List.length v_66 ≤ 16777216)).bind fun _ =>
  (some (s_12 ++ v_66)).bind fun v_69 =>
  some v_69
noncomputable def t_next_front (links : (List (Int × Int × Int × Int))) (minutes : (List (List Int))) (router : Int) (told : (List (List (Int × Int)))) : Option (List (Int × Int)) :=
  (t_hops_of links minutes router).bind fun v_8 =>
  (forT (t_next_front_b1 told) v_8 []).bind fun s_10 =>
  (t_unbeaten s_10).bind fun v_83 =>
  some v_83
theorem y_next_front {links : (List (Int × Int × Int × Int))} {minutes : (List (List Int))} {router : Int} {told : (List (List (Int × Int)))} {r_0 : (List (Int × Int))} (ht : t_next_front links minutes router told = some r_0) : m_next_front [(eL (e4 D.int D.int D.int D.int)) links, (eL (eX D.int)) minutes, D.int router, (eL (eL (e2 D.int D.int))) told] = some ((eL (e2 D.int D.int)) r_0) := by
  unfold t_next_front at ht
  refine y_fn (er := (eL (e2 D.int D.int))) rfl ?_
  obtain ⟨ev_0, he⟩ : ∃ e, evStart [(eL (e4 D.int D.int D.int D.int)) links, (eL (eX D.int)) minutes, D.int router, (eL (eL (e2 D.int D.int))) told] 7 = e := ⟨_, rfl⟩
  rw [he]
  have n_0 : ev_0.length = 11 := by rw [← he]; rfl
  have h_0_0 : ev_0[0]? = some (.fro ((eL (e4 D.int D.int D.int D.int)) links)) := by rw [← he]; rfl
  have h_0_1 : ev_0[1]? = some (.fro ((eL (eX D.int)) minutes)) := by rw [← he]; rfl
  have h_0_2 : ev_0[2]? = some (.fro (D.int router)) := by rw [← he]; rfl
  have h_0_3 : ev_0[3]? = some (.fro ((eL (eL (e2 D.int D.int))) told)) := by rw [← he]; rfl
  clear he
  refine sp_seqn ?_
  refine sn_set (ltn n_0 rfl) (y_lO (ds := List.map (e2 D.int D.int) []) (y_klist (ds := List.map (e2 D.int D.int) []) y_nil (Nat.le_of_ble_eq_true rfl))) fun ev_1 c_2 => ?_
  have n_3 := c_2.len.trans n_0
  have h_4 := c_2.at h_0_0 rfl
  have h_5 := c_2.at h_0_1 rfl
  have h_6 := c_2.at h_0_2 rfl
  have h_7 := c_2.at h_0_3 rfl
  refine sp_seqn ?_
  obtain ⟨v_8, q_9, ht⟩ := ob ht
  obtain ⟨s_10, q_11, ht⟩ := ob ht
  refine sn_for (e := (e4 (e2 D.int D.int) D.int D.int D.int)) (s := []) (fun (s_ : (List (Int × Int))) (e_ : EV) => e_.length = 11 ∧ e_[4]? = some (.own (List.map (e2 D.int D.int) s_)) ∧ Fr [4, 5, 6, 7, 8] ev_1 e_) (y_iL (y_cb (y_cons (x := (eL (e4 D.int D.int D.int D.int)) links) (y_var h_4) (y_cons (x := (eL (eX D.int)) minutes) (y_var h_5) (y_cons (x := D.int router) (y_var h_6) y_nil))) (y_hops_of q_9))) q_11 ⟨n_3, c_2.here, Fr.refl⟩ ?_ (fun ev_75 r_76 => ?_)
  · intro s_12 x_13 s_14 ev_15 r_16 ht
    unfold t_next_front_b1 at ht
    obtain ⟨n_17, h_18, f_19⟩ := r_16
    have h_20 := f_19.at h_7 rfl
    refine tg_tup (ds := [(e2 D.int D.int) x_13.1, D.int x_13.2.1, D.int x_13.2.2.1, D.int x_13.2.2.2]) ?_
    refine tgs_cons ?_
    refine tg_name (ltn n_17 rfl) fun ev_21 c_22 => ?_
    have n_23 := c_22.len.trans n_17
    have h_24 := c_22.at h_20 rfl
    have h_25 := c_22.at h_18 rfl
    refine tgs_cons ?_
    refine tg_name (ltn n_23 rfl) fun ev_26 c_27 => ?_
    have n_28 := c_27.len.trans n_23
    have h_29 := c_27.at h_24 rfl
    have h_30 := c_27.at h_25 rfl
    refine tgs_cons ?_
    refine tg_name (ltn n_28 rfl) fun ev_31 c_32 => ?_
    have n_33 := c_32.len.trans n_28
    have h_34 := c_32.at h_29 rfl
    have h_35 := c_32.at h_30 rfl
    have h_36 := c_32.at c_27.here rfl
    refine tgs_cons ?_
    refine tg_name (ltn n_33 rfl) fun ev_37 c_38 => ?_
    have n_39 := c_38.len.trans n_33
    have h_40 := c_38.at h_34 rfl
    have h_41 := c_38.at h_35 rfl
    have h_42 := c_38.at h_36 rfl
    have h_43 := c_38.at c_32.here rfl
    refine tgs_nil ?_
    refine sp_nx ?_
    obtain ⟨v_44, q_45, ht⟩ := ob ht
    obtain ⟨_, q_46, ht⟩ := ob ht; have q_46 := gd_of q_46
    obtain ⟨v_66, q_67, ht⟩ := ob ht
    obtain ⟨_, q_68, ht⟩ := ob ht; have q_68 := gd_of q_68
    obtain ⟨v_69, q_70, ht⟩ := ob ht
    refine sn_ext (xs := s_12) (ys := v_66) (e := (e2 D.int D.int)) h_41 (y_lst (y_comp (e := (e2 D.int D.int)) (e' := (e2 D.int D.int)) (y_iL (y_2 (y_var h_40) (y_var h_42) (o_ixl q_45))) q_46 q_67 (fun x_47 r_48 w_49 n_50 f_51 ht => by have n_52 := n_50.trans n_39; have h_53 := f_51.at h_43 rfl; have h_54 := f_51.at c_38.here rfl; refine tg_tup (ds := [D.int x_47.1, D.int x_47.2]) ?_; refine tgs_cons ?_; refine tg_name (ltn n_52 rfl) fun ev_55 c_56 => ?_; have n_57 := c_56.len.trans n_52; have h_58 := c_56.at h_53 rfl; have h_59 := c_56.at h_54 rfl; refine tgs_cons ?_; refine tg_name (ltn n_57 rfl) fun ev_60 c_61 => ?_; have n_62 := c_61.len.trans n_57; have h_63 := c_61.at h_58 rfl; have h_64 := c_61.at h_59 rfl; have h_65 := c_61.at c_56.here rfl; refine tgs_nil ?_; exact ⟨true, rfl, (fun _ => ce_t (e' := (e2 D.int D.int)) (y := ((x_13.2.2.1 + x_47.1), (x_13.2.2.2 + x_47.2))) (y_tup (y_cons (y_2 (y_var h_63) (y_var h_65) o_add) (y_cons (y_2 (y_var h_64) (y_var c_61.here) o_add) y_nil)) (Nat.le_of_ble_eq_true rfl)) ht), (fun h => nomatch h)⟩))) q_68 fun ev_71 c_72 => ?_
    have q_70 := c_72.here.trans (congrArg (fun z => some (L.own (List.map (e2 D.int D.int) z))) (Option.some.inj q_70))
    have n_73 := c_72.len.trans n_39
    have h_74 := c_72.at h_40 rfl
    have ht := Option.some.inj ht
    subst ht
    exact ⟨n_73, q_70, ((((((Fr.refl).more f_19 rfl).one c_22 rfl).one c_27 rfl).one c_32 rfl).one c_38 rfl).one c_72 rfl⟩
  obtain ⟨n_77, h_78, f_79⟩ := r_76
  refine sp_frz h_78 fun ev_80 c_81 => ?_
  have n_82 := c_81.len.trans n_77
  obtain ⟨v_83, q_84, ht⟩ := ob ht
  refine sp_ret (y_cb (y_cons (x := (eL (e2 D.int D.int)) s_10) (y_var c_81.here) y_nil) (y_unbeaten q_84)) ?_
  exact Or.inl (congrArg (fun z => Fl.rt ((eL (e2 D.int D.int)) z)) (Option.some.inj ht))
/-! ### walk_by -/
noncomputable def t_walk_by_b1 (told : (List (List (Int × Int)))) (left_ : (Int × Int)) (s_53 : (List ((Int × Int) × Int × (Int × Int)))) (x_54 : ((Int × Int) × Int × Int × Int)) : Option (List ((Int × Int) × Int × (Int × Int))) :=
  (atI told x_54.2.1).bind fun v_93 =>
  ((if (memT ((left_.1 - x_54.2.2.1), (left_.2 - x_54.2.2.2)) v_93) = true then ((some (x_54.1, x_54.2.1, ((left_.1 - x_54.2.2.1), (left_.2 - x_54.2.2.2)))).bind fun v_97 =>
(gd (List.length s_53 < 16777216)).bind fun _ =>
(some (s_53 ++ [v_97])).bind fun v_100 =>
some v_100) else (some s_53))).bind fun s_95 =>
  some s_95
noncomputable def t_walk_by_t1 (goal : Int) (s_167 : ((List (Int × Int)) × Int × (Int × Int))) : Option Bool :=
  some (!(decide (s_167.2.1 = goal)))
noncomputable def t_walk_by_b2 (links : (List (Int × Int × Int × Int))) (minutes : (List (List Int))) (told : (List (List (Int × Int)))) (s_27 : ((List (Int × Int)) × Int × (Int × Int))) : Option ((List (Int × Int)) × Int × (Int × Int)) :=
  (t_hops_of links minutes s_27.2.1).bind fun v_49 =>
  (forT (t_walk_by_b1 told s_27.2.2) v_49 []).bind fun s_51 =>
  (minE (e3 (e2 D.int D.int) D.int (e2 D.int D.int)) s_51).bind fun v_130 =>
  (gd (List.length s_27.1 < 16777216)).bind fun _ =>
  (some (s_27.1 ++ [v_130.1])).bind fun v_157 =>
  some (v_157, v_130.2.1, v_130.2.2)
noncomputable def t_walk_by (links : (List (Int × Int × Int × Int))) (minutes : (List (List Int))) (told : (List (List (Int × Int)))) (start : Int) (goal : Int) (pair : (Int × Int)) : Option (List (Int × Int)) :=
  (whileT (t_walk_by_t1 goal) (t_walk_by_b2 links minutes told) ([], start, pair)).bind fun s_25 =>
  some s_25.1
theorem y_walk_by {links : (List (Int × Int × Int × Int))} {minutes : (List (List Int))} {told : (List (List (Int × Int)))} {start : Int} {goal : Int} {pair : (Int × Int)} {r_0 : (List (Int × Int))} (ht : t_walk_by links minutes told start goal pair = some r_0) : m_walk_by [(eL (e4 D.int D.int D.int D.int)) links, (eL (eX D.int)) minutes, (eL (eL (e2 D.int D.int))) told, D.int start, D.int goal, (e2 D.int D.int) pair] = some ((eL (e2 D.int D.int)) r_0) := by
  unfold t_walk_by at ht
  refine y_fn (er := (eL (e2 D.int D.int))) rfl ?_
  obtain ⟨ev_0, he⟩ : ∃ e, evStart [(eL (e4 D.int D.int D.int D.int)) links, (eL (eX D.int)) minutes, (eL (eL (e2 D.int D.int))) told, D.int start, D.int goal, (e2 D.int D.int) pair] 8 = e := ⟨_, rfl⟩
  rw [he]
  have n_0 : ev_0.length = 14 := by rw [← he]; rfl
  have h_0_0 : ev_0[0]? = some (.fro ((eL (e4 D.int D.int D.int D.int)) links)) := by rw [← he]; rfl
  have h_0_1 : ev_0[1]? = some (.fro ((eL (eX D.int)) minutes)) := by rw [← he]; rfl
  have h_0_2 : ev_0[2]? = some (.fro ((eL (eL (e2 D.int D.int))) told)) := by rw [← he]; rfl
  have h_0_3 : ev_0[3]? = some (.fro (D.int start)) := by rw [← he]; rfl
  have h_0_4 : ev_0[4]? = some (.fro (D.int goal)) := by rw [← he]; rfl
  have h_0_5 : ev_0[5]? = some (.fro ((e2 D.int D.int) pair)) := by rw [← he]; rfl
  clear he
  refine sp_seqn ?_
  refine sn_par3 (ltn n_0 rfl) (ltn n_0 rfl) (ltn n_0 rfl) (y_lO (ds := List.map (e2 D.int D.int) []) (y_klist (ds := List.map (e2 D.int D.int) []) y_nil (Nat.le_of_ble_eq_true rfl))) (y_lF (d := D.int start) (y_var h_0_3)) (y_lF (d := (e2 D.int D.int) pair) (y_var h_0_5)) fun ev_1 ev_2 ev_3 c_4 c_5 c_6 => ?_
  have n_7 := c_4.len.trans n_0
  have h_8 := c_4.at h_0_0 rfl
  have h_9 := c_4.at h_0_1 rfl
  have h_10 := c_4.at h_0_2 rfl
  have h_11 := c_4.at h_0_4 rfl
  have n_12 := c_5.len.trans n_7
  have h_13 := c_5.at h_8 rfl
  have h_14 := c_5.at h_9 rfl
  have h_15 := c_5.at h_10 rfl
  have h_16 := c_5.at h_11 rfl
  have h_17 := c_5.at c_4.here rfl
  have n_18 := c_6.len.trans n_12
  have h_19 := c_6.at h_13 rfl
  have h_20 := c_6.at h_14 rfl
  have h_21 := c_6.at h_15 rfl
  have h_22 := c_6.at h_16 rfl
  have h_23 := c_6.at h_17 rfl
  have h_24 := c_6.at c_5.here rfl
  refine sp_seqn ?_
  obtain ⟨s_25, q_26, ht⟩ := ob ht
  refine sn_while (s := ([], start, pair)) (fun (s_ : ((List (Int × Int)) × Int × (Int × Int))) (e_ : EV) => e_.length = 14 ∧ e_[6]? = some (.own (List.map (e2 D.int D.int) s_.1)) ∧ e_[7]? = some (.fro (D.int s_.2.1)) ∧ e_[8]? = some (.fro ((e2 D.int D.int) s_.2.2)) ∧ Fr [6, 7, 8, 9, 10, 11, 12, 13] ev_3 e_) q_26 ⟨n_18, h_23, h_24, c_6.here, Fr.refl⟩ ?_ ?_ (fun ev_178 r_179 => ?_)
  · intro s_167 ev_169 b_171 r_170 ht
    unfold t_walk_by_t1 at ht
    obtain ⟨n_172, h_173, h_174, h_175, f_176⟩ := r_170
    have h_177 := f_176.at h_22 rfl
    exact Eq.trans (b := some (!(decide (s_167.2.1 = goal)))) (y_tof (y_2 (y_var h_174) (y_var h_177) (EE.oNe EE.int (Nat.le_of_ble_eq_true rfl) s_167.2.1 goal))) (cgb (Option.some.inj ht))
  · intro s_27 s_28 ev_29 r_30 ht
    unfold t_walk_by_b2 at ht
    obtain ⟨n_32, h_33, h_34, h_35, f_36⟩ := r_30
    have h_37 := f_36.at h_19 rfl
    have h_38 := f_36.at h_20 rfl
    have h_39 := f_36.at h_21 rfl
    refine sp_seqn ?_
    refine sn_set (ltn n_32 rfl) (y_lO (ds := List.map (e3 (e2 D.int D.int) D.int (e2 D.int D.int)) []) (y_klist (ds := List.map (e3 (e2 D.int D.int) D.int (e2 D.int D.int)) []) y_nil (Nat.le_of_ble_eq_true rfl))) fun ev_40 c_41 => ?_
    have n_42 := c_41.len.trans n_32
    have h_43 := c_41.at h_37 rfl
    have h_44 := c_41.at h_38 rfl
    have h_45 := c_41.at h_39 rfl
    have h_46 := c_41.at h_33 rfl
    have h_47 := c_41.at h_34 rfl
    have h_48 := c_41.at h_35 rfl
    refine sp_seqn ?_
    obtain ⟨v_49, q_50, ht⟩ := ob ht
    obtain ⟨s_51, q_52, ht⟩ := ob ht
    refine sn_for (e := (e4 (e2 D.int D.int) D.int D.int D.int)) (s := []) (fun (s_ : (List ((Int × Int) × Int × (Int × Int)))) (e_ : EV) => e_.length = 14 ∧ e_[9]? = some (.own (List.map (e3 (e2 D.int D.int) D.int (e2 D.int D.int)) s_)) ∧ Fr [9, 10, 11, 12, 13] ev_40 e_) (y_iL (y_cb (y_cons (x := (eL (e4 D.int D.int D.int D.int)) links) (y_var h_43) (y_cons (x := (eL (eX D.int)) minutes) (y_var h_44) (y_cons (x := D.int s_27.2.1) (y_var h_47) y_nil))) (y_hops_of q_50))) q_52 ⟨n_42, c_41.here, Fr.refl⟩ ?_ (fun ev_114 r_115 => ?_)
    · intro s_53 x_54 s_55 ev_56 r_57 ht
      unfold t_walk_by_b1 at ht
      obtain ⟨n_58, h_59, f_60⟩ := r_57
      have h_61 := f_60.at h_45 rfl
      have h_62 := f_60.at h_48 rfl
      refine tg_tup (ds := [(e2 D.int D.int) x_54.1, D.int x_54.2.1, D.int x_54.2.2.1, D.int x_54.2.2.2]) ?_
      refine tgs_cons ?_
      refine tg_name (ltn n_58 rfl) fun ev_63 c_64 => ?_
      have n_65 := c_64.len.trans n_58
      have h_66 := c_64.at h_61 rfl
      have h_67 := c_64.at h_62 rfl
      have h_68 := c_64.at h_59 rfl
      refine tgs_cons ?_
      refine tg_name (ltn n_65 rfl) fun ev_69 c_70 => ?_
      have n_71 := c_70.len.trans n_65
      have h_72 := c_70.at h_66 rfl
      have h_73 := c_70.at h_67 rfl
      have h_74 := c_70.at h_68 rfl
      have h_75 := c_70.at c_64.here rfl
      refine tgs_cons ?_
      refine tg_name (ltn n_71 rfl) fun ev_76 c_77 => ?_
      have n_78 := c_77.len.trans n_71
      have h_79 := c_77.at h_72 rfl
      have h_80 := c_77.at h_73 rfl
      have h_81 := c_77.at h_74 rfl
      have h_82 := c_77.at h_75 rfl
      have h_83 := c_77.at c_70.here rfl
      refine tgs_cons ?_
      refine tg_name (ltn n_78 rfl) fun ev_84 c_85 => ?_
      have n_86 := c_85.len.trans n_78
      have h_87 := c_85.at h_79 rfl
      have h_88 := c_85.at h_80 rfl
      have h_89 := c_85.at h_81 rfl
      have h_90 := c_85.at h_82 rfl
      have h_91 := c_85.at h_83 rfl
      have h_92 := c_85.at c_77.here rfl
      refine tgs_nil ?_
      refine sp_nx ?_
      obtain ⟨v_93, q_94, ht⟩ := ob ht
      obtain ⟨s_95, q_96, ht⟩ := ob ht
      refine Snz.mono (P := (fun (s_ : (List ((Int × Int) × Int × (Int × Int)))) (e_ : EV) => e_.length = 14 ∧ e_[9]? = some (.own (List.map (e3 (e2 D.int D.int) D.int (e2 D.int D.int)) s_)) ∧ Fr [9] ev_84 e_) s_95) ?_ (fun ev_107 r_108 => ?_)
      · refine sn_if (y_tof (y_2 (y_tup (y_cons (y_2 (y_2 (y_var h_88) y_c (o_ixt (j := 0) (ds := [D.int s_27.2.2.1, D.int s_27.2.2.2]) (by rfl))) (y_var h_92) o_sub) (y_cons (y_2 (y_2 (y_var h_88) y_c (o_ixt (j := 1) (ds := [D.int s_27.2.2.1, D.int s_27.2.2.2]) (by rfl))) (y_var c_85.here) o_sub) y_nil)) (Nat.le_of_ble_eq_true rfl)) (y_2 (y_var h_87) (y_var h_91) (o_ixl q_94)) (o_in (a := ((s_27.2.2.1 - x_54.2.2.1), (s_27.2.2.2 - x_54.2.2.2))) (xs := v_93) (EE.e2 EE.int EE.int) (Nat.le_of_ble_eq_true rfl)))) (fun hc => ?_) (fun hc => ?_)
        · have ht := if_t q_96 hc
          obtain ⟨v_97, q_98, ht⟩ := ob ht
          obtain ⟨_, q_99, ht⟩ := ob ht; have q_99 := gd_of q_99
          obtain ⟨v_100, q_101, ht⟩ := ob ht
          refine sn_app (xs := s_53) (a := v_97) (e := (e3 (e2 D.int D.int) D.int (e2 D.int D.int))) h_89 (Eq.trans (b := some ((e3 (e2 D.int D.int) D.int (e2 D.int D.int)) (x_54.1, x_54.2.1, ((s_27.2.2.1 - x_54.2.2.1), (s_27.2.2.2 - x_54.2.2.2))))) (y_tup (y_cons (y_var h_90) (y_cons (y_var h_91) (y_cons (y_tup (y_cons (y_2 (y_2 (y_var h_88) y_c (o_ixt (j := 0) (ds := [D.int s_27.2.2.1, D.int s_27.2.2.2]) (by rfl))) (y_var h_92) o_sub) (y_cons (y_2 (y_2 (y_var h_88) y_c (o_ixt (j := 1) (ds := [D.int s_27.2.2.1, D.int s_27.2.2.2]) (by rfl))) (y_var c_85.here) o_sub) y_nil)) (Nat.le_of_ble_eq_true rfl)) y_nil))) (Nat.le_of_ble_eq_true rfl)) (cg (Option.some.inj q_98))) q_99 fun ev_102 c_103 => ?_
          have q_101 := c_103.here.trans (congrArg (fun z => some (L.own (List.map (e3 (e2 D.int D.int) D.int (e2 D.int D.int)) z))) (Option.some.inj q_101))
          have n_104 := c_103.len.trans n_86
          have h_105 := c_103.at h_87 rfl
          have h_106 := c_103.at h_88 rfl
          have ht := Option.some.inj ht
          subst ht
          exact ⟨n_104, q_101, (Fr.refl).one c_103 rfl⟩
        · have ht := if_f q_96 hc
          refine sn_nx ?_
          have ht := Option.some.inj ht
          subst ht
          exact ⟨n_86, h_89, Fr.refl⟩
      obtain ⟨n_109, h_110, f_111⟩ := r_108
      have h_112 := f_111.at h_87 rfl
      have h_113 := f_111.at h_88 rfl
      have ht := Option.some.inj ht
      subst ht
      exact ⟨n_109, h_110, ((((((Fr.refl).more f_60 rfl).one c_64 rfl).one c_70 rfl).one c_77 rfl).one c_85 rfl).more f_111 rfl⟩
    obtain ⟨n_116, h_117, f_118⟩ := r_115
    have h_119 := f_118.at h_43 rfl
    have h_120 := f_118.at h_44 rfl
    have h_121 := f_118.at h_45 rfl
    have h_122 := f_118.at h_46 rfl
    refine sp_seqn ?_
    refine sn_frz h_117 fun ev_123 c_124 => ?_
    have n_125 := c_124.len.trans n_116
    have h_126 := c_124.at h_119 rfl
    have h_127 := c_124.at h_120 rfl
    have h_128 := c_124.at h_121 rfl
    have h_129 := c_124.at h_122 rfl
    obtain ⟨v_130, q_131, ht⟩ := ob ht
    refine sn_asg (d := (e3 (e2 D.int D.int) D.int (e2 D.int D.int)) v_130) (y_cb (y_cons (y_var c_124.here) y_nil) (b_minE q_131)) ?_
    refine tg_tup (ds := [(e2 D.int D.int) v_130.1, D.int v_130.2.1, (e2 D.int D.int) v_130.2.2]) ?_
    refine tgs_cons ?_
    refine tg_name (ltn n_125 rfl) fun ev_132 c_133 => ?_
    have n_134 := c_133.len.trans n_125
    have h_135 := c_133.at h_126 rfl
    have h_136 := c_133.at h_127 rfl
    have h_137 := c_133.at h_128 rfl
    have h_138 := c_133.at h_129 rfl
    refine tgs_cons ?_
    refine tg_name (ltn n_134 rfl) fun ev_139 c_140 => ?_
    have n_141 := c_140.len.trans n_134
    have h_142 := c_140.at h_135 rfl
    have h_143 := c_140.at h_136 rfl
    have h_144 := c_140.at h_137 rfl
    have h_145 := c_140.at h_138 rfl
    have h_146 := c_140.at c_133.here rfl
    refine tgs_cons ?_
    refine tg_name (ltn n_141 rfl) fun ev_147 c_148 => ?_
    have n_149 := c_148.len.trans n_141
    have h_150 := c_148.at h_142 rfl
    have h_151 := c_148.at h_143 rfl
    have h_152 := c_148.at h_144 rfl
    have h_153 := c_148.at h_145 rfl
    have h_154 := c_148.at c_140.here rfl
    have h_155 := c_148.at h_146 rfl
    refine tgs_nil ?_
    refine sp_nx ?_
    obtain ⟨_, q_156, ht⟩ := ob ht; have q_156 := gd_of q_156
    obtain ⟨v_157, q_158, ht⟩ := ob ht
    refine sn_app (xs := s_27.1) (a := v_130.1) (e := (e2 D.int D.int)) h_153 (y_var h_155) q_156 fun ev_159 c_160 => ?_
    have q_158 := c_160.here.trans (congrArg (fun z => some (L.own (List.map (e2 D.int D.int) z))) (Option.some.inj q_158))
    have n_161 := c_160.len.trans n_149
    have h_162 := c_160.at h_150 rfl
    have h_163 := c_160.at h_151 rfl
    have h_164 := c_160.at h_152 rfl
    have h_165 := c_160.at h_154 rfl
    have h_166 := c_160.at c_148.here rfl
    have ht := Option.some.inj ht
    subst ht
    exact ⟨n_161, q_158, h_165, h_166, ((((((((Fr.refl).more f_36 rfl).one c_41 rfl).more f_118 rfl).one c_124 rfl).one c_133 rfl).one c_140 rfl).one c_148 rfl).one c_160 rfl⟩
  obtain ⟨n_180, h_181, h_182, h_183, f_184⟩ := r_179
  refine sp_frz h_181 fun ev_185 c_186 => ?_
  have n_187 := c_186.len.trans n_180
  refine sp_ret (y_var c_186.here) ?_
  exact Or.inl (congrArg (fun z => Fl.rt ((eL (e2 D.int D.int)) z)) (Option.some.inj ht))
/-! ### _law_net -/
noncomputable def t__law_net_b1 (draws : (List Int)) (k : Int) (s_17 : (List (Int × Int × Int × Int))) (x_18 : Int) : Option (List (Int × Int × Int × Int)) :=
  (t__law_mix draws (k + x_18) 2).bind fun v_33 =>
  (atI [((x_18 - 1), x_18), (x_18, (x_18 - 1))] v_33).bind fun v_35 =>
  (gd (List.length s_17 < 16777216)).bind fun _ =>
  (some (s_17 ++ [(v_35.1, v_35.2, 1, 1)])).bind fun v_44 =>
  some v_44
noncomputable def t__law_net_b2 (draws : (List Int)) (k : Int) (many : Int) (s_64 : (List (Int × Int × Int × Int))) (x_65 : Int) : Option (List (Int × Int × Int × Int)) :=
  (t__law_mix draws ((k + 21) + (3 * x_65)) many).bind fun v_82 =>
  (t__law_mix draws ((k + 22) + (3 * x_65)) (many - 1)).bind fun v_92 =>
  (gd (0 < many)).bind fun _ =>
  (some (v_82, (((v_82 + 1) + v_92) % many), 1, 1)).bind fun v_95 =>
  (gd (List.length s_64 < 16777216)).bind fun _ =>
  (some (s_64 ++ [v_95])).bind fun v_98 =>
  some v_98
noncomputable def t__law_net (draws : (List Int)) (k : Int) : Option (Int × (List (Int × Int × Int × Int))) :=
  (t__law_mix draws k 5).bind fun v_1 =>
  (gd (r62 (2 + v_1))).bind fun _ =>
  (forT (t__law_net_b1 draws k) (rangeT 1 (2 + v_1)) []).bind fun s_15 =>
  (t__law_mix draws (k + 20) 4).bind fun v_59 =>
  (gd (r62 v_59)).bind fun _ =>
  (forT (t__law_net_b2 draws k (2 + v_1)) (rangeT 0 v_59) s_15).bind fun s_62 =>
  some ((2 + v_1), s_62)
theorem y__law_net {draws : (List Int)} {k : Int} {r_0 : (Int × (List (Int × Int × Int × Int)))} (ht : t__law_net draws k = some r_0) : m__law_net [(eL D.int) draws, D.int k] = some ((e2 D.int (eL (e4 D.int D.int D.int D.int))) r_0) := by
  unfold t__law_net at ht
  refine y_fn (er := (e2 D.int (eL (e4 D.int D.int D.int D.int)))) rfl ?_
  obtain ⟨ev_0, he⟩ : ∃ e, evStart [(eL D.int) draws, D.int k] 6 = e := ⟨_, rfl⟩
  rw [he]
  have n_0 : ev_0.length = 8 := by rw [← he]; rfl
  have h_0_0 : ev_0[0]? = some (.fro ((eL D.int) draws)) := by rw [← he]; rfl
  have h_0_1 : ev_0[1]? = some (.fro (D.int k)) := by rw [← he]; rfl
  clear he
  refine sp_seqn ?_
  obtain ⟨v_1, q_2, ht⟩ := ob ht
  refine sn_par (ltn n_0 rfl) (ltn n_0 rfl) (y_lF (d := D.int (2 + v_1)) (y_2 y_c (y_cb (y_cons (x := (eL D.int) draws) (y_var h_0_0) (y_cons (x := D.int k) (y_var h_0_1) (y_cons (x := D.int 5) y_c y_nil))) (y__law_mix q_2)) o_add)) (y_lO (ds := List.map (e4 D.int D.int D.int D.int) []) (y_klist (ds := List.map (e4 D.int D.int D.int D.int) []) y_nil (Nat.le_of_ble_eq_true rfl))) fun ev_3 ev_4 c_5 c_6 => ?_
  have n_7 := c_5.len.trans n_0
  have h_8 := c_5.at h_0_0 rfl
  have h_9 := c_5.at h_0_1 rfl
  have n_10 := c_6.len.trans n_7
  have h_11 := c_6.at h_8 rfl
  have h_12 := c_6.at h_9 rfl
  have h_13 := c_6.at c_5.here rfl
  refine sp_seqn ?_
  obtain ⟨_, q_14, ht⟩ := ob ht; have q_14 := gd_of q_14
  obtain ⟨s_15, q_16, ht⟩ := ob ht
  refine sn_for (e := D.int) (s := []) (fun (s_ : (List (Int × Int × Int × Int))) (e_ : EV) => e_.length = 8 ∧ e_[3]? = some (.own (List.map (e4 D.int D.int D.int D.int) s_)) ∧ Fr [3, 4, 5] ev_4 e_) (y_r2 (y_cons (x := D.int 1) y_c (y_cons (x := D.int (2 + v_1)) (y_var h_13) y_nil)) (by decide) q_14) q_16 ⟨n_10, c_6.here, Fr.refl⟩ ?_ (fun ev_51 r_52 => ?_)
  · intro s_17 x_18 s_19 ev_20 r_21 ht
    unfold t__law_net_b1 at ht
    obtain ⟨n_22, h_23, f_24⟩ := r_21
    have h_25 := f_24.at h_11 rfl
    have h_26 := f_24.at h_12 rfl
    refine tg_name (ltn n_22 rfl) fun ev_27 c_28 => ?_
    have n_29 := c_28.len.trans n_22
    have h_30 := c_28.at h_25 rfl
    have h_31 := c_28.at h_26 rfl
    have h_32 := c_28.at h_23 rfl
    refine sp_seqn ?_
    obtain ⟨v_33, q_34, ht⟩ := ob ht
    obtain ⟨v_35, q_36, ht⟩ := ob ht
    refine sn_set (ltn n_29 rfl) (y_lF (d := (e2 D.int D.int) v_35) (y_2 (y_lst (y_klist (ds := List.map (e2 D.int D.int) [((x_18 - 1), x_18), (x_18, (x_18 - 1))]) (y_cons (x := (e2 D.int D.int) ((x_18 - 1), x_18)) (y_tup (y_cons (x := D.int (x_18 - 1)) (y_2 (y_var c_28.here) y_c o_sub) (y_cons (x := D.int x_18) (y_var c_28.here) y_nil)) (Nat.le_of_ble_eq_true rfl)) (y_cons (x := (e2 D.int D.int) (x_18, (x_18 - 1))) (y_tup (y_cons (x := D.int x_18) (y_var c_28.here) (y_cons (x := D.int (x_18 - 1)) (y_2 (y_var c_28.here) y_c o_sub) y_nil)) (Nat.le_of_ble_eq_true rfl)) y_nil)) (Nat.le_of_ble_eq_true rfl))) (y_cb (y_cons (x := (eL D.int) draws) (y_var h_30) (y_cons (x := D.int (k + x_18)) (y_2 (y_var h_31) (y_var c_28.here) o_add) (y_cons (x := D.int 2) y_c y_nil))) (y__law_mix q_34)) (o_ixl q_36))) fun ev_37 c_38 => ?_
    have n_39 := c_38.len.trans n_29
    have h_40 := c_38.at h_30 rfl
    have h_41 := c_38.at h_31 rfl
    have h_42 := c_38.at h_32 rfl
    refine sp_nx ?_
    obtain ⟨_, q_43, ht⟩ := ob ht; have q_43 := gd_of q_43
    obtain ⟨v_44, q_45, ht⟩ := ob ht
    refine sn_app (xs := s_17) (a := (v_35.1, v_35.2, 1, 1)) (e := (e4 D.int D.int D.int D.int)) h_42 (y_tup (y_cons (y_2 (y_var c_38.here) y_c (o_ixt (j := 0) (ds := [D.int v_35.1, D.int v_35.2]) (by rfl))) (y_cons (y_2 (y_var c_38.here) y_c (o_ixt (j := 1) (ds := [D.int v_35.1, D.int v_35.2]) (by rfl))) (y_cons y_c (y_cons y_c y_nil)))) (Nat.le_of_ble_eq_true rfl)) q_43 fun ev_46 c_47 => ?_
    have q_45 := c_47.here.trans (congrArg (fun z => some (L.own (List.map (e4 D.int D.int D.int D.int) z))) (Option.some.inj q_45))
    have n_48 := c_47.len.trans n_39
    have h_49 := c_47.at h_40 rfl
    have h_50 := c_47.at h_41 rfl
    have ht := Option.some.inj ht
    subst ht
    exact ⟨n_48, q_45, ((((Fr.refl).more f_24 rfl).one c_28 rfl).one c_38 rfl).one c_47 rfl⟩
  obtain ⟨n_53, h_54, f_55⟩ := r_52
  have h_56 := f_55.at h_11 rfl
  have h_57 := f_55.at h_12 rfl
  have h_58 := f_55.at h_13 rfl
  refine sp_seqn ?_
  obtain ⟨v_59, q_60, ht⟩ := ob ht
  obtain ⟨_, q_61, ht⟩ := ob ht; have q_61 := gd_of q_61
  obtain ⟨s_62, q_63, ht⟩ := ob ht
  refine sn_for (e := D.int) (s := s_15) (fun (s_ : (List (Int × Int × Int × Int))) (e_ : EV) => e_.length = 8 ∧ e_[3]? = some (.own (List.map (e4 D.int D.int D.int D.int) s_)) ∧ Fr [3, 6, 7] ev_51 e_) (y_r1 (y_cons (x := D.int v_59) (y_cb (y_cons (x := (eL D.int) draws) (y_var h_56) (y_cons (x := D.int (k + 20)) (y_2 (y_var h_57) y_c o_add) (y_cons (x := D.int 4) y_c y_nil))) (y__law_mix q_60)) y_nil) q_61) q_63 ⟨n_53, h_54, Fr.refl⟩ ?_ (fun ev_106 r_107 => ?_)
  · intro s_64 x_65 s_66 ev_67 r_68 ht
    unfold t__law_net_b2 at ht
    obtain ⟨n_69, h_70, f_71⟩ := r_68
    have h_72 := f_71.at h_56 rfl
    have h_73 := f_71.at h_57 rfl
    have h_74 := f_71.at h_58 rfl
    refine tg_name (ltn n_69 rfl) fun ev_75 c_76 => ?_
    have n_77 := c_76.len.trans n_69
    have h_78 := c_76.at h_72 rfl
    have h_79 := c_76.at h_73 rfl
    have h_80 := c_76.at h_74 rfl
    have h_81 := c_76.at h_70 rfl
    refine sp_seqn ?_
    obtain ⟨v_82, q_83, ht⟩ := ob ht
    refine sn_set (ltn n_77 rfl) (y_lF (d := D.int v_82) (y_cb (y_cons (x := (eL D.int) draws) (y_var h_78) (y_cons (x := D.int ((k + 21) + (3 * x_65))) (y_2 (y_2 (y_var h_79) y_c o_add) (y_2 y_c (y_var c_76.here) (o_mulL (by decide))) o_add) (y_cons (x := D.int (2 + v_1)) (y_var h_80) y_nil))) (y__law_mix q_83))) fun ev_84 c_85 => ?_
    have n_86 := c_85.len.trans n_77
    have h_87 := c_85.at h_78 rfl
    have h_88 := c_85.at h_79 rfl
    have h_89 := c_85.at h_80 rfl
    have h_90 := c_85.at h_81 rfl
    have h_91 := c_85.at c_76.here rfl
    refine sp_nx ?_
    obtain ⟨v_92, q_93, ht⟩ := ob ht
    obtain ⟨_, q_94, ht⟩ := ob ht; have q_94 := gd_of q_94
    obtain ⟨v_95, q_96, ht⟩ := ob ht
    obtain ⟨_, q_97, ht⟩ := ob ht; have q_97 := gd_of q_97
    obtain ⟨v_98, q_99, ht⟩ := ob ht
    refine sn_app (xs := s_64) (a := v_95) (e := (e4 D.int D.int D.int D.int)) h_90 (Eq.trans (b := some ((e4 D.int D.int D.int D.int) (v_82, (((v_82 + 1) + v_92) % (2 + v_1)), 1, 1))) (y_tup (y_cons (y_var c_85.here) (y_cons (y_2 (y_cb (y_cons (y_2 (y_2 (y_var c_85.here) y_c o_add) (y_cb (y_cons (x := (eL D.int) draws) (y_var h_87) (y_cons (x := D.int ((k + 22) + (3 * x_65))) (y_2 (y_2 (y_var h_88) y_c o_add) (y_2 y_c (y_var h_91) (o_mulL (by decide))) o_add) (y_cons (x := D.int ((2 + v_1) - 1)) (y_2 (y_var h_89) y_c o_sub) y_nil))) (y__law_mix q_93)) o_add) y_nil) b_int) (y_var h_89) (o_mod q_94)) (y_cons y_c (y_cons y_c y_nil)))) (Nat.le_of_ble_eq_true rfl)) (cg (Option.some.inj q_96))) q_97 fun ev_100 c_101 => ?_
    have q_99 := c_101.here.trans (congrArg (fun z => some (L.own (List.map (e4 D.int D.int D.int D.int) z))) (Option.some.inj q_99))
    have n_102 := c_101.len.trans n_86
    have h_103 := c_101.at h_87 rfl
    have h_104 := c_101.at h_88 rfl
    have h_105 := c_101.at h_89 rfl
    have ht := Option.some.inj ht
    subst ht
    exact ⟨n_102, q_99, ((((Fr.refl).more f_71 rfl).one c_76 rfl).one c_85 rfl).one c_101 rfl⟩
  obtain ⟨n_108, h_109, f_110⟩ := r_107
  have h_111 := f_110.at h_58 rfl
  refine sp_frz h_109 fun ev_112 c_113 => ?_
  have n_114 := c_113.len.trans n_108
  have h_115 := c_113.at h_111 rfl
  refine sp_ret (y_tup (y_cons (x := D.int (2 + v_1)) (y_var h_115) (y_cons (x := (eL (e4 D.int D.int D.int D.int)) s_62) (y_var c_113.here) y_nil)) (Nat.le_of_ble_eq_true rfl)) ?_
  exact Or.inl (congrArg (fun z => Fl.rt ((e2 D.int (eL (e4 D.int D.int D.int D.int))) z)) (Option.some.inj ht))
/-! ### _law_minutes -/
noncomputable def t__law_minutes_b1 (draws : (List Int)) (k : Int) (links : (List (Int × Int × Int × Int))) (plan : Int) (s_19 : (List (List Int))) (x_20 : Int) : Option (List (List Int)) :=
  (t__law_mix draws (k + 1) 3).bind fun v_39 =>
  (atI [3, 12, 1001] v_39).bind fun v_41 =>
  (t__law_mix draws ((k + 2) + (2 * x_20)) v_41).bind fun v_52 =>
  (t__law_mix draws ((k + 3) + (2 * x_20)) v_41).bind fun v_54 =>
  (t__law_mix draws ((k + 60) + x_20) 6).bind fun v_56 =>
  (atI [v_54, 0] (if (decide (v_56 = 0)) = true then 1 else 0 : Int)).bind fun v_58 =>
  ((if (decide (plan = 1)) = true then ((gd (List.length (rangeT 0 2) ≤ 16777216)).bind fun _ =>
(compT (fun (x_73 : Int) => (atI links x_20).bind fun v_90 => (atI [v_90.1, v_90.2.1, v_90.2.2.1, v_90.2.2.2] (2 + x_73)).bind fun v_92 => (atI links x_20).bind fun v_94 => (atI [v_94.1, v_94.2.1, v_94.2.2.1, v_94.2.2.2] (2 + x_73)).bind fun v_96 => (atI [v_52, v_58] x_73).bind fun v_98 => (mulT v_98 (if (decide (v_41 < 13)) = true then 1 else 0 : Int)).bind fun v_100 => some (some ((maxT 0 (40 - (4 * v_96))) + v_100))) (rangeT 0 2)).bind fun v_102 =>
some v_102) else (some [v_52, v_58]))).bind fun s_70 =>
  (gd (List.length s_19 < 16777216)).bind fun _ =>
  (some (s_19 ++ [s_70])).bind fun v_123 =>
  some v_123
noncomputable def t__law_minutes (draws : (List Int)) (k : Int) (links : (List (Int × Int × Int × Int))) : Option (List (List Int)) :=
  (t__law_mix draws k 2).bind fun v_1 =>
  (gd (r62 (List.length links : Int))).bind fun _ =>
  (forT (t__law_minutes_b1 draws k links v_1) (rangeT 0 (List.length links : Int)) []).bind fun s_17 =>
  some s_17
theorem y__law_minutes {draws : (List Int)} {k : Int} {links : (List (Int × Int × Int × Int))} {r_0 : (List (List Int))} (ht : t__law_minutes draws k links = some r_0) : m__law_minutes [(eL D.int) draws, D.int k, (eL (e4 D.int D.int D.int D.int)) links] = some ((eL (eX D.int)) r_0) := by
  unfold t__law_minutes at ht
  refine y_fn (er := (eL (eX D.int))) rfl ?_
  obtain ⟨ev_0, he⟩ : ∃ e, evStart [(eL D.int) draws, D.int k, (eL (e4 D.int D.int D.int D.int)) links] 6 = e := ⟨_, rfl⟩
  rw [he]
  have n_0 : ev_0.length = 9 := by rw [← he]; rfl
  have h_0_0 : ev_0[0]? = some (.fro ((eL D.int) draws)) := by rw [← he]; rfl
  have h_0_1 : ev_0[1]? = some (.fro (D.int k)) := by rw [← he]; rfl
  have h_0_2 : ev_0[2]? = some (.fro ((eL (e4 D.int D.int D.int D.int)) links)) := by rw [← he]; rfl
  clear he
  refine sp_seqn ?_
  obtain ⟨v_1, q_2, ht⟩ := ob ht
  refine sn_par (ltn n_0 rfl) (ltn n_0 rfl) (y_lO (ds := List.map (eX D.int) []) (y_klist (ds := List.map D.int []) y_nil (Nat.le_of_ble_eq_true rfl))) (y_lF (d := D.int v_1) (y_cb (y_cons (x := (eL D.int) draws) (y_var h_0_0) (y_cons (x := D.int k) (y_var h_0_1) (y_cons (x := D.int 2) y_c y_nil))) (y__law_mix q_2))) fun ev_3 ev_4 c_5 c_6 => ?_
  have n_7 := c_5.len.trans n_0
  have h_8 := c_5.at h_0_0 rfl
  have h_9 := c_5.at h_0_1 rfl
  have h_10 := c_5.at h_0_2 rfl
  have n_11 := c_6.len.trans n_7
  have h_12 := c_6.at h_8 rfl
  have h_13 := c_6.at h_9 rfl
  have h_14 := c_6.at h_10 rfl
  have h_15 := c_6.at c_5.here rfl
  refine sp_seqn ?_
  obtain ⟨_, q_16, ht⟩ := ob ht; have q_16 := gd_of q_16
  obtain ⟨s_17, q_18, ht⟩ := ob ht
  refine sn_for (e := D.int) (s := []) (fun (s_ : (List (List Int))) (e_ : EV) => e_.length = 9 ∧ e_[3]? = some (.own (List.map (eX D.int) s_)) ∧ Fr [3, 5, 6, 7] ev_4 e_) (y_r1 (y_cons (x := D.int (List.length links : Int)) (y_cb (y_cons (y_var h_14) y_nil) b_len) y_nil) q_16) q_18 ⟨n_11, h_15, Fr.refl⟩ ?_ (fun ev_132 r_133 => ?_)
  · intro s_19 x_20 s_21 ev_22 r_23 ht
    unfold t__law_minutes_b1 at ht
    obtain ⟨n_24, h_25, f_26⟩ := r_23
    have h_27 := f_26.at h_12 rfl
    have h_28 := f_26.at h_13 rfl
    have h_29 := f_26.at h_14 rfl
    have h_30 := f_26.at c_6.here rfl
    refine tg_name (ltn n_24 rfl) fun ev_31 c_32 => ?_
    have n_33 := c_32.len.trans n_24
    have h_34 := c_32.at h_27 rfl
    have h_35 := c_32.at h_28 rfl
    have h_36 := c_32.at h_29 rfl
    have h_37 := c_32.at h_25 rfl
    have h_38 := c_32.at h_30 rfl
    refine sp_seqn ?_
    obtain ⟨v_39, q_40, ht⟩ := ob ht
    obtain ⟨v_41, q_42, ht⟩ := ob ht
    refine sn_set (ltn n_33 rfl) (y_lF (d := D.int v_41) (y_2 (y_lst (y_klist (ds := List.map D.int [3, 12, 1001]) (y_cons (x := D.int 3) y_c (y_cons (x := D.int 12) y_c (y_cons (x := D.int 1001) y_c y_nil))) (Nat.le_of_ble_eq_true rfl))) (y_cb (y_cons (x := (eL D.int) draws) (y_var h_34) (y_cons (x := D.int (k + 1)) (y_2 (y_var h_35) y_c o_add) (y_cons (x := D.int 3) y_c y_nil))) (y__law_mix q_40)) (o_ixl q_42))) fun ev_43 c_44 => ?_
    have n_45 := c_44.len.trans n_33
    have h_46 := c_44.at h_34 rfl
    have h_47 := c_44.at h_35 rfl
    have h_48 := c_44.at h_36 rfl
    have h_49 := c_44.at h_37 rfl
    have h_50 := c_44.at h_38 rfl
    have h_51 := c_44.at c_32.here rfl
    refine sp_seqn ?_
    obtain ⟨v_52, q_53, ht⟩ := ob ht
    obtain ⟨v_54, q_55, ht⟩ := ob ht
    obtain ⟨v_56, q_57, ht⟩ := ob ht
    obtain ⟨v_58, q_59, ht⟩ := ob ht
    refine sn_set (ltn n_45 rfl) (y_lF (d := (eL D.int) [v_52, v_58]) (y_lst (y_klist (ds := List.map D.int [v_52, v_58]) (y_cons (x := D.int v_52) (y_cb (y_cons (x := (eL D.int) draws) (y_var h_46) (y_cons (x := D.int ((k + 2) + (2 * x_20))) (y_2 (y_2 (y_var h_47) y_c o_add) (y_2 y_c (y_var h_51) (o_mulL (by decide))) o_add) (y_cons (x := D.int v_41) (y_var c_44.here) y_nil))) (y__law_mix q_53)) (y_cons (x := D.int v_58) (y_2 (y_lst (y_klist (ds := List.map D.int [v_54, 0]) (y_cons (x := D.int v_54) (y_cb (y_cons (x := (eL D.int) draws) (y_var h_46) (y_cons (x := D.int ((k + 3) + (2 * x_20))) (y_2 (y_2 (y_var h_47) y_c o_add) (y_2 y_c (y_var h_51) (o_mulL (by decide))) o_add) (y_cons (x := D.int v_41) (y_var c_44.here) y_nil))) (y__law_mix q_55)) (y_cons (x := D.int 0) y_c y_nil)) (Nat.le_of_ble_eq_true rfl))) (y_cb (y_cons (y_2 (y_cb (y_cons (x := (eL D.int) draws) (y_var h_46) (y_cons (x := D.int ((k + 60) + x_20)) (y_2 (y_2 (y_var h_47) y_c o_add) (y_var h_51) o_add) (y_cons (x := D.int 6) y_c y_nil))) (y__law_mix q_57)) y_c (EE.oEq EE.int (Nat.le_of_ble_eq_true rfl) v_56 0)) y_nil) b_intB) (o_ixl q_59)) y_nil)) (Nat.le_of_ble_eq_true rfl)))) fun ev_60 c_61 => ?_
    have n_62 := c_61.len.trans n_45
    have h_63 := c_61.at h_46 rfl
    have h_64 := c_61.at h_47 rfl
    have h_65 := c_61.at h_48 rfl
    have h_66 := c_61.at h_49 rfl
    have h_67 := c_61.at h_50 rfl
    have h_68 := c_61.at h_51 rfl
    have h_69 := c_61.at c_44.here rfl
    refine sp_seqn ?_
    obtain ⟨s_70, q_71, ht⟩ := ob ht
    refine Snz.mono (P := (fun (s_ : (List Int)) (e_ : EV) => e_.length = 9 ∧ e_[7]? = some (.fro ((eL D.int) s_)) ∧ Fr [7] ev_60 e_) s_70) ?_ (fun ev_112 r_113 => ?_)
    · refine sn_if (y_tof (y_2 (y_var h_67) y_c (EE.oEq EE.int (Nat.le_of_ble_eq_true rfl) v_1 1))) (fun hc => ?_) (fun hc => ?_)
      · have ht := if_t q_71 hc
        obtain ⟨_, q_72, ht⟩ := ob ht; have q_72 := gd_of q_72
        obtain ⟨v_102, q_103, ht⟩ := ob ht
        refine sn_set (ltn n_62 rfl) (y_lF (d := (eL D.int) v_102) (y_lst (y_comp (e := D.int) (e' := D.int) (y_r1 (y_cons (x := D.int 2) y_c y_nil) (by decide)) q_72 q_103 (fun x_73 r_74 w_75 n_76 f_77 ht => by have n_78 := n_76.trans n_62; have h_79 := f_77.at h_65 rfl; have h_80 := f_77.at h_68 rfl; have h_81 := f_77.at h_69 rfl; have h_82 := f_77.at c_61.here rfl; refine tg_name (ltn n_78 rfl) fun ev_83 c_84 => ?_; have n_85 := c_84.len.trans n_78; have h_86 := c_84.at h_79 rfl; have h_87 := c_84.at h_80 rfl; have h_88 := c_84.at h_81 rfl; have h_89 := c_84.at h_82 rfl; obtain ⟨v_90, q_91, ht⟩ := ob ht; obtain ⟨v_92, q_93, ht⟩ := ob ht; obtain ⟨v_94, q_95, ht⟩ := ob ht; obtain ⟨v_96, q_97, ht⟩ := ob ht; obtain ⟨v_98, q_99, ht⟩ := ob ht; obtain ⟨v_100, q_101, ht⟩ := ob ht; exact ⟨true, rfl, (fun _ => ce_t (e' := D.int) (y := ((maxT 0 (40 - (4 * v_96))) + v_100)) (y_2 (y_cb (y_cons (x := D.int 0) y_c (y_cons (x := D.int (40 - (4 * v_96))) (y_2 y_c (y_2 y_c (y_2 (y_2 (y_var h_86) (y_var h_87) (o_ixl q_95)) (y_2 y_c (y_var c_84.here) o_add) (o_ixX (e := D.int) (xs := [v_94.1, v_94.2.1, v_94.2.2.1, v_94.2.2.2]) q_97)) (o_mulL (by decide))) o_sub) y_nil)) b_max) (y_2 (y_2 (y_var h_89) (y_var c_84.here) (o_ixl q_99)) (y_cb (y_cons (y_2 (y_var h_88) y_c o_lt) y_nil) b_intB) (o_mulT q_101)) o_add) ht), (fun h => nomatch h)⟩)))) fun ev_104 c_105 => ?_
        have n_106 := c_105.len.trans n_62
        have h_107 := c_105.at h_63 rfl
        have h_108 := c_105.at h_64 rfl
        have h_109 := c_105.at h_65 rfl
        have h_110 := c_105.at h_66 rfl
        have h_111 := c_105.at h_67 rfl
        have ht := Option.some.inj ht
        subst ht
        exact ⟨n_106, c_105.here, (Fr.refl).one c_105 rfl⟩
      · have ht := if_f q_71 hc
        refine sn_nx ?_
        have ht := Option.some.inj ht
        subst ht
        exact ⟨n_62, c_61.here, Fr.refl⟩
    obtain ⟨n_114, h_115, f_116⟩ := r_113
    have h_117 := f_116.at h_63 rfl
    have h_118 := f_116.at h_64 rfl
    have h_119 := f_116.at h_65 rfl
    have h_120 := f_116.at h_66 rfl
    have h_121 := f_116.at h_67 rfl
    refine sp_nx ?_
    obtain ⟨_, q_122, ht⟩ := ob ht; have q_122 := gd_of q_122
    obtain ⟨v_123, q_124, ht⟩ := ob ht
    refine sn_app (xs := s_19) (a := s_70) (e := (eX D.int)) h_120 (y_cb (y_cons (y_var h_115) y_nil) b_tuple) q_122 fun ev_125 c_126 => ?_
    have q_124 := c_126.here.trans (congrArg (fun z => some (L.own (List.map (eX D.int) z))) (Option.some.inj q_124))
    have n_127 := c_126.len.trans n_114
    have h_128 := c_126.at h_117 rfl
    have h_129 := c_126.at h_118 rfl
    have h_130 := c_126.at h_119 rfl
    have h_131 := c_126.at h_121 rfl
    have ht := Option.some.inj ht
    subst ht
    exact ⟨n_127, q_124, ((((((Fr.refl).more f_26 rfl).one c_32 rfl).one c_44 rfl).one c_61 rfl).more f_116 rfl).one c_126 rfl⟩
  obtain ⟨n_134, h_135, f_136⟩ := r_133
  refine sp_frz h_135 fun ev_137 c_138 => ?_
  have n_139 := c_138.len.trans n_134
  refine sp_ret (y_var c_138.here) ?_
  exact Or.inl (congrArg (fun z => Fl.rt ((eL (eX D.int)) z)) (Option.some.inj ht))
/-! ### _law_cheapest -/
noncomputable def t__law_cheapest (walks : (List ((Int × Int) × (List (Int × Int))))) (limit : Int) : Option (Option ((Int × Int) × (List (Int × Int)))) :=
  (t__law_front walks).bind fun v_1 =>
  (gd (List.length v_1 ≤ 16777216)).bind fun _ =>
  (compT (fun (x_4 : (Int × Int)) => (if (decide (x_4.2 ≤ limit)) = true then (some (some x_4)) else some none)) v_1).bind fun v_15 =>
  (if (decide (v_15 = [])) = true then
    some none
  else
    (atI v_15 0).bind fun v_21 =>
    (gd (List.length walks ≤ 16777216)).bind fun _ =>
    (compT (fun (x_24 : ((Int × Int) × (List (Int × Int)))) => (atI v_15 0).bind fun v_40 => (if (decide (x_24.1 = v_40)) = true then (some (some x_24.2)) else some none)) walks).bind fun v_42 =>
    (minE (eL (e2 D.int D.int)) v_42).bind fun v_44 =>
    some (some (v_21, v_44))
  )
theorem y__law_cheapest {walks : (List ((Int × Int) × (List (Int × Int))))} {limit : Int} {r_0 : (Option ((Int × Int) × (List (Int × Int))))} (ht : t__law_cheapest walks limit = some r_0) : m__law_cheapest [(eL (e2 (e2 D.int D.int) (eL (e2 D.int D.int)))) walks, D.int limit] = some ((eO (e2 (e2 D.int D.int) (eL (e2 D.int D.int)))) r_0) := by
  unfold t__law_cheapest at ht
  refine y_fn (er := (eO (e2 (e2 D.int D.int) (eL (e2 D.int D.int))))) rfl ?_
  obtain ⟨ev_0, he⟩ : ∃ e, evStart [(eL (e2 (e2 D.int D.int) (eL (e2 D.int D.int)))) walks, D.int limit] 3 = e := ⟨_, rfl⟩
  rw [he]
  have n_0 : ev_0.length = 5 := by rw [← he]; rfl
  have h_0_0 : ev_0[0]? = some (.fro ((eL (e2 (e2 D.int D.int) (eL (e2 D.int D.int)))) walks)) := by rw [← he]; rfl
  have h_0_1 : ev_0[1]? = some (.fro (D.int limit)) := by rw [← he]; rfl
  clear he
  refine sp_seqn ?_
  obtain ⟨v_1, q_2, ht⟩ := ob ht
  obtain ⟨_, q_3, ht⟩ := ob ht; have q_3 := gd_of q_3
  obtain ⟨v_15, q_16, ht⟩ := ob ht
  refine sn_set (ltn n_0 rfl) (y_lF (d := (eL (e2 D.int D.int)) v_15) (y_lst (y_comp (e := (e2 D.int D.int)) (e' := (e2 D.int D.int)) (y_iL (y_cb (y_cons (x := (eL (e2 (e2 D.int D.int) (eL (e2 D.int D.int)))) walks) (y_var h_0_0) y_nil) (y__law_front q_2))) q_3 q_16 (fun x_4 r_5 w_6 n_7 f_8 ht => by have n_9 := n_7.trans n_0; have h_10 := f_8.at h_0_1 rfl; refine tg_name (ltn n_9 rfl) fun ev_11 c_12 => ?_; have n_13 := c_12.len.trans n_9; have h_14 := c_12.at h_10 rfl; exact ⟨_, (y_tof (y_2 (y_2 (y_var c_12.here) y_c (o_ixt (j := 1) (ds := [D.int x_4.1, D.int x_4.2]) (by rfl))) (y_var h_14) o_le)), (fun hc => by have ht := if_t ht hc; exact ce_t (e' := (e2 D.int D.int)) (y := x_4) (y_var c_12.here) ht), (fun hc => ce_f (if_f ht hc))⟩)))) fun ev_17 c_18 => ?_
  have n_19 := c_18.len.trans n_0
  have h_20 := c_18.at h_0_0 rfl
  refine sp_if_seq (y_tof (y_2 (y_var c_18.here) (y_lst (y_klist (ds := List.map (e2 D.int D.int) []) y_nil (Nat.le_of_ble_eq_true rfl))) (EE.oEq (EE.list (EE.e2 EE.int EE.int)) (Nat.le_of_ble_eq_true rfl) v_15 []))) (fun hc => ?_) (fun hc => ?_)
  · have ht := if_t ht hc
    refine sp_ret_seq y_c ?_
    exact Or.inl (congrArg (fun z => Fl.rt ((eO (e2 (e2 D.int D.int) (eL (e2 D.int D.int)))) z)) (Option.some.inj ht))
  · have ht := if_f ht hc
    refine sp_seqn ?_
    refine sn_nx ?_
    obtain ⟨v_21, q_22, ht⟩ := ob ht
    obtain ⟨_, q_23, ht⟩ := ob ht; have q_23 := gd_of q_23
    obtain ⟨v_42, q_43, ht⟩ := ob ht
    obtain ⟨v_44, q_45, ht⟩ := ob ht
    refine sp_ret (y_tup (y_cons (x := (e2 D.int D.int) v_21) (y_2 (y_var c_18.here) y_c (o_ixl q_22)) (y_cons (x := (eL (e2 D.int D.int)) v_44) (y_cb (y_cons (y_lst (y_comp (e := (e2 (e2 D.int D.int) (eL (e2 D.int D.int)))) (e' := (eL (e2 D.int D.int))) (y_iL (y_var h_20)) q_23 q_43 (fun x_24 r_25 w_26 n_27 f_28 ht => by have n_29 := n_27.trans n_19; have h_30 := f_28.at c_18.here rfl; refine tg_tup (ds := [(e2 D.int D.int) x_24.1, (eL (e2 D.int D.int)) x_24.2]) ?_; refine tgs_cons ?_; refine tg_name (ltn n_29 rfl) fun ev_31 c_32 => ?_; have n_33 := c_32.len.trans n_29; have h_34 := c_32.at h_30 rfl; refine tgs_cons ?_; refine tg_name (ltn n_33 rfl) fun ev_35 c_36 => ?_; have n_37 := c_36.len.trans n_33; have h_38 := c_36.at h_34 rfl; have h_39 := c_36.at c_32.here rfl; refine tgs_nil ?_; obtain ⟨v_40, q_41, ht⟩ := ob ht; exact ⟨_, (y_tof (y_2 (y_var h_39) (y_2 (y_var h_38) y_c (o_ixl q_41)) (EE.oEq (EE.e2 EE.int EE.int) (Nat.le_of_ble_eq_true rfl) x_24.1 v_40))), (fun hc => by have ht := if_t ht hc; exact ce_t (e' := (eL (e2 D.int D.int))) (y := x_24.2) (y_var c_36.here) ht), (fun hc => ce_f (if_f ht hc))⟩))) y_nil) (b_minE q_45)) y_nil)) (Nat.le_of_ble_eq_true rfl)) ?_
    exact Or.inl (congrArg (fun z => Fl.rt ((eO (e2 (e2 D.int D.int) (eL (e2 D.int D.int)))) z)) (Option.some.inj ht))
/-! ### check_links -/
noncomputable def check_links_b1z : EV → Option Fl := (sSeq (sIf (tOrZ (tOf (c2 oGe (cVar 2) (cC (.int 40)))) (tOrZ (tNotZ (tOf (cCh (cC (.int 0)) (chLink oLe (cVar 3) (chLast oLt (cVar 0)))))) (tOrZ (tNotZ (tOf (cCh (cC (.int 0)) (chLink oLe (cVar 4) (chLast oLt (cVar 0)))))) (tOf (c2 oEq (cVar 3) (cVar 4)))))) (sRet (cExZ "BadLink" (cVar 2))) sNx) (sIf (tOrZ (tNotZ (tOf (cCh (cC (.int 1)) (chLink oLe (cVar 5) (chLast oLe (cC (.int 1000))))))) (tNotZ (tOf (cCh (cC (.int 1)) (chLink oLe (cVar 6) (chLast oLe (cC (.int 1000)))))))) (sRet (cExZ "BadLink" (cVar 2))) sNx))
theorem hz_check_links_b1 : Hom check_links_b1 check_links_b1z := (hom_seq (hom_if hom_raise (hom_nr nr_nx)) (hom_if hom_raise (hom_nr nr_nx)))
noncomputable def check_links_s1z : EV → Option Fl := (sFor (iEn (aCons (cVar 1) aNil)) (mTup (mCons (mName 2) (mCons (mTup (mCons (mName 3) (mCons (mName 4) (mCons (mName 5) (mCons (mName 6) mNil))))) mNil))) check_links_b1z)
theorem hz_check_links_s1 : Hom check_links_s1 check_links_s1z := (hom_for hz_check_links_b1)
noncomputable def body_check_linksz : EV → Option Fl := check_links_s1z
theorem hz_body_check_links : Hom body_check_links body_check_linksz := hz_check_links_s1
noncomputable def mz_check_links : List D → Option D := runFn 2 5 (sSeq body_check_linksz (sRet (cOkZ (cC .non))))
theorem hf_check_links : HomF mx_check_links mz_check_links := homF_nx hz_body_check_links
noncomputable def t_check_links_b1z (routers : Int) (s_3 : Unit) (x_4 : (Int × (Int × Int × Int × Int))) : Option (Cf Unit (Rz Unit)) :=
  (if ((decide (40 ≤ x_4.1)) || ((!((decide (0 ≤ x_4.2.1)) && (decide (x_4.2.1 < routers)))) || ((!((decide (0 ≤ x_4.2.2.1)) && (decide (x_4.2.2.1 < routers)))) || (decide (x_4.2.1 = x_4.2.2.1))))) = true then
    some (Cf.rt (Rz.ex "BadLink" x_4.1))
  else
    (if ((!((decide (1 ≤ x_4.2.2.2.1)) && (decide (x_4.2.2.2.1 ≤ 1000)))) || (!((decide (1 ≤ x_4.2.2.2.2)) && (decide (x_4.2.2.2.2 ≤ 1000))))) = true then
      some (Cf.rt (Rz.ex "BadLink" x_4.1))
    else
      some (Cf.nx ())
    )
  )
noncomputable def t_check_links (routers : Int) (links : (List (Int × Int × Int × Int))) : Option (Rz Unit) :=
  (forR (t_check_links_b1z routers) (enumT links) ()).bind fun o_1 =>
  elimT o_1 (fun s_44 =>
    some (Rz.ok ())
  ) (fun v_45 => some v_45)
theorem y_check_links {routers : Int} {links : (List (Int × Int × Int × Int))} {r_0 : (Rz Unit)} (ht : t_check_links routers links = some r_0) : mz_check_links [D.int routers, (eL (e4 D.int D.int D.int D.int)) links] = some ((eRz eN) r_0) := by
  unfold t_check_links at ht
  refine y_fn (er := (eRz eN)) rfl ?_
  obtain ⟨ev_0, he⟩ : ∃ e, evStart [D.int routers, (eL (e4 D.int D.int D.int D.int)) links] 5 = e := ⟨_, rfl⟩
  rw [he]
  have n_0 : ev_0.length = 7 := by rw [← he]; rfl
  have h_0_0 : ev_0[0]? = some (.fro (D.int routers)) := by rw [← he]; rfl
  have h_0_1 : ev_0[1]? = some (.fro ((eL (e4 D.int D.int D.int D.int)) links)) := by rw [← he]; rfl
  clear he
  obtain ⟨o_1, q_2, ht⟩ := ob ht
  refine sp_seq ?_
  refine sp_for (e := (e2 D.int (e4 D.int D.int D.int D.int))) (s := ()) (fun (s_ : Unit) (e_ : EV) => e_.length = 7 ∧ Fr [2, 3, 4, 5, 6] ev_0 e_) (eRz eN) (y_en (y_cons (y_var h_0_1) y_nil)) q_2 ⟨n_0, Fr.refl⟩ ?_ (fun s_44 ev_41 h_43 r_42 => ?_) (fun v_45 h_43 => ?_)
  · intro s_3 x_4 s_5 ev_6 r_7 ht
    unfold t_check_links_b1z at ht
    obtain ⟨n_8, f_9⟩ := r_7
    have h_10 := f_9.at h_0_0 rfl
    refine tg_tup (ds := [D.int x_4.1, (e4 D.int D.int D.int D.int) x_4.2]) ?_
    refine tgs_cons ?_
    refine tg_name (ltn n_8 rfl) fun ev_11 c_12 => ?_
    have n_13 := c_12.len.trans n_8
    have h_14 := c_12.at h_10 rfl
    refine tgs_cons ?_
    refine tg_tup (ds := [D.int x_4.2.1, D.int x_4.2.2.1, D.int x_4.2.2.2.1, D.int x_4.2.2.2.2]) ?_
    refine tgs_cons ?_
    refine tg_name (ltn n_13 rfl) fun ev_15 c_16 => ?_
    have n_17 := c_16.len.trans n_13
    have h_18 := c_16.at h_14 rfl
    have h_19 := c_16.at c_12.here rfl
    refine tgs_cons ?_
    refine tg_name (ltn n_17 rfl) fun ev_20 c_21 => ?_
    have n_22 := c_21.len.trans n_17
    have h_23 := c_21.at h_18 rfl
    have h_24 := c_21.at h_19 rfl
    have h_25 := c_21.at c_16.here rfl
    refine tgs_cons ?_
    refine tg_name (ltn n_22 rfl) fun ev_26 c_27 => ?_
    have n_28 := c_27.len.trans n_22
    have h_29 := c_27.at h_23 rfl
    have h_30 := c_27.at h_24 rfl
    have h_31 := c_27.at h_25 rfl
    have h_32 := c_27.at c_21.here rfl
    refine tgs_cons ?_
    refine tg_name (ltn n_28 rfl) fun ev_33 c_34 => ?_
    have n_35 := c_34.len.trans n_28
    have h_36 := c_34.at h_29 rfl
    have h_37 := c_34.at h_30 rfl
    have h_38 := c_34.at h_31 rfl
    have h_39 := c_34.at h_32 rfl
    have h_40 := c_34.at c_27.here rfl
    refine tgs_nil ?_
    refine tgs_nil ?_
    refine sp_if_seq (y_tor (y_tof (y_2 (y_var h_37) y_c o_ge)) (y_tor (y_tnot (y_tof (y_ch y_c (y_link (y_var h_38) o_le (y_last (y_var h_36) o_lt))))) (y_tor (y_tnot (y_tof (y_ch y_c (y_link (y_var h_39) o_le (y_last (y_var h_36) o_lt))))) (y_tof (y_2 (y_var h_38) (y_var h_39) (EE.oEq EE.int (Nat.le_of_ble_eq_true rfl) x_4.2.1 x_4.2.2.1)))))) (fun hc => ?_) (fun hc => ?_)
    · have ht := if_t ht hc
      have ht := Option.some.inj ht
      subst ht
      refine sp_ret_seq (y_exz (e := eN) (y_var h_37)) ?_
      exact (rfl : (eRz eN) (Rz.ex "BadLink" x_4.1) = (eRz eN) (Rz.ex "BadLink" x_4.1))
    · have ht := if_f ht hc
      refine sp_seqn ?_
      refine sn_nx ?_
      refine sp_if (y_tor (y_tnot (y_tof (y_ch y_c (y_link (y_var h_40) o_le (y_last y_c o_le))))) (y_tnot (y_tof (y_ch y_c (y_link (y_var c_34.here) o_le (y_last y_c o_le)))))) (fun hc => ?_) (fun hc => ?_)
      · have ht := if_t ht hc
        have ht := Option.some.inj ht
        subst ht
        refine sp_ret (y_exz (e := eN) (y_var h_37)) ?_
        exact (rfl : (eRz eN) (Rz.ex "BadLink" x_4.1) = (eRz eN) (Rz.ex "BadLink" x_4.1))
      · have ht := if_f ht hc
        refine sp_nx ?_
        refine sn_nx ?_
        have ht := Option.some.inj ht
        subst ht
        exact ⟨n_35, ((((((Fr.refl).more f_9 rfl).one c_12 rfl).one c_16 rfl).one c_21 rfl).one c_27 rfl).one c_34 rfl⟩
  · subst h_43
    refine Or.inl ⟨_, rfl, ?_⟩
    obtain ⟨n_46, f_47⟩ := r_42
    have ht := sum_l ht
    refine sp_ret (y_okz (a := ()) (e := eN) y_c) ?_
    exact Or.inl (congrArg (fun z => Fl.rt ((eRz eN) z)) (Option.some.inj ht))
  · subst h_43
    have ht := sum_r ht
    refine Or.inr ⟨fun _ h => (nomatch h), ?_⟩
    exact Or.inl (congrArg (fun z => Fl.rt ((eRz eN) z)) (Option.some.inj ht))
theorem yc_check_links {routers : Int} {links : (List (Int × Int × Int × Int))} {r_0 : Unit} (ht : (t_check_links routers links).bind okR = some r_0) : m_check_links [D.int routers, (eL (e4 D.int D.int D.int D.int)) links] = some (eN r_0) := y_calm hf_check_links (fun _ h => y_check_links h) ht
theorem yx_check_links {routers : Int} {links : (List (Int × Int × Int × Int))} {r_0 : Rz Unit} (ht : t_check_links routers links = some r_0) : mx_check_links [D.int routers, (eL (e4 D.int D.int D.int D.int)) links] = some (rxT eN r_0) := y_xz hf_check_links (y_check_links ht)
/-! ### check_router -/
noncomputable def check_router_s1z : EV → Option Fl := (sIf (tNotZ (tOf (cCh (cC (.int 0)) (chLink oLe (cVar 1) (chLast oLt (cVar 0)))))) (sRet (cExZ "BadRouter" (cVar 1))) sNx)
theorem hz_check_router_s1 : Hom check_router_s1 check_router_s1z := (hom_if hom_raise (hom_nr nr_nx))
noncomputable def body_check_routerz : EV → Option Fl := check_router_s1z
theorem hz_body_check_router : Hom body_check_router body_check_routerz := hz_check_router_s1
noncomputable def mz_check_router : List D → Option D := runFn 2 0 (sSeq body_check_routerz (sRet (cOkZ (cC .non))))
theorem hf_check_router : HomF mx_check_router mz_check_router := homF_nx hz_body_check_router
noncomputable def t_check_router (routers : Int) (router : Int) : Option (Rz Unit) :=
  (if (!((decide (0 ≤ router)) && (decide (router < routers)))) = true then
    some (Rz.ex "BadRouter" router)
  else
    some (Rz.ok ())
  )
theorem y_check_router {routers : Int} {router : Int} {r_0 : (Rz Unit)} (ht : t_check_router routers router = some r_0) : mz_check_router [D.int routers, D.int router] = some ((eRz eN) r_0) := by
  unfold t_check_router at ht
  refine y_fn (er := (eRz eN)) rfl ?_
  obtain ⟨ev_0, he⟩ : ∃ e, evStart [D.int routers, D.int router] 0 = e := ⟨_, rfl⟩
  rw [he]
  have n_0 : ev_0.length = 2 := by rw [← he]; rfl
  have h_0_0 : ev_0[0]? = some (.fro (D.int routers)) := by rw [← he]; rfl
  have h_0_1 : ev_0[1]? = some (.fro (D.int router)) := by rw [← he]; rfl
  clear he
  refine sp_if_seq (y_tnot (y_tof (y_ch y_c (y_link (y_var h_0_1) o_le (y_last (y_var h_0_0) o_lt))))) (fun hc => ?_) (fun hc => ?_)
  · have ht := if_t ht hc
    refine sp_ret_seq (y_exz (e := eN) (y_var h_0_1)) ?_
    exact Or.inl (congrArg (fun z => Fl.rt ((eRz eN) z)) (Option.some.inj ht))
  · have ht := if_f ht hc
    refine sp_seqn ?_
    refine sn_nx ?_
    refine sp_ret (y_okz (a := ()) (e := eN) y_c) ?_
    exact Or.inl (congrArg (fun z => Fl.rt ((eRz eN) z)) (Option.some.inj ht))
theorem yc_check_router {routers : Int} {router : Int} {r_0 : Unit} (ht : (t_check_router routers router).bind okR = some r_0) : m_check_router [D.int routers, D.int router] = some (eN r_0) := y_calm hf_check_router (fun _ h => y_check_router h) ht
theorem yx_check_router {routers : Int} {router : Int} {r_0 : Rz Unit} (ht : t_check_router routers router = some r_0) : mx_check_router [D.int routers, D.int router] = some (rxT eN r_0) := y_xz hf_check_router (y_check_router ht)
/-! ### find_fronts -/
noncomputable def find_fronts_s1z : EV → Option Fl := (sSetL 4 (lF (cLst (kComp (iR1 (aCons (cVar 0) aNil)) (mName 7) (fun _ => some true) find_fronts_e1 [7]))))
theorem hz_find_fronts_s1 : Hom find_fronts_s1 find_fronts_s1z := (hom_nr nr_set)
noncomputable def find_fronts_b1z : EV → Option Fl := (sSeq (sSetL 6 (lF (cLst (kComp (iR1 (aCons (cVar 0) aNil)) (mName 7) (fun _ => some true) find_fronts_e2 [7])))) (sSetL 4 (lF (cLst (kComp (iR1 (aCons (cVar 0) aNil)) (mName 7) (fun _ => some true) find_fronts_e3 [7])))))
theorem hz_find_fronts_b1 : Hom find_fronts_b1 find_fronts_b1z := (hom_seq (hom_nr nr_set) (hom_nr nr_set))
noncomputable def find_fronts_s2z : EV → Option Fl := (sFor (iR1 (aCons (cVar 0) aNil)) (mName 5) find_fronts_b1z)
theorem hz_find_fronts_s2 : Hom find_fronts_s2 find_fronts_s2z := (hom_for hz_find_fronts_b1)
noncomputable def find_fronts_b2z : EV → Option Fl := (sIf (tOf (c2 oGt (cCB bLen (aCons (c2 oIx (cVar 4) (cVar 7)) aNil)) (cC (.int 300)))) (sRet (cExZ "TooMany" (cCB bLen (aCons (c2 oIx (cVar 4) (cVar 7)) aNil)))) sNx)
theorem hz_find_fronts_b2 : Hom find_fronts_b2 find_fronts_b2z := (hom_if hom_raise (hom_nr nr_nx))
noncomputable def find_fronts_s3z : EV → Option Fl := (sFor (iR1 (aCons (cVar 0) aNil)) (mName 7) find_fronts_b2z)
theorem hz_find_fronts_s3 : Hom find_fronts_s3 find_fronts_s3z := (hom_for hz_find_fronts_b2)
noncomputable def find_fronts_s4z : EV → Option Fl := (sRet (cOkZ (cVar 4)))
theorem hz_find_fronts_s4 : Hom find_fronts_s4 find_fronts_s4z := hom_ret
noncomputable def body_find_frontsz : EV → Option Fl := (sSeq find_fronts_s1z (sSeq find_fronts_s2z (sSeq find_fronts_s3z find_fronts_s4z)))
theorem hz_body_find_fronts : Hom body_find_fronts body_find_frontsz := (hom_seq hz_find_fronts_s1 (hom_seq hz_find_fronts_s2 (hom_seq hz_find_fronts_s3 hz_find_fronts_s4)))
noncomputable def mz_find_fronts : List D → Option D := runFn 4 4 body_find_frontsz
theorem hf_find_fronts : HomF mx_find_fronts mz_find_fronts := homF_of hz_body_find_fronts
noncomputable def t_find_fronts_b1z (routers : Int) (links : (List (Int × Int × Int × Int))) (minutes : (List (List Int))) (goal : Int) (s_26 : (List (List (Int × Int)))) (x_27 : Int) : Option (List (List (Int × Int))) :=
  (gd (r62 routers)).bind fun _ =>
  (gd (List.length (rangeT 0 routers) ≤ 16777216)).bind fun _ =>
  (compT (fun (x_48 : Int) => (t_next_front links minutes x_48 s_26).bind fun v_63 => some (some v_63)) (rangeT 0 routers)).bind fun v_65 =>
  (gd (r62 routers)).bind fun _ =>
  (gd (List.length (rangeT 0 routers) ≤ 16777216)).bind fun _ =>
  (compT (fun (x_77 : Int) => (if (decide (x_77 = goal)) = true then ((atI s_26 goal).bind fun v_92 => some v_92) else ((atI v_65 x_77).bind fun v_94 => some v_94)).bind fun v_96 => some (some v_96)) (rangeT 0 routers)).bind fun v_98 =>
  some v_98
noncomputable def t_find_fronts_b2z (told : (List (List (Int × Int)))) (s_116 : Unit) (x_117 : Int) : Option (Cf Unit (Rz (List (List (Int × Int))))) :=
  (atI told x_117).bind fun v_128 =>
  (if (decide (300 < (List.length v_128 : Int))) = true then
    (atI told x_117).bind fun v_130 =>
    some (Cf.rt (Rz.ex "TooMany" (List.length v_130 : Int)))
  else
    some (Cf.nx ())
  )
noncomputable def t_find_fronts (routers : Int) (links : (List (Int × Int × Int × Int))) (minutes : (List (List Int))) (goal : Int) : Option (Rz (List (List (Int × Int)))) :=
  (gd (r62 routers)).bind fun _ =>
  (gd (List.length (rangeT 0 routers) ≤ 16777216)).bind fun _ =>
  (compT (fun (x_3 : Int) => some (some (if (decide (x_3 = goal)) = true then [(0, 0)] else []))) (rangeT 0 routers)).bind fun v_14 =>
  (gd (r62 routers)).bind fun _ =>
  (forT (t_find_fronts_b1z routers links minutes goal) (rangeT 0 routers) v_14).bind fun s_24 =>
  (gd (r62 routers)).bind fun _ =>
  (forR (t_find_fronts_b2z s_24) (rangeT 0 routers) ()).bind fun o_114 =>
  elimT o_114 (fun s_135 =>
    some (Rz.ok s_24)
  ) (fun v_136 => some v_136)
theorem y_find_fronts {routers : Int} {links : (List (Int × Int × Int × Int))} {minutes : (List (List Int))} {goal : Int} {r_0 : (Rz (List (List (Int × Int))))} (ht : t_find_fronts routers links minutes goal = some r_0) : mz_find_fronts [D.int routers, (eL (e4 D.int D.int D.int D.int)) links, (eL (eX D.int)) minutes, D.int goal] = some ((eRz (eL (eL (e2 D.int D.int)))) r_0) := by
  unfold t_find_fronts at ht
  refine y_fn (er := (eRz (eL (eL (e2 D.int D.int))))) rfl ?_
  obtain ⟨ev_0, he⟩ : ∃ e, evStart [D.int routers, (eL (e4 D.int D.int D.int D.int)) links, (eL (eX D.int)) minutes, D.int goal] 4 = e := ⟨_, rfl⟩
  rw [he]
  have n_0 : ev_0.length = 8 := by rw [← he]; rfl
  have h_0_0 : ev_0[0]? = some (.fro (D.int routers)) := by rw [← he]; rfl
  have h_0_1 : ev_0[1]? = some (.fro ((eL (e4 D.int D.int D.int D.int)) links)) := by rw [← he]; rfl
  have h_0_2 : ev_0[2]? = some (.fro ((eL (eX D.int)) minutes)) := by rw [← he]; rfl
  have h_0_3 : ev_0[3]? = some (.fro (D.int goal)) := by rw [← he]; rfl
  clear he
  refine sp_seqn ?_
  obtain ⟨_, q_1, ht⟩ := ob ht; have q_1 := gd_of q_1
  obtain ⟨_, q_2, ht⟩ := ob ht; have q_2 := gd_of q_2
  obtain ⟨v_14, q_15, ht⟩ := ob ht
  refine sn_set (ltn n_0 rfl) (y_lF (d := (eL (eL (e2 D.int D.int))) v_14) (y_lst (y_comp (e := D.int) (e' := (eL (e2 D.int D.int))) (y_r1 (y_cons (x := D.int routers) (y_var h_0_0) y_nil) q_1) q_2 q_15 (fun x_3 r_4 w_5 n_6 f_7 ht => by have n_8 := n_6.trans n_0; have h_9 := f_7.at h_0_3 rfl; refine tg_name (ltn n_8 rfl) fun ev_10 c_11 => ?_; have n_12 := c_11.len.trans n_8; have h_13 := c_11.at h_9 rfl; exact ⟨true, rfl, (fun _ => ce_t (e' := (eL (e2 D.int D.int))) (y := (if (decide (x_3 = goal)) = true then [(0, 0)] else [])) (y_if (y_tof (y_2 (y_var c_11.here) (y_var h_13) (EE.oEq EE.int (Nat.le_of_ble_eq_true rfl) x_3 goal))) (fun hc => Eq.trans (b := some ((eL (e2 D.int D.int)) [(0, 0)])) (y_lst (y_klist (ds := List.map (e2 D.int D.int) [(0, 0)]) (y_cons (x := (e2 D.int D.int) (0, 0)) (y_tup (y_cons (x := D.int 0) y_c (y_cons (x := D.int 0) y_c y_nil)) (Nat.le_of_ble_eq_true rfl)) y_nil) (Nat.le_of_ble_eq_true rfl))) (cg (ite_tr hc))) (fun hc => Eq.trans (b := some ((eL (e2 D.int D.int)) [])) (y_lst (y_klist (ds := List.map (e2 D.int D.int) []) y_nil (Nat.le_of_ble_eq_true rfl))) (cg (ite_fl hc)))) ht), (fun h => nomatch h)⟩)))) fun ev_16 c_17 => ?_
  have n_18 := c_17.len.trans n_0
  have h_19 := c_17.at h_0_0 rfl
  have h_20 := c_17.at h_0_1 rfl
  have h_21 := c_17.at h_0_2 rfl
  have h_22 := c_17.at h_0_3 rfl
  refine sp_seqn ?_
  obtain ⟨_, q_23, ht⟩ := ob ht; have q_23 := gd_of q_23
  obtain ⟨s_24, q_25, ht⟩ := ob ht
  refine sn_for (e := D.int) (s := v_14) (fun (s_ : (List (List (Int × Int)))) (e_ : EV) => e_.length = 8 ∧ e_[4]? = some (.fro ((eL (eL (e2 D.int D.int))) s_)) ∧ Fr [4, 5, 6] ev_16 e_) (y_r1 (y_cons (x := D.int routers) (y_var h_19) y_nil) q_23) q_25 ⟨n_18, c_17.here, Fr.refl⟩ ?_ (fun ev_107 r_108 => ?_)
  · intro s_26 x_27 s_28 ev_29 r_30 ht
    unfold t_find_fronts_b1z at ht
    obtain ⟨n_31, h_32, f_33⟩ := r_30
    have h_34 := f_33.at h_19 rfl
    have h_35 := f_33.at h_20 rfl
    have h_36 := f_33.at h_21 rfl
    have h_37 := f_33.at h_22 rfl
    refine tg_name (ltn n_31 rfl) fun ev_38 c_39 => ?_
    have n_40 := c_39.len.trans n_31
    have h_41 := c_39.at h_34 rfl
    have h_42 := c_39.at h_35 rfl
    have h_43 := c_39.at h_36 rfl
    have h_44 := c_39.at h_37 rfl
    have h_45 := c_39.at h_32 rfl
    refine sp_seqn ?_
    obtain ⟨_, q_46, ht⟩ := ob ht; have q_46 := gd_of q_46
    obtain ⟨_, q_47, ht⟩ := ob ht; have q_47 := gd_of q_47
    obtain ⟨v_65, q_66, ht⟩ := ob ht
    refine sn_set (ltn n_40 rfl) (y_lF (d := (eL (eL (e2 D.int D.int))) v_65) (y_lst (y_comp (e := D.int) (e' := (eL (e2 D.int D.int))) (y_r1 (y_cons (x := D.int routers) (y_var h_41) y_nil) q_46) q_47 q_66 (fun x_48 r_49 w_50 n_51 f_52 ht => by have n_53 := n_51.trans n_40; have h_54 := f_52.at h_42 rfl; have h_55 := f_52.at h_43 rfl; have h_56 := f_52.at h_45 rfl; refine tg_name (ltn n_53 rfl) fun ev_57 c_58 => ?_; have n_59 := c_58.len.trans n_53; have h_60 := c_58.at h_54 rfl; have h_61 := c_58.at h_55 rfl; have h_62 := c_58.at h_56 rfl; obtain ⟨v_63, q_64, ht⟩ := ob ht; exact ⟨true, rfl, (fun _ => ce_t (e' := (eL (e2 D.int D.int))) (y := v_63) (y_cb (y_cons (x := (eL (e4 D.int D.int D.int D.int)) links) (y_var h_60) (y_cons (x := (eL (eX D.int)) minutes) (y_var h_61) (y_cons (x := D.int x_48) (y_var c_58.here) (y_cons (x := (eL (eL (e2 D.int D.int))) s_26) (y_var h_62) y_nil)))) (y_next_front q_64)) ht), (fun h => nomatch h)⟩)))) fun ev_67 c_68 => ?_
    have n_69 := c_68.len.trans n_40
    have h_70 := c_68.at h_41 rfl
    have h_71 := c_68.at h_42 rfl
    have h_72 := c_68.at h_43 rfl
    have h_73 := c_68.at h_44 rfl
    have h_74 := c_68.at h_45 rfl
    refine sp_nx ?_
    obtain ⟨_, q_75, ht⟩ := ob ht; have q_75 := gd_of q_75
    obtain ⟨_, q_76, ht⟩ := ob ht; have q_76 := gd_of q_76
    obtain ⟨v_98, q_99, ht⟩ := ob ht
    refine sn_set (ltn n_69 rfl) (y_lF (d := (eL (eL (e2 D.int D.int))) v_98) (y_lst (y_comp (e := D.int) (e' := (eL (e2 D.int D.int))) (y_r1 (y_cons (x := D.int routers) (y_var h_70) y_nil) q_75) q_76 q_99 (fun x_77 r_78 w_79 n_80 f_81 ht => by have n_82 := n_80.trans n_69; have h_83 := f_81.at h_73 rfl; have h_84 := f_81.at h_74 rfl; have h_85 := f_81.at c_68.here rfl; refine tg_name (ltn n_82 rfl) fun ev_86 c_87 => ?_; have n_88 := c_87.len.trans n_82; have h_89 := c_87.at h_83 rfl; have h_90 := c_87.at h_84 rfl; have h_91 := c_87.at h_85 rfl; obtain ⟨v_96, q_97, ht⟩ := ob ht; exact ⟨true, rfl, (fun _ => ce_t (e' := (eL (e2 D.int D.int))) (y := v_96) (y_if (y_tof (y_2 (y_var c_87.here) (y_var h_89) (EE.oEq EE.int (Nat.le_of_ble_eq_true rfl) x_77 goal))) (fun hc => by have ht := if_t q_97 hc; obtain ⟨v_92, q_93, ht⟩ := ob ht; exact Eq.trans (b := some ((eL (e2 D.int D.int)) v_92)) (y_2 (y_var h_90) (y_var h_89) (o_ixl q_93)) (cg (Option.some.inj ht))) (fun hc => by have ht := if_f q_97 hc; obtain ⟨v_94, q_95, ht⟩ := ob ht; exact Eq.trans (b := some ((eL (e2 D.int D.int)) v_94)) (y_2 (y_var h_91) (y_var c_87.here) (o_ixl q_95)) (cg (Option.some.inj ht)))) ht), (fun h => nomatch h)⟩)))) fun ev_100 c_101 => ?_
    have n_102 := c_101.len.trans n_69
    have h_103 := c_101.at h_70 rfl
    have h_104 := c_101.at h_71 rfl
    have h_105 := c_101.at h_72 rfl
    have h_106 := c_101.at h_73 rfl
    have ht := Option.some.inj ht
    subst ht
    exact ⟨n_102, c_101.here, ((((Fr.refl).more f_33 rfl).one c_39 rfl).one c_68 rfl).one c_101 rfl⟩
  obtain ⟨n_109, h_110, f_111⟩ := r_108
  have h_112 := f_111.at h_19 rfl
  obtain ⟨_, q_113, ht⟩ := ob ht; have q_113 := gd_of q_113
  obtain ⟨o_114, q_115, ht⟩ := ob ht
  refine sp_seq ?_
  refine sp_for (e := D.int) (s := ()) (fun (s_ : Unit) (e_ : EV) => e_.length = 8 ∧ Fr [7] ev_107 e_) (eRz (eL (eL (e2 D.int D.int)))) (y_r1 (y_cons (x := D.int routers) (y_var h_112) y_nil) q_113) q_115 ⟨n_109, Fr.refl⟩ ?_ (fun s_135 ev_132 h_134 r_133 => ?_) (fun v_136 h_134 => ?_)
  · intro s_116 x_117 s_118 ev_119 r_120 ht
    unfold t_find_fronts_b2z at ht
    obtain ⟨n_121, f_122⟩ := r_120
    have h_123 := f_122.at h_110 rfl
    refine tg_name (ltn n_121 rfl) fun ev_124 c_125 => ?_
    have n_126 := c_125.len.trans n_121
    have h_127 := c_125.at h_123 rfl
    obtain ⟨v_128, q_129, ht⟩ := ob ht
    refine sp_if (y_tof (y_2 (y_cb (y_cons (y_2 (y_var h_127) (y_var c_125.here) (o_ixl q_129)) y_nil) b_len) y_c o_gt)) (fun hc => ?_) (fun hc => ?_)
    · have ht := if_t ht hc
      obtain ⟨v_130, q_131, ht⟩ := ob ht
      have ht := Option.some.inj ht
      subst ht
      refine sp_ret (y_exz (e := (eL (eL (e2 D.int D.int)))) (y_cb (y_cons (y_2 (y_var h_127) (y_var c_125.here) (o_ixl q_131)) y_nil) b_len)) ?_
      exact (rfl : (eRz (eL (eL (e2 D.int D.int)))) (Rz.ex "TooMany" (List.length v_130 : Int)) = (eRz (eL (eL (e2 D.int D.int)))) (Rz.ex "TooMany" (List.length v_130 : Int)))
    · have ht := if_f ht hc
      refine sp_nx ?_
      refine sn_nx ?_
      have ht := Option.some.inj ht
      subst ht
      exact ⟨n_126, ((Fr.refl).more f_122 rfl).one c_125 rfl⟩
  · subst h_134
    refine Or.inl ⟨_, rfl, ?_⟩
    obtain ⟨n_137, f_138⟩ := r_133
    have h_139 := f_138.at h_110 rfl
    have ht := sum_l ht
    refine sp_ret (y_okz (a := s_24) (e := (eL (eL (e2 D.int D.int)))) (y_var h_139)) ?_
    exact Or.inl (congrArg (fun z => Fl.rt ((eRz (eL (eL (e2 D.int D.int)))) z)) (Option.some.inj ht))
  · subst h_134
    have ht := sum_r ht
    refine Or.inr ⟨fun _ h => (nomatch h), ?_⟩
    exact Or.inl (congrArg (fun z => Fl.rt ((eRz (eL (eL (e2 D.int D.int)))) z)) (Option.some.inj ht))
theorem yc_find_fronts {routers : Int} {links : (List (Int × Int × Int × Int))} {minutes : (List (List Int))} {goal : Int} {r_0 : (List (List (Int × Int)))} (ht : (t_find_fronts routers links minutes goal).bind okR = some r_0) : m_find_fronts [D.int routers, (eL (e4 D.int D.int D.int D.int)) links, (eL (eX D.int)) minutes, D.int goal] = some ((eL (eL (e2 D.int D.int))) r_0) := y_calm hf_find_fronts (fun _ h => y_find_fronts h) ht
theorem yx_find_fronts {routers : Int} {links : (List (Int × Int × Int × Int))} {minutes : (List (List Int))} {goal : Int} {r_0 : Rz (List (List (Int × Int)))} (ht : t_find_fronts routers links minutes goal = some r_0) : mx_find_fronts [D.int routers, (eL (e4 D.int D.int D.int D.int)) links, (eL (eX D.int)) minutes, D.int goal] = some (rxT (eL (eL (e2 D.int D.int))) r_0) := y_xz hf_find_fronts (y_find_fronts ht)
/-! ### _law_doubled -/
noncomputable def t__law_doubled_b1 (draws : (List Int)) (k : Int) (s_21 : (List (Int × Int × Int × Int))) (x_22 : Int) : Option (List (Int × Int × Int × Int)) :=
  (t__law_mix draws ((k + 81) + (3 * x_22)) (List.length s_21 : Int)).bind fun v_37 =>
  (atI s_21 v_37).bind fun v_39 =>
  (t__law_mix draws ((k + 82) + (3 * x_22)) 9).bind fun v_75 =>
  (gd (List.length s_21 + List.length [(v_39.1, v_39.2.1, (1 + ((v_39.2.2.1 + (1 + v_75)) % 10)), (1 + ((v_39.2.2.2 + (1 + v_75)) % 10)))] ≤ 16777216)).bind fun _ =>
  (some (s_21 ++ [(v_39.1, v_39.2.1, (1 + ((v_39.2.2.1 + (1 + v_75)) % 10)), (1 + ((v_39.2.2.2 + (1 + v_75)) % 10)))])).bind fun v_88 =>
  some v_88
noncomputable def t__law_doubled (draws : (List Int)) (k : Int) : Option (Int × (List (Int × Int × Int × Int))) :=
  (t__law_net draws k).bind fun v_1 =>
  (t__law_mix draws (k + 80) 7).bind fun v_14 =>
  (mulT v_14 (if ((!(decide (v_1.2 = []))) && (decide ((List.length v_1.2 : Int) < 12))) = true then 1 else 0 : Int)).bind fun v_16 =>
  (gd (r62 v_16)).bind fun _ =>
  (forT (t__law_doubled_b1 draws k) (rangeT 0 v_16) v_1.2).bind fun s_19 =>
  some (v_1.1, s_19)
theorem y__law_doubled {draws : (List Int)} {k : Int} {r_0 : (Int × (List (Int × Int × Int × Int)))} (ht : t__law_doubled draws k = some r_0) : m__law_doubled [(eL D.int) draws, D.int k] = some ((e2 D.int (eL (e4 D.int D.int D.int D.int))) r_0) := by
  unfold t__law_doubled at ht
  refine y_fn (er := (e2 D.int (eL (e4 D.int D.int D.int D.int)))) rfl ?_
  obtain ⟨ev_0, he⟩ : ∃ e, evStart [(eL D.int) draws, D.int k] 8 = e := ⟨_, rfl⟩
  rw [he]
  have n_0 : ev_0.length = 10 := by rw [← he]; rfl
  have h_0_0 : ev_0[0]? = some (.fro ((eL D.int) draws)) := by rw [← he]; rfl
  have h_0_1 : ev_0[1]? = some (.fro (D.int k)) := by rw [← he]; rfl
  clear he
  refine sp_seqn ?_
  obtain ⟨v_1, q_2, ht⟩ := ob ht
  refine sn_asg (d := (e2 D.int (eL (e4 D.int D.int D.int D.int))) v_1) (y_cb (y_cons (x := (eL D.int) draws) (y_var h_0_0) (y_cons (x := D.int k) (y_var h_0_1) y_nil)) (y__law_net q_2)) ?_
  refine tg_tup (ds := [D.int v_1.1, (eL (e4 D.int D.int D.int D.int)) v_1.2]) ?_
  refine tgs_cons ?_
  refine tg_name (ltn n_0 rfl) fun ev_3 c_4 => ?_
  have n_5 := c_4.len.trans n_0
  have h_6 := c_4.at h_0_0 rfl
  have h_7 := c_4.at h_0_1 rfl
  refine tgs_cons ?_
  refine tg_name (ltn n_5 rfl) fun ev_8 c_9 => ?_
  have n_10 := c_9.len.trans n_5
  have h_11 := c_9.at h_6 rfl
  have h_12 := c_9.at h_7 rfl
  have h_13 := c_9.at c_4.here rfl
  refine tgs_nil ?_
  refine sp_seqn ?_
  obtain ⟨v_14, q_15, ht⟩ := ob ht
  obtain ⟨v_16, q_17, ht⟩ := ob ht
  obtain ⟨_, q_18, ht⟩ := ob ht; have q_18 := gd_of q_18
  obtain ⟨s_19, q_20, ht⟩ := ob ht
  refine sn_for (e := D.int) (s := v_1.2) (fun (s_ : (List (Int × Int × Int × Int))) (e_ : EV) => e_.length = 10 ∧ e_[3]? = some (.fro ((eL (e4 D.int D.int D.int D.int)) s_)) ∧ Fr [3, 4, 5, 6, 7, 8, 9] ev_8 e_) (y_r1 (y_cons (x := D.int v_16) (y_2 (y_cb (y_cons (x := (eL D.int) draws) (y_var h_11) (y_cons (x := D.int (k + 80)) (y_2 (y_var h_12) y_c o_add) (y_cons (x := D.int 7) y_c y_nil))) (y__law_mix q_15)) (y_cb (y_cons (y_andB (y_2 (y_var c_9.here) (y_lst (y_klist (ds := List.map (e4 D.int D.int D.int D.int) []) y_nil (Nat.le_of_ble_eq_true rfl))) (EE.oNe (EE.list (EE.e4 EE.int EE.int EE.int EE.int)) (Nat.le_of_ble_eq_true rfl) v_1.2 [])) (y_2 (y_cb (y_cons (y_var c_9.here) y_nil) b_len) y_c o_lt)) y_nil) b_intB) (o_mulT q_17)) y_nil) q_18) q_20 ⟨n_10, c_9.here, Fr.refl⟩ ?_ (fun ev_95 r_96 => ?_)
  · intro s_21 x_22 s_23 ev_24 r_25 ht
    unfold t__law_doubled_b1 at ht
    obtain ⟨n_26, h_27, f_28⟩ := r_25
    have h_29 := f_28.at h_11 rfl
    have h_30 := f_28.at h_12 rfl
    refine tg_name (ltn n_26 rfl) fun ev_31 c_32 => ?_
    have n_33 := c_32.len.trans n_26
    have h_34 := c_32.at h_29 rfl
    have h_35 := c_32.at h_30 rfl
    have h_36 := c_32.at h_27 rfl
    refine sp_seqn ?_
    obtain ⟨v_37, q_38, ht⟩ := ob ht
    obtain ⟨v_39, q_40, ht⟩ := ob ht
    refine sn_asg (d := (e4 D.int D.int D.int D.int) v_39) (y_2 (y_var h_36) (y_cb (y_cons (x := (eL D.int) draws) (y_var h_34) (y_cons (x := D.int ((k + 81) + (3 * x_22))) (y_2 (y_2 (y_var h_35) y_c o_add) (y_2 y_c (y_var c_32.here) (o_mulL (by decide))) o_add) (y_cons (x := D.int (List.length s_21 : Int)) (y_cb (y_cons (y_var h_36) y_nil) b_len) y_nil))) (y__law_mix q_38)) (o_ixl q_40)) ?_
    refine tg_tup (ds := [D.int v_39.1, D.int v_39.2.1, D.int v_39.2.2.1, D.int v_39.2.2.2]) ?_
    refine tgs_cons ?_
    refine tg_name (ltn n_33 rfl) fun ev_41 c_42 => ?_
    have n_43 := c_42.len.trans n_33
    have h_44 := c_42.at h_34 rfl
    have h_45 := c_42.at h_35 rfl
    have h_46 := c_42.at h_36 rfl
    have h_47 := c_42.at c_32.here rfl
    refine tgs_cons ?_
    refine tg_name (ltn n_43 rfl) fun ev_48 c_49 => ?_
    have n_50 := c_49.len.trans n_43
    have h_51 := c_49.at h_44 rfl
    have h_52 := c_49.at h_45 rfl
    have h_53 := c_49.at h_46 rfl
    have h_54 := c_49.at h_47 rfl
    have h_55 := c_49.at c_42.here rfl
    refine tgs_cons ?_
    refine tg_name (ltn n_50 rfl) fun ev_56 c_57 => ?_
    have n_58 := c_57.len.trans n_50
    have h_59 := c_57.at h_51 rfl
    have h_60 := c_57.at h_52 rfl
    have h_61 := c_57.at h_53 rfl
    have h_62 := c_57.at h_54 rfl
    have h_63 := c_57.at h_55 rfl
    have h_64 := c_57.at c_49.here rfl
    refine tgs_cons ?_
    refine tg_name (ltn n_58 rfl) fun ev_65 c_66 => ?_
    have n_67 := c_66.len.trans n_58
    have h_68 := c_66.at h_59 rfl
    have h_69 := c_66.at h_60 rfl
    have h_70 := c_66.at h_61 rfl
    have h_71 := c_66.at h_62 rfl
    have h_72 := c_66.at h_63 rfl
    have h_73 := c_66.at h_64 rfl
    have h_74 := c_66.at c_57.here rfl
    refine tgs_nil ?_
    refine sp_seqn ?_
    obtain ⟨v_75, q_76, ht⟩ := ob ht
    refine sn_set (ltn n_67 rfl) (y_lF (d := D.int (1 + v_75)) (y_2 y_c (y_cb (y_cons (x := (eL D.int) draws) (y_var h_68) (y_cons (x := D.int ((k + 82) + (3 * x_22))) (y_2 (y_2 (y_var h_69) y_c o_add) (y_2 y_c (y_var h_71) (o_mulL (by decide))) o_add) (y_cons (x := D.int 9) y_c y_nil))) (y__law_mix q_76)) o_add)) fun ev_77 c_78 => ?_
    have n_79 := c_78.len.trans n_67
    have h_80 := c_78.at h_68 rfl
    have h_81 := c_78.at h_69 rfl
    have h_82 := c_78.at h_70 rfl
    have h_83 := c_78.at h_72 rfl
    have h_84 := c_78.at h_73 rfl
    have h_85 := c_78.at h_74 rfl
    have h_86 := c_78.at c_66.here rfl
    refine sp_nx ?_
    obtain ⟨_, q_87, ht⟩ := ob ht; have q_87 := gd_of q_87
    obtain ⟨v_88, q_89, ht⟩ := ob ht
    refine sn_set (ltn n_79 rfl) (y_lF (d := (eL (e4 D.int D.int D.int D.int)) v_88) (Eq.trans (b := some ((eL (e4 D.int D.int D.int D.int)) (s_21 ++ [(v_39.1, v_39.2.1, (1 + ((v_39.2.2.1 + (1 + v_75)) % 10)), (1 + ((v_39.2.2.2 + (1 + v_75)) % 10)))]))) (y_lst (y_cat (xs := s_21) (ys := [(v_39.1, v_39.2.1, (1 + ((v_39.2.2.1 + (1 + v_75)) % 10)), (1 + ((v_39.2.2.2 + (1 + v_75)) % 10)))]) (e := (e4 D.int D.int D.int D.int)) (y_var h_82) (y_lst (y_klist (ds := List.map (e4 D.int D.int D.int D.int) [(v_39.1, v_39.2.1, (1 + ((v_39.2.2.1 + (1 + v_75)) % 10)), (1 + ((v_39.2.2.2 + (1 + v_75)) % 10)))]) (y_cons (x := (e4 D.int D.int D.int D.int) (v_39.1, v_39.2.1, (1 + ((v_39.2.2.1 + (1 + v_75)) % 10)), (1 + ((v_39.2.2.2 + (1 + v_75)) % 10)))) (y_tup (y_cons (x := D.int v_39.1) (y_var h_83) (y_cons (x := D.int v_39.2.1) (y_var h_84) (y_cons (x := D.int (1 + ((v_39.2.2.1 + (1 + v_75)) % 10))) (y_2 y_c (y_2 (y_cb (y_cons (y_2 (y_var h_85) (y_var c_78.here) o_add) y_nil) b_int) y_c (o_mod (by decide))) o_add) (y_cons (x := D.int (1 + ((v_39.2.2.2 + (1 + v_75)) % 10))) (y_2 y_c (y_2 (y_cb (y_cons (y_2 (y_var h_86) (y_var c_78.here) o_add) y_nil) b_int) y_c (o_mod (by decide))) o_add) y_nil)))) (Nat.le_of_ble_eq_true rfl)) y_nil) (Nat.le_of_ble_eq_true rfl))) q_87)) (cg (Option.some.inj q_89)))) fun ev_90 c_91 => ?_
    have n_92 := c_91.len.trans n_79
    have h_93 := c_91.at h_80 rfl
    have h_94 := c_91.at h_81 rfl
    have ht := Option.some.inj ht
    subst ht
    exact ⟨n_92, c_91.here, ((((((((Fr.refl).more f_28 rfl).one c_32 rfl).one c_42 rfl).one c_49 rfl).one c_57 rfl).one c_66 rfl).one c_78 rfl).one c_91 rfl⟩
  obtain ⟨n_97, h_98, f_99⟩ := r_96
  have h_100 := f_99.at h_13 rfl
  refine sp_ret (y_tup (y_cons (x := D.int v_1.1) (y_var h_100) (y_cons (x := (eL (e4 D.int D.int D.int D.int)) s_19) (y_var h_98) y_nil)) (Nat.le_of_ble_eq_true rfl)) ?_
  exact Or.inl (congrArg (fun z => Fl.rt ((e2 D.int (eL (e4 D.int D.int D.int D.int))) z)) (Option.some.inj ht))
/-! ### check_net -/
noncomputable def check_net_s1z : EV → Option Fl := (sIf (tNotZ (tOf (cCh (cC (.int 1)) (chLink oLe (cVar 0) (chLast oLe (cC (.int 16))))))) (sRet (cExZ "BadRouter" (cVar 0))) sNx)
theorem hz_check_net_s1 : Hom check_net_s1 check_net_s1z := (hom_if hom_raise (hom_nr nr_nx))
noncomputable def check_net_s2z : EV → Option Fl := (sDropZ (cCB mz_check_links (aCons (cVar 0) (aCons (cVar 1) aNil))))
theorem hz_check_net_s2 : Hom check_net_s2 check_net_s2z := (hom_drop hf_check_links)
noncomputable def check_net_b1z : EV → Option Fl := (sIf (tNotZ (tTru (cCB m_is_span (aCons (cVar 4) aNil)))) (sRet (cExZ "BadRange" (cVar 3))) sNx)
theorem hz_check_net_b1 : Hom check_net_b1 check_net_b1z := (hom_if hom_raise (hom_nr nr_nx))
noncomputable def check_net_s3z : EV → Option Fl := (sFor (iEn (aCons (cLst (kSl (cVar 2) pNo (pAt (cCB bLen (aCons (cVar 1) aNil))))) aNil)) (mTup (mCons (mName 3) (mCons (mName 4) mNil))) check_net_b1z)
theorem hz_check_net_s3 : Hom check_net_s3 check_net_s3z := (hom_for hz_check_net_b1)
noncomputable def check_net_s4z : EV → Option Fl := (sIf (tOf (c2 oNe (cCB bLen (aCons (cVar 2) aNil)) (cCB bLen (aCons (cVar 1) aNil)))) (sRet (cExZ "BadRange" (cCB bLen (aCons (cVar 2) aNil)))) sNx)
theorem hz_check_net_s4 : Hom check_net_s4 check_net_s4z := (hom_if hom_raise (hom_nr nr_nx))
noncomputable def body_check_netz : EV → Option Fl := (sSeq check_net_s1z (sSeq check_net_s2z (sSeq check_net_s3z check_net_s4z)))
theorem hz_body_check_net : Hom body_check_net body_check_netz := (hom_seq hz_check_net_s1 (hom_seq hz_check_net_s2 (hom_seq hz_check_net_s3 hz_check_net_s4)))
noncomputable def mz_check_net : List D → Option D := runFn 3 2 (sSeq body_check_netz (sRet (cOkZ (cC .non))))
theorem hf_check_net : HomF mx_check_net mz_check_net := homF_nx hz_body_check_net
noncomputable def t_check_net_b1z (s_8 : Unit) (x_9 : (Int × (List Int))) : Option (Cf Unit (Rz Unit)) :=
  (t_is_span x_9.2).bind fun v_22 =>
  (if (!v_22) = true then
    some (Cf.rt (Rz.ex "BadRange" x_9.1))
  else
    some (Cf.nx ())
  )
noncomputable def t_check_net (routers : Int) (links : (List (Int × Int × Int × Int))) (minutes : (List (List Int))) : Option (Rz Unit) :=
  (if (!((decide (1 ≤ routers)) && (decide (routers ≤ 16)))) = true then
    some (Rz.ex "BadRouter" routers)
  else
    (t_check_links routers links).bind fun v_1 =>
    elimR v_1 (fun a_3 =>
      (forR (t_check_net_b1z) (enumT (Z.cutD minutes none (some (List.length links : Int)))) ()).bind fun o_6 =>
      elimT o_6 (fun s_27 =>
        (if (!(decide ((List.length minutes : Int) = (List.length links : Int)))) = true then
          some (Rz.ex "BadRange" (List.length minutes : Int))
        else
          some (Rz.ok ())
        )
      ) (fun v_28 => some v_28)
    ) (fun x_4 i_5 => some (Rz.ex x_4 i_5))
  )
theorem y_check_net {routers : Int} {links : (List (Int × Int × Int × Int))} {minutes : (List (List Int))} {r_0 : (Rz Unit)} (ht : t_check_net routers links minutes = some r_0) : mz_check_net [D.int routers, (eL (e4 D.int D.int D.int D.int)) links, (eL (eX D.int)) minutes] = some ((eRz eN) r_0) := by
  unfold t_check_net at ht
  refine y_fn (er := (eRz eN)) rfl ?_
  obtain ⟨ev_0, he⟩ : ∃ e, evStart [D.int routers, (eL (e4 D.int D.int D.int D.int)) links, (eL (eX D.int)) minutes] 2 = e := ⟨_, rfl⟩
  rw [he]
  have n_0 : ev_0.length = 5 := by rw [← he]; rfl
  have h_0_0 : ev_0[0]? = some (.fro (D.int routers)) := by rw [← he]; rfl
  have h_0_1 : ev_0[1]? = some (.fro ((eL (e4 D.int D.int D.int D.int)) links)) := by rw [← he]; rfl
  have h_0_2 : ev_0[2]? = some (.fro ((eL (eX D.int)) minutes)) := by rw [← he]; rfl
  clear he
  refine sp_assoc ?_
  refine sp_if_seq (y_tnot (y_tof (y_ch y_c (y_link (y_var h_0_0) o_le (y_last y_c o_le))))) (fun hc => ?_) (fun hc => ?_)
  · have ht := if_t ht hc
    refine sp_ret_seq (y_exz (e := eN) (y_var h_0_0)) ?_
    exact Or.inl (congrArg (fun z => Fl.rt ((eRz eN) z)) (Option.some.inj ht))
  · have ht := if_f ht hc
    refine sp_seqn ?_
    refine sn_nx ?_
    refine sp_assoc ?_
    obtain ⟨v_1, q_2, ht⟩ := ob ht
    refine sp_dropz_seq (y_cb (y_cons (x := D.int routers) (y_var h_0_0) (y_cons (x := (eL (e4 D.int D.int D.int D.int)) links) (y_var h_0_1) y_nil)) (y_check_links q_2)) (fun a_3 hn => ?_) (fun x_4 i_5 hn => ?_)
    · subst hn
      have ht := rz_l ht
      refine sp_assoc ?_
      obtain ⟨o_6, q_7, ht⟩ := ob ht
      refine sp_seq ?_
      refine sp_for (e := (e2 D.int (eX D.int))) (s := ()) (fun (s_ : Unit) (e_ : EV) => e_.length = 5 ∧ Fr [3, 4] ev_0 e_) (eRz eN) (y_en (y_cons (y_lst (y_sl (y_var h_0_2) y_pno (y_pat (y_cb (y_cons (y_var h_0_1) y_nil) b_len)))) y_nil)) q_7 ⟨n_0, Fr.refl⟩ ?_ (fun s_27 ev_24 h_26 r_25 => ?_) (fun v_28 h_26 => ?_)
      · intro s_8 x_9 s_10 ev_11 r_12 ht
        unfold t_check_net_b1z at ht
        obtain ⟨n_13, f_14⟩ := r_12
        refine tg_tup (ds := [D.int x_9.1, (eX D.int) x_9.2]) ?_
        refine tgs_cons ?_
        refine tg_name (ltn n_13 rfl) fun ev_15 c_16 => ?_
        have n_17 := c_16.len.trans n_13
        refine tgs_cons ?_
        refine tg_name (ltn n_17 rfl) fun ev_18 c_19 => ?_
        have n_20 := c_19.len.trans n_17
        have h_21 := c_19.at c_16.here rfl
        refine tgs_nil ?_
        obtain ⟨v_22, q_23, ht⟩ := ob ht
        refine sp_if (y_tnot (y_ttru (y_cb (y_cons (x := (eX D.int) x_9.2) (y_var c_19.here) y_nil) (y_is_span q_23)) tru_B)) (fun hc => ?_) (fun hc => ?_)
        · have ht := if_t ht hc
          have ht := Option.some.inj ht
          subst ht
          refine sp_ret (y_exz (e := eN) (y_var h_21)) ?_
          exact (rfl : (eRz eN) (Rz.ex "BadRange" x_9.1) = (eRz eN) (Rz.ex "BadRange" x_9.1))
        · have ht := if_f ht hc
          refine sp_nx ?_
          refine sn_nx ?_
          have ht := Option.some.inj ht
          subst ht
          exact ⟨n_20, (((Fr.refl).more f_14 rfl).one c_16 rfl).one c_19 rfl⟩
      · subst h_26
        refine Or.inl ⟨_, rfl, ?_⟩
        obtain ⟨n_29, f_30⟩ := r_25
        have h_31 := f_30.at h_0_1 rfl
        have h_32 := f_30.at h_0_2 rfl
        have ht := sum_l ht
        refine sp_if_seq (y_tof (y_2 (y_cb (y_cons (y_var h_32) y_nil) b_len) (y_cb (y_cons (y_var h_31) y_nil) b_len) (EE.oNe EE.int (Nat.le_of_ble_eq_true rfl) (List.length minutes : Int) (List.length links : Int)))) (fun hc => ?_) (fun hc => ?_)
        · have ht := if_t ht hc
          refine sp_ret_seq (y_exz (e := eN) (y_cb (y_cons (y_var h_32) y_nil) b_len)) ?_
          exact Or.inl (congrArg (fun z => Fl.rt ((eRz eN) z)) (Option.some.inj ht))
        · have ht := if_f ht hc
          refine sp_seqn ?_
          refine sn_nx ?_
          refine sp_ret (y_okz (a := ()) (e := eN) y_c) ?_
          exact Or.inl (congrArg (fun z => Fl.rt ((eRz eN) z)) (Option.some.inj ht))
      · subst h_26
        have ht := sum_r ht
        refine Or.inr ⟨fun _ h => (nomatch h), ?_⟩
        exact Or.inl (congrArg (fun z => Fl.rt ((eRz eN) z)) (Option.some.inj ht))
    · subst hn
      have ht := rz_r ht
      exact Or.inl (congrArg (fun z => Fl.rt ((eRz eN) z)) (Option.some.inj ht))
theorem yc_check_net {routers : Int} {links : (List (Int × Int × Int × Int))} {minutes : (List (List Int))} {r_0 : Unit} (ht : (t_check_net routers links minutes).bind okR = some r_0) : m_check_net [D.int routers, (eL (e4 D.int D.int D.int D.int)) links, (eL (eX D.int)) minutes] = some (eN r_0) := y_calm hf_check_net (fun _ h => y_check_net h) ht
theorem yx_check_net {routers : Int} {links : (List (Int × Int × Int × Int))} {minutes : (List (List Int))} {r_0 : Rz Unit} (ht : t_check_net routers links minutes = some r_0) : mx_check_net [D.int routers, (eL (e4 D.int D.int D.int D.int)) links, (eL (eX D.int)) minutes] = some (rxT eN r_0) := y_xz hf_check_net (y_check_net ht)
/-! ### fronts -/
noncomputable def fronts_s1z : EV → Option Fl := (sDropZ (cCB mz_check_net (aCons (cVar 0) (aCons (cVar 1) (aCons (cVar 2) aNil)))))
theorem hz_fronts_s1 : Hom fronts_s1 fronts_s1z := (hom_drop hf_check_net)
noncomputable def fronts_s2z : EV → Option Fl := (sDropZ (cCB mz_check_router (aCons (cVar 0) (aCons (cVar 3) aNil))))
theorem hz_fronts_s2 : Hom fronts_s2 fronts_s2z := (hom_drop hf_check_router)
noncomputable def fronts_s3z : EV → Option Fl := (sRetZ (cCB mz_find_fronts (aCons (cVar 0) (aCons (cVar 1) (aCons (cVar 2) (aCons (cVar 3) aNil))))))
theorem hz_fronts_s3 : Hom fronts_s3 fronts_s3z := (hom_retX hf_find_fronts)
noncomputable def body_frontsz : EV → Option Fl := (sSeq fronts_s1z (sSeq fronts_s2z fronts_s3z))
theorem hz_body_fronts : Hom body_fronts body_frontsz := (hom_seq hz_fronts_s1 (hom_seq hz_fronts_s2 hz_fronts_s3))
noncomputable def mz_fronts : List D → Option D := runFn 4 0 body_frontsz
theorem hf_fronts : HomF mx_fronts mz_fronts := homF_of hz_body_fronts
noncomputable def t_fronts (routers : Int) (links : (List (Int × Int × Int × Int))) (minutes : (List (List Int))) (goal : Int) : Option (Rz (List (List (Int × Int)))) :=
  (t_check_net routers links minutes).bind fun v_1 =>
  elimR v_1 (fun a_3 =>
    (t_check_router routers goal).bind fun v_6 =>
    elimR v_6 (fun a_8 =>
      (t_find_fronts routers links minutes goal).bind fun v_11 =>
      some v_11
    ) (fun x_9 i_10 => some (Rz.ex x_9 i_10))
  ) (fun x_4 i_5 => some (Rz.ex x_4 i_5))
theorem y_fronts {routers : Int} {links : (List (Int × Int × Int × Int))} {minutes : (List (List Int))} {goal : Int} {r_0 : (Rz (List (List (Int × Int))))} (ht : t_fronts routers links minutes goal = some r_0) : mz_fronts [D.int routers, (eL (e4 D.int D.int D.int D.int)) links, (eL (eX D.int)) minutes, D.int goal] = some ((eRz (eL (eL (e2 D.int D.int)))) r_0) := by
  unfold t_fronts at ht
  refine y_fn (er := (eRz (eL (eL (e2 D.int D.int))))) rfl ?_
  obtain ⟨ev_0, he⟩ : ∃ e, evStart [D.int routers, (eL (e4 D.int D.int D.int D.int)) links, (eL (eX D.int)) minutes, D.int goal] 0 = e := ⟨_, rfl⟩
  rw [he]
  have n_0 : ev_0.length = 4 := by rw [← he]; rfl
  have h_0_0 : ev_0[0]? = some (.fro (D.int routers)) := by rw [← he]; rfl
  have h_0_1 : ev_0[1]? = some (.fro ((eL (e4 D.int D.int D.int D.int)) links)) := by rw [← he]; rfl
  have h_0_2 : ev_0[2]? = some (.fro ((eL (eX D.int)) minutes)) := by rw [← he]; rfl
  have h_0_3 : ev_0[3]? = some (.fro (D.int goal)) := by rw [← he]; rfl
  clear he
  obtain ⟨v_1, q_2, ht⟩ := ob ht
  refine sp_dropz_seq (y_cb (y_cons (x := D.int routers) (y_var h_0_0) (y_cons (x := (eL (e4 D.int D.int D.int D.int)) links) (y_var h_0_1) (y_cons (x := (eL (eX D.int)) minutes) (y_var h_0_2) y_nil))) (y_check_net q_2)) (fun a_3 hn => ?_) (fun x_4 i_5 hn => ?_)
  · subst hn
    have ht := rz_l ht
    obtain ⟨v_6, q_7, ht⟩ := ob ht
    refine sp_dropz_seq (y_cb (y_cons (x := D.int routers) (y_var h_0_0) (y_cons (x := D.int goal) (y_var h_0_3) y_nil)) (y_check_router q_7)) (fun a_8 hn => ?_) (fun x_9 i_10 hn => ?_)
    · subst hn
      have ht := rz_l ht
      obtain ⟨v_11, q_12, ht⟩ := ob ht
      refine sp_retz (y_cb (y_cons (x := D.int routers) (y_var h_0_0) (y_cons (x := (eL (e4 D.int D.int D.int D.int)) links) (y_var h_0_1) (y_cons (x := (eL (eX D.int)) minutes) (y_var h_0_2) (y_cons (x := D.int goal) (y_var h_0_3) y_nil)))) (y_find_fronts q_12)) ?_
      exact Or.inl (congrArg (fun z => Fl.rt ((eRz (eL (eL (e2 D.int D.int)))) z)) (Option.some.inj ht))
    · subst hn
      have ht := rz_r ht
      exact Or.inl (congrArg (fun z => Fl.rt ((eRz (eL (eL (e2 D.int D.int)))) z)) (Option.some.inj ht))
  · subst hn
    have ht := rz_r ht
    exact Or.inl (congrArg (fun z => Fl.rt ((eRz (eL (eL (e2 D.int D.int)))) z)) (Option.some.inj ht))
theorem yc_fronts {routers : Int} {links : (List (Int × Int × Int × Int))} {minutes : (List (List Int))} {goal : Int} {r_0 : (List (List (Int × Int)))} (ht : (t_fronts routers links minutes goal).bind okR = some r_0) : m_fronts [D.int routers, (eL (e4 D.int D.int D.int D.int)) links, (eL (eX D.int)) minutes, D.int goal] = some ((eL (eL (e2 D.int D.int))) r_0) := y_calm hf_fronts (fun _ h => y_fronts h) ht
theorem yx_fronts {routers : Int} {links : (List (Int × Int × Int × Int))} {minutes : (List (List Int))} {goal : Int} {r_0 : Rz (List (List (Int × Int)))} (ht : t_fronts routers links minutes goal = some r_0) : mx_fronts [D.int routers, (eL (e4 D.int D.int D.int D.int)) links, (eL (eX D.int)) minutes, D.int goal] = some (rxT (eL (eL (e2 D.int D.int))) r_0) := y_xz hf_fronts (y_fronts ht)
/-! ### are_fronts -/
noncomputable def are_fronts_s1z : EV → Option Fl := (sDropZ (cCB mz_check_net (aCons (cVar 0) (aCons (cVar 1) (aCons (cVar 2) aNil)))))
theorem hz_are_fronts_s1 : Hom are_fronts_s1 are_fronts_s1z := (hom_drop hf_check_net)
noncomputable def are_fronts_s2z : EV → Option Fl := (sDropZ (cCB mz_check_router (aCons (cVar 0) (aCons (cVar 3) aNil))))
theorem hz_are_fronts_s2 : Hom are_fronts_s2 are_fronts_s2z := (hom_drop hf_check_router)
noncomputable def are_fronts_s3z : EV → Option Fl := (sIf (tOrZ (tOf (c2 oNe (cCB bLen (aCons (cVar 4) aNil)) (cVar 0))) (tOf (c2 oNe (c2 oIx (cVar 4) (cVar 3)) (cLst (kList (aCons (cTup (aCons (cC (.int 0)) (aCons (cC (.int 0)) aNil))) aNil)))))) (sRet (cOkZ (cC (.bl false)))) sNx)
theorem hz_are_fronts_s3 : Hom are_fronts_s3 are_fronts_s3z := (hom_if hom_ret (hom_nr nr_nx))
noncomputable def are_fronts_s4z : EV → Option Fl := (sSetL 5 (lF (cLst (kComp (iR1 (aCons (cVar 0) aNil)) (mName 6) are_fronts_q1 are_fronts_e1 [6]))))
theorem hz_are_fronts_s4 : Hom are_fronts_s4 are_fronts_s4z := (hom_nr nr_set)
noncomputable def are_fronts_s5z : EV → Option Fl := (sRet (cOkZ (cCB bAll (aCons (cLst (kComp (iLst (cVar 5)) (mName 6) (fun _ => some true) are_fronts_e2 [6])) aNil))))
theorem hz_are_fronts_s5 : Hom are_fronts_s5 are_fronts_s5z := hom_ret
noncomputable def body_are_frontsz : EV → Option Fl := (sSeq are_fronts_s1z (sSeq are_fronts_s2z (sSeq are_fronts_s3z (sSeq are_fronts_s4z are_fronts_s5z))))
theorem hz_body_are_fronts : Hom body_are_fronts body_are_frontsz := (hom_seq hz_are_fronts_s1 (hom_seq hz_are_fronts_s2 (hom_seq hz_are_fronts_s3 (hom_seq hz_are_fronts_s4 hz_are_fronts_s5))))
noncomputable def mz_are_fronts : List D → Option D := runFn 5 2 body_are_frontsz
theorem hf_are_fronts : HomF mx_are_fronts mz_are_fronts := homF_of hz_body_are_fronts
noncomputable def t_are_fronts (routers : Int) (links : (List (Int × Int × Int × Int))) (minutes : (List (List Int))) (goal : Int) (told : (List (List (Int × Int)))) : Option (Rz Bool) :=
  (t_check_net routers links minutes).bind fun v_1 =>
  elimR v_1 (fun a_3 =>
    (t_check_router routers goal).bind fun v_6 =>
    elimR v_6 (fun a_8 =>
      (if (!(decide ((List.length told : Int) = routers))) = true then some true else ((atI told goal).bind fun v_11 => some (!(decide (v_11 = [(0, 0)]))))).bind fun v_13 =>
      (if v_13 = true then
        some (Rz.ok false)
      else
        (gd (r62 routers)).bind fun _ =>
        (gd (List.length (rangeT 0 routers) ≤ 16777216)).bind fun _ =>
        (compT (fun (x_17 : Int) => (if (!(decide (x_17 = goal))) = true then (some (some x_17)) else some none)) (rangeT 0 routers)).bind fun v_28 =>
        (gd (List.length v_28 ≤ 16777216)).bind fun _ =>
        (compT (fun (x_37 : Int) => (atI told x_37).bind fun v_52 => (t_next_front links minutes x_37 told).bind fun v_54 => some (some (decide (v_52 = v_54)))) v_28).bind fun v_56 =>
        some (Rz.ok (List.all v_56 id))
      )
    ) (fun x_9 i_10 => some (Rz.ex x_9 i_10))
  ) (fun x_4 i_5 => some (Rz.ex x_4 i_5))
theorem y_are_fronts {routers : Int} {links : (List (Int × Int × Int × Int))} {minutes : (List (List Int))} {goal : Int} {told : (List (List (Int × Int)))} {r_0 : (Rz Bool)} (ht : t_are_fronts routers links minutes goal told = some r_0) : mz_are_fronts [D.int routers, (eL (e4 D.int D.int D.int D.int)) links, (eL (eX D.int)) minutes, D.int goal, (eL (eL (e2 D.int D.int))) told] = some ((eRz D.bl) r_0) := by
  unfold t_are_fronts at ht
  refine y_fn (er := (eRz D.bl)) rfl ?_
  obtain ⟨ev_0, he⟩ : ∃ e, evStart [D.int routers, (eL (e4 D.int D.int D.int D.int)) links, (eL (eX D.int)) minutes, D.int goal, (eL (eL (e2 D.int D.int))) told] 2 = e := ⟨_, rfl⟩
  rw [he]
  have n_0 : ev_0.length = 7 := by rw [← he]; rfl
  have h_0_0 : ev_0[0]? = some (.fro (D.int routers)) := by rw [← he]; rfl
  have h_0_1 : ev_0[1]? = some (.fro ((eL (e4 D.int D.int D.int D.int)) links)) := by rw [← he]; rfl
  have h_0_2 : ev_0[2]? = some (.fro ((eL (eX D.int)) minutes)) := by rw [← he]; rfl
  have h_0_3 : ev_0[3]? = some (.fro (D.int goal)) := by rw [← he]; rfl
  have h_0_4 : ev_0[4]? = some (.fro ((eL (eL (e2 D.int D.int))) told)) := by rw [← he]; rfl
  clear he
  obtain ⟨v_1, q_2, ht⟩ := ob ht
  refine sp_dropz_seq (y_cb (y_cons (x := D.int routers) (y_var h_0_0) (y_cons (x := (eL (e4 D.int D.int D.int D.int)) links) (y_var h_0_1) (y_cons (x := (eL (eX D.int)) minutes) (y_var h_0_2) y_nil))) (y_check_net q_2)) (fun a_3 hn => ?_) (fun x_4 i_5 hn => ?_)
  · subst hn
    have ht := rz_l ht
    obtain ⟨v_6, q_7, ht⟩ := ob ht
    refine sp_dropz_seq (y_cb (y_cons (x := D.int routers) (y_var h_0_0) (y_cons (x := D.int goal) (y_var h_0_3) y_nil)) (y_check_router q_7)) (fun a_8 hn => ?_) (fun x_9 i_10 hn => ?_)
    · subst hn
      have ht := rz_l ht
      obtain ⟨v_13, q_14, ht⟩ := ob ht
      refine sp_if_seq (y_torP (y_tof (y_2 (y_cb (y_cons (y_var h_0_4) y_nil) b_len) (y_var h_0_0) (EE.oNe EE.int (Nat.le_of_ble_eq_true rfl) (List.length told : Int) routers))) (fun hc => Option.some.inj (if_t q_14 hc)) (fun hc => by have ht := if_f q_14 hc; obtain ⟨v_11, q_12, ht⟩ := ob ht; exact (y_tof (y_2 (y_2 (y_var h_0_4) (y_var h_0_3) (o_ixl q_12)) (y_lst (y_klist (ds := List.map (e2 D.int D.int) [(0, 0)]) (y_cons (x := (e2 D.int D.int) (0, 0)) (y_tup (y_cons (x := D.int 0) y_c (y_cons (x := D.int 0) y_c y_nil)) (Nat.le_of_ble_eq_true rfl)) y_nil) (Nat.le_of_ble_eq_true rfl))) (EE.oNe (EE.list (EE.e2 EE.int EE.int)) (Nat.le_of_ble_eq_true rfl) v_11 [(0, 0)]))).trans (cgb (Option.some.inj ht)))) (fun hc => ?_) (fun hc => ?_)
      · have ht := if_t ht hc
        refine sp_ret_seq (y_okz (a := false) (e := D.bl) y_c) ?_
        exact Or.inl (congrArg (fun z => Fl.rt ((eRz D.bl) z)) (Option.some.inj ht))
      · have ht := if_f ht hc
        refine sp_seqn ?_
        refine sn_nx ?_
        refine sp_seqn ?_
        obtain ⟨_, q_15, ht⟩ := ob ht; have q_15 := gd_of q_15
        obtain ⟨_, q_16, ht⟩ := ob ht; have q_16 := gd_of q_16
        obtain ⟨v_28, q_29, ht⟩ := ob ht
        refine sn_set (ltn n_0 rfl) (y_lF (d := (eL D.int) v_28) (y_lst (y_comp (e := D.int) (e' := D.int) (y_r1 (y_cons (x := D.int routers) (y_var h_0_0) y_nil) q_15) q_16 q_29 (fun x_17 r_18 w_19 n_20 f_21 ht => by have n_22 := n_20.trans n_0; have h_23 := f_21.at h_0_3 rfl; refine tg_name (ltn n_22 rfl) fun ev_24 c_25 => ?_; have n_26 := c_25.len.trans n_22; have h_27 := c_25.at h_23 rfl; exact ⟨_, (y_tof (y_2 (y_var c_25.here) (y_var h_27) (EE.oNe EE.int (Nat.le_of_ble_eq_true rfl) x_17 goal))), (fun hc => by have ht := if_t ht hc; exact ce_t (e' := D.int) (y := x_17) (y_var c_25.here) ht), (fun hc => ce_f (if_f ht hc))⟩)))) fun ev_30 c_31 => ?_
        have n_32 := c_31.len.trans n_0
        have h_33 := c_31.at h_0_1 rfl
        have h_34 := c_31.at h_0_2 rfl
        have h_35 := c_31.at h_0_4 rfl
        obtain ⟨_, q_36, ht⟩ := ob ht; have q_36 := gd_of q_36
        obtain ⟨v_56, q_57, ht⟩ := ob ht
        refine sp_ret (y_okz (a := (List.all v_56 id)) (e := D.bl) (y_cb (y_cons (y_lst (y_comp (e := D.int) (e' := D.bl) (y_iL (y_var c_31.here)) q_36 q_57 (fun x_37 r_38 w_39 n_40 f_41 ht => by have n_42 := n_40.trans n_32; have h_43 := f_41.at h_33 rfl; have h_44 := f_41.at h_34 rfl; have h_45 := f_41.at h_35 rfl; refine tg_name (ltn n_42 rfl) fun ev_46 c_47 => ?_; have n_48 := c_47.len.trans n_42; have h_49 := c_47.at h_43 rfl; have h_50 := c_47.at h_44 rfl; have h_51 := c_47.at h_45 rfl; obtain ⟨v_52, q_53, ht⟩ := ob ht; obtain ⟨v_54, q_55, ht⟩ := ob ht; exact ⟨true, rfl, (fun _ => ce_t (e' := D.bl) (y := (decide (v_52 = v_54))) (y_2 (y_2 (y_var h_51) (y_var c_47.here) (o_ixl q_53)) (y_cb (y_cons (x := (eL (e4 D.int D.int D.int D.int)) links) (y_var h_49) (y_cons (x := (eL (eX D.int)) minutes) (y_var h_50) (y_cons (x := D.int x_37) (y_var c_47.here) (y_cons (x := (eL (eL (e2 D.int D.int))) told) (y_var h_51) y_nil)))) (y_next_front q_55)) (EE.oEq (EE.list (EE.e2 EE.int EE.int)) (Nat.le_of_ble_eq_true rfl) v_52 v_54)) ht), (fun h => nomatch h)⟩))) y_nil) b_all)) ?_
        exact Or.inl (congrArg (fun z => Fl.rt ((eRz D.bl) z)) (Option.some.inj ht))
    · subst hn
      have ht := rz_r ht
      exact Or.inl (congrArg (fun z => Fl.rt ((eRz D.bl) z)) (Option.some.inj ht))
  · subst hn
    have ht := rz_r ht
    exact Or.inl (congrArg (fun z => Fl.rt ((eRz D.bl) z)) (Option.some.inj ht))
theorem yc_are_fronts {routers : Int} {links : (List (Int × Int × Int × Int))} {minutes : (List (List Int))} {goal : Int} {told : (List (List (Int × Int)))} {r_0 : Bool} (ht : (t_are_fronts routers links minutes goal told).bind okR = some r_0) : m_are_fronts [D.int routers, (eL (e4 D.int D.int D.int D.int)) links, (eL (eX D.int)) minutes, D.int goal, (eL (eL (e2 D.int D.int))) told] = some (D.bl r_0) := y_calm hf_are_fronts (fun _ h => y_are_fronts h) ht
theorem yx_are_fronts {routers : Int} {links : (List (Int × Int × Int × Int))} {minutes : (List (List Int))} {goal : Int} {told : (List (List (Int × Int)))} {r_0 : Rz Bool} (ht : t_are_fronts routers links minutes goal told = some r_0) : mx_are_fronts [D.int routers, (eL (e4 D.int D.int D.int D.int)) links, (eL (eX D.int)) minutes, D.int goal, (eL (eL (e2 D.int D.int))) told] = some (rxT D.bl r_0) := y_xz hf_are_fronts (y_are_fronts ht)
/-! ### check_ends -/
noncomputable def check_ends_s1z : EV → Option Fl := (sDropZ (cCB mz_check_net (aCons (cVar 0) (aCons (cVar 1) (aCons (cVar 2) aNil)))))
theorem hz_check_ends_s1 : Hom check_ends_s1 check_ends_s1z := (hom_drop hf_check_net)
noncomputable def check_ends_s2z : EV → Option Fl := (sDropZ (cCB mz_check_router (aCons (cVar 0) (aCons (cVar 3) aNil))))
theorem hz_check_ends_s2 : Hom check_ends_s2 check_ends_s2z := (hom_drop hf_check_router)
noncomputable def check_ends_s3z : EV → Option Fl := (sDropZ (cCB mz_check_router (aCons (cVar 0) (aCons (cVar 4) aNil))))
theorem hz_check_ends_s3 : Hom check_ends_s3 check_ends_s3z := (hom_drop hf_check_router)
noncomputable def body_check_endsz : EV → Option Fl := (sSeq check_ends_s1z (sSeq check_ends_s2z check_ends_s3z))
theorem hz_body_check_ends : Hom body_check_ends body_check_endsz := (hom_seq hz_check_ends_s1 (hom_seq hz_check_ends_s2 hz_check_ends_s3))
noncomputable def mz_check_ends : List D → Option D := runFn 5 0 (sSeq body_check_endsz (sRet (cOkZ (cC .non))))
theorem hf_check_ends : HomF mx_check_ends mz_check_ends := homF_nx hz_body_check_ends
noncomputable def t_check_ends (routers : Int) (links : (List (Int × Int × Int × Int))) (minutes : (List (List Int))) (start : Int) (goal : Int) : Option (Rz Unit) :=
  (t_check_net routers links minutes).bind fun v_1 =>
  elimR v_1 (fun a_3 =>
    (t_check_router routers start).bind fun v_6 =>
    elimR v_6 (fun a_8 =>
      (t_check_router routers goal).bind fun v_11 =>
      elimR v_11 (fun a_13 =>
        some (Rz.ok ())
      ) (fun x_14 i_15 => some (Rz.ex x_14 i_15))
    ) (fun x_9 i_10 => some (Rz.ex x_9 i_10))
  ) (fun x_4 i_5 => some (Rz.ex x_4 i_5))
theorem y_check_ends {routers : Int} {links : (List (Int × Int × Int × Int))} {minutes : (List (List Int))} {start : Int} {goal : Int} {r_0 : (Rz Unit)} (ht : t_check_ends routers links minutes start goal = some r_0) : mz_check_ends [D.int routers, (eL (e4 D.int D.int D.int D.int)) links, (eL (eX D.int)) minutes, D.int start, D.int goal] = some ((eRz eN) r_0) := by
  unfold t_check_ends at ht
  refine y_fn (er := (eRz eN)) rfl ?_
  obtain ⟨ev_0, he⟩ : ∃ e, evStart [D.int routers, (eL (e4 D.int D.int D.int D.int)) links, (eL (eX D.int)) minutes, D.int start, D.int goal] 0 = e := ⟨_, rfl⟩
  rw [he]
  have n_0 : ev_0.length = 5 := by rw [← he]; rfl
  have h_0_0 : ev_0[0]? = some (.fro (D.int routers)) := by rw [← he]; rfl
  have h_0_1 : ev_0[1]? = some (.fro ((eL (e4 D.int D.int D.int D.int)) links)) := by rw [← he]; rfl
  have h_0_2 : ev_0[2]? = some (.fro ((eL (eX D.int)) minutes)) := by rw [← he]; rfl
  have h_0_3 : ev_0[3]? = some (.fro (D.int start)) := by rw [← he]; rfl
  have h_0_4 : ev_0[4]? = some (.fro (D.int goal)) := by rw [← he]; rfl
  clear he
  refine sp_assoc ?_
  obtain ⟨v_1, q_2, ht⟩ := ob ht
  refine sp_dropz_seq (y_cb (y_cons (x := D.int routers) (y_var h_0_0) (y_cons (x := (eL (e4 D.int D.int D.int D.int)) links) (y_var h_0_1) (y_cons (x := (eL (eX D.int)) minutes) (y_var h_0_2) y_nil))) (y_check_net q_2)) (fun a_3 hn => ?_) (fun x_4 i_5 hn => ?_)
  · subst hn
    have ht := rz_l ht
    refine sp_assoc ?_
    obtain ⟨v_6, q_7, ht⟩ := ob ht
    refine sp_dropz_seq (y_cb (y_cons (x := D.int routers) (y_var h_0_0) (y_cons (x := D.int start) (y_var h_0_3) y_nil)) (y_check_router q_7)) (fun a_8 hn => ?_) (fun x_9 i_10 hn => ?_)
    · subst hn
      have ht := rz_l ht
      obtain ⟨v_11, q_12, ht⟩ := ob ht
      refine sp_dropz_seq (y_cb (y_cons (x := D.int routers) (y_var h_0_0) (y_cons (x := D.int goal) (y_var h_0_4) y_nil)) (y_check_router q_12)) (fun a_13 hn => ?_) (fun x_14 i_15 hn => ?_)
      · subst hn
        have ht := rz_l ht
        refine sp_ret (y_okz (a := ()) (e := eN) y_c) ?_
        exact Or.inl (congrArg (fun z => Fl.rt ((eRz eN) z)) (Option.some.inj ht))
      · subst hn
        have ht := rz_r ht
        exact Or.inl (congrArg (fun z => Fl.rt ((eRz eN) z)) (Option.some.inj ht))
    · subst hn
      have ht := rz_r ht
      exact Or.inl (congrArg (fun z => Fl.rt ((eRz eN) z)) (Option.some.inj ht))
  · subst hn
    have ht := rz_r ht
    exact Or.inl (congrArg (fun z => Fl.rt ((eRz eN) z)) (Option.some.inj ht))
theorem yc_check_ends {routers : Int} {links : (List (Int × Int × Int × Int))} {minutes : (List (List Int))} {start : Int} {goal : Int} {r_0 : Unit} (ht : (t_check_ends routers links minutes start goal).bind okR = some r_0) : m_check_ends [D.int routers, (eL (e4 D.int D.int D.int D.int)) links, (eL (eX D.int)) minutes, D.int start, D.int goal] = some (eN r_0) := y_calm hf_check_ends (fun _ h => y_check_ends h) ht
theorem yx_check_ends {routers : Int} {links : (List (Int × Int × Int × Int))} {minutes : (List (List Int))} {start : Int} {goal : Int} {r_0 : Rz Unit} (ht : t_check_ends routers links minutes start goal = some r_0) : mx_check_ends [D.int routers, (eL (e4 D.int D.int D.int D.int)) links, (eL (eX D.int)) minutes, D.int start, D.int goal] = some (rxT eN r_0) := y_xz hf_check_ends (y_check_ends ht)
/-! ### cheapest -/
noncomputable def cheapest_s1z : EV → Option Fl := (sDropZ (cCB mz_check_ends (aCons (cVar 0) (aCons (cVar 1) (aCons (cVar 2) (aCons (cVar 3) (aCons (cVar 4) aNil)))))))
theorem hz_cheapest_s1 : Hom cheapest_s1 cheapest_s1z := (hom_drop hf_check_ends)
noncomputable def cheapest_s2z : EV → Option Fl := (sIf (tOf (c2 oLt (cVar 5) (cC (.int 0)))) (sRet (cExZ "BadRange" (cVar 5))) sNx)
theorem hz_cheapest_s2 : Hom cheapest_s2 cheapest_s2z := (hom_if hom_raise (hom_nr nr_nx))
noncomputable def cheapest_s3z : EV → Option Fl := (sSetZ 6 (cCB mz_find_fronts (aCons (cVar 0) (aCons (cVar 1) (aCons (cVar 2) (aCons (cVar 4) aNil))))))
theorem hz_cheapest_s3 : Hom cheapest_s3 cheapest_s3z := (hom_setX hf_find_fronts)
noncomputable def cheapest_s4z : EV → Option Fl := (sSetL 7 (lF (cLst (kComp (iLst (c2 oIx (cVar 6) (cVar 3))) (mName 8) cheapest_q1 cheapest_e1 [8]))))
theorem hz_cheapest_s4 : Hom cheapest_s4 cheapest_s4z := (hom_nr nr_set)
noncomputable def cheapest_s5z : EV → Option Fl := (sIf (tOf (c2 oEq (cCB bLen (aCons (cVar 7) aNil)) (cC (.int 0)))) (sRet (cOkZ (cC .non))) sNx)
theorem hz_cheapest_s5 : Hom cheapest_s5 cheapest_s5z := (hom_if hom_ret (hom_nr nr_nx))
noncomputable def cheapest_s6z : EV → Option Fl := (sRet (cOkZ (cTup (aCons (c2 oIx (cVar 7) (cC (.int 0))) (aCons (cCB m_walk_by (aCons (cVar 1) (aCons (cVar 2) (aCons (cVar 6) (aCons (cVar 3) (aCons (cVar 4) (aCons (c2 oIx (cVar 7) (cC (.int 0))) aNil))))))) aNil)))))
theorem hz_cheapest_s6 : Hom cheapest_s6 cheapest_s6z := hom_ret
noncomputable def body_cheapestz : EV → Option Fl := (sSeq cheapest_s1z (sSeq cheapest_s2z (sSeq cheapest_s3z (sSeq cheapest_s4z (sSeq cheapest_s5z cheapest_s6z)))))
theorem hz_body_cheapest : Hom body_cheapest body_cheapestz := (hom_seq hz_cheapest_s1 (hom_seq hz_cheapest_s2 (hom_seq hz_cheapest_s3 (hom_seq hz_cheapest_s4 (hom_seq hz_cheapest_s5 hz_cheapest_s6)))))
noncomputable def mz_cheapest : List D → Option D := runFn 6 3 body_cheapestz
theorem hf_cheapest : HomF mx_cheapest mz_cheapest := homF_of hz_body_cheapest
noncomputable def t_cheapest (routers : Int) (links : (List (Int × Int × Int × Int))) (minutes : (List (List Int))) (start : Int) (goal : Int) (limit : Int) : Option (Rz (Option ((Int × Int) × (List (Int × Int))))) :=
  (t_check_ends routers links minutes start goal).bind fun v_1 =>
  elimR v_1 (fun a_3 =>
    (if (decide (limit < 0)) = true then
      some (Rz.ex "BadRange" limit)
    else
      (t_find_fronts routers links minutes goal).bind fun v_6 =>
      elimR v_6 (fun a_8 =>
        (atI a_8 start).bind fun v_19 =>
        (gd (List.length v_19 ≤ 16777216)).bind fun _ =>
        (compT (fun (x_22 : (Int × Int)) => (if (decide (x_22.2 ≤ limit)) = true then (some (some x_22)) else some none)) v_19).bind fun v_33 =>
        (if (decide ((List.length v_33 : Int) = 0)) = true then
          some (Rz.ok none)
        else
          (atI v_33 0).bind fun v_43 =>
          (atI v_33 0).bind fun v_45 =>
          (t_walk_by links minutes a_8 start goal v_45).bind fun v_47 =>
          some (Rz.ok (some (v_43, v_47)))
        )
      ) (fun x_9 i_10 => some (Rz.ex x_9 i_10))
    )
  ) (fun x_4 i_5 => some (Rz.ex x_4 i_5))
theorem y_cheapest {routers : Int} {links : (List (Int × Int × Int × Int))} {minutes : (List (List Int))} {start : Int} {goal : Int} {limit : Int} {r_0 : (Rz (Option ((Int × Int) × (List (Int × Int)))))} (ht : t_cheapest routers links minutes start goal limit = some r_0) : mz_cheapest [D.int routers, (eL (e4 D.int D.int D.int D.int)) links, (eL (eX D.int)) minutes, D.int start, D.int goal, D.int limit] = some ((eRz (eO (e2 (e2 D.int D.int) (eL (e2 D.int D.int))))) r_0) := by
  unfold t_cheapest at ht
  refine y_fn (er := (eRz (eO (e2 (e2 D.int D.int) (eL (e2 D.int D.int)))))) rfl ?_
  obtain ⟨ev_0, he⟩ : ∃ e, evStart [D.int routers, (eL (e4 D.int D.int D.int D.int)) links, (eL (eX D.int)) minutes, D.int start, D.int goal, D.int limit] 3 = e := ⟨_, rfl⟩
  rw [he]
  have n_0 : ev_0.length = 9 := by rw [← he]; rfl
  have h_0_0 : ev_0[0]? = some (.fro (D.int routers)) := by rw [← he]; rfl
  have h_0_1 : ev_0[1]? = some (.fro ((eL (e4 D.int D.int D.int D.int)) links)) := by rw [← he]; rfl
  have h_0_2 : ev_0[2]? = some (.fro ((eL (eX D.int)) minutes)) := by rw [← he]; rfl
  have h_0_3 : ev_0[3]? = some (.fro (D.int start)) := by rw [← he]; rfl
  have h_0_4 : ev_0[4]? = some (.fro (D.int goal)) := by rw [← he]; rfl
  have h_0_5 : ev_0[5]? = some (.fro (D.int limit)) := by rw [← he]; rfl
  clear he
  obtain ⟨v_1, q_2, ht⟩ := ob ht
  refine sp_dropz_seq (y_cb (y_cons (x := D.int routers) (y_var h_0_0) (y_cons (x := (eL (e4 D.int D.int D.int D.int)) links) (y_var h_0_1) (y_cons (x := (eL (eX D.int)) minutes) (y_var h_0_2) (y_cons (x := D.int start) (y_var h_0_3) (y_cons (x := D.int goal) (y_var h_0_4) y_nil))))) (y_check_ends q_2)) (fun a_3 hn => ?_) (fun x_4 i_5 hn => ?_)
  · subst hn
    have ht := rz_l ht
    refine sp_if_seq (y_tof (y_2 (y_var h_0_5) y_c o_lt)) (fun hc => ?_) (fun hc => ?_)
    · have ht := if_t ht hc
      refine sp_ret_seq (y_exz (e := (eO (e2 (e2 D.int D.int) (eL (e2 D.int D.int))))) (y_var h_0_5)) ?_
      exact Or.inl (congrArg (fun z => Fl.rt ((eRz (eO (e2 (e2 D.int D.int) (eL (e2 D.int D.int))))) z)) (Option.some.inj ht))
    · have ht := if_f ht hc
      refine sp_seqn ?_
      refine sn_nx ?_
      obtain ⟨v_6, q_7, ht⟩ := ob ht
      refine sp_setz_seq (ltn n_0 rfl) (y_cb (y_cons (x := D.int routers) (y_var h_0_0) (y_cons (x := (eL (e4 D.int D.int D.int D.int)) links) (y_var h_0_1) (y_cons (x := (eL (eX D.int)) minutes) (y_var h_0_2) (y_cons (x := D.int goal) (y_var h_0_4) y_nil)))) (y_find_fronts q_7)) (fun a_8 hn ev_11 c_12 => ?_) (fun x_9 i_10 hn => ?_)
      · subst hn
        have ht := rz_l ht
        have n_13 := c_12.len.trans n_0
        have h_14 := c_12.at h_0_1 rfl
        have h_15 := c_12.at h_0_2 rfl
        have h_16 := c_12.at h_0_3 rfl
        have h_17 := c_12.at h_0_4 rfl
        have h_18 := c_12.at h_0_5 rfl
        refine sp_seqn ?_
        obtain ⟨v_19, q_20, ht⟩ := ob ht
        obtain ⟨_, q_21, ht⟩ := ob ht; have q_21 := gd_of q_21
        obtain ⟨v_33, q_34, ht⟩ := ob ht
        refine sn_set (ltn n_13 rfl) (y_lF (d := (eL (e2 D.int D.int)) v_33) (y_lst (y_comp (e := (e2 D.int D.int)) (e' := (e2 D.int D.int)) (y_iL (y_2 (y_var c_12.here) (y_var h_16) (o_ixl q_20))) q_21 q_34 (fun x_22 r_23 w_24 n_25 f_26 ht => by have n_27 := n_25.trans n_13; have h_28 := f_26.at h_18 rfl; refine tg_name (ltn n_27 rfl) fun ev_29 c_30 => ?_; have n_31 := c_30.len.trans n_27; have h_32 := c_30.at h_28 rfl; exact ⟨_, (y_tof (y_2 (y_2 (y_var c_30.here) y_c (o_ixt (j := 1) (ds := [D.int x_22.1, D.int x_22.2]) (by rfl))) (y_var h_32) o_le)), (fun hc => by have ht := if_t ht hc; exact ce_t (e' := (e2 D.int D.int)) (y := x_22) (y_var c_30.here) ht), (fun hc => ce_f (if_f ht hc))⟩)))) fun ev_35 c_36 => ?_
        have n_37 := c_36.len.trans n_13
        have h_38 := c_36.at h_14 rfl
        have h_39 := c_36.at h_15 rfl
        have h_40 := c_36.at h_16 rfl
        have h_41 := c_36.at h_17 rfl
        have h_42 := c_36.at c_12.here rfl
        refine sp_if_seq (y_tof (y_2 (y_cb (y_cons (y_var c_36.here) y_nil) b_len) y_c (EE.oEq EE.int (Nat.le_of_ble_eq_true rfl) (List.length v_33 : Int) 0))) (fun hc => ?_) (fun hc => ?_)
        · have ht := if_t ht hc
          refine sp_ret_seq (y_okz (a := none) (e := (eO (e2 (e2 D.int D.int) (eL (e2 D.int D.int))))) y_c) ?_
          exact Or.inl (congrArg (fun z => Fl.rt ((eRz (eO (e2 (e2 D.int D.int) (eL (e2 D.int D.int))))) z)) (Option.some.inj ht))
        · have ht := if_f ht hc
          refine sp_seqn ?_
          refine sn_nx ?_
          obtain ⟨v_43, q_44, ht⟩ := ob ht
          obtain ⟨v_45, q_46, ht⟩ := ob ht
          obtain ⟨v_47, q_48, ht⟩ := ob ht
          refine sp_ret (y_okz (a := (some (v_43, v_47))) (e := (eO (e2 (e2 D.int D.int) (eL (e2 D.int D.int))))) (y_tup (y_cons (x := (e2 D.int D.int) v_43) (y_2 (y_var c_36.here) y_c (o_ixl q_44)) (y_cons (x := (eL (e2 D.int D.int)) v_47) (y_cb (y_cons (x := (eL (e4 D.int D.int D.int D.int)) links) (y_var h_38) (y_cons (x := (eL (eX D.int)) minutes) (y_var h_39) (y_cons (x := (eL (eL (e2 D.int D.int))) a_8) (y_var h_42) (y_cons (x := D.int start) (y_var h_40) (y_cons (x := D.int goal) (y_var h_41) (y_cons (x := (e2 D.int D.int) v_45) (y_2 (y_var c_36.here) y_c (o_ixl q_46)) y_nil)))))) (y_walk_by q_48)) y_nil)) (Nat.le_of_ble_eq_true rfl))) ?_
          exact Or.inl (congrArg (fun z => Fl.rt ((eRz (eO (e2 (e2 D.int D.int) (eL (e2 D.int D.int))))) z)) (Option.some.inj ht))
      · subst hn
        have ht := rz_r ht
        exact Or.inl (congrArg (fun z => Fl.rt ((eRz (eO (e2 (e2 D.int D.int) (eL (e2 D.int D.int))))) z)) (Option.some.inj ht))
  · subst hn
    have ht := rz_r ht
    exact Or.inl (congrArg (fun z => Fl.rt ((eRz (eO (e2 (e2 D.int D.int) (eL (e2 D.int D.int))))) z)) (Option.some.inj ht))
theorem yc_cheapest {routers : Int} {links : (List (Int × Int × Int × Int))} {minutes : (List (List Int))} {start : Int} {goal : Int} {limit : Int} {r_0 : (Option ((Int × Int) × (List (Int × Int))))} (ht : (t_cheapest routers links minutes start goal limit).bind okR = some r_0) : m_cheapest [D.int routers, (eL (e4 D.int D.int D.int D.int)) links, (eL (eX D.int)) minutes, D.int start, D.int goal, D.int limit] = some ((eO (e2 (e2 D.int D.int) (eL (e2 D.int D.int)))) r_0) := y_calm hf_cheapest (fun _ h => y_cheapest h) ht
theorem yx_cheapest {routers : Int} {links : (List (Int × Int × Int × Int))} {minutes : (List (List Int))} {start : Int} {goal : Int} {limit : Int} {r_0 : Rz (Option ((Int × Int) × (List (Int × Int))))} (ht : t_cheapest routers links minutes start goal limit = some r_0) : mx_cheapest [D.int routers, (eL (e4 D.int D.int D.int D.int)) links, (eL (eX D.int)) minutes, D.int start, D.int goal, D.int limit] = some (rxT (eO (e2 (e2 D.int D.int) (eL (e2 D.int D.int)))) r_0) := y_xz hf_cheapest (y_cheapest ht)
/-! ### limits -/
noncomputable def limits_s1z : EV → Option Fl := (sDropZ (cCB mz_check_ends (aCons (cVar 0) (aCons (cVar 1) (aCons (cVar 2) (aCons (cVar 3) (aCons (cVar 4) aNil)))))))
theorem hz_limits_s1 : Hom limits_s1 limits_s1z := (hom_drop hf_check_ends)
noncomputable def limits_s2z : EV → Option Fl := (sSetZ 5 (cCB mz_find_fronts (aCons (cVar 0) (aCons (cVar 1) (aCons (cVar 2) (aCons (cVar 4) aNil))))))
theorem hz_limits_s2 : Hom limits_s2 limits_s2z := (hom_setX hf_find_fronts)
noncomputable def limits_s3z : EV → Option Fl := (sRet (cOkZ (cLst (kSort (aCons (cLst (kComp (iLst (c2 oIx (cVar 5) (cVar 3))) (mTup (mCons (mName 6) (mCons (mName 7) mNil))) (fun _ => some true) limits_e1 [6, 7])) aNil)))))
theorem hz_limits_s3 : Hom limits_s3 limits_s3z := hom_ret
noncomputable def body_limitsz : EV → Option Fl := (sSeq limits_s1z (sSeq limits_s2z limits_s3z))
theorem hz_body_limits : Hom body_limits body_limitsz := (hom_seq hz_limits_s1 (hom_seq hz_limits_s2 hz_limits_s3))
noncomputable def mz_limits : List D → Option D := runFn 5 3 body_limitsz
theorem hf_limits : HomF mx_limits mz_limits := homF_of hz_body_limits
noncomputable def t_limits (routers : Int) (links : (List (Int × Int × Int × Int))) (minutes : (List (List Int))) (start : Int) (goal : Int) : Option (Rz (List (Int × Int))) :=
  (t_check_ends routers links minutes start goal).bind fun v_1 =>
  elimR v_1 (fun a_3 =>
    (t_find_fronts routers links minutes goal).bind fun v_6 =>
    elimR v_6 (fun a_8 =>
      (atI a_8 start).bind fun v_15 =>
      (gd (List.length v_15 ≤ 16777216)).bind fun _ =>
      (compT (fun (x_18 : (Int × Int)) => some (some (x_18.2, x_18.1))) v_15).bind fun v_31 =>
      some (Rz.ok (List.mergeSort v_31 (leE (e2 D.int D.int))))
    ) (fun x_9 i_10 => some (Rz.ex x_9 i_10))
  ) (fun x_4 i_5 => some (Rz.ex x_4 i_5))
theorem y_limits {routers : Int} {links : (List (Int × Int × Int × Int))} {minutes : (List (List Int))} {start : Int} {goal : Int} {r_0 : (Rz (List (Int × Int)))} (ht : t_limits routers links minutes start goal = some r_0) : mz_limits [D.int routers, (eL (e4 D.int D.int D.int D.int)) links, (eL (eX D.int)) minutes, D.int start, D.int goal] = some ((eRz (eL (e2 D.int D.int))) r_0) := by
  unfold t_limits at ht
  refine y_fn (er := (eRz (eL (e2 D.int D.int)))) rfl ?_
  obtain ⟨ev_0, he⟩ : ∃ e, evStart [D.int routers, (eL (e4 D.int D.int D.int D.int)) links, (eL (eX D.int)) minutes, D.int start, D.int goal] 3 = e := ⟨_, rfl⟩
  rw [he]
  have n_0 : ev_0.length = 8 := by rw [← he]; rfl
  have h_0_0 : ev_0[0]? = some (.fro (D.int routers)) := by rw [← he]; rfl
  have h_0_1 : ev_0[1]? = some (.fro ((eL (e4 D.int D.int D.int D.int)) links)) := by rw [← he]; rfl
  have h_0_2 : ev_0[2]? = some (.fro ((eL (eX D.int)) minutes)) := by rw [← he]; rfl
  have h_0_3 : ev_0[3]? = some (.fro (D.int start)) := by rw [← he]; rfl
  have h_0_4 : ev_0[4]? = some (.fro (D.int goal)) := by rw [← he]; rfl
  clear he
  obtain ⟨v_1, q_2, ht⟩ := ob ht
  refine sp_dropz_seq (y_cb (y_cons (x := D.int routers) (y_var h_0_0) (y_cons (x := (eL (e4 D.int D.int D.int D.int)) links) (y_var h_0_1) (y_cons (x := (eL (eX D.int)) minutes) (y_var h_0_2) (y_cons (x := D.int start) (y_var h_0_3) (y_cons (x := D.int goal) (y_var h_0_4) y_nil))))) (y_check_ends q_2)) (fun a_3 hn => ?_) (fun x_4 i_5 hn => ?_)
  · subst hn
    have ht := rz_l ht
    obtain ⟨v_6, q_7, ht⟩ := ob ht
    refine sp_setz_seq (ltn n_0 rfl) (y_cb (y_cons (x := D.int routers) (y_var h_0_0) (y_cons (x := (eL (e4 D.int D.int D.int D.int)) links) (y_var h_0_1) (y_cons (x := (eL (eX D.int)) minutes) (y_var h_0_2) (y_cons (x := D.int goal) (y_var h_0_4) y_nil)))) (y_find_fronts q_7)) (fun a_8 hn ev_11 c_12 => ?_) (fun x_9 i_10 hn => ?_)
    · subst hn
      have ht := rz_l ht
      have n_13 := c_12.len.trans n_0
      have h_14 := c_12.at h_0_3 rfl
      obtain ⟨v_15, q_16, ht⟩ := ob ht
      obtain ⟨_, q_17, ht⟩ := ob ht; have q_17 := gd_of q_17
      obtain ⟨v_31, q_32, ht⟩ := ob ht
      refine sp_ret (y_okz (a := (List.mergeSort v_31 (leE (e2 D.int D.int)))) (e := (eL (e2 D.int D.int))) (y_lst (y_sort (y_cons (y_lst (y_comp (e := (e2 D.int D.int)) (e' := (e2 D.int D.int)) (y_iL (y_2 (y_var c_12.here) (y_var h_14) (o_ixl q_16))) q_17 q_32 (fun x_18 r_19 w_20 n_21 f_22 ht => by have n_23 := n_21.trans n_13; refine tg_tup (ds := [D.int x_18.1, D.int x_18.2]) ?_; refine tgs_cons ?_; refine tg_name (ltn n_23 rfl) fun ev_24 c_25 => ?_; have n_26 := c_25.len.trans n_23; refine tgs_cons ?_; refine tg_name (ltn n_26 rfl) fun ev_27 c_28 => ?_; have n_29 := c_28.len.trans n_26; have h_30 := c_28.at c_25.here rfl; refine tgs_nil ?_; exact ⟨true, rfl, (fun _ => ce_t (e' := (e2 D.int D.int)) (y := (x_18.2, x_18.1)) (y_tup (y_cons (y_var c_28.here) (y_cons (y_var h_30) y_nil)) (Nat.le_of_ble_eq_true rfl)) ht), (fun h => nomatch h)⟩))) y_nil) (alk_pair v_31)))) ?_
      exact Or.inl (congrArg (fun z => Fl.rt ((eRz (eL (e2 D.int D.int))) z)) (Option.some.inj ht))
    · subst hn
      have ht := rz_r ht
      exact Or.inl (congrArg (fun z => Fl.rt ((eRz (eL (e2 D.int D.int))) z)) (Option.some.inj ht))
  · subst hn
    have ht := rz_r ht
    exact Or.inl (congrArg (fun z => Fl.rt ((eRz (eL (e2 D.int D.int))) z)) (Option.some.inj ht))
theorem yc_limits {routers : Int} {links : (List (Int × Int × Int × Int))} {minutes : (List (List Int))} {start : Int} {goal : Int} {r_0 : (List (Int × Int))} (ht : (t_limits routers links minutes start goal).bind okR = some r_0) : m_limits [D.int routers, (eL (e4 D.int D.int D.int D.int)) links, (eL (eX D.int)) minutes, D.int start, D.int goal] = some ((eL (e2 D.int D.int)) r_0) := y_calm hf_limits (fun _ h => y_limits h) ht
theorem yx_limits {routers : Int} {links : (List (Int × Int × Int × Int))} {minutes : (List (List Int))} {start : Int} {goal : Int} {r_0 : Rz (List (Int × Int))} (ht : t_limits routers links minutes start goal = some r_0) : mx_limits [D.int routers, (eL (e4 D.int D.int D.int D.int)) links, (eL (eX D.int)) minutes, D.int start, D.int goal] = some (rxT (eL (e2 D.int D.int)) r_0) := y_xz hf_limits (y_limits ht)
/-! ### _law_error -/
noncomputable def t__law_error (which : Int) (told : (Int × (List (Int × Int × Int × Int)) × (List (List Int)))) (more : (Int × Int × Int)) : Option (Option (Str × Int)) :=
  Option.bind ((if (decide (which = 0)) = true then
  (t_fronts told.1 told.2.1 told.2.2 more.1).bind fun v_23 =>
  some (unR v_23)
else
  (if (decide (which = 1)) = true then
    (t_are_fronts told.1 told.2.1 told.2.2 more.1 []).bind fun v_25 =>
    some (unR v_25)
  else
    (if (decide (which = 2)) = true then
      (t_cheapest told.1 told.2.1 told.2.2 more.1 more.2.1 more.2.2).bind fun v_27 =>
      some (unR v_27)
    else
      (t_limits told.1 told.2.1 told.2.2 more.1 more.2.1).bind fun v_29 =>
      some (unR v_29)
    )
  )
)) fun r_19 =>
  elimR r_19 (fun a_31 =>
    some none
  ) (fun x_32 i_33 => (gd (x_32 ∈ (["TooMany", "BadRouter", "BadLink", "BadRange"] : List Str))).bind fun _ => (gd ((List.map (fun z => Str.length z) (namesT ([("link", "BadLink"), ("range", "BadRange"), ("router", "BadRouter"), ("many", "TooMany")] : List (Str × Str)) x_32)).sum + (namesT ([("link", "BadLink"), ("range", "BadRange"), ("router", "BadRouter"), ("many", "TooMany")] : List (Str × Str)) x_32).length * Str.length " " ≤ 16777216)).bind fun _ => some (some (Txt.join " " (namesT ([("link", "BadLink"), ("range", "BadRange"), ("router", "BadRouter"), ("many", "TooMany")] : List (Str × Str)) x_32), i_33)))
theorem y__law_error {which : Int} {told : (Int × (List (Int × Int × Int × Int)) × (List (List Int)))} {more : (Int × Int × Int)} {r_0 : (Option (Str × Int))} (ht : t__law_error which told more = some r_0) : m__law_error [D.int which, (e3 D.int (eL (e4 D.int D.int D.int D.int)) (eL (eX D.int))) told, (e3 D.int D.int D.int) more] = some ((eO (e2 D.str D.int)) r_0) := by
  unfold t__law_error at ht
  refine y_fn (er := (eO (e2 D.str D.int))) rfl ?_
  obtain ⟨ev_0, he⟩ : ∃ e, evStart [D.int which, (e3 D.int (eL (e4 D.int D.int D.int D.int)) (eL (eX D.int))) told, (e3 D.int D.int D.int) more] 7 = e := ⟨_, rfl⟩
  rw [he]
  have n_0 : ev_0.length = 10 := by rw [← he]; rfl
  have h_0_0 : ev_0[0]? = some (.fro (D.int which)) := by rw [← he]; rfl
  have h_0_1 : ev_0[1]? = some (.fro ((e3 D.int (eL (e4 D.int D.int D.int D.int)) (eL (eX D.int))) told)) := by rw [← he]; rfl
  have h_0_2 : ev_0[2]? = some (.fro ((e3 D.int D.int D.int) more)) := by rw [← he]; rfl
  clear he
  refine sp_seqn ?_
  refine sn_asg (d := (e3 D.int (eL (e4 D.int D.int D.int D.int)) (eL (eX D.int))) told) (y_var h_0_1) ?_
  refine tg_tup (ds := [D.int told.1, (eL (e4 D.int D.int D.int D.int)) told.2.1, (eL (eX D.int)) told.2.2]) ?_
  refine tgs_cons ?_
  refine tg_name (ltn n_0 rfl) fun ev_1 c_2 => ?_
  have n_3 := c_2.len.trans n_0
  have h_4 := c_2.at h_0_0 rfl
  have h_5 := c_2.at h_0_2 rfl
  refine tgs_cons ?_
  refine tg_name (ltn n_3 rfl) fun ev_6 c_7 => ?_
  have n_8 := c_7.len.trans n_3
  have h_9 := c_7.at h_4 rfl
  have h_10 := c_7.at h_5 rfl
  have h_11 := c_7.at c_2.here rfl
  refine tgs_cons ?_
  refine tg_name (ltn n_8 rfl) fun ev_12 c_13 => ?_
  have n_14 := c_13.len.trans n_8
  have h_15 := c_13.at h_9 rfl
  have h_16 := c_13.at h_10 rfl
  have h_17 := c_13.at h_11 rfl
  have h_18 := c_13.at c_7.here rfl
  refine tgs_nil ?_
  obtain ⟨r_19, q_20, ht⟩ := ob ht
  refine sp_try_seq (r := r_19) (ltn n_14 rfl) ?_ (fun a_31 hn => ?_) (fun x_32 i_33 hn => ?_)
  · have ht := q_20
    refine sp_if (y_tof (y_2 (y_var h_15) y_c (EE.oEq EE.int (Nat.le_of_ble_eq_true rfl) which 0))) (fun hc => ?_) (fun hc => ?_)
    · have ht := if_t ht hc
      obtain ⟨v_23, q_24, ht⟩ := ob ht
      have ht := Option.some.inj ht
      subst ht
      exact xb_drop (y_cons (x := D.int told.1) (y_var h_17) (y_cons (x := (eL (e4 D.int D.int D.int D.int)) told.2.1) (y_var h_18) (y_cons (x := (eL (eX D.int)) told.2.2) (y_var c_13.here) (y_cons (x := D.int more.1) (y_2 (y_var h_16) y_c (o_ixt (j := 0) (ds := [D.int more.1, D.int more.2.1, D.int more.2.2]) (by rfl))) y_nil)))) (yx_fronts q_24)
    · have ht := if_f ht hc
      refine sp_if (y_tof (y_2 (y_var h_15) y_c (EE.oEq EE.int (Nat.le_of_ble_eq_true rfl) which 1))) (fun hc => ?_) (fun hc => ?_)
      · have ht := if_t ht hc
        obtain ⟨v_25, q_26, ht⟩ := ob ht
        have ht := Option.some.inj ht
        subst ht
        exact xb_drop (y_cons (x := D.int told.1) (y_var h_17) (y_cons (x := (eL (e4 D.int D.int D.int D.int)) told.2.1) (y_var h_18) (y_cons (x := (eL (eX D.int)) told.2.2) (y_var c_13.here) (y_cons (x := D.int more.1) (y_2 (y_var h_16) y_c (o_ixt (j := 0) (ds := [D.int more.1, D.int more.2.1, D.int more.2.2]) (by rfl))) (y_cons (x := (eL (eL (e2 D.int D.int))) []) (y_lst (y_klist (ds := List.map (eL (e2 D.int D.int)) []) y_nil (Nat.le_of_ble_eq_true rfl))) y_nil))))) (yx_are_fronts q_26)
      · have ht := if_f ht hc
        refine sp_if (y_tof (y_2 (y_var h_15) y_c (EE.oEq EE.int (Nat.le_of_ble_eq_true rfl) which 2))) (fun hc => ?_) (fun hc => ?_)
        · have ht := if_t ht hc
          obtain ⟨v_27, q_28, ht⟩ := ob ht
          have ht := Option.some.inj ht
          subst ht
          exact xb_drop (y_cons (x := D.int told.1) (y_var h_17) (y_cons (x := (eL (e4 D.int D.int D.int D.int)) told.2.1) (y_var h_18) (y_cons (x := (eL (eX D.int)) told.2.2) (y_var c_13.here) (y_cons (x := D.int more.1) (y_2 (y_var h_16) y_c (o_ixt (j := 0) (ds := [D.int more.1, D.int more.2.1, D.int more.2.2]) (by rfl))) (y_cons (x := D.int more.2.1) (y_2 (y_var h_16) y_c (o_ixt (j := 1) (ds := [D.int more.1, D.int more.2.1, D.int more.2.2]) (by rfl))) (y_cons (x := D.int more.2.2) (y_2 (y_var h_16) y_c (o_ixt (j := 2) (ds := [D.int more.1, D.int more.2.1, D.int more.2.2]) (by rfl))) y_nil)))))) (yx_cheapest q_28)
        · have ht := if_f ht hc
          obtain ⟨v_29, q_30, ht⟩ := ob ht
          have ht := Option.some.inj ht
          subst ht
          exact xb_drop (y_cons (x := D.int told.1) (y_var h_17) (y_cons (x := (eL (e4 D.int D.int D.int D.int)) told.2.1) (y_var h_18) (y_cons (x := (eL (eX D.int)) told.2.2) (y_var c_13.here) (y_cons (x := D.int more.1) (y_2 (y_var h_16) y_c (o_ixt (j := 0) (ds := [D.int more.1, D.int more.2.1, D.int more.2.2]) (by rfl))) (y_cons (x := D.int more.2.1) (y_2 (y_var h_16) y_c (o_ixt (j := 1) (ds := [D.int more.1, D.int more.2.1, D.int more.2.2]) (by rfl))) y_nil))))) (yx_limits q_30)
  · subst hn
    have ht := rz_l ht
    refine sp_ret y_c ?_
    exact Or.inl (congrArg (fun z => Fl.rt ((eO (e2 D.str D.int)) z)) (Option.some.inj ht))
  · subst hn
    have ht := rz_r ht
    obtain ⟨_, q_21, ht⟩ := ob ht; have q_21 := gd_of q_21
    obtain ⟨_, q_22, ht⟩ := ob ht; have q_22 := gd_of q_22
    refine ⟨q_21, _, us_names (tab := ([("link", "BadLink"), ("range", "BadRange"), ("router", "BadRouter"), ("many", "TooMany")] : List (Str × Str))) (sep := " ") rfl rfl (by rw [List.length_set]; exact ltn n_14 rfl) (by rw [List.length_set]; exact ltn n_14 rfl) (by rw [List.length_set]; exact ltn n_14 rfl) rfl (Nat.le_of_ble_eq_true rfl) q_22, ?_⟩
    exact Or.inl (congrArg (fun z => Fl.rt ((eO (e2 D.str D.int)) z)) (Option.some.inj ht))
/-! ### _law_faults -/
noncomputable def t__law_faults_b1 (links : (List (Int × Int × Int × Int))) (good : (List (List Int))) (odd : (List (List Int))) (s_19 : Unit) (x_20 : Int) : Option (Cf Unit Bool) :=
  (some [((0, links, []), (("router" : Str), 0)), ((17, links, []), (("router" : Str), 17)), ((2, links, []), (("link" : Str), 1)), ((3, links, [[9, 9]]), (("range" : Str), 1))]).bind fun v_35 =>
  (gd (List.length good + List.length [[9, 9]] ≤ 16777216)).bind fun _ =>
  (atI odd 0).bind fun v_45 =>
  (gd (List.length v_35 + List.length [((3, links, (good ++ [[9, 9]])), (("range" : Str), 3)), ((3, links, [v_45]), (("range" : Str), 0))] ≤ 16777216)).bind fun _ =>
  (some (v_35 ++ [((3, links, (good ++ [[9, 9]])), (("range" : Str), 3)), ((3, links, [v_45]), (("range" : Str), 0))])).bind fun v_48 =>
  (gd (List.length odd ≤ 16777216)).bind fun _ =>
  (compT (fun (x_58 : (List Int)) => some (some ((3, links, [[0, 0], x_58]), (("range" : Str), 1)))) odd).bind fun v_69 =>
  (gd (List.length v_48 + List.length v_69 ≤ 16777216)).bind fun _ =>
  (gd (List.length (v_48 ++ v_69) ≤ 16777216)).bind fun _ =>
  (compT (fun (x_80 : ((Int × (List (Int × Int × Int × Int)) × (List (List Int))) × (Str × Int))) => (t__law_error x_20 x_80.1 (9, 9, (-1))).bind fun v_91 => (eqD ((eO (e2 D.str D.int)) v_91) ((eO (e2 D.str D.int)) (some x_80.2))).bind fun v_93 => (if (!v_93) = true then (some (some x_80)) else some none)) (v_48 ++ v_69)).bind fun v_95 =>
  (eqD ((eL (e2 (e3 D.int (eL (e4 D.int D.int D.int D.int)) (eL (eX D.int))) (e2 D.str D.int))) v_95) ((eL (e2 (e3 D.int (eL (e4 D.int D.int D.int D.int)) (eL (eX D.int))) (e2 D.str D.int))) [])).bind fun v_97 =>
  (if (!v_97) = true then
    some (Cf.rt false)
  else
    (t__law_error x_20 (3, links, good) (3, 9, (-1))).bind fun v_99 =>
    (eqD ((eO (e2 D.str D.int)) v_99) ((eO (e2 D.str D.int)) (some (("router" : Str), 3)))).bind fun v_101 =>
    (if (!v_101) = true then some true else ((t__law_error x_20 (3, links, good) ((-1), 9, (-1))).bind fun v_103 => (eqD ((eO (e2 D.str D.int)) v_103) ((eO (e2 D.str D.int)) (some (("router" : Str), (-1))))).bind fun v_105 => some (!v_105))).bind fun v_107 =>
    (if v_107 = true then
      some (Cf.rt false)
    else
      (if (decide (1 < x_20)) = true then ((t__law_error x_20 (3, links, good) (2, 9, (-1))).bind fun v_109 => (eqD ((eO (e2 D.str D.int)) v_109) ((eO (e2 D.str D.int)) (some (("router" : Str), 9)))).bind fun v_111 => some (!v_111)) else some false).bind fun v_113 =>
      (if v_113 = true then
        some (Cf.rt false)
      else
        some (Cf.nx ())
      )
    )
  )
noncomputable def t__law_faults_b2 (s_137 : ((List (Int × Int × Int × Int)) × (List (List Int)))) (x_138 : Int) : Option ((List (Int × Int × Int × Int)) × (List (List Int))) :=
  (t__law_two x_138).bind fun v_151 =>
  (gd (List.length s_137.1 + List.length [(x_138, (x_138 + 1), 1, 1), (x_138, (x_138 + 1), (1 + v_151), 1)] ≤ 16777216)).bind fun _ =>
  (some (s_137.1 ++ [(x_138, (x_138 + 1), 1, 1), (x_138, (x_138 + 1), (1 + v_151), 1)])).bind fun v_154 =>
  (t__law_two x_138).bind fun v_156 =>
  (gd (List.length s_137.2 + List.length [[v_156, 0], [0, 0]] ≤ 16777216)).bind fun _ =>
  (some (s_137.2 ++ [[v_156, 0], [0, 0]])).bind fun v_159 =>
  some (v_154, v_159)
noncomputable def t__law_faults : Option Bool :=
  (some ([(0, 1, 1, 1), (1, 2, 1, 1)], [[0, 1000], [5, 5]])).bind fun v_1 =>
  (some [[(-1), 0], [0, 1001], [0], [0, 0, 0]]).bind fun v_10 =>
  (forR (t__law_faults_b1 v_1.1 v_1.2 v_10) (rangeT 0 4) ()).bind fun o_17 =>
  elimT o_17 (fun s_118 =>
    (forT (t__law_faults_b2) (rangeT 0 9) ([], [])).bind fun s_135 =>
    (t__law_error 0 (10, s_135.1, s_135.2) (9, 0, 0)).bind fun v_177 =>
    (eqD ((eO (e2 D.str D.int)) v_177) ((eO (e2 D.str D.int)) (some (("many" : Str), 512)))).bind fun v_179 =>
    (if (!v_179) = true then some true else ((Option.bind (t_are_fronts 10 s_135.1 s_135.2 9 []) okR).bind fun v_181 => some (!decide (v_181 = false)))).bind fun v_183 =>
    (if v_183 = true then
      some false
    else
      (t__law_error 2 (3, v_1.1, v_1.2) (0, 2, (-1))).bind fun v_185 =>
      (eqD ((eO (e2 D.str D.int)) v_185) ((eO (e2 D.str D.int)) (some (("range" : Str), (-1))))).bind fun v_187 =>
      (if v_187 = true then ((Option.bind (t_cheapest 3 v_1.1 v_1.2 0 2 5) okR).bind fun v_189 => some (decide (v_189 = (some ((2, 5), [(0, 0), (1, 0)]))))) else some false).bind fun v_191 =>
      some v_191
    )
  ) (fun v_119 => some v_119)
theorem y__law_faults {r_0 : Bool} (ht : t__law_faults = some r_0) : m__law_faults [] = some (D.bl r_0) := by
  unfold t__law_faults at ht
  refine y_fn (er := D.bl) rfl ?_
  obtain ⟨ev_0, he⟩ : ∃ e, evStart [] 10 = e := ⟨_, rfl⟩
  rw [he]
  have n_0 : ev_0.length = 10 := by rw [← he]; rfl
  clear he
  refine sp_seqn ?_
  obtain ⟨v_1, q_2, ht⟩ := ob ht
  refine sn_asg (d := (e2 (eL (e4 D.int D.int D.int D.int)) (eL (eX D.int))) v_1) (Eq.trans (b := some ((e2 (eL (e4 D.int D.int D.int D.int)) (eL (eX D.int))) ([(0, 1, 1, 1), (1, 2, 1, 1)], [[0, 1000], [5, 5]]))) (y_tup (y_cons (y_lst (y_klist (ds := List.map (e4 D.int D.int D.int D.int) [(0, 1, 1, 1), (1, 2, 1, 1)]) (y_cons (x := (e4 D.int D.int D.int D.int) (0, 1, 1, 1)) (y_tup (y_cons (x := D.int 0) y_c (y_cons (x := D.int 1) y_c (y_cons (x := D.int 1) y_c (y_cons (x := D.int 1) y_c y_nil)))) (Nat.le_of_ble_eq_true rfl)) (y_cons (x := (e4 D.int D.int D.int D.int) (1, 2, 1, 1)) (y_tup (y_cons (x := D.int 1) y_c (y_cons (x := D.int 2) y_c (y_cons (x := D.int 1) y_c (y_cons (x := D.int 1) y_c y_nil)))) (Nat.le_of_ble_eq_true rfl)) y_nil)) (Nat.le_of_ble_eq_true rfl))) (y_cons (y_lst (y_klist (ds := List.map (eX D.int) [[0, 1000], [5, 5]]) (y_cons (x := (eX D.int) [0, 1000]) (y_tup (y_cons (x := D.int 0) y_c (y_cons (x := D.int 1000) y_c y_nil)) (Nat.le_of_ble_eq_true rfl)) (y_cons (x := (eX D.int) [5, 5]) (y_tup (y_cons (x := D.int 5) y_c (y_cons (x := D.int 5) y_c y_nil)) (Nat.le_of_ble_eq_true rfl)) y_nil)) (Nat.le_of_ble_eq_true rfl))) y_nil)) (Nat.le_of_ble_eq_true rfl)) (cg (Option.some.inj q_2))) ?_
  refine tg_tup (ds := [(eL (e4 D.int D.int D.int D.int)) v_1.1, (eL (eX D.int)) v_1.2]) ?_
  refine tgs_cons ?_
  refine tg_name (ltn n_0 rfl) fun ev_3 c_4 => ?_
  have n_5 := c_4.len.trans n_0
  refine tgs_cons ?_
  refine tg_name (ltn n_5 rfl) fun ev_6 c_7 => ?_
  have n_8 := c_7.len.trans n_5
  have h_9 := c_7.at c_4.here rfl
  refine tgs_nil ?_
  refine sp_seqn ?_
  obtain ⟨v_10, q_11, ht⟩ := ob ht
  refine sn_set (ltn n_8 rfl) (y_lF (d := (eL (eX D.int)) v_10) (Eq.trans (b := some ((eL (eX D.int)) [[(-1), 0], [0, 1001], [0], [0, 0, 0]])) (y_lst (y_klist (ds := List.map (eX D.int) [[(-1), 0], [0, 1001], [0], [0, 0, 0]]) (y_cons (x := (eX D.int) [(-1), 0]) (y_tup (y_cons (x := D.int (-1)) (y_1 y_c o_neg) (y_cons (x := D.int 0) y_c y_nil)) (Nat.le_of_ble_eq_true rfl)) (y_cons (x := (eX D.int) [0, 1001]) (y_tup (y_cons (x := D.int 0) y_c (y_cons (x := D.int 1001) y_c y_nil)) (Nat.le_of_ble_eq_true rfl)) (y_cons (x := (eX D.int) [0]) (y_tup (y_cons (x := D.int 0) y_c y_nil) (Nat.le_of_ble_eq_true rfl)) (y_cons (x := (eX D.int) [0, 0, 0]) (y_tup (y_cons (x := D.int 0) y_c (y_cons (x := D.int 0) y_c (y_cons (x := D.int 0) y_c y_nil))) (Nat.le_of_ble_eq_true rfl)) y_nil)))) (Nat.le_of_ble_eq_true rfl))) (cg (Option.some.inj q_11)))) fun ev_12 c_13 => ?_
  have n_14 := c_13.len.trans n_8
  have h_15 := c_13.at h_9 rfl
  have h_16 := c_13.at c_7.here rfl
  obtain ⟨o_17, q_18, ht⟩ := ob ht
  refine sp_seq ?_
  refine sp_for (e := D.int) (s := ()) (fun (s_ : Unit) (e_ : EV) => e_.length = 10 ∧ Fr [3, 4] ev_12 e_) D.bl (y_r1 (y_cons (x := D.int 4) y_c y_nil) (by decide)) q_18 ⟨n_14, Fr.refl⟩ ?_ (fun s_118 ev_115 h_117 r_116 => ?_) (fun v_119 h_117 => ?_)
  · intro s_19 x_20 s_21 ev_22 r_23 ht
    unfold t__law_faults_b1 at ht
    obtain ⟨n_24, f_25⟩ := r_23
    have h_26 := f_25.at h_15 rfl
    have h_27 := f_25.at h_16 rfl
    have h_28 := f_25.at c_13.here rfl
    refine tg_name (ltn n_24 rfl) fun ev_29 c_30 => ?_
    have n_31 := c_30.len.trans n_24
    have h_32 := c_30.at h_26 rfl
    have h_33 := c_30.at h_27 rfl
    have h_34 := c_30.at h_28 rfl
    refine sp_seqn ?_
    obtain ⟨v_35, q_36, ht⟩ := ob ht
    refine sn_set (ltn n_31 rfl) (y_lF (d := (eL (e2 (e3 D.int (eL (e4 D.int D.int D.int D.int)) (eL (eX D.int))) (e2 D.str D.int))) v_35) (Eq.trans (b := some ((eL (e2 (e3 D.int (eL (e4 D.int D.int D.int D.int)) (eL (eX D.int))) (e2 D.str D.int))) [((0, v_1.1, []), (("router" : Str), 0)), ((17, v_1.1, []), (("router" : Str), 17)), ((2, v_1.1, []), (("link" : Str), 1)), ((3, v_1.1, [[9, 9]]), (("range" : Str), 1))])) (y_lst (y_klist (ds := List.map (e2 (e3 D.int (eL (e4 D.int D.int D.int D.int)) (eL (eX D.int))) (e2 D.str D.int)) [((0, v_1.1, []), (("router" : Str), 0)), ((17, v_1.1, []), (("router" : Str), 17)), ((2, v_1.1, []), (("link" : Str), 1)), ((3, v_1.1, [[9, 9]]), (("range" : Str), 1))]) (y_cons (x := (e2 (e3 D.int (eL (e4 D.int D.int D.int D.int)) (eL (eX D.int))) (e2 D.str D.int)) ((0, v_1.1, []), (("router" : Str), 0))) (y_tup (y_cons (x := (e3 D.int (eL (e4 D.int D.int D.int D.int)) (eL (eX D.int))) (0, v_1.1, [])) (y_tup (y_cons (x := D.int 0) y_c (y_cons (x := (eL (e4 D.int D.int D.int D.int)) v_1.1) (y_var h_32) (y_cons (x := (eL (eX D.int)) []) (y_lst (y_klist (ds := List.map (eX D.int) []) y_nil (Nat.le_of_ble_eq_true rfl))) y_nil))) (Nat.le_of_ble_eq_true rfl)) (y_cons (x := (e2 D.str D.int) (("router" : Str), 0)) (y_tup (y_cons (x := D.str ("router" : Str)) y_c (y_cons (x := D.int 0) y_c y_nil)) (Nat.le_of_ble_eq_true rfl)) y_nil)) (Nat.le_of_ble_eq_true rfl)) (y_cons (x := (e2 (e3 D.int (eL (e4 D.int D.int D.int D.int)) (eL (eX D.int))) (e2 D.str D.int)) ((17, v_1.1, []), (("router" : Str), 17))) (y_tup (y_cons (x := (e3 D.int (eL (e4 D.int D.int D.int D.int)) (eL (eX D.int))) (17, v_1.1, [])) (y_tup (y_cons (x := D.int 17) y_c (y_cons (x := (eL (e4 D.int D.int D.int D.int)) v_1.1) (y_var h_32) (y_cons (x := (eL (eX D.int)) []) (y_lst (y_klist (ds := List.map (eX D.int) []) y_nil (Nat.le_of_ble_eq_true rfl))) y_nil))) (Nat.le_of_ble_eq_true rfl)) (y_cons (x := (e2 D.str D.int) (("router" : Str), 17)) (y_tup (y_cons (x := D.str ("router" : Str)) y_c (y_cons (x := D.int 17) y_c y_nil)) (Nat.le_of_ble_eq_true rfl)) y_nil)) (Nat.le_of_ble_eq_true rfl)) (y_cons (x := (e2 (e3 D.int (eL (e4 D.int D.int D.int D.int)) (eL (eX D.int))) (e2 D.str D.int)) ((2, v_1.1, []), (("link" : Str), 1))) (y_tup (y_cons (x := (e3 D.int (eL (e4 D.int D.int D.int D.int)) (eL (eX D.int))) (2, v_1.1, [])) (y_tup (y_cons (x := D.int 2) y_c (y_cons (x := (eL (e4 D.int D.int D.int D.int)) v_1.1) (y_var h_32) (y_cons (x := (eL (eX D.int)) []) (y_lst (y_klist (ds := List.map (eX D.int) []) y_nil (Nat.le_of_ble_eq_true rfl))) y_nil))) (Nat.le_of_ble_eq_true rfl)) (y_cons (x := (e2 D.str D.int) (("link" : Str), 1)) (y_tup (y_cons (x := D.str ("link" : Str)) y_c (y_cons (x := D.int 1) y_c y_nil)) (Nat.le_of_ble_eq_true rfl)) y_nil)) (Nat.le_of_ble_eq_true rfl)) (y_cons (x := (e2 (e3 D.int (eL (e4 D.int D.int D.int D.int)) (eL (eX D.int))) (e2 D.str D.int)) ((3, v_1.1, [[9, 9]]), (("range" : Str), 1))) (y_tup (y_cons (x := (e3 D.int (eL (e4 D.int D.int D.int D.int)) (eL (eX D.int))) (3, v_1.1, [[9, 9]])) (y_tup (y_cons (x := D.int 3) y_c (y_cons (x := (eL (e4 D.int D.int D.int D.int)) v_1.1) (y_var h_32) (y_cons (x := (eL (eX D.int)) [[9, 9]]) (y_lst (y_klist (ds := List.map (eX D.int) [[9, 9]]) (y_cons (x := (eX D.int) [9, 9]) (y_tup (y_cons (x := D.int 9) y_c (y_cons (x := D.int 9) y_c y_nil)) (Nat.le_of_ble_eq_true rfl)) y_nil) (Nat.le_of_ble_eq_true rfl))) y_nil))) (Nat.le_of_ble_eq_true rfl)) (y_cons (x := (e2 D.str D.int) (("range" : Str), 1)) (y_tup (y_cons (x := D.str ("range" : Str)) y_c (y_cons (x := D.int 1) y_c y_nil)) (Nat.le_of_ble_eq_true rfl)) y_nil)) (Nat.le_of_ble_eq_true rfl)) y_nil)))) (Nat.le_of_ble_eq_true rfl))) (cg (Option.some.inj q_36)))) fun ev_37 c_38 => ?_
    have n_39 := c_38.len.trans n_31
    have h_40 := c_38.at h_32 rfl
    have h_41 := c_38.at h_33 rfl
    have h_42 := c_38.at h_34 rfl
    have h_43 := c_38.at c_30.here rfl
    refine sp_seqn ?_
    obtain ⟨_, q_44, ht⟩ := ob ht; have q_44 := gd_of q_44
    obtain ⟨v_45, q_46, ht⟩ := ob ht
    obtain ⟨_, q_47, ht⟩ := ob ht; have q_47 := gd_of q_47
    obtain ⟨v_48, q_49, ht⟩ := ob ht
    refine sn_set (ltn n_39 rfl) (y_lF (d := (eL (e2 (e3 D.int (eL (e4 D.int D.int D.int D.int)) (eL (eX D.int))) (e2 D.str D.int))) v_48) (Eq.trans (b := some ((eL (e2 (e3 D.int (eL (e4 D.int D.int D.int D.int)) (eL (eX D.int))) (e2 D.str D.int))) (v_35 ++ [((3, v_1.1, (v_1.2 ++ [[9, 9]])), (("range" : Str), 3)), ((3, v_1.1, [v_45]), (("range" : Str), 0))]))) (y_lst (y_cat (xs := v_35) (ys := [((3, v_1.1, (v_1.2 ++ [[9, 9]])), (("range" : Str), 3)), ((3, v_1.1, [v_45]), (("range" : Str), 0))]) (e := (e2 (e3 D.int (eL (e4 D.int D.int D.int D.int)) (eL (eX D.int))) (e2 D.str D.int))) (y_var c_38.here) (y_lst (y_klist (ds := List.map (e2 (e3 D.int (eL (e4 D.int D.int D.int D.int)) (eL (eX D.int))) (e2 D.str D.int)) [((3, v_1.1, (v_1.2 ++ [[9, 9]])), (("range" : Str), 3)), ((3, v_1.1, [v_45]), (("range" : Str), 0))]) (y_cons (x := (e2 (e3 D.int (eL (e4 D.int D.int D.int D.int)) (eL (eX D.int))) (e2 D.str D.int)) ((3, v_1.1, (v_1.2 ++ [[9, 9]])), (("range" : Str), 3))) (y_tup (y_cons (x := (e3 D.int (eL (e4 D.int D.int D.int D.int)) (eL (eX D.int))) (3, v_1.1, (v_1.2 ++ [[9, 9]]))) (y_tup (y_cons (x := D.int 3) y_c (y_cons (x := (eL (e4 D.int D.int D.int D.int)) v_1.1) (y_var h_40) (y_cons (x := (eL (eX D.int)) (v_1.2 ++ [[9, 9]])) (y_lst (y_cat (xs := v_1.2) (ys := [[9, 9]]) (e := (eX D.int)) (y_var h_41) (y_lst (y_klist (ds := List.map (eX D.int) [[9, 9]]) (y_cons (x := (eX D.int) [9, 9]) (y_tup (y_cons (x := D.int 9) y_c (y_cons (x := D.int 9) y_c y_nil)) (Nat.le_of_ble_eq_true rfl)) y_nil) (Nat.le_of_ble_eq_true rfl))) q_44)) y_nil))) (Nat.le_of_ble_eq_true rfl)) (y_cons (x := (e2 D.str D.int) (("range" : Str), 3)) (y_tup (y_cons (x := D.str ("range" : Str)) y_c (y_cons (x := D.int 3) y_c y_nil)) (Nat.le_of_ble_eq_true rfl)) y_nil)) (Nat.le_of_ble_eq_true rfl)) (y_cons (x := (e2 (e3 D.int (eL (e4 D.int D.int D.int D.int)) (eL (eX D.int))) (e2 D.str D.int)) ((3, v_1.1, [v_45]), (("range" : Str), 0))) (y_tup (y_cons (x := (e3 D.int (eL (e4 D.int D.int D.int D.int)) (eL (eX D.int))) (3, v_1.1, [v_45])) (y_tup (y_cons (x := D.int 3) y_c (y_cons (x := (eL (e4 D.int D.int D.int D.int)) v_1.1) (y_var h_40) (y_cons (x := (eL (eX D.int)) [v_45]) (y_lst (y_klist (ds := List.map (eX D.int) [v_45]) (y_cons (x := (eX D.int) v_45) (y_2 (y_var h_42) y_c (o_ixl q_46)) y_nil) (Nat.le_of_ble_eq_true rfl))) y_nil))) (Nat.le_of_ble_eq_true rfl)) (y_cons (x := (e2 D.str D.int) (("range" : Str), 0)) (y_tup (y_cons (x := D.str ("range" : Str)) y_c (y_cons (x := D.int 0) y_c y_nil)) (Nat.le_of_ble_eq_true rfl)) y_nil)) (Nat.le_of_ble_eq_true rfl)) y_nil)) (Nat.le_of_ble_eq_true rfl))) q_47)) (cg (Option.some.inj q_49)))) fun ev_50 c_51 => ?_
    have n_52 := c_51.len.trans n_39
    have h_53 := c_51.at h_40 rfl
    have h_54 := c_51.at h_41 rfl
    have h_55 := c_51.at h_42 rfl
    have h_56 := c_51.at h_43 rfl
    refine sp_seqn ?_
    obtain ⟨_, q_57, ht⟩ := ob ht; have q_57 := gd_of q_57
    obtain ⟨v_69, q_70, ht⟩ := ob ht
    obtain ⟨_, q_71, ht⟩ := ob ht; have q_71 := gd_of q_71
    refine sn_set (ltn n_52 rfl) (y_lF (d := (eL (e2 (e3 D.int (eL (e4 D.int D.int D.int D.int)) (eL (eX D.int))) (e2 D.str D.int))) (v_48 ++ v_69)) (y_lst (y_cat (xs := v_48) (ys := v_69) (e := (e2 (e3 D.int (eL (e4 D.int D.int D.int D.int)) (eL (eX D.int))) (e2 D.str D.int))) (y_var c_51.here) (y_lst (y_comp (e := (eX D.int)) (e' := (e2 (e3 D.int (eL (e4 D.int D.int D.int D.int)) (eL (eX D.int))) (e2 D.str D.int))) (y_iL (y_var h_55)) q_57 q_70 (fun x_58 r_59 w_60 n_61 f_62 ht => by have n_63 := n_61.trans n_52; have h_64 := f_62.at h_53 rfl; refine tg_name (ltn n_63 rfl) fun ev_65 c_66 => ?_; have n_67 := c_66.len.trans n_63; have h_68 := c_66.at h_64 rfl; exact ⟨true, rfl, (fun _ => ce_t (e' := (e2 (e3 D.int (eL (e4 D.int D.int D.int D.int)) (eL (eX D.int))) (e2 D.str D.int))) (y := ((3, v_1.1, [[0, 0], x_58]), (("range" : Str), 1))) (y_tup (y_cons (x := (e3 D.int (eL (e4 D.int D.int D.int D.int)) (eL (eX D.int))) (3, v_1.1, [[0, 0], x_58])) (y_tup (y_cons (x := D.int 3) y_c (y_cons (x := (eL (e4 D.int D.int D.int D.int)) v_1.1) (y_var h_68) (y_cons (x := (eL (eX D.int)) [[0, 0], x_58]) (y_lst (y_klist (ds := List.map (eX D.int) [[0, 0], x_58]) (y_cons (x := (eX D.int) [0, 0]) (y_tup (y_cons (x := D.int 0) y_c (y_cons (x := D.int 0) y_c y_nil)) (Nat.le_of_ble_eq_true rfl)) (y_cons (x := (eX D.int) x_58) (y_var c_66.here) y_nil)) (Nat.le_of_ble_eq_true rfl))) y_nil))) (Nat.le_of_ble_eq_true rfl)) (y_cons (x := (e2 D.str D.int) (("range" : Str), 1)) (y_tup (y_cons (x := D.str ("range" : Str)) y_c (y_cons (x := D.int 1) y_c y_nil)) (Nat.le_of_ble_eq_true rfl)) y_nil)) (Nat.le_of_ble_eq_true rfl)) ht), (fun h => nomatch h)⟩))) q_71))) fun ev_72 c_73 => ?_
    have n_74 := c_73.len.trans n_52
    have h_75 := c_73.at h_53 rfl
    have h_76 := c_73.at h_54 rfl
    have h_77 := c_73.at h_55 rfl
    have h_78 := c_73.at h_56 rfl
    obtain ⟨_, q_79, ht⟩ := ob ht; have q_79 := gd_of q_79
    obtain ⟨v_95, q_96, ht⟩ := ob ht
    obtain ⟨v_97, q_98, ht⟩ := ob ht
    refine sp_if_seq (y_tof (y_2 (y_lst (y_comp (e := (e2 (e3 D.int (eL (e4 D.int D.int D.int D.int)) (eL (eX D.int))) (e2 D.str D.int))) (e' := (e2 (e3 D.int (eL (e4 D.int D.int D.int D.int)) (eL (eX D.int))) (e2 D.str D.int))) (y_iL (y_var c_73.here)) q_79 q_96 (fun x_80 r_81 w_82 n_83 f_84 ht => by have n_85 := n_83.trans n_74; have h_86 := f_84.at h_78 rfl; refine tg_name (ltn n_85 rfl) fun ev_87 c_88 => ?_; have n_89 := c_88.len.trans n_85; have h_90 := c_88.at h_86 rfl; obtain ⟨v_91, q_92, ht⟩ := ob ht; obtain ⟨v_93, q_94, ht⟩ := ob ht; exact ⟨_, (y_tof (y_2 (y_cb (y_cons (x := D.int x_20) (y_var h_90) (y_cons (x := (e3 D.int (eL (e4 D.int D.int D.int D.int)) (eL (eX D.int))) x_80.1) (y_2 (y_var c_88.here) y_c (o_ixt (j := 0) (ds := [(e3 D.int (eL (e4 D.int D.int D.int D.int)) (eL (eX D.int))) x_80.1, (e2 D.str D.int) x_80.2]) (by rfl))) (y_cons (x := (e3 D.int D.int D.int) (9, 9, (-1))) (y_tup (y_cons (x := D.int 9) y_c (y_cons (x := D.int 9) y_c (y_cons (x := D.int (-1)) (y_1 y_c o_neg) y_nil))) (Nat.le_of_ble_eq_true rfl)) y_nil))) (y__law_error q_92)) (y_2 (y_var c_88.here) y_c (o_ixt (j := 1) (ds := [(e3 D.int (eL (e4 D.int D.int D.int D.int)) (eL (eX D.int))) x_80.1, (e2 D.str D.int) x_80.2]) (by rfl))) (o_neD q_94))), (fun hc => by have ht := if_t ht hc; exact ce_t (e' := (e2 (e3 D.int (eL (e4 D.int D.int D.int D.int)) (eL (eX D.int))) (e2 D.str D.int))) (y := x_80) (y_var c_88.here) ht), (fun hc => ce_f (if_f ht hc))⟩))) (y_lst (y_klist (ds := List.map (e2 (e3 D.int (eL (e4 D.int D.int D.int D.int)) (eL (eX D.int))) (e2 D.str D.int)) []) y_nil (Nat.le_of_ble_eq_true rfl))) (o_neD q_98))) (fun hc => ?_) (fun hc => ?_)
    · have ht := if_t ht hc
      have ht := Option.some.inj ht
      subst ht
      refine sp_ret_seq y_c ?_
      exact (rfl : D.bl false = D.bl false)
    · have ht := if_f ht hc
      refine sp_seqn ?_
      refine sn_nx ?_
      obtain ⟨v_99, q_100, ht⟩ := ob ht
      obtain ⟨v_101, q_102, ht⟩ := ob ht
      obtain ⟨v_107, q_108, ht⟩ := ob ht
      refine sp_if_seq (y_torP (y_tof (y_2 (y_cb (y_cons (x := D.int x_20) (y_var h_78) (y_cons (x := (e3 D.int (eL (e4 D.int D.int D.int D.int)) (eL (eX D.int))) (3, v_1.1, v_1.2)) (y_tup (y_cons (x := D.int 3) y_c (y_cons (x := (eL (e4 D.int D.int D.int D.int)) v_1.1) (y_var h_75) (y_cons (x := (eL (eX D.int)) v_1.2) (y_var h_76) y_nil))) (Nat.le_of_ble_eq_true rfl)) (y_cons (x := (e3 D.int D.int D.int) (3, 9, (-1))) (y_tup (y_cons (x := D.int 3) y_c (y_cons (x := D.int 9) y_c (y_cons (x := D.int (-1)) (y_1 y_c o_neg) y_nil))) (Nat.le_of_ble_eq_true rfl)) y_nil))) (y__law_error q_100)) (y_tup (y_cons y_c (y_cons y_c y_nil)) (Nat.le_of_ble_eq_true rfl)) (o_neD q_102))) (fun hc => Option.some.inj (if_t q_108 hc)) (fun hc => by have ht := if_f q_108 hc; obtain ⟨v_103, q_104, ht⟩ := ob ht; obtain ⟨v_105, q_106, ht⟩ := ob ht; exact (y_tof (y_2 (y_cb (y_cons (x := D.int x_20) (y_var h_78) (y_cons (x := (e3 D.int (eL (e4 D.int D.int D.int D.int)) (eL (eX D.int))) (3, v_1.1, v_1.2)) (y_tup (y_cons (x := D.int 3) y_c (y_cons (x := (eL (e4 D.int D.int D.int D.int)) v_1.1) (y_var h_75) (y_cons (x := (eL (eX D.int)) v_1.2) (y_var h_76) y_nil))) (Nat.le_of_ble_eq_true rfl)) (y_cons (x := (e3 D.int D.int D.int) ((-1), 9, (-1))) (y_tup (y_cons (x := D.int (-1)) (y_1 y_c o_neg) (y_cons (x := D.int 9) y_c (y_cons (x := D.int (-1)) (y_1 y_c o_neg) y_nil))) (Nat.le_of_ble_eq_true rfl)) y_nil))) (y__law_error q_104)) (y_tup (y_cons y_c (y_cons (y_1 y_c o_neg) y_nil)) (Nat.le_of_ble_eq_true rfl)) (o_neD q_106))).trans (cgb (Option.some.inj ht)))) (fun hc => ?_) (fun hc => ?_)
      · have ht := if_t ht hc
        have ht := Option.some.inj ht
        subst ht
        refine sp_ret_seq y_c ?_
        exact (rfl : D.bl false = D.bl false)
      · have ht := if_f ht hc
        refine sp_seqn ?_
        refine sn_nx ?_
        obtain ⟨v_113, q_114, ht⟩ := ob ht
        refine sp_if (y_tandP (y_tof (y_2 (y_var h_78) y_c o_gt)) (fun hc => by have ht := if_t q_114 hc; obtain ⟨v_109, q_110, ht⟩ := ob ht; obtain ⟨v_111, q_112, ht⟩ := ob ht; exact (y_tof (y_2 (y_cb (y_cons (x := D.int x_20) (y_var h_78) (y_cons (x := (e3 D.int (eL (e4 D.int D.int D.int D.int)) (eL (eX D.int))) (3, v_1.1, v_1.2)) (y_tup (y_cons (x := D.int 3) y_c (y_cons (x := (eL (e4 D.int D.int D.int D.int)) v_1.1) (y_var h_75) (y_cons (x := (eL (eX D.int)) v_1.2) (y_var h_76) y_nil))) (Nat.le_of_ble_eq_true rfl)) (y_cons (x := (e3 D.int D.int D.int) (2, 9, (-1))) (y_tup (y_cons (x := D.int 2) y_c (y_cons (x := D.int 9) y_c (y_cons (x := D.int (-1)) (y_1 y_c o_neg) y_nil))) (Nat.le_of_ble_eq_true rfl)) y_nil))) (y__law_error q_110)) (y_tup (y_cons y_c (y_cons y_c y_nil)) (Nat.le_of_ble_eq_true rfl)) (o_neD q_112))).trans (cgb (Option.some.inj ht))) (fun hc => Option.some.inj (if_f q_114 hc))) (fun hc => ?_) (fun hc => ?_)
        · have ht := if_t ht hc
          have ht := Option.some.inj ht
          subst ht
          refine sp_ret y_c ?_
          exact (rfl : D.bl false = D.bl false)
        · have ht := if_f ht hc
          refine sp_nx ?_
          refine sn_nx ?_
          have ht := Option.some.inj ht
          subst ht
          exact ⟨n_74, (((((Fr.refl).more f_25 rfl).one c_30 rfl).one c_38 rfl).one c_51 rfl).one c_73 rfl⟩
  · subst h_117
    refine Or.inl ⟨_, rfl, ?_⟩
    obtain ⟨n_120, f_121⟩ := r_116
    have h_122 := f_121.at h_15 rfl
    have h_123 := f_121.at h_16 rfl
    have ht := sum_l ht
    refine sp_seqn ?_
    refine sn_par (ltn n_120 rfl) (ltn n_120 rfl) (y_lF (d := (eL (e4 D.int D.int D.int D.int)) []) (y_lst (y_klist (ds := List.map (e4 D.int D.int D.int D.int) []) y_nil (Nat.le_of_ble_eq_true rfl)))) (y_lF (d := (eL (eX D.int)) []) (y_lst (y_klist (ds := List.map (eX D.int) []) y_nil (Nat.le_of_ble_eq_true rfl)))) fun ev_124 ev_125 c_126 c_127 => ?_
    have n_128 := c_126.len.trans n_120
    have h_129 := c_126.at h_122 rfl
    have h_130 := c_126.at h_123 rfl
    have n_131 := c_127.len.trans n_128
    have h_132 := c_127.at h_129 rfl
    have h_133 := c_127.at h_130 rfl
    have h_134 := c_127.at c_126.here rfl
    refine sp_seqn ?_
    obtain ⟨s_135, q_136, ht⟩ := ob ht
    refine sn_for (e := D.int) (s := ([], [])) (fun (s_ : ((List (Int × Int × Int × Int)) × (List (List Int)))) (e_ : EV) => e_.length = 10 ∧ e_[5]? = some (.fro ((eL (e4 D.int D.int D.int D.int)) s_.1)) ∧ e_[6]? = some (.fro ((eL (eX D.int)) s_.2)) ∧ Fr [5, 6, 7] ev_125 e_) (y_r1 (y_cons (x := D.int 9) y_c y_nil) (by decide)) q_136 ⟨n_131, h_134, c_127.here, Fr.refl⟩ ?_ (fun ev_169 r_170 => ?_)
    · intro s_137 x_138 s_139 ev_140 r_141 ht
      unfold t__law_faults_b2 at ht
      obtain ⟨n_142, h_143, h_144, f_145⟩ := r_141
      refine tg_name (ltn n_142 rfl) fun ev_146 c_147 => ?_
      have n_148 := c_147.len.trans n_142
      have h_149 := c_147.at h_143 rfl
      have h_150 := c_147.at h_144 rfl
      refine sp_nx ?_
      obtain ⟨v_151, q_152, ht⟩ := ob ht
      obtain ⟨_, q_153, ht⟩ := ob ht; have q_153 := gd_of q_153
      obtain ⟨v_154, q_155, ht⟩ := ob ht
      obtain ⟨v_156, q_157, ht⟩ := ob ht
      obtain ⟨_, q_158, ht⟩ := ob ht; have q_158 := gd_of q_158
      obtain ⟨v_159, q_160, ht⟩ := ob ht
      refine sn_par (ltn n_148 rfl) (ltn n_148 rfl) (y_lF (d := (eL (e4 D.int D.int D.int D.int)) v_154) (Eq.trans (b := some ((eL (e4 D.int D.int D.int D.int)) (s_137.1 ++ [(x_138, (x_138 + 1), 1, 1), (x_138, (x_138 + 1), (1 + v_151), 1)]))) (y_lst (y_cat (xs := s_137.1) (ys := [(x_138, (x_138 + 1), 1, 1), (x_138, (x_138 + 1), (1 + v_151), 1)]) (e := (e4 D.int D.int D.int D.int)) (y_var h_149) (y_lst (y_klist (ds := List.map (e4 D.int D.int D.int D.int) [(x_138, (x_138 + 1), 1, 1), (x_138, (x_138 + 1), (1 + v_151), 1)]) (y_cons (x := (e4 D.int D.int D.int D.int) (x_138, (x_138 + 1), 1, 1)) (y_tup (y_cons (x := D.int x_138) (y_var c_147.here) (y_cons (x := D.int (x_138 + 1)) (y_2 (y_var c_147.here) y_c o_add) (y_cons (x := D.int 1) y_c (y_cons (x := D.int 1) y_c y_nil)))) (Nat.le_of_ble_eq_true rfl)) (y_cons (x := (e4 D.int D.int D.int D.int) (x_138, (x_138 + 1), (1 + v_151), 1)) (y_tup (y_cons (x := D.int x_138) (y_var c_147.here) (y_cons (x := D.int (x_138 + 1)) (y_2 (y_var c_147.here) y_c o_add) (y_cons (x := D.int (1 + v_151)) (y_2 y_c (y_cb (y_cons (x := D.int x_138) (y_var c_147.here) y_nil) (y__law_two q_152)) o_add) (y_cons (x := D.int 1) y_c y_nil)))) (Nat.le_of_ble_eq_true rfl)) y_nil)) (Nat.le_of_ble_eq_true rfl))) q_153)) (cg (Option.some.inj q_155)))) (y_lF (d := (eL (eX D.int)) v_159) (Eq.trans (b := some ((eL (eX D.int)) (s_137.2 ++ [[v_156, 0], [0, 0]]))) (y_lst (y_cat (xs := s_137.2) (ys := [[v_156, 0], [0, 0]]) (e := (eX D.int)) (y_var h_150) (y_lst (y_klist (ds := List.map (eX D.int) [[v_156, 0], [0, 0]]) (y_cons (x := (eX D.int) [v_156, 0]) (y_tup (y_cons (x := D.int v_156) (y_cb (y_cons (x := D.int x_138) (y_var c_147.here) y_nil) (y__law_two q_157)) (y_cons (x := D.int 0) y_c y_nil)) (Nat.le_of_ble_eq_true rfl)) (y_cons (x := (eX D.int) [0, 0]) (y_tup (y_cons (x := D.int 0) y_c (y_cons (x := D.int 0) y_c y_nil)) (Nat.le_of_ble_eq_true rfl)) y_nil)) (Nat.le_of_ble_eq_true rfl))) q_158)) (cg (Option.some.inj q_160)))) fun ev_161 ev_162 c_163 c_164 => ?_
      have n_165 := c_163.len.trans n_148
      have h_166 := c_163.at h_150 rfl
      have n_167 := c_164.len.trans n_165
      have h_168 := c_164.at c_163.here rfl
      have ht := Option.some.inj ht
      subst ht
      exact ⟨n_167, h_168, c_164.here, ((((Fr.refl).more f_145 rfl).one c_147 rfl).one c_163 rfl).one c_164 rfl⟩
    obtain ⟨n_171, h_172, h_173, f_174⟩ := r_170
    have h_175 := f_174.at h_132 rfl
    have h_176 := f_174.at h_133 rfl
    obtain ⟨v_177, q_178, ht⟩ := ob ht
    obtain ⟨v_179, q_180, ht⟩ := ob ht
    obtain ⟨v_183, q_184, ht⟩ := ob ht
    refine sp_if_seq (y_torP (y_tof (y_2 (y_cb (y_cons (x := D.int 0) y_c (y_cons (x := (e3 D.int (eL (e4 D.int D.int D.int D.int)) (eL (eX D.int))) (10, s_135.1, s_135.2)) (y_tup (y_cons (x := D.int 10) y_c (y_cons (x := (eL (e4 D.int D.int D.int D.int)) s_135.1) (y_var h_172) (y_cons (x := (eL (eX D.int)) s_135.2) (y_var h_173) y_nil))) (Nat.le_of_ble_eq_true rfl)) (y_cons (x := (e3 D.int D.int D.int) (9, 0, 0)) (y_tup (y_cons (x := D.int 9) y_c (y_cons (x := D.int 0) y_c (y_cons (x := D.int 0) y_c y_nil))) (Nat.le_of_ble_eq_true rfl)) y_nil))) (y__law_error q_178)) (y_tup (y_cons y_c (y_cons y_c y_nil)) (Nat.le_of_ble_eq_true rfl)) (o_neD q_180))) (fun hc => Option.some.inj (if_t q_184 hc)) (fun hc => by have ht := if_f q_184 hc; obtain ⟨v_181, q_182, ht⟩ := ob ht; exact (y_tof (y_2 (y_cb (y_cons (x := D.int 10) y_c (y_cons (x := (eL (e4 D.int D.int D.int D.int)) s_135.1) (y_var h_172) (y_cons (x := (eL (eX D.int)) s_135.2) (y_var h_173) (y_cons (x := D.int 9) y_c (y_cons (x := (eL (eL (e2 D.int D.int))) []) (y_lst (y_klist (ds := List.map (eL (e2 D.int D.int)) []) y_nil (Nat.le_of_ble_eq_true rfl))) y_nil))))) (yc_are_fronts q_182)) y_c o_isnotB)).trans (cgb (Option.some.inj ht)))) (fun hc => ?_) (fun hc => ?_)
    · have ht := if_t ht hc
      refine sp_ret_seq y_c ?_
      exact Or.inl (congrArg (fun z => Fl.rt (D.bl z)) (Option.some.inj ht))
    · have ht := if_f ht hc
      refine sp_seqn ?_
      refine sn_nx ?_
      obtain ⟨v_185, q_186, ht⟩ := ob ht
      obtain ⟨v_187, q_188, ht⟩ := ob ht
      obtain ⟨v_191, q_192, ht⟩ := ob ht
      refine sp_ret (y_andP (y_2 (y_cb (y_cons (x := D.int 2) y_c (y_cons (x := (e3 D.int (eL (e4 D.int D.int D.int D.int)) (eL (eX D.int))) (3, v_1.1, v_1.2)) (y_tup (y_cons (x := D.int 3) y_c (y_cons (x := (eL (e4 D.int D.int D.int D.int)) v_1.1) (y_var h_175) (y_cons (x := (eL (eX D.int)) v_1.2) (y_var h_176) y_nil))) (Nat.le_of_ble_eq_true rfl)) (y_cons (x := (e3 D.int D.int D.int) (0, 2, (-1))) (y_tup (y_cons (x := D.int 0) y_c (y_cons (x := D.int 2) y_c (y_cons (x := D.int (-1)) (y_1 y_c o_neg) y_nil))) (Nat.le_of_ble_eq_true rfl)) y_nil))) (y__law_error q_186)) (y_tup (y_cons y_c (y_cons (y_1 y_c o_neg) y_nil)) (Nat.le_of_ble_eq_true rfl)) (o_eqD q_188)) (fun hc => by have ht := if_t q_192 hc; obtain ⟨v_189, q_190, ht⟩ := ob ht; exact (y_2 (y_cb (y_cons (x := D.int 3) y_c (y_cons (x := (eL (e4 D.int D.int D.int D.int)) v_1.1) (y_var h_175) (y_cons (x := (eL (eX D.int)) v_1.2) (y_var h_176) (y_cons (x := D.int 0) y_c (y_cons (x := D.int 2) y_c (y_cons (x := D.int 5) y_c y_nil)))))) (yc_cheapest q_190)) (y_tup (y_cons (y_tup (y_cons y_c (y_cons y_c y_nil)) (Nat.le_of_ble_eq_true rfl)) (y_cons (y_lst (y_klist (ds := List.map (e2 D.int D.int) [(0, 0), (1, 0)]) (y_cons (x := (e2 D.int D.int) (0, 0)) (y_tup (y_cons (x := D.int 0) y_c (y_cons (x := D.int 0) y_c y_nil)) (Nat.le_of_ble_eq_true rfl)) (y_cons (x := (e2 D.int D.int) (1, 0)) (y_tup (y_cons (x := D.int 1) y_c (y_cons (x := D.int 0) y_c y_nil)) (Nat.le_of_ble_eq_true rfl)) y_nil)) (Nat.le_of_ble_eq_true rfl))) y_nil)) (Nat.le_of_ble_eq_true rfl)) (EE.oEq (EE.eO (EE.e2 (EE.e2 EE.int EE.int) (EE.list (EE.e2 EE.int EE.int))) (fun _ => rfl)) (Nat.le_of_ble_eq_true rfl) v_189 (some ((2, 5), [(0, 0), (1, 0)])))).trans (cg (Option.some.inj ht))) (fun hc => Option.some.inj (if_f q_192 hc))) ?_
      exact Or.inl (congrArg (fun z => Fl.rt (D.bl z)) (Option.some.inj ht))
  · subst h_117
    have ht := sum_r ht
    refine Or.inr ⟨fun _ h => (nomatch h), ?_⟩
    exact Or.inl (congrArg (fun z => Fl.rt (D.bl z)) (Option.some.inj ht))
/-! ### law -/
noncomputable def t_law_b1 (draws : (List Int)) (many : Int) (links : (List (Int × Int × Int × Int))) (minutes : (List (List Int))) (goal : Int) (walks : (List (List ((Int × Int) × (List (Int × Int)))))) (due : (List (List (Int × Int)))) (s_114 : Unit) (x_115 : Int) : Option (Cf Unit Bool) :=
  (t__law_mix draws (300 + (10 * x_115)) many).bind fun v_148 =>
  (atI due v_148).bind fun v_161 =>
  (atI due v_148).bind fun v_163 =>
  (atI due v_148).bind fun v_165 =>
  (t__law_mix draws ((300 + (10 * x_115)) + 1) (maxT 1 (List.length v_165 : Int))).bind fun v_167 =>
  (gd (List.length (Z.cutD v_161 none (some v_167)) + List.length (Z.cutD v_161 (some (v_167 + 1)) none) ≤ 16777216)).bind fun _ =>
  (gd (List.length v_161 + List.length [(99999, 0)] ≤ 16777216)).bind fun _ =>
  (gd (List.length v_161 ≤ 16777216)).bind fun _ =>
  (compT (fun (x_197 : (Int × Int)) => some (some (x_197.1, (x_197.2 + 1)))) v_161).bind fun v_206 =>
  (t__law_mix draws ((300 + (10 * x_115)) + 2) 5).bind fun v_208 =>
  (atI [((Z.cutD v_161 none (some v_167)) ++ (Z.cutD v_161 (some (v_167 + 1)) none)), (v_161 ++ [(99999, 0)]), (List.reverse v_161), v_206, [(0, 0)]] v_208).bind fun v_210 =>
  (gd (List.length (Z.cutD due none (some v_148)) + List.length [v_210] ≤ 16777216)).bind fun _ =>
  (gd (List.length ((Z.cutD due none (some v_148)) ++ [v_210]) + List.length (Z.cutD due (some (v_148 + 1)) none) ≤ 16777216)).bind fun _ =>
  (some (((Z.cutD due none (some v_148)) ++ [v_210]) ++ (Z.cutD due (some (v_148 + 1)) none))).bind fun v_226 =>
  (Option.bind (t_are_fronts many links minutes goal v_226) okR).bind fun v_239 =>
  (rpT (D.bl v_239)).bind fun v_241 =>
  (rpT (D.bl (decide (v_226 = due)))).bind fun v_243 =>
  (eqS v_241 v_243).bind fun v_245 =>
  (if (!v_245) = true then
    some (Cf.rt false)
  else
    (t__law_mix draws ((300 + (10 * x_115)) + 3) many).bind fun v_247 =>
    (t__law_mix draws ((300 + (10 * x_115)) + 5) 3).bind fun v_249 =>
    (atI [12, 60, 4000] v_249).bind fun v_251 =>
    (t__law_mix draws ((300 + (10 * x_115)) + 4) v_251).bind fun v_253 =>
    (Option.bind (t_cheapest many links minutes v_247 goal v_253) okR).bind fun v_276 =>
    (rpT ((eO (e2 (e2 D.int D.int) (eL (e2 D.int D.int)))) v_276)).bind fun v_278 =>
    (atI walks v_247).bind fun v_280 =>
    (t__law_cheapest v_280 v_253).bind fun v_282 =>
    (rpT ((eO (e2 (e2 D.int D.int) (eL (e2 D.int D.int)))) v_282)).bind fun v_284 =>
    (eqS v_278 v_284).bind fun v_286 =>
    (if (!v_286) = true then
      some (Cf.rt false)
    else
      (Option.bind (t_limits many links minutes v_247 goal) okR).bind fun v_288 =>
      (atI due v_247).bind fun v_290 =>
      (gd (List.length v_290 ≤ 16777216)).bind fun _ =>
      (compT (fun (x_293 : (Int × Int)) => some (some (x_293.2, x_293.1))) v_290).bind fun v_302 =>
      (if (!(decide (v_288 = (List.mergeSort v_302 (leE (e2 D.int D.int)))))) = true then
        some (Cf.rt false)
      else
        some (Cf.nx ())
      )
    )
  )
noncomputable def t_law (script : (List Int)) : Option Bool :=
  (t__law_draws script).bind fun v_1 =>
  (t__law_doubled v_1 10).bind fun v_6 =>
  (t__law_minutes v_1 100 v_6.2).bind fun v_17 =>
  (t__law_mix v_1 1 v_6.1).bind fun v_19 =>
  (rpT ((e2 (eL (e4 D.int D.int D.int D.int)) (eL (eX D.int))) (v_6.2, (v_17, v_19).1))).bind fun v_34 =>
  (gd (r62 v_6.1)).bind fun _ =>
  (gd (List.length (rangeT 0 v_6.1) ≤ 16777216)).bind fun _ =>
  (compT (fun (x_46 : Int) => (t__law_walks v_6.1 v_6.2 (v_17, v_19).1 x_46 (v_17, v_19).2).bind fun v_63 => some (some v_63)) (rangeT 0 v_6.1)).bind fun v_65 =>
  (gd (List.length v_65 ≤ 16777216)).bind fun _ =>
  (compT (fun (x_77 : (List ((Int × Int) × (List (Int × Int))))) => (t__law_front x_77).bind fun v_86 => some (some v_86)) v_65).bind fun v_88 =>
  (Option.bind (t_fronts v_6.1 v_6.2 (v_17, v_19).1 (v_17, v_19).2) okR).bind fun v_100 =>
  (rpT ((eL (eL (e2 D.int D.int))) v_100)).bind fun v_102 =>
  (rpT ((eL (eL (e2 D.int D.int))) v_88)).bind fun v_104 =>
  (eqS v_102 v_104).bind fun v_106 =>
  (if (!v_106) = true then some true else ((Option.bind (t_are_fronts v_6.1 v_6.2 (v_17, v_19).1 (v_17, v_19).2 v_88) okR).bind fun v_108 => some (!decide (v_108 = true)))).bind fun v_110 =>
  (if v_110 = true then
    some false
  else
    (forR (t_law_b1 v_1 v_6.1 v_6.2 (v_17, v_19).1 (v_17, v_19).2 v_65 v_88) (rangeT 0 5) ()).bind fun o_112 =>
    elimT o_112 (fun s_307 =>
      (t__law_faults).bind fun v_314 =>
      (if v_314 = true then ((rpT ((e2 (eL (e4 D.int D.int D.int D.int)) (eL (eX D.int))) (v_6.2, (v_17, v_19).1))).bind fun v_316 => (eqS v_316 v_34).bind fun v_318 => some v_318) else some false).bind fun v_320 =>
      some v_320
    ) (fun v_308 => some v_308)
  )
theorem y_law {script : (List Int)} {r_0 : Bool} (ht : t_law script = some r_0) : m_law [D.scr script] = some (D.bl r_0) := by
  unfold t_law at ht
  refine y_fn (er := D.bl) rfl ?_
  obtain ⟨ev_0, he⟩ : ∃ e, evStart [D.scr script] 19 = e := ⟨_, rfl⟩
  rw [he]
  have n_0 : ev_0.length = 20 := by rw [← he]; rfl
  have h_0_0 : ev_0[0]? = some (.fro (D.scr script)) := by rw [← he]; rfl
  clear he
  refine sp_seqn ?_
  obtain ⟨v_1, q_2, ht⟩ := ob ht
  refine sn_set (ltn n_0 rfl) (y_lF (d := (eL D.int) v_1) (y_cb (y_cons (x := D.scr script) (y_var h_0_0) y_nil) (y__law_draws q_2))) fun ev_3 c_4 => ?_
  have n_5 := c_4.len.trans n_0
  refine sp_seqn ?_
  obtain ⟨v_6, q_7, ht⟩ := ob ht
  refine sn_asg (d := (e2 D.int (eL (e4 D.int D.int D.int D.int))) v_6) (y_cb (y_cons (x := (eL D.int) v_1) (y_var c_4.here) (y_cons (x := D.int 10) y_c y_nil)) (y__law_doubled q_7)) ?_
  refine tg_tup (ds := [D.int v_6.1, (eL (e4 D.int D.int D.int D.int)) v_6.2]) ?_
  refine tgs_cons ?_
  refine tg_name (ltn n_5 rfl) fun ev_8 c_9 => ?_
  have n_10 := c_9.len.trans n_5
  have h_11 := c_9.at c_4.here rfl
  refine tgs_cons ?_
  refine tg_name (ltn n_10 rfl) fun ev_12 c_13 => ?_
  have n_14 := c_13.len.trans n_10
  have h_15 := c_13.at h_11 rfl
  have h_16 := c_13.at c_9.here rfl
  refine tgs_nil ?_
  refine sp_seqn ?_
  obtain ⟨v_17, q_18, ht⟩ := ob ht
  obtain ⟨v_19, q_20, ht⟩ := ob ht
  refine sn_asg (d := (e2 (eL (eX D.int)) D.int) (v_17, v_19)) (y_tup (y_cons (y_cb (y_cons (x := (eL D.int) v_1) (y_var h_15) (y_cons (x := D.int 100) y_c (y_cons (x := (eL (e4 D.int D.int D.int D.int)) v_6.2) (y_var c_13.here) y_nil))) (y__law_minutes q_18)) (y_cons (y_cb (y_cons (x := (eL D.int) v_1) (y_var h_15) (y_cons (x := D.int 1) y_c (y_cons (x := D.int v_6.1) (y_var h_16) y_nil))) (y__law_mix q_20)) y_nil)) (Nat.le_of_ble_eq_true rfl)) ?_
  refine tg_tup (ds := [(eL (eX D.int)) (v_17, v_19).1, D.int (v_17, v_19).2]) ?_
  refine tgs_cons ?_
  refine tg_name (ltn n_14 rfl) fun ev_21 c_22 => ?_
  have n_23 := c_22.len.trans n_14
  have h_24 := c_22.at h_15 rfl
  have h_25 := c_22.at h_16 rfl
  have h_26 := c_22.at c_13.here rfl
  refine tgs_cons ?_
  refine tg_name (ltn n_23 rfl) fun ev_27 c_28 => ?_
  have n_29 := c_28.len.trans n_23
  have h_30 := c_28.at h_24 rfl
  have h_31 := c_28.at h_25 rfl
  have h_32 := c_28.at h_26 rfl
  have h_33 := c_28.at c_22.here rfl
  refine tgs_nil ?_
  refine sp_seqn ?_
  obtain ⟨v_34, q_35, ht⟩ := ob ht
  refine sn_set (ltn n_29 rfl) (y_lF (d := D.str v_34) (y_cb (y_cons (y_tup (y_cons (y_var h_32) (y_cons (y_var h_33) y_nil)) (Nat.le_of_ble_eq_true rfl)) y_nil) (b_repr q_35))) fun ev_36 c_37 => ?_
  have n_38 := c_37.len.trans n_29
  have h_39 := c_37.at h_30 rfl
  have h_40 := c_37.at h_31 rfl
  have h_41 := c_37.at h_32 rfl
  have h_42 := c_37.at h_33 rfl
  have h_43 := c_37.at c_28.here rfl
  refine sp_seqn ?_
  obtain ⟨_, q_44, ht⟩ := ob ht; have q_44 := gd_of q_44
  obtain ⟨_, q_45, ht⟩ := ob ht; have q_45 := gd_of q_45
  obtain ⟨v_65, q_66, ht⟩ := ob ht
  refine sn_set (ltn n_38 rfl) (y_lF (d := (eL (eL (e2 (e2 D.int D.int) (eL (e2 D.int D.int))))) v_65) (y_lst (y_comp (e := D.int) (e' := (eL (e2 (e2 D.int D.int) (eL (e2 D.int D.int))))) (y_r1 (y_cons (x := D.int v_6.1) (y_var h_40) y_nil) q_44) q_45 q_66 (fun x_46 r_47 w_48 n_49 f_50 ht => by have n_51 := n_49.trans n_38; have h_52 := f_50.at h_40 rfl; have h_53 := f_50.at h_41 rfl; have h_54 := f_50.at h_42 rfl; have h_55 := f_50.at h_43 rfl; refine tg_name (ltn n_51 rfl) fun ev_56 c_57 => ?_; have n_58 := c_57.len.trans n_51; have h_59 := c_57.at h_52 rfl; have h_60 := c_57.at h_53 rfl; have h_61 := c_57.at h_54 rfl; have h_62 := c_57.at h_55 rfl; obtain ⟨v_63, q_64, ht⟩ := ob ht; exact ⟨true, rfl, (fun _ => ce_t (e' := (eL (e2 (e2 D.int D.int) (eL (e2 D.int D.int))))) (y := v_63) (y_cb (y_cons (x := D.int v_6.1) (y_var h_59) (y_cons (x := (eL (e4 D.int D.int D.int D.int)) v_6.2) (y_var h_60) (y_cons (x := (eL (eX D.int)) (v_17, v_19).1) (y_var h_61) (y_cons (x := D.int x_46) (y_var c_57.here) (y_cons (x := D.int (v_17, v_19).2) (y_var h_62) y_nil))))) (y__law_walks q_64)) ht), (fun h => nomatch h)⟩)))) fun ev_67 c_68 => ?_
  have n_69 := c_68.len.trans n_38
  have h_70 := c_68.at h_39 rfl
  have h_71 := c_68.at h_40 rfl
  have h_72 := c_68.at h_41 rfl
  have h_73 := c_68.at h_42 rfl
  have h_74 := c_68.at h_43 rfl
  have h_75 := c_68.at c_37.here rfl
  refine sp_seqn ?_
  obtain ⟨_, q_76, ht⟩ := ob ht; have q_76 := gd_of q_76
  obtain ⟨v_88, q_89, ht⟩ := ob ht
  refine sn_set (ltn n_69 rfl) (y_lF (d := (eL (eL (e2 D.int D.int))) v_88) (y_lst (y_comp (e := (eL (e2 (e2 D.int D.int) (eL (e2 D.int D.int))))) (e' := (eL (e2 D.int D.int))) (y_iL (y_var c_68.here)) q_76 q_89 (fun x_77 r_78 w_79 n_80 f_81 ht => by have n_82 := n_80.trans n_69; refine tg_name (ltn n_82 rfl) fun ev_83 c_84 => ?_; have n_85 := c_84.len.trans n_82; obtain ⟨v_86, q_87, ht⟩ := ob ht; exact ⟨true, rfl, (fun _ => ce_t (e' := (eL (e2 D.int D.int))) (y := v_86) (y_cb (y_cons (x := (eL (e2 (e2 D.int D.int) (eL (e2 D.int D.int)))) x_77) (y_var c_84.here) y_nil) (y__law_front q_87)) ht), (fun h => nomatch h)⟩)))) fun ev_90 c_91 => ?_
  have n_92 := c_91.len.trans n_69
  have h_93 := c_91.at h_70 rfl
  have h_94 := c_91.at h_71 rfl
  have h_95 := c_91.at h_72 rfl
  have h_96 := c_91.at h_73 rfl
  have h_97 := c_91.at h_74 rfl
  have h_98 := c_91.at h_75 rfl
  have h_99 := c_91.at c_68.here rfl
  obtain ⟨v_100, q_101, ht⟩ := ob ht
  obtain ⟨v_102, q_103, ht⟩ := ob ht
  obtain ⟨v_104, q_105, ht⟩ := ob ht
  obtain ⟨v_106, q_107, ht⟩ := ob ht
  obtain ⟨v_110, q_111, ht⟩ := ob ht
  refine sp_if_seq (y_torP (y_tof (y_2 (y_cb (y_cons (y_cb (y_cons (x := D.int v_6.1) (y_var h_94) (y_cons (x := (eL (e4 D.int D.int D.int D.int)) v_6.2) (y_var h_95) (y_cons (x := (eL (eX D.int)) (v_17, v_19).1) (y_var h_96) (y_cons (x := D.int (v_17, v_19).2) (y_var h_97) y_nil)))) (yc_fronts q_101)) y_nil) (b_repr q_103)) (y_cb (y_cons (y_var c_91.here) y_nil) (b_repr q_105)) (o_neS q_107))) (fun hc => Option.some.inj (if_t q_111 hc)) (fun hc => by have ht := if_f q_111 hc; obtain ⟨v_108, q_109, ht⟩ := ob ht; exact (y_tof (y_2 (y_cb (y_cons (x := D.int v_6.1) (y_var h_94) (y_cons (x := (eL (e4 D.int D.int D.int D.int)) v_6.2) (y_var h_95) (y_cons (x := (eL (eX D.int)) (v_17, v_19).1) (y_var h_96) (y_cons (x := D.int (v_17, v_19).2) (y_var h_97) (y_cons (x := (eL (eL (e2 D.int D.int))) v_88) (y_var c_91.here) y_nil))))) (yc_are_fronts q_109)) y_c o_isnotB)).trans (cgb (Option.some.inj ht)))) (fun hc => ?_) (fun hc => ?_)
  · have ht := if_t ht hc
    refine sp_ret_seq y_c ?_
    exact Or.inl (congrArg (fun z => Fl.rt (D.bl z)) (Option.some.inj ht))
  · have ht := if_f ht hc
    refine sp_seqn ?_
    refine sn_nx ?_
    obtain ⟨o_112, q_113, ht⟩ := ob ht
    refine sp_seq ?_
    refine sp_for (e := D.int) (s := ()) (fun (s_ : Unit) (e_ : EV) => e_.length = 20 ∧ Fr [9, 10, 11, 12, 13, 14, 15, 16, 17] ev_90 e_) D.bl (y_r1 (y_cons (x := D.int 5) y_c y_nil) (by decide)) q_113 ⟨n_92, Fr.refl⟩ ?_ (fun s_307 ev_304 h_306 r_305 => ?_) (fun v_308 h_306 => ?_)
    · intro s_114 x_115 s_116 ev_117 r_118 ht
      unfold t_law_b1 at ht
      obtain ⟨n_119, f_120⟩ := r_118
      have h_121 := f_120.at h_93 rfl
      have h_122 := f_120.at h_94 rfl
      have h_123 := f_120.at h_95 rfl
      have h_124 := f_120.at h_96 rfl
      have h_125 := f_120.at h_97 rfl
      have h_126 := f_120.at h_99 rfl
      have h_127 := f_120.at c_91.here rfl
      refine tg_name (ltn n_119 rfl) fun ev_128 c_129 => ?_
      have n_130 := c_129.len.trans n_119
      have h_131 := c_129.at h_121 rfl
      have h_132 := c_129.at h_122 rfl
      have h_133 := c_129.at h_123 rfl
      have h_134 := c_129.at h_124 rfl
      have h_135 := c_129.at h_125 rfl
      have h_136 := c_129.at h_126 rfl
      have h_137 := c_129.at h_127 rfl
      refine sp_seqn ?_
      refine sn_set (ltn n_130 rfl) (y_lF (d := D.int (300 + (10 * x_115))) (y_2 y_c (y_2 y_c (y_var c_129.here) (o_mulL (by decide))) o_add)) fun ev_138 c_139 => ?_
      have n_140 := c_139.len.trans n_130
      have h_141 := c_139.at h_131 rfl
      have h_142 := c_139.at h_132 rfl
      have h_143 := c_139.at h_133 rfl
      have h_144 := c_139.at h_134 rfl
      have h_145 := c_139.at h_135 rfl
      have h_146 := c_139.at h_136 rfl
      have h_147 := c_139.at h_137 rfl
      refine sp_seqn ?_
      obtain ⟨v_148, q_149, ht⟩ := ob ht
      refine sn_set (ltn n_140 rfl) (y_lF (d := D.int v_148) (y_cb (y_cons (x := (eL D.int) v_1) (y_var h_141) (y_cons (x := D.int (300 + (10 * x_115))) (y_var c_139.here) (y_cons (x := D.int v_6.1) (y_var h_142) y_nil))) (y__law_mix q_149))) fun ev_150 c_151 => ?_
      have n_152 := c_151.len.trans n_140
      have h_153 := c_151.at h_141 rfl
      have h_154 := c_151.at h_142 rfl
      have h_155 := c_151.at h_143 rfl
      have h_156 := c_151.at h_144 rfl
      have h_157 := c_151.at h_145 rfl
      have h_158 := c_151.at h_146 rfl
      have h_159 := c_151.at h_147 rfl
      have h_160 := c_151.at c_139.here rfl
      refine sp_seqn ?_
      obtain ⟨v_161, q_162, ht⟩ := ob ht
      obtain ⟨v_163, q_164, ht⟩ := ob ht
      obtain ⟨v_165, q_166, ht⟩ := ob ht
      obtain ⟨v_167, q_168, ht⟩ := ob ht
      refine sn_par (ltn n_152 rfl) (ltn n_152 rfl) (y_lF (d := (eL (e2 D.int D.int)) v_161) (y_2 (y_var h_159) (y_var c_151.here) (o_ixl q_162))) (y_lF (d := D.int v_167) (y_cb (y_cons (x := (eL D.int) v_1) (y_var h_153) (y_cons (x := D.int ((300 + (10 * x_115)) + 1)) (y_2 (y_var h_160) y_c o_add) (y_cons (x := D.int (maxT 1 (List.length v_165 : Int))) (y_cb (y_cons (x := D.int 1) y_c (y_cons (x := D.int (List.length v_165 : Int)) (y_cb (y_cons (y_2 (y_var h_159) (y_var c_151.here) (o_ixl q_166)) y_nil) b_len) y_nil)) b_max) y_nil))) (y__law_mix q_168))) fun ev_169 ev_170 c_171 c_172 => ?_
      have n_173 := c_171.len.trans n_152
      have h_174 := c_171.at h_153 rfl
      have h_175 := c_171.at h_154 rfl
      have h_176 := c_171.at h_155 rfl
      have h_177 := c_171.at h_156 rfl
      have h_178 := c_171.at h_157 rfl
      have h_179 := c_171.at h_158 rfl
      have h_180 := c_171.at h_159 rfl
      have h_181 := c_171.at h_160 rfl
      have h_182 := c_171.at c_151.here rfl
      have n_183 := c_172.len.trans n_173
      have h_184 := c_172.at h_174 rfl
      have h_185 := c_172.at h_175 rfl
      have h_186 := c_172.at h_176 rfl
      have h_187 := c_172.at h_177 rfl
      have h_188 := c_172.at h_178 rfl
      have h_189 := c_172.at h_179 rfl
      have h_190 := c_172.at h_180 rfl
      have h_191 := c_172.at h_181 rfl
      have h_192 := c_172.at h_182 rfl
      have h_193 := c_172.at c_171.here rfl
      refine sp_seqn ?_
      obtain ⟨_, q_194, ht⟩ := ob ht; have q_194 := gd_of q_194
      obtain ⟨_, q_195, ht⟩ := ob ht; have q_195 := gd_of q_195
      obtain ⟨_, q_196, ht⟩ := ob ht; have q_196 := gd_of q_196
      obtain ⟨v_206, q_207, ht⟩ := ob ht
      obtain ⟨v_208, q_209, ht⟩ := ob ht
      obtain ⟨v_210, q_211, ht⟩ := ob ht
      refine sn_set (ltn n_183 rfl) (y_lF (d := (eL (e2 D.int D.int)) v_210) (y_2 (y_lst (y_klist (ds := List.map (eL (e2 D.int D.int)) [((Z.cutD v_161 none (some v_167)) ++ (Z.cutD v_161 (some (v_167 + 1)) none)), (v_161 ++ [(99999, 0)]), (List.reverse v_161), v_206, [(0, 0)]]) (y_cons (x := (eL (e2 D.int D.int)) ((Z.cutD v_161 none (some v_167)) ++ (Z.cutD v_161 (some (v_167 + 1)) none))) (y_lst (y_cat (xs := (Z.cutD v_161 none (some v_167))) (ys := (Z.cutD v_161 (some (v_167 + 1)) none)) (e := (e2 D.int D.int)) (y_lst (y_sl (y_var h_193) y_pno (y_pat (y_var c_172.here)))) (y_lst (y_sl (y_var h_193) (y_pat (y_2 (y_var c_172.here) y_c o_add)) y_pno)) q_194)) (y_cons (x := (eL (e2 D.int D.int)) (v_161 ++ [(99999, 0)])) (y_lst (y_cat (xs := v_161) (ys := [(99999, 0)]) (e := (e2 D.int D.int)) (y_var h_193) (y_lst (y_klist (ds := List.map (e2 D.int D.int) [(99999, 0)]) (y_cons (x := (e2 D.int D.int) (99999, 0)) (y_tup (y_cons (x := D.int 99999) y_c (y_cons (x := D.int 0) y_c y_nil)) (Nat.le_of_ble_eq_true rfl)) y_nil) (Nat.le_of_ble_eq_true rfl))) q_195)) (y_cons (x := (eL (e2 D.int D.int)) (List.reverse v_161)) (y_lst (y_rev (y_var h_193))) (y_cons (x := (eL (e2 D.int D.int)) v_206) (y_lst (y_comp (e := (e2 D.int D.int)) (e' := (e2 D.int D.int)) (y_iL (y_var h_193)) q_196 q_207 (fun x_197 r_198 w_199 n_200 f_201 ht => by have n_202 := n_200.trans n_183; refine tg_name (ltn n_202 rfl) fun ev_203 c_204 => ?_; have n_205 := c_204.len.trans n_202; exact ⟨true, rfl, (fun _ => ce_t (e' := (e2 D.int D.int)) (y := (x_197.1, (x_197.2 + 1))) (y_tup (y_cons (x := D.int x_197.1) (y_2 (y_var c_204.here) y_c (o_ixt (j := 0) (ds := [D.int x_197.1, D.int x_197.2]) (by rfl))) (y_cons (x := D.int (x_197.2 + 1)) (y_2 (y_2 (y_var c_204.here) y_c (o_ixt (j := 1) (ds := [D.int x_197.1, D.int x_197.2]) (by rfl))) y_c o_add) y_nil)) (Nat.le_of_ble_eq_true rfl)) ht), (fun h => nomatch h)⟩))) (y_cons (x := (eL (e2 D.int D.int)) [(0, 0)]) (y_lst (y_klist (ds := List.map (e2 D.int D.int) [(0, 0)]) (y_cons (x := (e2 D.int D.int) (0, 0)) (y_tup (y_cons (x := D.int 0) y_c (y_cons (x := D.int 0) y_c y_nil)) (Nat.le_of_ble_eq_true rfl)) y_nil) (Nat.le_of_ble_eq_true rfl))) y_nil))))) (Nat.le_of_ble_eq_true rfl))) (y_cb (y_cons (x := (eL D.int) v_1) (y_var h_184) (y_cons (x := D.int ((300 + (10 * x_115)) + 2)) (y_2 (y_var h_191) y_c o_add) (y_cons (x := D.int 5) y_c y_nil))) (y__law_mix q_209)) (o_ixl q_211))) fun ev_212 c_213 => ?_
      have n_214 := c_213.len.trans n_183
      have h_215 := c_213.at h_184 rfl
      have h_216 := c_213.at h_185 rfl
      have h_217 := c_213.at h_186 rfl
      have h_218 := c_213.at h_187 rfl
      have h_219 := c_213.at h_188 rfl
      have h_220 := c_213.at h_189 rfl
      have h_221 := c_213.at h_190 rfl
      have h_222 := c_213.at h_191 rfl
      have h_223 := c_213.at h_192 rfl
      refine sp_seqn ?_
      obtain ⟨_, q_224, ht⟩ := ob ht; have q_224 := gd_of q_224
      obtain ⟨_, q_225, ht⟩ := ob ht; have q_225 := gd_of q_225
      obtain ⟨v_226, q_227, ht⟩ := ob ht
      refine sn_set (ltn n_214 rfl) (y_lF (d := (eL (eL (e2 D.int D.int))) v_226) (Eq.trans (b := some ((eL (eL (e2 D.int D.int))) (((Z.cutD v_88 none (some v_148)) ++ [v_210]) ++ (Z.cutD v_88 (some (v_148 + 1)) none)))) (y_lst (y_cat (xs := ((Z.cutD v_88 none (some v_148)) ++ [v_210])) (ys := (Z.cutD v_88 (some (v_148 + 1)) none)) (e := (eL (e2 D.int D.int))) (y_lst (y_cat (xs := (Z.cutD v_88 none (some v_148))) (ys := [v_210]) (e := (eL (e2 D.int D.int))) (y_lst (y_sl (y_var h_221) y_pno (y_pat (y_var h_223)))) (y_lst (y_klist (ds := List.map (eL (e2 D.int D.int)) [v_210]) (y_cons (x := (eL (e2 D.int D.int)) v_210) (y_var c_213.here) y_nil) (Nat.le_of_ble_eq_true rfl))) q_224)) (y_lst (y_sl (y_var h_221) (y_pat (y_2 (y_var h_223) y_c o_add)) y_pno)) q_225)) (cg (Option.some.inj q_227)))) fun ev_228 c_229 => ?_
      have n_230 := c_229.len.trans n_214
      have h_231 := c_229.at h_215 rfl
      have h_232 := c_229.at h_216 rfl
      have h_233 := c_229.at h_217 rfl
      have h_234 := c_229.at h_218 rfl
      have h_235 := c_229.at h_219 rfl
      have h_236 := c_229.at h_220 rfl
      have h_237 := c_229.at h_221 rfl
      have h_238 := c_229.at h_222 rfl
      obtain ⟨v_239, q_240, ht⟩ := ob ht
      obtain ⟨v_241, q_242, ht⟩ := ob ht
      obtain ⟨v_243, q_244, ht⟩ := ob ht
      obtain ⟨v_245, q_246, ht⟩ := ob ht
      refine sp_if_seq (y_tof (y_2 (y_cb (y_cons (y_cb (y_cons (x := D.int v_6.1) (y_var h_232) (y_cons (x := (eL (e4 D.int D.int D.int D.int)) v_6.2) (y_var h_233) (y_cons (x := (eL (eX D.int)) (v_17, v_19).1) (y_var h_234) (y_cons (x := D.int (v_17, v_19).2) (y_var h_235) (y_cons (x := (eL (eL (e2 D.int D.int))) v_226) (y_var c_229.here) y_nil))))) (yc_are_fronts q_240)) y_nil) (b_repr q_242)) (y_cb (y_cons (y_2 (y_var c_229.here) (y_var h_237) (EE.oEq (EE.list (EE.list (EE.e2 EE.int EE.int))) (Nat.le_of_ble_eq_true rfl) v_226 v_88)) y_nil) (b_repr q_244)) (o_neS q_246))) (fun hc => ?_) (fun hc => ?_)
      · have ht := if_t ht hc
        have ht := Option.some.inj ht
        subst ht
        refine sp_ret_seq y_c ?_
        exact (rfl : D.bl false = D.bl false)
      · have ht := if_f ht hc
        refine sp_seqn ?_
        refine sn_nx ?_
        refine sp_seqn ?_
        obtain ⟨v_247, q_248, ht⟩ := ob ht
        obtain ⟨v_249, q_250, ht⟩ := ob ht
        obtain ⟨v_251, q_252, ht⟩ := ob ht
        obtain ⟨v_253, q_254, ht⟩ := ob ht
        refine sn_par (ltn n_230 rfl) (ltn n_230 rfl) (y_lF (d := D.int v_247) (y_cb (y_cons (x := (eL D.int) v_1) (y_var h_231) (y_cons (x := D.int ((300 + (10 * x_115)) + 3)) (y_2 (y_var h_238) y_c o_add) (y_cons (x := D.int v_6.1) (y_var h_232) y_nil))) (y__law_mix q_248))) (y_lF (d := D.int v_253) (y_cb (y_cons (x := (eL D.int) v_1) (y_var h_231) (y_cons (x := D.int ((300 + (10 * x_115)) + 4)) (y_2 (y_var h_238) y_c o_add) (y_cons (x := D.int v_251) (y_2 (y_lst (y_klist (ds := List.map D.int [12, 60, 4000]) (y_cons (x := D.int 12) y_c (y_cons (x := D.int 60) y_c (y_cons (x := D.int 4000) y_c y_nil))) (Nat.le_of_ble_eq_true rfl))) (y_cb (y_cons (x := (eL D.int) v_1) (y_var h_231) (y_cons (x := D.int ((300 + (10 * x_115)) + 5)) (y_2 (y_var h_238) y_c o_add) (y_cons (x := D.int 3) y_c y_nil))) (y__law_mix q_250)) (o_ixl q_252)) y_nil))) (y__law_mix q_254))) fun ev_255 ev_256 c_257 c_258 => ?_
        have n_259 := c_257.len.trans n_230
        have h_260 := c_257.at h_231 rfl
        have h_261 := c_257.at h_232 rfl
        have h_262 := c_257.at h_233 rfl
        have h_263 := c_257.at h_234 rfl
        have h_264 := c_257.at h_235 rfl
        have h_265 := c_257.at h_236 rfl
        have h_266 := c_257.at h_237 rfl
        have n_267 := c_258.len.trans n_259
        have h_268 := c_258.at h_260 rfl
        have h_269 := c_258.at h_261 rfl
        have h_270 := c_258.at h_262 rfl
        have h_271 := c_258.at h_263 rfl
        have h_272 := c_258.at h_264 rfl
        have h_273 := c_258.at h_265 rfl
        have h_274 := c_258.at h_266 rfl
        have h_275 := c_258.at c_257.here rfl
        obtain ⟨v_276, q_277, ht⟩ := ob ht
        obtain ⟨v_278, q_279, ht⟩ := ob ht
        obtain ⟨v_280, q_281, ht⟩ := ob ht
        obtain ⟨v_282, q_283, ht⟩ := ob ht
        obtain ⟨v_284, q_285, ht⟩ := ob ht
        obtain ⟨v_286, q_287, ht⟩ := ob ht
        refine sp_if_seq (y_tof (y_2 (y_cb (y_cons (y_cb (y_cons (x := D.int v_6.1) (y_var h_269) (y_cons (x := (eL (e4 D.int D.int D.int D.int)) v_6.2) (y_var h_270) (y_cons (x := (eL (eX D.int)) (v_17, v_19).1) (y_var h_271) (y_cons (x := D.int v_247) (y_var h_275) (y_cons (x := D.int (v_17, v_19).2) (y_var h_272) (y_cons (x := D.int v_253) (y_var c_258.here) y_nil)))))) (yc_cheapest q_277)) y_nil) (b_repr q_279)) (y_cb (y_cons (y_cb (y_cons (x := (eL (e2 (e2 D.int D.int) (eL (e2 D.int D.int)))) v_280) (y_2 (y_var h_273) (y_var h_275) (o_ixl q_281)) (y_cons (x := D.int v_253) (y_var c_258.here) y_nil)) (y__law_cheapest q_283)) y_nil) (b_repr q_285)) (o_neS q_287))) (fun hc => ?_) (fun hc => ?_)
        · have ht := if_t ht hc
          have ht := Option.some.inj ht
          subst ht
          refine sp_ret_seq y_c ?_
          exact (rfl : D.bl false = D.bl false)
        · have ht := if_f ht hc
          refine sp_seqn ?_
          refine sn_nx ?_
          obtain ⟨v_288, q_289, ht⟩ := ob ht
          obtain ⟨v_290, q_291, ht⟩ := ob ht
          obtain ⟨_, q_292, ht⟩ := ob ht; have q_292 := gd_of q_292
          obtain ⟨v_302, q_303, ht⟩ := ob ht
          refine sp_if (y_tof (y_2 (y_cb (y_cons (x := D.int v_6.1) (y_var h_269) (y_cons (x := (eL (e4 D.int D.int D.int D.int)) v_6.2) (y_var h_270) (y_cons (x := (eL (eX D.int)) (v_17, v_19).1) (y_var h_271) (y_cons (x := D.int v_247) (y_var h_275) (y_cons (x := D.int (v_17, v_19).2) (y_var h_272) y_nil))))) (yc_limits q_289)) (y_lst (y_sort (y_cons (y_lst (y_comp (e := (e2 D.int D.int)) (e' := (e2 D.int D.int)) (y_iL (y_2 (y_var h_274) (y_var h_275) (o_ixl q_291))) q_292 q_303 (fun x_293 r_294 w_295 n_296 f_297 ht => by have n_298 := n_296.trans n_267; refine tg_name (ltn n_298 rfl) fun ev_299 c_300 => ?_; have n_301 := c_300.len.trans n_298; exact ⟨true, rfl, (fun _ => ce_t (e' := (e2 D.int D.int)) (y := (x_293.2, x_293.1)) (y_tup (y_cons (y_2 (y_var c_300.here) y_c (o_ixt (j := 1) (ds := [D.int x_293.1, D.int x_293.2]) (by rfl))) (y_cons (y_2 (y_var c_300.here) y_c (o_ixt (j := 0) (ds := [D.int x_293.1, D.int x_293.2]) (by rfl))) y_nil)) (Nat.le_of_ble_eq_true rfl)) ht), (fun h => nomatch h)⟩))) y_nil) (alk_pair v_302))) (EE.oNe (EE.list (EE.e2 EE.int EE.int)) (Nat.le_of_ble_eq_true rfl) v_288 (List.mergeSort v_302 (leE (e2 D.int D.int)))))) (fun hc => ?_) (fun hc => ?_)
          · have ht := if_t ht hc
            have ht := Option.some.inj ht
            subst ht
            refine sp_ret y_c ?_
            exact (rfl : D.bl false = D.bl false)
          · have ht := if_f ht hc
            refine sp_nx ?_
            refine sn_nx ?_
            have ht := Option.some.inj ht
            subst ht
            exact ⟨n_267, ((((((((((Fr.refl).more f_120 rfl).one c_129 rfl).one c_139 rfl).one c_151 rfl).one c_171 rfl).one c_172 rfl).one c_213 rfl).one c_229 rfl).one c_257 rfl).one c_258 rfl⟩
    · subst h_306
      refine Or.inl ⟨_, rfl, ?_⟩
      obtain ⟨n_309, f_310⟩ := r_305
      have h_311 := f_310.at h_95 rfl
      have h_312 := f_310.at h_96 rfl
      have h_313 := f_310.at h_98 rfl
      have ht := sum_l ht
      obtain ⟨v_314, q_315, ht⟩ := ob ht
      obtain ⟨v_320, q_321, ht⟩ := ob ht
      refine sp_ret (y_andP (y_cb y_nil (y__law_faults q_315)) (fun hc => by have ht := if_t q_321 hc; obtain ⟨v_316, q_317, ht⟩ := ob ht; obtain ⟨v_318, q_319, ht⟩ := ob ht; exact (y_2 (y_cb (y_cons (y_tup (y_cons (y_var h_311) (y_cons (y_var h_312) y_nil)) (Nat.le_of_ble_eq_true rfl)) y_nil) (b_repr q_317)) (y_var h_313) (o_eqS q_319)).trans (cg (Option.some.inj ht))) (fun hc => Option.some.inj (if_f q_321 hc))) ?_
      exact Or.inl (congrArg (fun z => Fl.rt (D.bl z)) (Option.some.inj ht))
    · subst h_306
      have ht := sum_r ht
      refine Or.inr ⟨fun _ h => (nomatch h), ?_⟩
      exact Or.inl (congrArg (fun z => Fl.rt (D.bl z)) (Option.some.inj ht))
end K62


set_option maxRecDepth 100000
set_option maxHeartbeats 4000000
/-! U1: what is often asked of typed readings. -/
namespace Z
open PySem PySem.Spec PyProof.Rows L2
section
variable {α β σ ρ : Type}
theorem forT_fold {f : σ → α → Option σ} {h : σ → α → σ} (P : List α → σ → Prop) : ∀ {xs : List α} {s : σ}, P xs s → (∀ a as s, P (a :: as) s → a ∈ xs → f s a = some (h s a) ∧ P as (h s a)) → forT f xs s = some (xs.foldl h s)
  | [], s, _, _ => rfl
  | a :: as, s, hp, hs => by
    obtain ⟨h1, h2⟩ := hs a as s hp List.mem_cons_self
    rw [forT_cons, h1, Option.bind_some, List.foldl_cons]
    exact forT_fold P h2 fun b bs s' hp' hb => hs b bs s' hp' (List.mem_cons_of_mem _ hb)
theorem forT_flat {f : List β → α → Option (List β)} {h : α → List β} {M : Nat} : ∀ {xs : List α} {acc : List β}, acc.length + (xs.flatMap h).length ≤ M → (∀ a ∈ xs, ∀ acc : List β, acc.length + (h a).length ≤ M → f acc a = some (acc ++ h a)) → forT f xs acc = some (acc ++ xs.flatMap h)
  | [], acc, _, _ => by simp [forT]
  | a :: as, acc, hl, hs => by
    rw [List.flatMap_cons, List.length_append] at hl
    rw [forT_cons, hs a List.mem_cons_self acc (by omega), Option.bind_some, forT_flat (by rw [List.length_append]; omega) fun b hb => hs b (List.mem_cons_of_mem _ hb), List.flatMap_cons, List.append_assoc]
theorem forT_map {f : List β → α → Option (List β)} {h : α → β} {M : Nat} {xs : List α} {acc : List β} (hl : acc.length + xs.length ≤ M) (hs : ∀ a ∈ xs, ∀ acc : List β, acc.length + 1 ≤ M → f acc a = some (acc ++ [h a])) : forT f xs acc = some (acc ++ xs.map h) := by
  have e : ∀ xs : List α, xs.flatMap (fun a => [h a]) = xs.map h := fun xs => by
    induction xs with
    | nil => rfl
    | cons a as ih => rw [List.flatMap_cons, ih]; rfl
  have := forT_flat (f := f) (h := fun a => [h a]) (M := M) (xs := xs) (acc := acc) (by rw [e xs, List.length_map]; exact hl) hs
  rw [e xs] at this
  exact this
theorem forR_all {f : σ → α → Option (Cf σ ρ)} {s : σ} : ∀ {xs : List α}, (∀ a ∈ xs, f s a = some (.nx s)) → forR f xs s = some (.inl s)
  | [], _ => rfl
  | a :: as, h => by
    unfold forR
    rw [h a List.mem_cons_self]
    exact forR_all fun b hb => h b (List.mem_cons_of_mem _ hb)
theorem elimR_ok {α β : Type} {a : α} {f : α → Option β} {g : Str → Int → Option β} : elimR (.ok a) f g = f a := rfl
theorem okR_ok {τ : Type} {a : τ} : okR (.ok a) = some a := rfl
theorem mem_enumT {xs : List α} {p : Int × α} (h : p ∈ enumT xs) : ∃ j : Nat, p.1 = j ∧ xs[j]? = some p.2 := by
  unfold enumT at h
  obtain ⟨q, hq, rfl⟩ := List.mem_map.mp h
  obtain ⟨a, j⟩ := q
  have := List.mem_zipIdx_iff_getElem?.mp hq
  exact ⟨j, rfl, this⟩
theorem mem_rangeT {n : Nat} {x : Int} (h : x ∈ rangeT 0 n) : ∃ j : Nat, x = j ∧ j < n := by
  rw [rangeT_n] at h
  obtain ⟨j, hj, rfl⟩ := List.mem_map.mp h
  exact ⟨j, rfl, List.mem_range.mp hj⟩
theorem compT_ok {g : α → Option (Option β)} {h : α → β} {xs : List α} (hg : ∀ a ∈ xs, g a = some (some (h a))) : compT g xs = some (xs.map h) := compT_maps hg
theorem usort_len (xs : List (Int × Int)) : (usort xs).length ≤ xs.length := by
  rw [usort_eq]
  unfold ssort
  rw [List.length_mergeSort]
  induction xs with
  | nil => exact Nat.le_refl _
  | cons p ps ih =>
    unfold once
    split <;> simp only [List.length_cons] <;> omega
theorem ssT_ok {xs : List (Int × Int)} (h : xs.length < 1199) : ssT xs = some (ssort xs) := by
  have := usort_len xs
  unfold ssT
  rw [if_pos (by omega), usort_eq]
theorem cut_all {xs : List α} : cutD xs none (some (xs.length : Int)) = xs := by
  unfold cutD HT.sIx
  have : ¬ ((xs.length : Int) < 0) := by omega
  simp [this]
end
end Z


set_option maxRecDepth 100000
set_option maxHeartbeats 4000000
namespace FR
open PySem PySem.Spec PyProof.Rows L2 Z
/-! F1: fronts, their pure mathematics (from the proof of k63) -/
def mix (dr : List Int) (k many : Int) : Int :=
  if k < (dr.length : Int) then (dr.getD (k % (dr.length : Int)).toNat 0) % many
  else (((if 0 < dr.length then dr.getD (k % (dr.length : Int)).toNat 0 else 0) * 7919 + k * 104729) / 3) % many
theorem mix_nonneg {dr : List Int} {k many : Int} (hm : 0 < many) : 0 ≤ mix dr k many := by
  unfold mix
  split <;> exact Int.emod_nonneg _ (by omega)
theorem mix_lt {dr : List Int} {k many : Int} (hm : 0 < many) : mix dr k many < many := by
  unfold mix
  split <;> exact Int.emod_lt_of_pos _ hm
theorem range_at {n : Nat} {pre post : List Nat} {a : Nat} (h : pre ++ a :: post = List.range n) : a = pre.length ∧ pre.length < n := by
  have hl := congrArg List.length h
  simp at hl
  have e1 : (List.range n)[pre.length]? = some a := by rw [← h]; simp
  rw [List.getElem?_range (by omega)] at e1
  cases e1
  exact ⟨rfl, by omega⟩
structure Ln where
  one : Nat
  two : Nat
  there : Int
  back : Int
  m0 : Int
  m1 : Int
deriving DecidableEq
structure GoodL (n : Nat) (l : Ln) : Prop where
  one : l.one < n
  two : l.two < n
  ne : l.one ≠ l.two
  t1 : 1 ≤ l.there
  t2 : l.there ≤ 10
  b1 : 1 ≤ l.back
  b2 : l.back ≤ 10
  m0 : 0 ≤ l.m0
  m1 : 0 ≤ l.m1
  n0 : l.m0 ≤ 1000
  n1 : l.m1 ≤ 1000
structure Hop where
  k : Nat
  e : Nat
  to : Nat
  cost : Int
  time : Int
deriving DecidableEq
def hopsAt (r : Nat) (p : Ln × Nat) : List Hop := (if p.1.one = r then [⟨p.2, 0, p.1.two, p.1.there, p.1.m0⟩] else []) ++ (if p.1.two = r then [⟨p.2, 1, p.1.one, p.1.back, p.1.m1⟩] else [])
def hopsOf (net : List Ln) (r : Nat) : List Hop := net.zipIdx.flatMap (hopsAt r)
theorem hopsAt_len (r : Nat) (p : Ln × Nat) : (hopsAt r p).length ≤ 2 := by
  unfold hopsAt
  rw [List.length_append]
  split <;> split <;> simp
theorem flat_len {α β : Type} {f : α → List β} {k : Nat} (h : ∀ x, (f x).length ≤ k) : ∀ xs : List α, (xs.flatMap f).length ≤ k * xs.length
  | [] => Nat.le_refl _
  | x :: xs => by
    rw [List.flatMap_cons, List.length_append, List.length_cons]
    have := flat_len h xs
    have := h x
    rw [Nat.mul_add, Nat.mul_one]
    omega
abbrev Fr := List (Int × Int)
def ubStep (acc : Fr) (p : Int × Int) : Fr := match acc.getLast? with
  | none => acc ++ [p]
  | some q => if p.2 < q.2 then acc ++ [p] else acc
def unb (ps : Fr) : Fr := (ssort ps).foldl ubStep []
theorem ubStep_len (acc : Fr) (p : Int × Int) : (ubStep acc p).length ≤ acc.length + 1 := by
  unfold ubStep
  split
  · simp
  · split
    · simp
    · omega
theorem ubFold_len : ∀ (s acc : Fr), (s.foldl ubStep acc).length ≤ acc.length + s.length
  | [], acc => Nat.le_refl _
  | p :: s, acc => by
    rw [List.foldl_cons, List.length_cons]
    have h1 := ubFold_len s (ubStep acc p)
    have h2 := ubStep_len acc p
    omega
theorem once_len : ∀ ps : Fr, (once ps).length ≤ ps.length
  | [] => Nat.le_refl _
  | p :: ps => by
    unfold once
    have := once_len ps
    split
    · rw [List.length_cons]
      omega
    · rw [List.length_cons, List.length_cons]
      omega
theorem ssort_len (ps : Fr) : (ssort ps).length ≤ ps.length := by
  unfold ssort
  rw [List.length_mergeSort]
  exact once_len ps
def shift (h : Hop) (p : Int × Int) : Int × Int := (h.cost + p.1, h.time + p.2)
def cands (told : List Fr) (hs : List Hop) : Fr := hs.flatMap fun h => (told.getD h.to []).map (shift h)
theorem cands_app (told : List Fr) (a b : List Hop) : cands told (a ++ b) = cands told a ++ cands told b := List.flatMap_append
theorem cands_one (told : List Fr) (h : Hop) : cands told [h] = (told.getD h.to []).map (shift h) := by
  unfold cands
  simp
def cand (net : List Ln) (told : List Fr) (r : Nat) : Fr := cands told (hopsOf net r)
theorem mem_hops {net : List Ln} {r : Nat} {h : Hop} : h ∈ hopsOf net r ↔ ∃ p ∈ net.zipIdx, h ∈ hopsAt r p := by
  unfold hopsOf
  rw [List.mem_flatMap]
theorem hop_to {n : Nat} {net : List Ln} (hg : ∀ l ∈ net, GoodL n l) {r : Nat} {h : Hop} (hh : h ∈ hopsOf net r) : h.to < n ∧ h.to ≠ r ∧ 1 ≤ h.cost ∧ h.cost ≤ 10 ∧ 0 ≤ h.time := by
  obtain ⟨⟨l, k⟩, h1, h2⟩ := mem_hops.mp hh
  have g := hg l (List.fst_mem_of_mem_zipIdx h1)
  have g1 := g.one
  have g2 := g.two
  have g3 := g.ne
  unfold hopsAt at h2
  rcases List.mem_append.mp h2 with z | z
  · split at z
    · rename_i e
      obtain rfl := List.mem_singleton.mp z
      dsimp only at e
      exact ⟨g2, fun y => g3 (e.trans y.symm), g.t1, g.t2, g.m0⟩
    · cases z
  · split at z
    · rename_i e
      obtain rfl := List.mem_singleton.mp z
      dsimp only at e
      exact ⟨g1, fun y => g3 (y.trans e.symm), g.b1, g.b2, g.m1⟩
    · cases z
def tell0 (n g : Nat) : List Fr := (List.range n).map fun r => if r = g then [(0, 0)] else []
def tellS (net : List Ln) (n g : Nat) (told : List Fr) : List Fr := (List.range n).map fun r => if r = g then told.getD g [] else unb (cand net told r)
def tellK (net : List Ln) (n g : Nat) : Nat → List Fr
  | 0 => tell0 n g
  | k + 1 => tellS net n g (tellK net n g k)
theorem tellK_len {net : List Ln} {n g : Nat} : ∀ k, (tellK net n g k).length = n
  | 0 => by simp [tellK, tell0]
  | k + 1 => by simp [tellK, tellS]
variable {n g : Nat} {net : List Ln}
structure Nx (n g : Nat) (net : List Ln) : Prop where
  h1 : 1 ≤ n
  h16 : n ≤ 16
  hg : ∀ l ∈ net, GoodL n l
  hn : net.length ≤ 40
  hgn : g < n
  hc : ∀ k r, k ≤ n → r < n → (cand net (tellK net n g k) r).length < 1199
  hl : ∀ r, r < n → ((tellK net n g n).getD r []).length ≤ 300
def told (net : List Ln) (n g : Nat) : List Fr := tellK net n g n
def swp (p : Int × Int) : Int × Int := (p.2, p.1)
def good (T : List Fr) (left : Int × Int) (h : Hop) : Bool := decide ((left.1 - h.cost, left.2 - h.time) ∈ T.getD h.to [])
def rest (left : Int × Int) (h : Hop) : Int × Int := (left.1 - h.cost, left.2 - h.time)
def goods (net : List Ln) (T : List Fr) (left : Int × Int) (r : Nat) : List Hop := (hopsOf net r).filter (good T left)
def Wk (net : List Ln) (T : List Fr) (g : Nat) : Nat → (Int × Int) → List Hop → Prop
  | r, _, [] => r = g
  | r, left, h :: w => r ≠ g ∧ (∃ hs, goods net T left r = h :: hs) ∧ Wk net T g h.to (rest left h) w
def hlt (a b : Hop) : Prop := a.k < b.k ∨ (a.k = b.k ∧ a.e < b.e)
theorem hopsAt_pw (r : Nat) (p : Ln × Nat) : (hopsAt r p).Pairwise hlt := by
  unfold hopsAt
  split <;> split <;> simp [hlt]
theorem hops_from (r : Nat) : ∀ (net : List Ln) (i : Nat), ((net.zipIdx i).flatMap (hopsAt r)).Pairwise hlt ∧ ∀ h ∈ (net.zipIdx i).flatMap (hopsAt r), i ≤ h.k
  | [], i => ⟨List.Pairwise.nil, fun h hh => nomatch hh⟩
  | l :: net, i => by
    obtain ⟨h1, h2⟩ := hops_from r net (i + 1)
    rw [List.zipIdx_cons, List.flatMap_cons]
    have at_k : ∀ h ∈ hopsAt r (l, i), h.k = i := by
      intro h hh
      unfold hopsAt at hh
      rcases List.mem_append.mp hh with z | z
      · split at z
        · rw [List.mem_singleton.mp z]
        · cases z
      · split at z
        · rw [List.mem_singleton.mp z]
        · cases z
    refine ⟨List.pairwise_append.mpr ⟨hopsAt_pw r _, h1, fun a ha b hb => ?_⟩, fun h hh => ?_⟩
    · have e1 := at_k a ha
      have e2 := h2 b hb
      left
      omega
    · rcases List.mem_append.mp hh with z | z
      · have := at_k h z
        omega
      · have := h2 h z
        omega
theorem hops_pw (net : List Ln) (r : Nat) : (hopsOf net r).Pairwise hlt := (hops_from r net 0).1
def within (U : Fr) (lim : Int) : Fr := U.filter fun p => decide (p.2 ≤ lim)
end FR


set_option maxRecDepth 100000
set_option maxHeartbeats 4000000
namespace FR
open PySem PySem.Spec PyProof.Rows L2 Z
/-! the plain law of fronts -/
def dom (u p : Int × Int) : Prop := u.1 ≤ p.1 ∧ u.2 ≤ p.2
def par (a b : Int × Int) : Prop := a.1 < b.1 ∧ b.2 < a.2
theorem dom_trans {a b c : Int × Int} (h1 : dom a b) (h2 : dom b c) : dom a c := ⟨by have := h1.1; have := h2.1; omega, by have := h1.2; have := h2.2; omega⟩
structure Un (ps U : Fr) : Prop where
  pw : U.Pairwise par
  sub : ∀ u ∈ U, u ∈ ps
  all : ∀ p ∈ ps, ∃ u ∈ U, dom u p
theorem ub_inv : ∀ (s pre : Fr) (acc : Fr), (pre ++ s).Pairwise plt → Un pre acc → Un (pre ++ s) (s.foldl ubStep acc)
  | [], pre, acc, _, h => by
    rw [List.append_nil]
    exact h
  | p :: s, pre, acc, hp, h => by
    have hpre : ∀ q ∈ pre, plt q p := fun q hq => (List.pairwise_append.mp hp).2.2 q hq p List.mem_cons_self
    rw [List.foldl_cons]
    have e : pre ++ p :: s = (pre ++ [p]) ++ s := by simp
    rw [e] at hp ⊢
    refine ub_inv s (pre ++ [p]) _ hp ?_
    unfold ubStep
    rcases List.eq_nil_or_concat acc with rfl | ⟨a, q, rfl⟩
    · refine ⟨by simp, ?_, ?_⟩
      · intro u hu
        have hu' : u = p := by simpa using hu
        rw [hu']
        simp
      · intro x hx
        rcases List.mem_append.mp hx with hx | hx
        · obtain ⟨u, hu, _⟩ := h.all x hx
          cases hu
        · rw [List.mem_singleton.mp hx]
          exact ⟨p, by simp, Int.le_refl _, Int.le_refl _⟩
    · rw [List.concat_eq_append] at h ⊢
      rw [List.getLast?_concat]
      have hq := hpre q (h.sub q (by simp))
      have hle : ∀ q' ∈ a ++ [q], q.2 ≤ q'.2 := by
        intro q' hq'
        rcases List.mem_append.mp hq' with z | z
        · have := (List.pairwise_append.mp h.pw).2.2 q' z q (by simp)
          have := this.2
          omega
        · rw [List.mem_singleton.mp z]
          exact Int.le_refl _
      show Un (pre ++ [p]) (if p.2 < q.2 then a ++ [q] ++ [p] else a ++ [q])
      by_cases c : p.2 < q.2
      · rw [if_pos c]
        refine ⟨List.pairwise_append.mpr ⟨h.pw, by simp, ?_⟩, ?_, ?_⟩
        · intro q' hq' x hx
          rw [List.mem_singleton.mp hx]
          have h1 := hle q' hq'
          have h2 := hpre q' (h.sub q' hq')
          unfold plt at h2
          exact ⟨by omega, by omega⟩
        · intro u hu
          rcases List.mem_append.mp hu with z | z
          · exact List.mem_append_left _ (h.sub u z)
          · exact List.mem_append_right _ z
        · intro x hx
          rcases List.mem_append.mp hx with z | z
          · obtain ⟨u, hu, hd⟩ := h.all x z
            exact ⟨u, List.mem_append_left _ hu, hd⟩
          · rw [List.mem_singleton.mp z]
            exact ⟨p, by simp, Int.le_refl _, Int.le_refl _⟩
      · rw [if_neg c]
        refine ⟨h.pw, fun u hu => List.mem_append_left _ (h.sub u hu), ?_⟩
        intro x hx
        rcases List.mem_append.mp hx with z | z
        · exact h.all x z
        · rw [List.mem_singleton.mp z]
          unfold plt at hq
          exact ⟨q, by simp, by omega, by omega⟩
theorem unb_un (ps : Fr) : Un ps (unb ps) := by
  have h := ub_inv (ssort ps) [] [] (by rw [List.nil_append]; exact ssort_pw ps) ⟨List.Pairwise.nil, (fun _ h => nomatch h), (fun _ h => nomatch h)⟩
  rw [List.nil_append] at h
  exact ⟨h.pw, fun u hu => mem_ssort.mp (h.sub u hu), fun p hp => h.all p (mem_ssort.mpr hp)⟩
/-- nothing in a front beats another -/
theorem par_dom {U : Fr} (pw : U.Pairwise par) {u v : Int × Int} (hu : u ∈ U) (hv : v ∈ U) (h : dom u v) : u = v := by
  induction U with
  | nil => cases hu
  | cons x U ih =>
    obtain ⟨h1, h2⟩ := List.pairwise_cons.mp pw
    rcases List.mem_cons.mp hu with e | hu' <;> rcases List.mem_cons.mp hv with e' | hv'
    · rw [e, e']
    · have := h1 v hv'
      rw [← e] at this
      have := this.2
      have := h.2
      omega
    · have := h1 u hu'
      rw [← e'] at this
      have := this.1
      have := h.1
      omega
    · exact ih h2 hu' hv'
/-- two fronts that dominate each other are the same -/
theorem front_eq {U V : Fr} (pu : U.Pairwise par) (pv : V.Pairwise par) (h1 : ∀ u ∈ U, ∃ v ∈ V, dom v u) (h2 : ∀ v ∈ V, ∃ u ∈ U, dom u v) : U = V := by
  have mem : ∀ {A B : Fr}, A.Pairwise par → (∀ u ∈ A, ∃ v ∈ B, dom v u) → (∀ v ∈ B, ∃ u ∈ A, dom u v) → ∀ u ∈ A, u ∈ B := by
    intro A B pa g1 g2 u hu
    obtain ⟨v, hv, d1⟩ := g1 u hu
    obtain ⟨u', hu', d2⟩ := g2 v hv
    have e := par_dom pa hu' hu (dom_trans d2 d1)
    subst e
    have : v = u' := Prod.ext (by have := d1.1; have := d2.1; omega) (by have := d1.2; have := d2.2; omega)
    rw [← this]
    exact hv
  have nd : ∀ {A : Fr}, A.Pairwise par → A.Nodup := fun pa => List.Pairwise.imp (fun h e => by have := h.1; rw [e] at this; omega) pa
  refine List.Perm.eq_of_pairwise (le := fun a b => a.1 ≤ b.1) (fun a b ha hb x y => ?_) (List.Pairwise.imp (fun h => Int.le_of_lt h.1) pu) (List.Pairwise.imp (fun h => Int.le_of_lt h.1) pv) ((List.perm_ext_iff_of_nodup (nd pu) (nd pv)).mpr fun z => ⟨mem pu h1 h2 z, mem pv h2 h1 z⟩)
  have hb' : b ∈ U := mem pv h2 h1 b hb
  by_cases c : a.2 ≤ b.2
  · exact par_dom pu ha hb' ⟨x, c⟩
  · exact (par_dom pu hb' ha ⟨y, by omega⟩).symm
end FR


set_option maxRecDepth 100000
set_option maxHeartbeats 4000000
namespace FR
open PySem PySem.Spec PyProof.Rows L2 Z
section
variable {n g : Nat} {net : List Ln}
/-- walks to the goal, with what they cost and take -/
def Wlk (net : List Ln) (g : Nat) : Nat → List Hop → Int → Int → Prop
  | r, [], c, t => r = g ∧ c = 0 ∧ t = 0
  | r, h :: w, c, t => h ∈ hopsOf net r ∧ Wlk net g h.to w (c - h.cost) (t - h.time)
theorem tell0_get {r : Nat} (hr : r < n) : (tellK net n g 0).getD r [] = if r = g then [(0, 0)] else [] := by
  show (tell0 n g).getD r [] = _
  unfold tell0
  rw [List.getD_eq_getElem?_getD, List.getElem?_map, List.getElem?_range hr]
  rfl
theorem tellS_get {k r : Nat} (hr : r < n) : (tellK net n g (k + 1)).getD r [] = if r = g then (tellK net n g k).getD g [] else unb (cand net (tellK net n g k) r) := by
  show (tellS net n g (tellK net n g k)).getD r [] = _
  unfold tellS
  rw [List.getD_eq_getElem?_getD, List.getElem?_map, List.getElem?_range hr]
  rfl
theorem tell_goal (hg : g < n) : ∀ k, (tellK net n g k).getD g [] = [(0, 0)]
  | 0 => by rw [tell0_get hg, if_pos rfl]
  | k + 1 => by rw [tellS_get hg, if_pos rfl, tell_goal hg k]
theorem tell_par (hg : g < n) {r : Nat} (hr : r < n) : ∀ k, ((tellK net n g k).getD r []).Pairwise par
  | 0 => by
    rw [tell0_get hr]
    split <;> simp
  | k + 1 => by
    rw [tellS_get hr]
    split
    · rw [tell_goal hg]
      simp
    · exact (unb_un _).pw
theorem mem_cand {T : List Fr} {r : Nat} {u : Int × Int} : u ∈ cand net T r ↔ ∃ h ∈ hopsOf net r, ∃ p ∈ T.getD h.to [], shift h p = u := by
  unfold cand cands
  simp only [List.mem_flatMap, List.mem_map]
theorem sound (hG : ∀ l ∈ net, GoodL n l) (hg : g < n) : ∀ (k r : Nat) (u : Int × Int), r < n → u ∈ (tellK net n g k).getD r [] → ∃ w : List Hop, w.length ≤ k ∧ Wlk net g r w u.1 u.2
  | 0, r, u, hr, hu => by
    rw [tell0_get hr] at hu
    split at hu
    · rename_i e
      rw [List.mem_singleton.mp hu]
      exact ⟨[], Nat.le_refl _, e, rfl, rfl⟩
    · cases hu
  | k + 1, r, u, hr, hu => by
    rw [tellS_get hr] at hu
    split at hu
    · rename_i e
      rw [tell_goal hg] at hu
      rw [List.mem_singleton.mp hu]
      exact ⟨[], Nat.zero_le _, e, rfl, rfl⟩
    · obtain ⟨h, h1, p, h2, rfl⟩ := mem_cand.mp ((unb_un _).sub u hu)
      obtain ⟨w, w1, w2⟩ := sound hG hg k h.to p (hop_to hG h1).1 h2
      refine ⟨h :: w, by rw [List.length_cons]; omega, h1, ?_⟩
      show Wlk net g h.to w (h.cost + p.1 - h.cost) (h.time + p.2 - h.time)
      rw [show h.cost + p.1 - h.cost = p.1 by omega, show h.time + p.2 - h.time = p.2 by omega]
      exact w2
theorem wlk_nonneg (hG : ∀ l ∈ net, GoodL n l) : ∀ {w : List Hop} {r : Nat} {c t : Int}, Wlk net g r w c t → (w.length : Int) ≤ c ∧ c ≤ 10 * w.length ∧ 0 ≤ t
  | [], _, _, _, ⟨_, rfl, rfl⟩ => ⟨Int.le_refl _, Int.le_refl _, Int.le_refl _⟩
  | h :: w, _, _, _, ⟨h1, h2⟩ => by
    obtain ⟨_, _, q1, q2, q3⟩ := hop_to hG h1
    obtain ⟨a, b, c⟩ := wlk_nonneg hG h2
    rw [List.length_cons]
    omega
theorem complete (hG : ∀ l ∈ net, GoodL n l) (hg : g < n) : ∀ (w : List Hop) (k r : Nat) (c t : Int), w.length ≤ k → r < n → Wlk net g r w c t → ∃ u ∈ (tellK net n g k).getD r [], u.1 ≤ c ∧ u.2 ≤ t
  | [], k, r, c, t, _, _, ⟨e, e1, e2⟩ => by
    subst e
    rw [tell_goal hg]
    exact ⟨(0, 0), by simp, by omega, by omega⟩
  | h :: w, k, r, c, t, hk, hr, hw => by
    by_cases e : r = g
    · subst e
      obtain ⟨q1, _, q3⟩ := wlk_nonneg hG hw
      rw [tell_goal hg]
      exact ⟨(0, 0), by simp, by omega, q3⟩
    · obtain ⟨h1, h2⟩ := hw
      rw [List.length_cons] at hk
      obtain ⟨k, rfl⟩ : ∃ k', k = k' + 1 := ⟨k - 1, by omega⟩
      obtain ⟨p, p1, p2, p3⟩ := complete hG hg w k h.to _ _ (by omega) (hop_to hG h1).1 h2
      rw [tellS_get hr, if_neg e]
      obtain ⟨u, u1, u2⟩ := (unb_un (cand net (tellK net n g k) r)).all (shift h p) (mem_cand.mpr ⟨h, h1, p, p1, rfl⟩)
      have a := u2.1
      have b := u2.2
      unfold shift at a b
      exact ⟨u, u1, by omega, by omega⟩
/-! walks without rings -/
def stops : Nat → List Hop → List Nat
  | r, [] => [r]
  | r, h :: w => r :: stops h.to w
theorem stops_len : ∀ (w : List Hop) (r : Nat), (stops r w).length = w.length + 1
  | [], _ => rfl
  | h :: w, r => by
    show (stops h.to w).length + 1 = _
    rw [stops_len w]
    rfl
theorem stops_lt (hG : ∀ l ∈ net, GoodL n l) : ∀ {w : List Hop} {r : Nat} {c t : Int}, r < n → Wlk net g r w c t → ∀ q ∈ stops r w, q < n
  | [], r, _, _, hr, _, q, hq => by
    rw [List.mem_singleton.mp hq]
    exact hr
  | h :: w, r, _, _, hr, ⟨h1, h2⟩, q, hq => by
    rcases List.mem_cons.mp hq with e | hq
    · rw [e]
      exact hr
    · exact stops_lt hG (hop_to hG h1).1 h2 q hq
/-- from a stop on -/
theorem cut_at (hG : ∀ l ∈ net, GoodL n l) {v : Nat} : ∀ {w : List Hop} {r : Nat} {c t : Int}, Wlk net g r w c t → v ∈ stops r w → ∃ (w' : List Hop) (c' t' : Int), Wlk net g v w' c' t' ∧ c' ≤ c ∧ t' ≤ t ∧ List.Sublist (stops v w') (stops r w)
  | [], r, c, t, hw, hv => by
    obtain rfl := List.mem_singleton.mp hv
    exact ⟨[], c, t, hw, Int.le_refl _, Int.le_refl _, List.Sublist.refl _⟩
  | h :: w, r, c, t, hw, hv => by
    rcases List.mem_cons.mp hv with rfl | hv
    · exact ⟨h :: w, c, t, hw, Int.le_refl _, Int.le_refl _, List.Sublist.refl _⟩
    · obtain ⟨h1, h2⟩ := hw
      obtain ⟨w', c', t', a1, a2, a3, a4⟩ := cut_at hG h2 hv
      obtain ⟨_, _, q1, q2, q3⟩ := hop_to hG h1
      exact ⟨w', c', t', a1, by omega, by omega, a4.cons r⟩
theorem no_ring (hG : ∀ l ∈ net, GoodL n l) : ∀ {w : List Hop} {r : Nat} {c t : Int}, Wlk net g r w c t → ∃ (w' : List Hop) (c' t' : Int), Wlk net g r w' c' t' ∧ c' ≤ c ∧ t' ≤ t ∧ (stops r w').Nodup
  | [], r, c, t, hw => ⟨[], c, t, hw, Int.le_refl _, Int.le_refl _, by simp [stops]⟩
  | h :: w, r, c, t, hw => by
    obtain ⟨h1, h2⟩ := hw
    obtain ⟨w', c', t', a1, a2, a3, a4⟩ := no_ring hG h2
    obtain ⟨_, _, q1, q2, q3⟩ := hop_to hG h1
    by_cases hm : r ∈ stops h.to w'
    · obtain ⟨w2, c2, t2, b1, b2, b3, b4⟩ := cut_at hG a1 hm
      exact ⟨w2, c2, t2, b1, by omega, by omega, a4.sublist b4⟩
    · refine ⟨h :: w', c' + h.cost, t' + h.time, ⟨h1, ?_⟩, by omega, by omega, List.nodup_cons.mpr ⟨hm, a4⟩⟩
      rw [show c' + h.cost - h.cost = c' by omega, show t' + h.time - h.time = t' by omega]
      exact a1
theorem short (hG : ∀ l ∈ net, GoodL n l) {w : List Hop} {r : Nat} {c t : Int} (hr : r < n) (hw : Wlk net g r w c t) : ∃ (w' : List Hop) (c' t' : Int), w'.length < n ∧ Wlk net g r w' c' t' ∧ c' ≤ c ∧ t' ≤ t := by
  obtain ⟨w', c', t', a1, a2, a3, a4⟩ := no_ring hG hw
  have h := nat_nodup_len (stops r w') (List.range n) a4 fun q hq => List.mem_range.mpr (stops_lt hG hr a1 q hq)
  rw [stops_len, List.length_range] at h
  exact ⟨w', c', t', by omega, a1, a2, a3⟩
/-- the fronts hold their own -/
theorem tell_fix (hG : ∀ l ∈ net, GoodL n l) (hg : g < n) {r : Nat} (hr : r < n) {k : Nat} (hk : n - 1 ≤ k) : (tellK net n g (k + 1)).getD r [] = (tellK net n g k).getD r [] := by
  refine front_eq (tell_par hg hr _) (tell_par hg hr _) (fun u hu => ?_) fun u hu => ?_
  · obtain ⟨w, _, h2⟩ := sound hG hg _ r u hr hu
    obtain ⟨w', c', t', h3, h4, h5, h6⟩ := short hG hr h2
    obtain ⟨v, v1, v2, v3⟩ := complete hG hg w' k r c' t' (by omega) hr h4
    exact ⟨v, v1, by omega, by omega⟩
  · obtain ⟨w, h1, h2⟩ := sound hG hg _ r u hr hu
    obtain ⟨v, v1, v2, v3⟩ := complete hG hg w (k + 1) r _ _ (by omega) hr h2
    exact ⟨v, v1, v2, v3⟩
end
end FR


set_option maxRecDepth 100000
set_option maxHeartbeats 4000000
namespace FR
open PySem PySem.Spec PyProof.Rows L2 Z
section
variable {n g : Nat} {net : List Ln}
/-! sizes -/
theorem par_len {U : Fr} {m : Nat} (pw : U.Pairwise par) (h : ∀ u ∈ U, 0 ≤ u.1 ∧ u.1 ≤ m) : U.length ≤ m + 1 := by
  have nd : (U.map fun u => u.1.toNat).Nodup := by
    refine List.pairwise_map.mpr (List.Pairwise.imp_of_mem (fun {a b} ha hb x e => ?_) pw)
    have h1 := h a ha
    have h2 := h b hb
    have := x.1
    omega
  have := nat_nodup_len (U.map fun u => u.1.toNat) (List.range (m + 1)) nd fun x hx => by
    obtain ⟨u, hu, rfl⟩ := List.mem_map.mp hx
    have := h u hu
    exact List.mem_range.mpr (by omega)
  rw [List.length_map, List.length_range] at this
  exact this
theorem tell_len (hG : ∀ l ∈ net, GoodL n l) (hg : g < n) {r k : Nat} (hr : r < n) : ((tellK net n g k).getD r []).length ≤ 10 * k + 1 := by
  refine par_len (tell_par hg hr k) fun u hu => ?_
  obtain ⟨w, h1, h2⟩ := sound hG hg k r u hr hu
  obtain ⟨q1, q2, _⟩ := wlk_nonneg hG h2
  omega
theorem hopsAt_one (hG : ∀ l ∈ net, GoodL n l) {p : Ln × Nat} (hp : p.1 ∈ net) (r : Nat) : (hopsAt r p).length ≤ 1 := by
  have g := (hG _ hp).ne
  unfold hopsAt
  by_cases h1 : p.1.one = r
  · rw [if_pos h1, if_neg (fun h2 => g (h1.trans h2.symm))]
    simp
  · rw [if_neg h1]
    split <;> simp
theorem hops_len (hG : ∀ l ∈ net, GoodL n l) (r : Nat) : (hopsOf net r).length ≤ net.length := by
  have key : ∀ (ps : List (Ln × Nat)), (∀ p ∈ ps, p.1 ∈ net) → (ps.flatMap (hopsAt r)).length ≤ ps.length := by
    intro ps
    induction ps with
    | nil => exact fun _ => Nat.le_refl _
    | cons p ps ih =>
      intro h
      rw [List.flatMap_cons, List.length_append, List.length_cons]
      have h1 := hopsAt_one hG (h p List.mem_cons_self) r
      have h2 := ih fun q hq => h q (List.mem_cons_of_mem _ hq)
      omega
  have := key net.zipIdx fun p hp => List.fst_mem_of_mem_zipIdx hp
  rw [List.length_zipIdx] at this
  exact this
theorem cands_len {T : List Fr} {m : Nat} : ∀ {hs : List Hop}, (∀ h ∈ hs, (T.getD h.to []).length ≤ m) → (cands T hs).length ≤ m * hs.length
  | [], _ => Nat.le_refl _
  | h :: hs, hm => by
    have e : cands T (h :: hs) = cands T [h] ++ cands T hs := cands_app T [h] hs
    rw [e, cands_one, List.length_append, List.length_map, List.length_cons, Nat.mul_add, Nat.mul_one]
    have h1 := hm h List.mem_cons_self
    have h2 := cands_len (hs := hs) fun q hq => hm q (List.mem_cons_of_mem _ hq)
    omega
theorem nx_of (h1 : 1 ≤ n) (h6 : n ≤ 6) (hG : ∀ l ∈ net, GoodL n l) (hn : net.length ≤ 14) (hg : g < n) : Nx n g net := by
  refine ⟨h1, by omega, hG, by omega, hg, fun k r hk hr => ?_, fun r hr => ?_⟩
  · have a := cands_len (T := tellK net n g k) (m := 61) (hs := hopsOf net r) fun h hh => by
      have := tell_len hG hg (k := k) (hop_to hG hh).1
      omega
    have b := hops_len hG r
    unfold cand
    omega
  · have := tell_len hG hg (k := n) hr
    omega
/-! a walk by least hops -/
theorem told_fix (hG : ∀ l ∈ net, GoodL n l) (hg : g < n) {r : Nat} (hr : r < n) (hne : r ≠ g) : (told net n g).getD r [] = unb (cand net (told net n g) r) := by
  have := tell_fix hG hg hr (k := n) (by omega)
  rw [tellS_get hr, if_neg hne] at this
  exact this.symm
/-- from a pair of a front one walks on to the goal -/
theorem walk_ex (hG : ∀ l ∈ net, GoodL n l) (hg : g < n) : ∀ (m r : Nat) (p : Int × Int), r < n → p ∈ (told net n g).getD r [] → p.1 ≤ (m : Int) → ∃ w, Wk net (told net n g) g r p w ∧ w.length ≤ m := by
  intro m
  induction m with
  | zero =>
    intro r p hr hp hm
    by_cases e : r = g
    · exact ⟨[], e, Nat.le_refl _⟩
    · exfalso
      rw [told_fix hG hg hr e] at hp
      obtain ⟨h, h1, q, h2, rfl⟩ := mem_cand.mp ((unb_un _).sub p hp)
      obtain ⟨a1, _, a2, _⟩ := hop_to hG h1
      obtain ⟨w, _, hw⟩ := sound hG hg n h.to q a1 h2
      have := (wlk_nonneg hG hw).1
      unfold shift at hm
      have hm' : h.cost + q.1 ≤ (0 : Nat) := hm
      omega
  | succ m ih =>
    intro r p hr hp hm
    by_cases e : r = g
    · exact ⟨[], e, Nat.zero_le _⟩
    · have hp' := hp
      rw [told_fix hG hg hr e] at hp'
      obtain ⟨h0, h1, q, h2, h3⟩ := mem_cand.mp ((unb_un _).sub p hp')
      have hgood : good (told net n g) p h0 = true := by
        unfold good
        refine decide_eq_true ?_
        have : (p.1 - h0.cost, p.2 - h0.time) = q := by
          rw [← h3]
          unfold shift
          exact Prod.ext (by show h0.cost + q.1 - h0.cost = q.1; omega) (by show h0.time + q.2 - h0.time = q.2; omega)
        rw [this]
        exact h2
      have hm0 : h0 ∈ goods net (told net n g) p r := List.mem_filter.mpr ⟨h1, hgood⟩
      cases hgs : goods net (told net n g) p r with
      | nil =>
        rw [hgs] at hm0
        cases hm0
      | cons h hs =>
        have hh : h ∈ goods net (told net n g) p r := by rw [hgs]; exact List.mem_cons_self
        obtain ⟨b1, b2⟩ := List.mem_filter.mp hh
        have b3 : rest p h ∈ (told net n g).getD h.to [] := of_decide_eq_true b2
        obtain ⟨c1, _, c2, _⟩ := hop_to hG b1
        obtain ⟨w, w1, w2⟩ := ih h.to (rest p h) c1 b3 (by show p.1 - h.cost ≤ (m : Int); omega)
        exact ⟨h :: w, ⟨e, ⟨hs, hgs⟩, w1⟩, by rw [List.length_cons]; omega⟩
end
end FR


set_option maxRecDepth 100000
set_option maxHeartbeats 4000000
/-! N62a: what the program's typed defs give on a good net. -/
namespace K62
open PySem PySem.Spec PyProof.Rows L2 Z FR
section
variable {n g : Nat} {net : List Ln}
def lnks (net : List Ln) : List (Int × Int × Int × Int) := net.map fun l => ((l.one : Int), (l.two : Int), l.there, l.back)
def mins (net : List Ln) : List (List Int) := net.map fun l => [l.m0, l.m1]
def hop4 (h : Hop) : (Int × Int) × Int × Int × Int := (((h.k : Int), (h.e : Int)), (h.to : Int), h.cost, h.time)
theorem lnks_get {j : Nat} {x : Int × Int × Int × Int} (h : (lnks net)[j]? = some x) : ∃ l, net[j]? = some l ∧ x = ((l.one : Int), (l.two : Int), l.there, l.back) := by
  unfold lnks at h
  rw [List.getElem?_map] at h
  obtain ⟨l, h1, h2⟩ := Option.map_eq_some_iff.mp h
  exact ⟨l, h1, h2.symm⟩
theorem mins_get {j : Nat} {l : Ln} (h : net[j]? = some l) : (mins net)[j]? = some [l.m0, l.m1] := by
  unfold mins
  rw [List.getElem?_map, h]
  rfl
theorem links_ok (hg : ∀ l ∈ net, GoodL n l) (hn : net.length ≤ 40) : t_check_links n (lnks net) = some (.ok ()) := by
  unfold t_check_links
  rw [forR_all, Option.bind_some, elimT_l]
  intro p hp
  obtain ⟨j, hj, hx0⟩ := mem_enumT hp
  obtain ⟨l, hl, hx⟩ := lnks_get hx0
  clear hx0
  have G := hg l (List.mem_of_getElem? hl)
  have hjn : j < net.length := (List.getElem?_eq_some_iff.mp hl).1
  obtain ⟨a, b⟩ := p
  dsimp only at hj hx
  subst hj
  subst hx
  have := G.one
  have := G.two
  have := G.ne
  have := G.t1
  have := G.t2
  have := G.b1
  have := G.b2
  unfold t_check_links_b1z
  rw [if_neg, if_neg]
  · simp only [Bool.or_eq_true, Bool.not_eq_true', Bool.and_eq_false_iff, decide_eq_false_iff_not]
    omega
  · simp only [Bool.or_eq_true, Bool.not_eq_true', Bool.and_eq_false_iff, decide_eq_false_iff_not, decide_eq_true_eq]
    omega
theorem span_ok {l : Ln} (G : GoodL n l) : t_is_span [l.m0, l.m1] = some true := by
  have := G.m0
  have := G.m1
  have := G.n0
  have := G.n1
  unfold t_is_span
  rw [if_pos (by rfl), gd_t (by show 2 ≤ 16777216; decide), Option.bind_some, compT_ok (h := fun x => (decide (0 ≤ x)) && (decide (x ≤ 1000))) fun _ _ => rfl]
  simp [*]
theorem router_ok {r : Nat} (h : r < n) : t_check_router n r = some (.ok ()) := by
  unfold t_check_router
  rw [if_neg]
  simp only [Bool.not_eq_true', Bool.and_eq_false_iff, decide_eq_false_iff_not]
  omega
theorem len_lnks : (lnks net).length = net.length := List.length_map _
theorem len_mins : (mins net).length = net.length := List.length_map _
theorem net_ok (h1 : 1 ≤ n) (h16 : n ≤ 16) (hg : ∀ l ∈ net, GoodL n l) (hn : net.length ≤ 40) : t_check_net n (lnks net) (mins net) = some (.ok ()) := by
  unfold t_check_net
  rw [if_neg, links_ok hg hn, Option.bind_some, elimR_ok, len_lnks, ← len_mins, cut_all, forR_all, Option.bind_some, elimT_l, if_neg]
  · simp
  · intro p hp
    obtain ⟨j, hj, hx⟩ := mem_enumT hp
    unfold mins at hx
    rw [List.getElem?_map] at hx
    obtain ⟨l, hl, hx⟩ := Option.map_eq_some_iff.mp hx
    unfold t_check_net_b1z
    rw [← hx, span_ok (hg l (List.mem_of_getElem? hl)), Option.bind_some, if_neg (by decide)]
  · simp only [Bool.not_eq_true', Bool.and_eq_false_iff, decide_eq_false_iff_not]
    omega
theorem ends_ok {a b : Nat} (h1 : 1 ≤ n) (h16 : n ≤ 16) (hg : ∀ l ∈ net, GoodL n l) (hn : net.length ≤ 40) (ha : a < n) (hb : b < n) : t_check_ends n (lnks net) (mins net) a b = some (.ok ()) := by
  unfold t_check_ends
  rw [net_ok h1 h16 hg hn, Option.bind_some, elimR_ok, router_ok ha, Option.bind_some, elimR_ok, router_ok hb, Option.bind_some, elimR_ok]
theorem flatMap_same {α β : Type} {f h : α → List β} : ∀ {xs : List α}, (∀ a ∈ xs, f a = h a) → xs.flatMap f = xs.flatMap h
  | [], _ => rfl
  | a :: as, e => by rw [List.flatMap_cons, List.flatMap_cons, e a List.mem_cons_self, flatMap_same fun b hb => e b (List.mem_cons_of_mem _ hb)]
theorem hops_ok (hn : net.length ≤ 1000) {r : Nat} : t_hops_of (lnks net) (mins net) r = some ((hopsOf net r).map hop4) := by
  have key : ∀ p ∈ enumT (lnks net), ∃ l j, (l, j) ∈ net.zipIdx ∧ p = ((j : Int), ((l.one : Int), (l.two : Int), l.there, l.back)) := by
    intro p hp
    obtain ⟨j, hj, hx⟩ := mem_enumT hp
    obtain ⟨l, hl, hx⟩ := lnks_get hx
    exact ⟨l, j, List.mem_zipIdx_iff_getElem?.mpr hl, Prod.ext hj hx⟩
  have en : enumT (lnks net) = net.zipIdx.map fun p : Ln × Nat => ((p.2 : Int), ((p.1.one : Int), (p.1.two : Int), p.1.there, p.1.back)) := by
    unfold enumT lnks
    rw [List.zipIdx_map, List.map_map]
    rfl
  have hh : (hopsOf net r).map hop4 = (enumT (lnks net)).flatMap fun p => (if p.2.1 = (r : Int) then [((p.1, (0 : Int)), p.2.2.1, p.2.2.2.1, (((mins net)[p.1.toNat]?).bind fun m => m[0]?).getD 0)] else []) ++ (if p.2.2.1 = (r : Int) then [((p.1, (1 : Int)), p.2.1, p.2.2.2.2, (((mins net)[p.1.toNat]?).bind fun m => m[1]?).getD 0)] else []) := by
    unfold hopsOf
    rw [en, List.map_flatMap, List.flatMap_map]
    refine flatMap_same fun p hp => ?_
    obtain ⟨l, j⟩ := p
    have hl := List.mem_zipIdx_iff_getElem?.mp hp
    have hm := mins_get hl
    dsimp only at hl hm ⊢
    rw [Int.toNat_natCast, hm]
    unfold hopsAt
    rw [List.map_append]
    congr 1
    · by_cases h : l.one = r
      · rw [if_pos h, if_pos (by rw [h])]
        rfl
      · rw [if_neg h, if_neg (by omega)]
        rfl
    · by_cases h : l.two = r
      · rw [if_pos h, if_pos (by rw [h])]
        rfl
      · rw [if_neg h, if_neg (by omega)]
        rfl
  unfold t_hops_of
  rw [forT_flat (M := 16777216) (h := fun p => (if p.2.1 = (r : Int) then [((p.1, (0 : Int)), p.2.2.1, p.2.2.2.1, (((mins net)[p.1.toNat]?).bind fun m => m[0]?).getD 0)] else []) ++ (if p.2.2.1 = (r : Int) then [((p.1, (1 : Int)), p.2.1, p.2.2.2.2, (((mins net)[p.1.toNat]?).bind fun m => m[1]?).getD 0)] else [])), ← hh]
  · rfl
  · rw [← hh, List.length_map]
    have := flat_len (k := 2) (f := hopsAt r) (fun p => hopsAt_len r p) net.zipIdx
    rw [List.length_zipIdx] at this
    show 0 + (hopsOf net r).length ≤ _
    unfold hopsOf
    omega
  · intro p hp acc hl
    obtain ⟨l, j, hz, rfl⟩ := key p hp
    have hm := mins_get (List.mem_zipIdx_iff_getElem?.mp hz)
    dsimp only at hl ⊢
    rw [Int.toNat_natCast, hm] at hl ⊢
    unfold t_hops_of_b1
    dsimp only
    rw [atI_n, hm, Option.bind_some]
    by_cases h : (l.one : Int) = r
    · by_cases h' : (l.two : Int) = r
      · simp only [h, h', if_true, decide_true] at hl ⊢
        simp only [List.length_append, List.length_cons, List.length_nil] at hl
        rw [show atI [l.m0, l.m1] 0 = some l.m0 from rfl]
        simp only [Option.bind_some]
        rw [show atI [l.m0, l.m1] 1 = some l.m1 from rfl]
        simp only [Option.bind_some]
        rw [gd_t (by omega)]
        simp only [Option.bind_some]
        rw [gd_t (by rw [List.length_append]; simp only [List.length_cons, List.length_nil]; omega)]
        simp
      · simp only [h, h', if_true, if_false, decide_true, decide_false] at hl ⊢
        simp only [List.length_append, List.length_cons, List.length_nil] at hl
        rw [show atI [l.m0, l.m1] 0 = some l.m0 from rfl]
        simp only [Option.bind_some]
        rw [gd_t (by omega)]
        simp
    · by_cases h' : (l.two : Int) = r
      · simp only [h, h', if_true, if_false, decide_true, decide_false] at hl ⊢
        simp only [List.length_append, List.length_cons, List.length_nil] at hl
        simp only [Bool.false_eq_true, if_false, Option.bind_some]
        rw [show atI [l.m0, l.m1] 1 = some l.m1 from rfl]
        simp only [Option.bind_some]
        rw [gd_t (by omega)]
        simp
      · simp [h, h']
end
end K62


set_option maxRecDepth 100000
set_option maxHeartbeats 4000000
/-! N62b: fronts. -/
namespace K62
open PySem PySem.Spec PyProof.Rows L2 Z FR
section
variable {n g : Nat} {net : List Ln}
theorem unb_step {acc : Fr} {p : Int × Int} (h : acc.length < 16777216) : t_unbeaten_b1 acc p = some (ubStep acc p) := by
  unfold t_unbeaten_b1 ubStep
  cases hl : acc.getLast? with
  | none =>
    have h0 : acc = [] := List.getLast?_eq_none_iff.mp hl
    subst h0
    rfl
  | some q =>
    have hne : acc ≠ [] := fun z => by rw [z] at hl; cases hl
    have h0 : ¬ ((acc.length : Int) = 0) := by
      have := List.length_pos_iff.mpr hne
      omega
    rw [if_neg (by simpa using h0), atI_back hne, hl]
    simp only [Option.bind_some]
    by_cases hq : p.2 < q.2
    · simp [hq, gd_t h]
    · simp [hq]
theorem unb_ok {ps : Fr} (h : ps.length < 1199) : t_unbeaten ps = some (unb ps) := by
  unfold t_unbeaten
  have hs := ssort_len ps
  rw [ssT_ok h, Option.bind_some, forT_fold (h := ubStep) (fun as acc => acc.length + as.length ≤ 16777000)]
  · rfl
  · show 0 + (ssort ps).length ≤ _
    omega
  · intro a as acc hp _
    rw [List.length_cons] at hp
    have := ubStep_len acc a
    exact ⟨unb_step (by omega), by omega⟩
theorem next_ok {T : List Fr} {r : Nat} (hg : ∀ l ∈ net, GoodL n l) (hn : net.length ≤ 1000) (hT : T.length = n) (hc : (cand net T r).length < 1199) : t_next_front (lnks net) (mins net) r T = some (unb (cand net T r)) := by
  unfold t_next_front
  rw [hops_ok hn, Option.bind_some]
  have e : cand net T r = ((hopsOf net r).map hop4).flatMap fun x => (T.getD x.2.1.toNat []).map fun p => (x.2.2.1 + p.1, x.2.2.2 + p.2) := by
    unfold cand cands
    rw [List.flatMap_map]
    rfl
  rw [forT_flat (M := 1198) (h := fun x => (T.getD x.2.1.toNat []).map fun p => (x.2.2.1 + p.1, x.2.2.2 + p.2)), ← e, Option.bind_some, List.nil_append, unb_ok hc, Option.bind_some]
  · rw [← e]
    show 0 + (cand net T r).length ≤ _
    omega
  · intro x hx acc hl
    obtain ⟨h, hh, rfl⟩ := List.mem_map.mp hx
    have to := (hop_to hg hh).1
    rw [List.length_map] at hl
    unfold t_next_front_b1
    have hat : atI T (h.to : Int) = some (T.getD h.to []) := by
      rw [atI_n, List.getD_eq_getElem?_getD, List.getElem?_eq_getElem (by omega)]
      rfl
    show (atI T (h.to : Int)).bind _ = _
    dsimp only [hop4] at hl ⊢
    rw [Int.toNat_natCast] at hl ⊢
    rw [hat, Option.bind_some, gd_t (by omega), Option.bind_some, compT_map, Option.bind_some, gd_t (by rw [List.length_map]; omega), Option.bind_some, Option.bind_some]
theorem r62_of {a : Nat} (h : a ≤ 1000) : r62 (a : Int) := by
  unfold r62
  omega
theorem at_tell {T : List Fr} {r : Nat} (h : r < T.length) : atI T (r : Int) = some (T.getD r []) := by
  rw [atI_n, List.getD_eq_getElem?_getD, List.getElem?_eq_getElem h]
  rfl
theorem len_rangeT (n : Nat) : (rangeT 0 (n : Int)).length = n := by
  rw [rangeT_n, List.length_map, List.length_range]
theorem find_step {T : List Fr} {x : Int} (h16 : n ≤ 16) (hg : ∀ l ∈ net, GoodL n l) (hgn : g < n) (hn : net.length ≤ 1000) (hT : T.length = n) (hc : ∀ r, r < n → (cand net T r).length < 1199) :
    t_find_fronts_b1z n (lnks net) (mins net) g T x = some (tellS net n g T) := by
  unfold t_find_fronts_b1z
  have hl := len_rangeT n
  rw [gd_t (r62_of (by omega)), Option.bind_some, gd_t (by omega), Option.bind_some, compT_ok (h := fun x : Int => unb (cand net T x.toNat)), Option.bind_some, compT_ok (h := fun x : Int => if x.toNat = g then T.getD g [] else unb (cand net T x.toNat)), Option.bind_some]
  · unfold tellS
    rw [rangeT_n, List.map_map]
    rfl
  · intro x hx
    obtain ⟨j, rfl, hj⟩ := mem_rangeT hx
    rw [Int.toNat_natCast]
    by_cases h : j = g
    · subst h
      rw [if_pos (by simp), at_tell (by omega)]
      simp
    · rw [if_neg (by simp; omega), if_neg h, atI_n, rangeT_n, List.map_map, List.getElem?_map, List.getElem?_range hj]
      rfl
  · intro x hx
    obtain ⟨j, rfl, hj⟩ := mem_rangeT hx
    rw [next_ok hg hn hT (hc j hj), Option.bind_some]
    rfl
theorem fold_tell : ∀ (xs : List Int) (k : Nat), xs.foldl (fun T _ => tellS net n g T) (tellK net n g k) = tellK net n g (k + xs.length)
  | [], k => rfl
  | x :: xs, k => by
    rw [List.foldl_cons]
    show xs.foldl _ (tellK net n g (k + 1)) = _
    rw [fold_tell xs (k + 1), List.length_cons]
    congr 1
    omega
theorem find_ok (N : Nx n g net) : t_find_fronts n (lnks net) (mins net) g = some (.ok (told net n g)) := by
  have h16 := N.h16
  have hl := len_rangeT n
  have hn := N.hn
  unfold t_find_fronts
  rw [gd_t (r62_of (by omega)), Option.bind_some, gd_t (by omega), Option.bind_some, compT_ok (h := fun x : Int => if x.toNat = g then [(0, 0)] else []), Option.bind_some]
  · have e0 : (rangeT 0 (n : Int)).map (fun x : Int => if x.toNat = g then [((0 : Int), (0 : Int))] else []) = tellK net n g 0 := by
      rw [rangeT_n, List.map_map]
      rfl
    rw [e0, forT_fold (h := fun T _ => tellS net n g T) (fun as T => ∃ k, k + as.length = n ∧ T = tellK net n g k), fold_tell, hl, Nat.zero_add]
    show ((some (tellK net n g n)).bind fun T => (some ()).bind fun _ => (forR (t_find_fronts_b2z T) (rangeT 0 (n : Int)) ()).bind fun o => elimT o (fun _ => some (Rz.ok T)) fun v => some v) = _
    rw [Option.bind_some, Option.bind_some, forR_all (s := ())]
    · rfl
    · intro x hx
      obtain ⟨j, rfl, hj⟩ := mem_rangeT hx
      unfold t_find_fronts_b2z
      rw [at_tell (by rw [tellK_len]; exact hj), Option.bind_some, if_neg]
      have := N.hl j hj
      simp only [decide_eq_true_eq]
      show ¬ ((300 : Int) < ((tellK net n g n).getD j []).length)
      omega
    · exact ⟨0, by rw [hl, Nat.zero_add], rfl⟩
    · rintro a as _ ⟨k, hk, rfl⟩ _
      rw [List.length_cons] at hk
      exact ⟨find_step h16 N.hg N.hgn (by omega) (tellK_len k) fun r hr => N.hc k r (by omega) hr, k + 1, by omega, rfl⟩
  · intro x hx
    obtain ⟨j, rfl, hj⟩ := mem_rangeT hx
    rw [Int.toNat_natCast]
    by_cases h : j = g
    · simp [h]
    · have : ¬ ((j : Int) = g) := by omega
      simp [h, this]
theorem fronts_ok (N : Nx n g net) : t_fronts n (lnks net) (mins net) g = some (.ok (told net n g)) := by
  unfold t_fronts
  rw [net_ok N.h1 N.h16 N.hg N.hn, Option.bind_some, elimR_ok, router_ok N.hgn, Option.bind_some, elimR_ok, find_ok N, Option.bind_some]
/-- are_fronts, of any lists -/
theorem are_ok (h1 : 1 ≤ n) (h16 : n ≤ 16) (hg : ∀ l ∈ net, GoodL n l) (hn : net.length ≤ 40) (hgn : g < n) {T : List Fr} (hT : T.length = n) (hc : ∀ r, r < n → (cand net T r).length < 1199) :
    t_are_fronts n (lnks net) (mins net) g T = some (.ok (decide (T.getD g [] = [(0, 0)] ∧ ∀ r, r < n → r ≠ g → T.getD r [] = unb (cand net T r)))) := by
  have hl := len_rangeT n
  unfold t_are_fronts
  rw [net_ok h1 h16 hg hn, Option.bind_some, elimR_ok, router_ok hgn, Option.bind_some, elimR_ok, if_neg (by simp [hT]), at_tell (by omega)]
  simp only [Option.bind_some]
  by_cases h0 : T.getD g [] = [(0, 0)]
  · rw [if_neg (by rw [h0]; decide), gd_t (r62_of (by omega)), Option.bind_some, gd_t (by omega), Option.bind_some]
    have e : compT (fun x_17 : Int => if (!decide (x_17 = (g : Int))) = true then some (some x_17) else some none) (rangeT 0 (n : Int)) = some (((rangeT 0 (n : Int)).filter fun x => !decide (x = (g : Int))).map fun x => x) := by
      refine compT_filters fun x _ => ?_
      by_cases h : x = (g : Int) <;> simp [h]
    rw [e, Option.bind_some, List.map_id', gd_t (by
      have := List.length_filter_le (fun x => !decide (x = (g : Int))) (rangeT 0 (n : Int))
      omega), Option.bind_some, compT_ok (h := fun x : Int => decide (T.getD x.toNat [] = unb (cand net T x.toNat)))]
    · rw [Option.bind_some]
      congr 2
      rw [Bool.eq_iff_iff, List.all_eq_true, decide_eq_true_eq]
      constructor
      · intro h
        refine ⟨h0, fun r hr hne => ?_⟩
        have := h (decide (T.getD r [] = unb (cand net T r))) (List.mem_map.mpr ⟨(r : Int), List.mem_filter.mpr ⟨by rw [rangeT_n]; exact List.mem_map.mpr ⟨r, List.mem_range.mpr hr, rfl⟩, by simp; omega⟩, by rw [Int.toNat_natCast]⟩)
        exact of_decide_eq_true this
      · rintro ⟨_, h⟩ b hb
        obtain ⟨x, hx, rfl⟩ := List.mem_map.mp hb
        obtain ⟨hx1, hx2⟩ := List.mem_filter.mp hx
        obtain ⟨j, rfl, hj⟩ := mem_rangeT hx1
        have hne : j ≠ g := fun z => by rw [z] at hx2; simp at hx2
        exact decide_eq_true (h j hj hne)
    · intro x hx
      obtain ⟨hx1, hx2⟩ := List.mem_filter.mp hx
      obtain ⟨j, rfl, hj⟩ := mem_rangeT hx1
      rw [at_tell (by omega), Option.bind_some, next_ok hg (by omega) hT (hc j hj), Option.bind_some, Int.toNat_natCast]
  · rw [if_pos (by rw [decide_eq_false h0]; rfl), decide_eq_false (fun z => h0 z.1)]
end
end K62


set_option maxRecDepth 100000
set_option maxHeartbeats 4000000
/-! N62c: walk_by, cheapest, limits. -/
namespace K62
open PySem PySem.Spec PyProof.Rows L2 Z FR
section
variable {n g : Nat} {net : List Ln}
def encR (left : Int × Int) (h : Hop) : D := .tup [.tup [.int h.k, .int h.e], .int h.to, encP (rest left h)]
theorem row_pd (left : Int × Int) (h : Hop) : (encR left h).pd = .tuple [.tuple [.int h.k, .int h.e], .int h.to, .tuple [.int (rest left h).1, .int (rest left h).2]] := rfl
theorem row_lt (left : Int × Int) {a b : Hop} (h : hlt a b) : PySem.W.dataLt (encR left b).pd (encR left a).pd = false := by
  rw [row_pd, row_pd, PySem.W.dataLt_tuple, PySem.W.dataLt_cons (by rfl)]
  unfold hlt at h
  have e : PyData.eqv (.tuple [.int (b.k : Int), .int (b.e : Int)]) (.tuple [.int (a.k : Int), .int (a.e : Int)]) = false := by
    show ((b.k : Int) == (a.k : Int) && ((b.e : Int) == (a.e : Int) && true)) = false
    rw [Bool.and_true, Bool.and_eq_false_iff]
    by_cases c : a.k < b.k
    · left
      exact beq_eq_false_iff_ne.mpr (by omega)
    · right
      exact beq_eq_false_iff_ne.mpr (by omega)
  rw [e, if_neg Bool.false_ne_true, PySem.W.dataLt_ii]
  exact decide_eq_false (by omega)
theorem minD_first {x : PyData} : ∀ {xs : List PyData}, (∀ y ∈ xs, PySem.W.dataLt y x = false) → PySem.W.minD x xs = x
  | [], _ => rfl
  | y :: ys, h => by
    show PySem.W.minD (if PySem.W.dataLt y x then y else x) ys = x
    rw [h y List.mem_cons_self, if_neg Bool.false_ne_true]
    exact minD_first fun z hz => h z (List.mem_cons_of_mem _ hz)
theorem depthAll_le {m : Nat} : ∀ {xs : List PyData}, (∀ x ∈ xs, x.depth ≤ m) → PyData.depthAll xs ≤ m
  | [], _ => Nat.zero_le _
  | x :: xs, h => by
    show max x.depth (PyData.depthAll xs) ≤ m
    exact Nat.max_le.mpr ⟨h x List.mem_cons_self, depthAll_le fun y hy => h y (List.mem_cons_of_mem _ hy)⟩
theorem min_rows {left : Int × Int} {h : Hop} {hs : List Hop} (pw : (h :: hs).Pairwise hlt) : bMinD [.lst ((h :: hs).map (encR left))] = some (encR left h) := by
  have c1 : PySem.W.AlikeAll (((h :: hs).map (encR left)).map D.pd) := by
    constructor
    · intro d hd d' hd'
      obtain ⟨e, he, rfl⟩ := List.mem_map.mp hd
      obtain ⟨e', he', rfl⟩ := List.mem_map.mp hd'
      obtain ⟨p, _, rfl⟩ := List.mem_map.mp he
      obtain ⟨q, _, rfl⟩ := List.mem_map.mp he'
      rfl
    · intro d hd
      obtain ⟨e, he, rfl⟩ := List.mem_map.mp hd
      obtain ⟨p, _, rfl⟩ := List.mem_map.mp he
      exact fun z => nomatch z
  have c2 : PyData.depthAll (((h :: hs).map (encR left)).map D.pd) ≤ 64 := by
    refine depthAll_le fun d hd => ?_
    obtain ⟨e, he, rfl⟩ := List.mem_map.mp hd
    obtain ⟨p, _, rfl⟩ := List.mem_map.mp he
    show max (max 0 (max 0 0) + 1) (max 0 (max (max 0 (max 0 0) + 1) 0)) + 1 ≤ 64
    decide
  have c3 : ∀ x ∈ (h :: hs).map (encR left), ofPd x.pd = x := by
    intro x hx
    obtain ⟨p, _, rfl⟩ := List.mem_map.mp hx
    rfl
  have c4 : PySem.W.minD (encR left h).pd ((hs.map (encR left)).map D.pd) = (encR left h).pd := by
    refine minD_first fun y hy => ?_
    obtain ⟨e, he, rfl⟩ := List.mem_map.mp hy
    obtain ⟨q, hq, rfl⟩ := List.mem_map.mp he
    exact row_lt left ((List.pairwise_cons.mp pw).1 q hq)
  have c5 : ofPd (encR left h).pd = encR left h := rfl
  rw [List.map_cons] at c1 c2 c3 ⊢
  unfold bMinD
  rw [← c5]
  simp only
  rw [c5, if_pos ⟨c1, c2, c3⟩, c4, c5]

def rowT (left : Int × Int) (h : Hop) : (Int × Int) × Int × (Int × Int) := (((h.k : Int), (h.e : Int)), (h.to : Int), rest left h)
theorem e3_inj {a b : (Int × Int) × Int × (Int × Int)} (h : e3 (e2 D.int D.int) D.int (e2 D.int D.int) a = e3 (e2 D.int D.int) D.int (e2 D.int D.int) b) : a = b := by
  obtain ⟨⟨a1, a2⟩, a3, a4, a5⟩ := a
  obtain ⟨⟨b1, b2⟩, b3, b4, b5⟩ := b
  simp only [D.tup.injEq, List.cons.injEq, D.int.injEq] at h
  obtain ⟨⟨h1, h2, _⟩, h3, ⟨h4, h5, _⟩, _⟩ := h
  rw [h1, h2, h3, h4, h5]
theorem min_ok {left : Int × Int} {h : Hop} {hs : List Hop} (pw : (h :: hs).Pairwise hlt) : minE (e3 (e2 D.int D.int) D.int (e2 D.int D.int)) ((h :: hs).map (rowT left)) = some (rowT left h) := by
  refine minE_of (fun b hb => e3_inj hb) ?_
  have := min_rows (left := left) pw
  rw [List.map_map]
  exact this
def rowF (T : List Fr) (left : Int × Int) (x : (Int × Int) × Int × Int × Int) : List ((Int × Int) × Int × (Int × Int)) := cond (memT (left.1 - x.2.2.1, left.2 - x.2.2.2) (T.getD x.2.1.toNat [])) [(x.1, x.2.1, (left.1 - x.2.2.1, left.2 - x.2.2.2))] []
theorem mem_good {T : List Fr} {left : Int × Int} {h : Hop} : memT (left.1 - h.cost, left.2 - h.time) (T.getD h.to []) = good T left h := by
  rw [Bool.eq_iff_iff, memT_iff]
  unfold good
  rw [decide_eq_true_eq]
theorem rowF_hop {T : List Fr} {left : Int × Int} {h : Hop} : rowF T left (hop4 h) = cond (good T left h) [rowT left h] [] := by
  unfold rowF
  show cond (memT (left.1 - h.cost, left.2 - h.time) (T.getD (h.to : Int).toNat [])) _ _ = _
  rw [Int.toNat_natCast, mem_good]
  rfl
theorem rows_ok {T : List Fr} {r : Nat} {left : Int × Int} (hg : ∀ l ∈ net, GoodL n l) (hn : net.length ≤ 1000) (hT : T.length = n) :
    forT (t_walk_by_b1 T left) ((hopsOf net r).map hop4) [] = some ((goods net T left r).map (rowT left)) := by
  have e : (goods net T left r).map (rowT left) = ((hopsOf net r).map hop4).flatMap (rowF T left) := by
    unfold goods
    rw [List.flatMap_map]
    induction hopsOf net r with
    | nil => rfl
    | cons h hs ih =>
      rw [List.filter_cons, List.flatMap_cons, ← ih, rowF_hop]
      cases c : good T left h <;> simp
  have hl : (goods net T left r).length ≤ 2000 := by
    have h1 := List.length_filter_le (good T left) (hopsOf net r)
    have h2 := flat_len (k := 2) (f := hopsAt r) (fun p => hopsAt_len r p) net.zipIdx
    rw [List.length_zipIdx] at h2
    unfold goods
    unfold hopsOf at h1 ⊢
    omega
  rw [forT_flat (M := 16777000) (h := rowF T left), ← e]
  · rfl
  · rw [← e, List.length_map]
    show 0 + _ ≤ _
    omega
  · intro x hx acc hla
    obtain ⟨h, hh, rfl⟩ := List.mem_map.mp hx
    have to := (hop_to hg hh).1
    unfold t_walk_by_b1
    rw [rowF_hop] at hla ⊢
    show (atI T (h.to : Int)).bind _ = _
    rw [at_tell (by omega), Option.bind_some]
    show Option.bind (if memT (left.1 - h.cost, left.2 - h.time) (T.getD h.to []) = true then _ else _) _ = _
    rw [mem_good]
    cases c : good T left h with
    | true =>
      rw [c] at hla
      rw [if_pos rfl, Option.bind_some, gd_t (by simp only [cond_true, List.length_cons, List.length_nil] at hla; omega)]
      rfl
    | false =>
      rw [if_neg (by decide)]
      simp
def hopI (h : Hop) : Int × Int := ((h.k : Int), (h.e : Int))
theorem walk_go {T : List Fr} (hg : ∀ l ∈ net, GoodL n l) (hn : net.length ≤ 1000) (hT : T.length = n) : ∀ (w : List Hop) (s : Nat) (p : Int × Int) (acc : List (Int × Int)), Wk net T g s p w → acc.length + w.length < 16777216 →
    ∃ q, whileN (t_walk_by_t1 g) (t_walk_by_b2 (lnks net) (mins net) T) (w.length + 1) (acc, (s : Int), p) = some (acc ++ w.map hopI, (g : Int), q)
  | [], s, p, acc, hw, _ => by
    obtain rfl : s = g := hw
    refine ⟨p, ?_⟩
    unfold whileN t_walk_by_t1
    simp
  | h :: w, s, p, acc, hw, hl => by
    obtain ⟨h1, ⟨hs, h2⟩, h3⟩ := hw
    rw [List.length_cons] at hl
    have pw : (h :: hs).Pairwise hlt := by
      rw [← h2]
      exact (hops_pw net s).sublist List.filter_sublist
    obtain ⟨q, hq⟩ := walk_go hg hn hT w h.to (rest p h) (acc ++ [hopI h]) h3 (by rw [List.length_append]; simp only [List.length_cons, List.length_nil]; omega)
    refine ⟨q, ?_⟩
    unfold whileN
    have ht : t_walk_by_t1 g (acc, (s : Int), p) = some true := by
      unfold t_walk_by_t1
      have : ¬ ((s : Int) = g) := by omega
      simp [this]
    have hb : t_walk_by_b2 (lnks net) (mins net) T (acc, (s : Int), p) = some (acc ++ [hopI h], (h.to : Int), rest p h) := by
      unfold t_walk_by_b2
      show (t_hops_of (lnks net) (mins net) (s : Int)).bind _ = _
      rw [hops_ok hn, Option.bind_some]
      show (forT (t_walk_by_b1 T p) _ _).bind _ = _
      rw [rows_ok hg hn hT, h2, Option.bind_some, min_ok pw, Option.bind_some, gd_t (show acc.length < 16777216 by omega), Option.bind_some]
      rfl
    rw [ht, Option.bind_some, if_pos rfl, hb, Option.bind_some, List.length_cons, hq]
    simp
theorem walk_ok {T : List Fr} {s : Nat} {p : Int × Int} {w : List Hop} (hg : ∀ l ∈ net, GoodL n l) (hn : net.length ≤ 1000) (hT : T.length = n) (hw : Wk net T g s p w) (hl : w.length < 1000) :
    t_walk_by (lnks net) (mins net) T s g p = some (w.map hopI) := by
  obtain ⟨q, hq⟩ := walk_go hg hn hT w s p [] hw (by show 0 + _ < _; omega)
  unfold t_walk_by
  rw [whileT_of hq]
  rfl
theorem limits_ok (N : Nx n g net) {s : Nat} (hs : s < n) : t_limits n (lnks net) (mins net) s g = some (.ok (List.mergeSort (((told net n g).getD s []).map swp) (leE (e2 D.int D.int)))) := by
  have hT : (told net n g).length = n := tellK_len n
  have hl : ((told net n g).getD s []).length ≤ 300 := N.hl s hs
  unfold t_limits
  rw [ends_ok N.h1 N.h16 N.hg N.hn hs N.hgn, Option.bind_some, elimR_ok, find_ok N, Option.bind_some, elimR_ok, at_tell (by omega), Option.bind_some, gd_t (by omega), Option.bind_some, compT_map, Option.bind_some]
  rfl
theorem within_eq (U : Fr) (lim : Int) : compT (fun x : Int × Int => if (decide (x.2 ≤ lim)) = true then some (some x) else some none) U = some (within U lim) := by
  have := compT_filters (g := fun x : Int × Int => if (decide (x.2 ≤ lim)) = true then some (some x) else some none) (h := fun x => x) (c := fun x => decide (x.2 ≤ lim)) (xs := U) fun x _ => by
    by_cases h : x.2 ≤ lim <;> simp [h]
  rw [this, List.map_id']
  rfl
theorem cheapest_some (N : Nx n g net) {s : Nat} (hs : s < n) {lim : Int} (h0 : 0 ≤ lim) {p : Int × Int} {ps : Fr} {w : List Hop} (hf : within ((told net n g).getD s []) lim = p :: ps) (hw : Wk net (told net n g) g s p w) (hl : w.length < 1000) :
    t_cheapest n (lnks net) (mins net) s g lim = some (.ok (some (p, w.map hopI))) := by
  have hT : (told net n g).length = n := tellK_len n
  have hl' : ((told net n g).getD s []).length ≤ 300 := N.hl s hs
  unfold t_cheapest
  rw [ends_ok N.h1 N.h16 N.hg N.hn hs N.hgn, Option.bind_some, elimR_ok, if_neg (by simpa using h0), find_ok N, Option.bind_some, elimR_ok, at_tell (by omega), Option.bind_some, gd_t (by omega), Option.bind_some, within_eq, Option.bind_some, hf, if_neg (by simp; omega)]
  rw [show atI (p :: ps) 0 = some p from by rw [show (0 : Int) = ((0 : Nat) : Int) from rfl, atI_n]; rfl]
  simp only [Option.bind_some]
  rw [walk_ok N.hg (by have := N.hn; omega) hT hw hl, Option.bind_some]
theorem cheapest_none (N : Nx n g net) {s : Nat} (hs : s < n) {lim : Int} (h0 : 0 ≤ lim) (hf : within ((told net n g).getD s []) lim = []) : t_cheapest n (lnks net) (mins net) s g lim = some (.ok none) := by
  have hT : (told net n g).length = n := tellK_len n
  have hl' : ((told net n g).getD s []).length ≤ 300 := N.hl s hs
  unfold t_cheapest
  rw [ends_ok N.h1 N.h16 N.hg N.hn hs N.hgn, Option.bind_some, elimR_ok, if_neg (by simpa using h0), find_ok N, Option.bind_some, elimR_ok, at_tell (by omega), Option.bind_some, gd_t (by omega), Option.bind_some, within_eq, Option.bind_some, hf, if_pos (by rfl)]
end
end K62


set_option maxRecDepth 100000
set_option maxHeartbeats 4000000
/-! N62d: the law's own walks. -/
namespace K62
open PySem PySem.Spec PyProof.Rows L2 Z FR
section
variable {n g : Nat} {net : List Ln}
def endOf : Nat → List Hop → Nat
  | r, [] => r
  | _, h :: w => endOf h.to w
theorem endOf_snoc : ∀ (w : List Hop) (r : Nat) (h : Hop), endOf r (w ++ [h]) = h.to
  | [], _, _ => rfl
  | x :: w, _, h => endOf_snoc w x.to h
theorem stops_snoc : ∀ (w : List Hop) (r : Nat) (h : Hop), stops r (w ++ [h]) = stops r w ++ [h.to]
  | [], _, _ => rfl
  | x :: w, r, h => by
    show r :: stops x.to (w ++ [h]) = r :: stops x.to w ++ [h.to]
    rw [stops_snoc w x.to h]
    rfl
theorem stops_last : ∀ (w : List Hop) (r : Nat), (stops r w).getLast? = some (endOf r w)
  | [], _ => rfl
  | x :: w, r => by
    show (r :: stops x.to w).getLast? = some (endOf x.to w)
    rw [List.getLast?_cons, stops_last w x.to]
    rfl
def sumc (w : List Hop) : Int := (w.map (·.cost)).sum
def sumt (w : List Hop) : Int := (w.map (·.time)).sum
theorem sumc_snoc (w : List Hop) (h : Hop) : sumc (w ++ [h]) = sumc w + h.cost := by simp [sumc]
theorem sumt_snoc (w : List Hop) (h : Hop) : sumt (w ++ [h]) = sumt w + h.time := by simp [sumt]
def rowE (s : Nat) (w : List Hop) : List (Int × Int) × List Int × (Int × Int) := (w.map hopI, (stops s w).map (fun j : Nat => (j : Int)), (sumc w, sumt w))
/-- the walks with one hop more -/
def ext (net : List Ln) (s : Nat) (w : List Hop) : List (List Hop) := ((hopsOf net (endOf s w)).filter fun h => decide (h.to ∉ stops s w)).map fun h => w ++ [h]
def extK (net : List Ln) (s : Nat) (w : List Hop) (k : Nat) : List (List Hop) := match net[k]? with
  | some l => ((hopsAt (endOf s w) (l, k)).filter fun h => decide (h.to ∉ stops s w)).map fun h => w ++ [h]
  | none => []
theorem ext_eq (s : Nat) (w : List Hop) : (List.range net.length).flatMap (extK net s w) = ext net s w := by
  have h1 : List.range net.length = net.zipIdx.map (·.2) := by
    rw [List.zipIdx_map_snd, List.range_eq_range']
  rw [h1, List.flatMap_map]
  unfold ext hopsOf
  rw [List.filter_flatMap, List.map_flatMap]
  refine flatMap_same fun p hp => ?_
  obtain ⟨l, k⟩ := p
  unfold extK
  rw [List.mem_zipIdx_iff_getElem?.mp hp]
theorem memN {x : Nat} {xs : List Nat} : memT (x : Int) (xs.map fun j : Nat => (j : Int)) = decide (x ∈ xs) := by
  rw [Bool.eq_iff_iff, memT_iff, decide_eq_true_eq, List.mem_map]
  constructor
  · rintro ⟨j, hj, e⟩
    rwa [← (by omega : j = x)]
  · exact fun h => ⟨x, h, rfl⟩
theorem rangeT2 : Z.rangeT 0 2 = [0, 1] := by decide
theorem walk_b1 {s k : Nat} {w : List Hop} {l : Ln} {acc : List (List (Int × Int) × List Int × (Int × Int))} (hl : net[k]? = some l) (hw : w.length ≤ 1000) (ha : acc.length + 2 ≤ 16777000) :
    forT (t__law_walks_b1 (lnks net) (mins net) (w.map hopI) ((stops s w).map fun j : Nat => (j : Int)) (sumc w, sumt w) (k : Int)) [0, 1] acc = some (acc ++ (extK net s w k).map (rowE s)) := by
  have hlk : atI (lnks net) (k : Int) = some ((l.one : Int), (l.two : Int), l.there, l.back) := by
    rw [atI_n]
    unfold lnks
    rw [List.getElem?_map, hl]
    rfl
  have hmk : atI (mins net) (k : Int) = some [l.m0, l.m1] := by rw [atI_n, mins_get hl]
  have hst : (stops s w).length = w.length + 1 := stops_len w s
  have hlast : atI ((stops s w).map fun j : Nat => (j : Int)) (-1) = some ((endOf s w : Nat) : Int) := by
    rw [atI_back (by intro z; have := congrArg List.length z; rw [List.length_map, hst] at this; simp at this), List.getLast?_map, stops_last]
    rfl
  have one : ∀ (acc : List (List (Int × Int) × List Int × (Int × Int))) (x : Nat) (a b : Nat) (c t : Int), acc.length < 16777000 → x < 2 → ([(l.one : Int), (l.two : Int), l.there, l.back][x]? = some (a : Int)) → ([(l.one : Int), (l.two : Int), l.there, l.back][1 - x]? = some (b : Int)) → ([(l.one : Int), (l.two : Int), l.there, l.back][2 + x]? = some c) → ([l.m0, l.m1][x]? = some t) →
      t__law_walks_b1 (lnks net) (mins net) (w.map hopI) ((stops s w).map fun j : Nat => (j : Int)) (sumc w, sumt w) (k : Int) acc (x : Int) = some (acc ++ (cond (decide (a = endOf s w) && decide (b ∉ stops s w)) [rowE s (w ++ [⟨k, x, b, c, t⟩])] [])) := by
    intro acc x a b c t hacc hx h1 h2 h3 h4
    unfold t__law_walks_b1
    have e1 : atI [(l.one : Int), (l.two : Int), l.there, l.back] (x : Int) = some (a : Int) := by rw [atI_n, h1]
    have e2 : atI [(l.one : Int), (l.two : Int), l.there, l.back] (1 - (x : Int)) = some (b : Int) := by rw [show (1 : Int) - (x : Int) = ((1 - x : Nat) : Int) by omega, atI_n, h2]
    have e3 : atI [(l.one : Int), (l.two : Int), l.there, l.back] (2 + (x : Int)) = some c := by rw [show (2 : Int) + (x : Int) = ((2 + x : Nat) : Int) by omega, atI_n, h3]
    have e4 : atI [l.m0, l.m1] (x : Int) = some t := by rw [atI_n, h4]
    simp only [hlk, hmk, hlast, e1, e2, e3, e4, Option.bind_some, memN]
    by_cases ca : a = endOf s w
    · by_cases cb : b ∈ stops s w
      · simp [ca, cb]
      · simp only [ca, cb, decide_true, decide_false, Bool.not_false, if_true, Option.bind_some]
        rw [gd_t (by rw [List.length_map]; show w.length + 1 ≤ _; omega)]
        simp only [Option.bind_some]
        rw [gd_t (by rw [List.length_map, hst]; show w.length + 1 + 1 ≤ _; omega)]
        simp only [Option.bind_some]
        rw [gd_t (by omega)]
        simp only [Option.bind_some]
        unfold rowE
        rw [stops_snoc, sumc_snoc, sumt_snoc]
        simp [hopI]
    · have : ¬ ((a : Int) = (endOf s w : Nat)) := by omega
      simp [ca, this]
  show forT (t__law_walks_b1 _ _ _ _ _ _) [((0 : Nat) : Int), ((1 : Nat) : Int)] acc = _
  rw [forT_cons, one acc 0 l.one l.two l.there l.m0 (by omega) (by omega) rfl rfl rfl rfl, Option.bind_some, forT_cons, one _ 1 l.two l.one l.back l.m1 (by
    rw [List.length_append]
    cases (decide (l.one = endOf s w) && decide (l.two ∉ stops s w)) <;> simp <;> omega) (by omega) rfl rfl rfl rfl, Option.bind_some, forT_nil, List.append_assoc]
  unfold extK
  rw [hl]
  congr 2
  unfold hopsAt
  by_cases c1 : l.one = endOf s w <;> by_cases c2 : l.two = endOf s w <;> by_cases d1 : l.two ∈ stops s w <;> by_cases d2 : l.one ∈ stops s w <;> simp [c1, c2, d1, d2] <;> simp_all
end
end K62


set_option maxRecDepth 100000
set_option maxHeartbeats 4000000
/-! N62e: how many walks there are. -/
namespace K62
open PySem PySem.Spec PyProof.Rows L2 Z FR
section
variable {n g s : Nat} {net : List Ln}
def lev (net : List Ln) (s g : Nat) : Nat → List (List Hop)
  | 0 => [[]]
  | k + 1 => (lev net s g k).flatMap fun w => if endOf s w = g then [] else ext net s w
def fnd (net : List Ln) (s g k : Nat) : List (List Hop) := (List.range k).flatMap fun i => (lev net s g i).filter fun w => decide (endOf s w = g)
def Chn (net : List Ln) : Nat → List Hop → Prop
  | _, [] => True
  | r, h :: w => h ∈ hopsOf net r ∧ Chn net h.to w
theorem chn_snoc : ∀ {w : List Hop} {r : Nat} {h : Hop}, Chn net r (w ++ [h]) ↔ Chn net r w ∧ h ∈ hopsOf net (endOf r w)
  | [], r, h => by simp [Chn, endOf]
  | x :: w, r, h => by
    show (x ∈ hopsOf net r ∧ Chn net x.to (w ++ [h])) ↔ (x ∈ hopsOf net r ∧ Chn net x.to w) ∧ h ∈ hopsOf net (endOf x.to w)
    rw [chn_snoc, and_assoc]
theorem mem_ext {w w' : List Hop} : w' ∈ ext net s w ↔ ∃ h ∈ hopsOf net (endOf s w), h.to ∉ stops s w ∧ w' = w ++ [h] := by
  unfold ext
  rw [List.mem_map]
  constructor
  · rintro ⟨h, hh, rfl⟩
    obtain ⟨h1, h2⟩ := List.mem_filter.mp hh
    exact ⟨h, h1, of_decide_eq_true h2, rfl⟩
  · rintro ⟨h, h1, h2, rfl⟩
    exact ⟨h, List.mem_filter.mpr ⟨h1, decide_eq_true h2⟩, rfl⟩
theorem lev_ok : ∀ {k : Nat} {w : List Hop}, w ∈ lev net s g k → w.length = k ∧ Chn net s w ∧ (stops s w).Nodup
  | 0, w, h => by
    obtain rfl : w = [] := List.mem_singleton.mp h
    exact ⟨rfl, trivial, by simp [stops]⟩
  | k + 1, w, h => by
    obtain ⟨v, hv, hw⟩ := List.mem_flatMap.mp h
    obtain ⟨h1, h2, h3⟩ := lev_ok hv
    by_cases c : endOf s v = g
    · rw [if_pos c] at hw
      cases hw
    · rw [if_neg c] at hw
      obtain ⟨x, x1, x2, rfl⟩ := mem_ext.mp hw
      refine ⟨by rw [List.length_append, h1]; rfl, chn_snoc.mpr ⟨h2, x1⟩, ?_⟩
      rw [stops_snoc]
      exact List.nodup_append.mpr ⟨h3, by simp, fun a ha b hb => by
        rw [List.mem_singleton.mp hb]
        exact fun z => x2 (z ▸ ha)⟩
/-! counting -/
def inR (init : List Nat) (l : Ln) : Bool := decide (l.one ∉ init) && decide (l.two ∉ init)
def Rm (net : List Ln) (init : List Nat) : Nat := (net.filter (inR init)).length
def mw (net : List Ln) (s : Nat) (w : List Hop) : Nat := Rm net (stops s w).dropLast
theorem flen {α : Type} {p : α → Bool} {x : α} {xs : List α} : ((x :: xs).filter p).length = (if p x = true then 1 else 0) + (xs.filter p).length := by
  rw [List.filter_cons]
  split
  · rw [List.length_cons]
    omega
  · omega
theorem filt_head {e k : Nat} {st init : List Nat} {l : Ln} (hst : st = init ++ [e]) (hnd : st.Nodup) (hp : l.one ≠ l.two) : ((hopsAt e (l, k)).filter fun h => decide (h.to ∉ st)).length + (if inR st l = true then 1 else 0) ≤ (if inR init l = true then 1 else 0) := by
  have he : e ∉ init := by
    rw [hst] at hnd
    exact fun z => (List.nodup_append.mp hnd).2.2 e z e (List.mem_singleton.mpr rfl) rfl
  have mst : ∀ x, x ∈ st ↔ x ∈ init ∨ x = e := fun x => by rw [hst, List.mem_append, List.mem_singleton]
  unfold hopsAt
  dsimp only
  by_cases c1 : l.one = e
  · by_cases c2 : l.two = e
    · exact absurd (c1.trans c2.symm) hp
    · by_cases d : l.two ∈ init
      · have a1 : l.two ∈ st := (mst _).mpr (.inl d)
        have a2 : inR st l = false := by simp [inR, a1]
        have a3 : inR init l = false := by simp [inR, d]
        simp [c1, c2, a1, a2, a3]
      · have a1 : l.two ∉ st := fun z => ((mst _).mp z).elim d c2
        have a2 : inR st l = false := by simp [inR, c1, (mst e).mpr (.inr rfl)]
        have a3 : inR init l = true := by simp [inR, d, c1, he]
        simp [c1, c2, a1, a2, a3]
  · by_cases c2 : l.two = e
    · by_cases d : l.one ∈ init
      · have a1 : l.one ∈ st := (mst _).mpr (.inl d)
        have a2 : inR st l = false := by simp [inR, a1]
        have a3 : inR init l = false := by simp [inR, d]
        simp [c1, c2, a1, a2, a3]
      · have a1 : l.one ∉ st := fun z => ((mst _).mp z).elim d c1
        have a2 : inR st l = false := by simp [inR, c2, (mst e).mpr (.inr rfl)]
        have a3 : inR init l = true := by simp [inR, d, c2, he]
        simp [c1, c2, a1, a2, a3]
    · have a : inR st l = inR init l := by
        unfold inR
        rw [Bool.eq_iff_iff]
        simp only [Bool.and_eq_true, decide_eq_true_eq, mst, c1, c2, or_false]
      rw [a]
      simp [c1, c2]
theorem filt_flat {e : Nat} {st init : List Nat} (hst : st = init ++ [e]) (hnd : st.Nodup) : ∀ (ls : List (Ln × Nat)), (∀ p ∈ ls, p.1.one ≠ p.1.two) → ((ls.flatMap (hopsAt e)).filter fun h => decide (h.to ∉ st)).length + ((ls.map (·.1)).filter (inR st)).length ≤ ((ls.map (·.1)).filter (inR init)).length
  | [], _ => Nat.le_refl _
  | (l, k) :: ls, hne => by
    have ih := filt_flat hst hnd ls fun q hq => hne q (List.mem_cons_of_mem _ hq)
    have hp := filt_head (k := k) hst hnd (hne (l, k) List.mem_cons_self)
    rw [List.flatMap_cons, List.filter_append, List.length_append, List.map_cons, flen, flen]
    dsimp only at hp ih ⊢
    omega
theorem ext_count (hg : ∀ l ∈ net, GoodL n l) {w : List Hop} (hnd : (stops s w).Nodup) : (ext net s w).length + Rm net (stops s w) ≤ mw net s w := by
  have hne : stops s w ≠ [] := fun z => by
    have := stops_len w s
    rw [z] at this
    cases this
  have hst : stops s w = (stops s w).dropLast ++ [endOf s w] := by
    have h1 := stops_last w s
    rw [List.getLast?_eq_some_getLast hne] at h1
    rw [← Option.some.inj h1]
    exact (List.dropLast_concat_getLast hne).symm
  have := filt_flat hst hnd net.zipIdx fun p hp => (hg p.1 (List.fst_mem_of_mem_zipIdx hp)).ne
  rw [List.zipIdx_map_fst] at this
  unfold ext
  rw [List.length_map]
  exact this
def Fm (m : Nat) : Nat := ([1, 1, 2, 3, 4, 6, 9, 12, 18, 27, 36, 54, 81, 108, 162] : List Nat).getD m 162
theorem fm_mul : ∀ a < 15, ∀ d < 15, d + a < 15 → d * Fm a ≤ Fm (d + a) := by decide
theorem fm_mono : ∀ a < 15, ∀ b < 15, a ≤ b → Fm a ≤ Fm b := by decide
theorem fm_pos : ∀ a < 15, 1 ≤ Fm a := by decide
theorem rm_le (init : List Nat) : Rm net init ≤ net.length := List.length_filter_le _ _
def Sm (net : List Ln) (s : Nat) (ws : List (List Hop)) : Nat := (ws.map fun w => Fm (mw net s w)).sum
theorem sm_flat (f : List Hop → List (List Hop)) : ∀ ws : List (List Hop), Sm net s (ws.flatMap f) = (ws.map fun w => Sm net s (f w)).sum
  | [] => rfl
  | w :: ws => by
    rw [List.flatMap_cons]
    have ih := sm_flat f ws
    unfold Sm at ih ⊢
    rw [List.map_append, List.sum_append, ih]
    rfl
theorem sm_ext (hg : ∀ l ∈ net, GoodL n l) (hn : net.length ≤ 14) {w : List Hop} (hnd : (stops s w).Nodup) : Sm net s (ext net s w) ≤ Fm (mw net s w) := by
  have h1 := ext_count hg hnd
  have h2 : mw net s w ≤ net.length := rm_le _
  have h3 : ∀ w' ∈ ext net s w, mw net s w' = Rm net (stops s w) := by
    intro w' hw'
    obtain ⟨h, _, _, rfl⟩ := mem_ext.mp hw'
    unfold mw
    rw [stops_snoc, List.dropLast_concat]
  have h4 : Sm net s (ext net s w) = (ext net s w).length * Fm (Rm net (stops s w)) := by
    unfold Sm
    rw [List.map_congr_left fun w' hw' => by rw [h3 w' hw'], List.map_const', List.sum_replicate_nat]
  rw [h4]
  exact Nat.le_trans (fm_mul _ (by omega) _ (by omega) (by omega)) (fm_mono _ (by omega) _ (by omega) h1)
theorem sm_step (hg : ∀ l ∈ net, GoodL n l) (hn : net.length ≤ 14) : ∀ ws : List (List Hop), (∀ w ∈ ws, (stops s w).Nodup) →
    Sm net s (ws.flatMap fun w => if endOf s w = g then [] else ext net s w) + (ws.filter fun w => decide (endOf s w = g)).length ≤ Sm net s ws
  | [], _ => Nat.le_refl _
  | w :: ws, h => by
    have ih := sm_step hg hn ws fun v hv => h v (List.mem_cons_of_mem _ hv)
    have hw := sm_ext hg hn (h w List.mem_cons_self)
    have hp := fm_pos (mw net s w) (by have : mw net s w ≤ net.length := rm_le _; omega)
    rw [List.flatMap_cons, List.filter_cons]
    have e : ∀ a b : List (List Hop), Sm net s (a ++ b) = Sm net s a + Sm net s b := fun a b => by simp [Sm]
    rw [e]
    have e2 : Sm net s (w :: ws) = Fm (mw net s w) + Sm net s ws := by simp [Sm]
    rw [e2]
    by_cases c : endOf s w = g
    · rw [if_pos c, if_pos (decide_eq_true c), List.length_cons]
      show 0 + _ + _ ≤ _
      omega
    · rw [if_neg c, if_neg (by simpa using c)]
      omega
theorem sm_all (hg : ∀ l ∈ net, GoodL n l) (hn : net.length ≤ 14) : ∀ k, Sm net s (lev net s g k) + (fnd net s g k).length ≤ 162
  | 0 => by
    have h1 : Sm net s (lev net s g 0) = Fm (mw net s []) := by simp [Sm, lev]
    have h2 : mw net s [] ≤ net.length := rm_le _
    have h3 := fm_mono (mw net s []) (by omega) 14 (by omega) (by omega)
    have h4 : Fm 14 = 162 := rfl
    rw [h1]
    show _ + 0 ≤ _
    omega
  | k + 1 => by
    have ih := sm_all hg hn k
    have st := sm_step (g := g) hg hn (lev net s g k) fun w hw => (lev_ok hw).2.2
    unfold fnd at *
    rw [List.range_succ, List.flatMap_append, List.length_append]
    simp only [List.flatMap_cons, List.flatMap_nil, List.append_nil]
    show Sm net s ((lev net s g k).flatMap _) + _ ≤ _
    omega
theorem lev_len (hg : ∀ l ∈ net, GoodL n l) (hn : net.length ≤ 14) (k : Nat) : (lev net s g k).length ≤ 162 := by
  have h1 := sm_all (s := s) (g := g) hg hn k
  have h2 : ∀ ws : List (List Hop), ws.length ≤ Sm net s ws := by
    intro ws
    induction ws with
    | nil => exact Nat.le_refl _
    | cons w ws ih =>
      have hp := fm_pos (mw net s w) (by have : mw net s w ≤ net.length := rm_le _; omega)
      have e2 : Sm net s (w :: ws) = Fm (mw net s w) + Sm net s ws := by simp [Sm]
      rw [e2, List.length_cons]
      omega
  have := h2 (lev net s g k)
  omega
theorem fnd_len (hg : ∀ l ∈ net, GoodL n l) (hn : net.length ≤ 14) (k : Nat) : (fnd net s g k).length ≤ 162 := by
  have h1 := sm_all (s := s) (g := g) hg hn k
  omega
end
end K62


set_option maxRecDepth 100000
set_option maxHeartbeats 4000000
/-! N62f: _law_walks. -/
namespace K62
open PySem PySem.Spec PyProof.Rows L2 Z FR
section
variable {n g s : Nat} {net : List Ln}
def wkT (w : List Hop) : (Int × Int) × List (Int × Int) := ((sumc w, sumt w), w.map hopI)
theorem extK_len (w : List Hop) (k : Nat) : (extK net s w k).length ≤ 2 := by
  unfold extK
  split
  · rw [List.length_map]
    exact Nat.le_trans (List.length_filter_le _ _) (hopsAt_len _ _)
  · exact Nat.zero_le _
theorem walk_ks {w : List Hop} (hw : w.length ≤ 1000) : ∀ (ks : List Nat) (acc : List (List (Int × Int) × List Int × (Int × Int))), (∀ k ∈ ks, k < net.length) → acc.length + 2 * ks.length ≤ 16777000 →
    forT (t__law_walks_b2 (lnks net) (mins net) (w.map hopI) ((stops s w).map fun j : Nat => (j : Int)) (sumc w, sumt w)) (ks.map fun k : Nat => (k : Int)) acc = some (acc ++ (ks.flatMap (extK net s w)).map (rowE s))
  | [], acc, _, _ => by simp [forT]
  | k :: ks, acc, hk, hl => by
    rw [List.length_cons] at hl
    have h1 := extK_len (net := net) (s := s) w k
    obtain ⟨l, hn⟩ : ∃ l, net[k]? = some l := ⟨_, List.getElem?_eq_getElem (hk k List.mem_cons_self)⟩
    have e : t__law_walks_b2 (lnks net) (mins net) (w.map hopI) ((stops s w).map fun j : Nat => (j : Int)) (sumc w, sumt w) acc (k : Int) = some (acc ++ (extK net s w k).map (rowE s)) := by
      unfold t__law_walks_b2
      rw [rangeT2, walk_b1 hn hw (by omega), Option.bind_some]
    rw [List.map_cons, forT_cons, e, Option.bind_some, walk_ks hw ks _ (fun j hj => hk j (List.mem_cons_of_mem _ hj)) (by rw [List.length_append, List.length_map]; omega), List.flatMap_cons, List.map_append, List.append_assoc]
theorem ext_len (w : List Hop) : (ext net s w).length ≤ 2 * net.length := by
  rw [← ext_eq]
  have := flat_len (k := 2) (f := extK net s w) (fun k => extK_len w k) (List.range net.length)
  rwa [List.length_range] at this
theorem walk_rows (hn : net.length ≤ 14) : ∀ (ws : List (List Hop)) (fd : List ((Int × Int) × List (Int × Int))) (more : List (List (Int × Int) × List Int × (Int × Int))), (∀ w ∈ ws, w.length ≤ 1000) → fd.length + ws.length ≤ 10000 → more.length + 28 * ws.length ≤ 1000000 →
    forT (t__law_walks_b3 (lnks net) (mins net) g) (ws.map (rowE s)) (fd, more) = some (fd ++ (ws.filter fun w => decide (endOf s w = g)).map wkT, more ++ (ws.flatMap fun w => if endOf s w = g then [] else ext net s w).map (rowE s))
  | [], fd, more, _, _, _ => by simp [forT]
  | w :: ws, fd, more, hw, h1, h2 => by
    rw [List.length_cons] at h1 h2
    have hw0 := hw w List.mem_cons_self
    have hst : (stops s w).length = w.length + 1 := stops_len w s
    have hlast : atI ((stops s w).map fun j : Nat => (j : Int)) (-1) = some ((endOf s w : Nat) : Int) := by
      rw [atI_back (by intro z; have := congrArg List.length z; rw [List.length_map, hst] at this; simp at this), List.getLast?_map, stops_last]
      rfl
    have e1 : t__law_walks_b3 (lnks net) (mins net) g (fd, more) (rowE s w) = some (if endOf s w = g then (fd ++ [wkT w], more) else (fd, more ++ (ext net s w).map (rowE s))) := by
      unfold t__law_walks_b3
      show (atI ((stops s w).map fun j : Nat => (j : Int)) (-1)).bind _ = _
      rw [hlast, Option.bind_some]
      by_cases c : endOf s w = g
      · rw [if_pos (by rw [c]; simp), if_pos c, gd_t (show fd.length < 16777216 by omega)]
        rfl
      · rw [if_neg (by simp; omega), if_neg c, len_lnks, gd_t (r62_of (by omega)), Option.bind_some, rangeT_n]
        show Option.bind (Option.bind (forT (t__law_walks_b2 (lnks net) (mins net) (w.map hopI) ((stops s w).map fun j : Nat => (j : Int)) (sumc w, sumt w)) _ more) _) _ = _
        rw [walk_ks hw0 _ _ (fun k hk => List.mem_range.mp hk) (by rw [List.length_range]; omega), ext_eq]
        rfl
    rw [List.map_cons, forT_cons, e1, Option.bind_some, List.filter_cons, List.flatMap_cons]
    by_cases c : endOf s w = g
    · rw [if_pos c, if_pos (decide_eq_true c), if_pos c, walk_rows hn ws _ _ (fun v hv => hw v (List.mem_cons_of_mem _ hv)) (by rw [List.length_append]; simp only [List.length_cons, List.length_nil]; omega) (by omega)]
      simp
    · have := ext_len (net := net) (s := s) w
      rw [if_neg c, if_neg (by simpa using c), if_neg c, walk_rows hn ws _ _ (fun v hv => hw v (List.mem_cons_of_mem _ hv)) (by omega) (by rw [List.length_append, List.length_map]; omega)]
      simp
theorem fnd_succ (k : Nat) : fnd net s g (k + 1) = fnd net s g k ++ (lev net s g k).filter fun w => decide (endOf s w = g) := by
  unfold fnd
  rw [List.range_succ, List.flatMap_append]
  simp
theorem walks_ok (hg : ∀ l ∈ net, GoodL n l) (hn : net.length ≤ 14) (hn6 : n ≤ 6) : t__law_walks n (lnks net) (mins net) s g = some ((fnd net s g n).map wkT) := by
  unfold t__law_walks
  have key : ∀ (xs : List Int) (k : Nat), k + xs.length ≤ 100 → forT (t__law_walks_b4 (lnks net) (mins net) g) xs ((lev net s g k).map (rowE s), (fnd net s g k).map wkT) = some ((lev net s g (k + xs.length)).map (rowE s), (fnd net s g (k + xs.length)).map wkT) := by
    intro xs
    induction xs with
    | nil => exact fun k _ => rfl
    | cons x xs ih =>
      intro k hk
      rw [List.length_cons] at hk ⊢
      have h1 := lev_len (s := s) (g := g) hg hn k
      have h2 := fnd_len (s := s) (g := g) hg hn k
      have e : t__law_walks_b4 (lnks net) (mins net) g ((lev net s g k).map (rowE s), (fnd net s g k).map wkT) x = some ((lev net s g (k + 1)).map (rowE s), (fnd net s g (k + 1)).map wkT) := by
        unfold t__law_walks_b4
        show (forT _ ((lev net s g k).map (rowE s)) ((fnd net s g k).map wkT, [])).bind _ = _
        rw [walk_rows hn _ _ _ (fun w hw => by have := (lev_ok hw).1; omega) (by rw [List.length_map]; omega) (by show 0 + _ ≤ _; omega), Option.bind_some, fnd_succ, List.map_append]
        rfl
      rw [forT_cons, e, Option.bind_some, ih (k + 1) (by omega)]
      rw [show k + 1 + xs.length = k + (xs.length + 1) by omega]
  have h0 : ([([], [(s : Int)], ((0 : Int), (0 : Int)))] : List (List (Int × Int) × List Int × (Int × Int))) = (lev net s g 0).map (rowE s) := rfl
  have h1 : ([] : List ((Int × Int) × List (Int × Int))) = (fnd net s g 0).map wkT := rfl
  rw [gd_t (r62_of (by omega)), Option.bind_some, h0, h1, key _ _ (by rw [len_rangeT]; omega), Option.bind_some, len_rangeT, Nat.zero_add]
theorem mem_fnd {k : Nat} {w : List Hop} : w ∈ fnd net s g k ↔ ∃ i, i < k ∧ w ∈ lev net s g i ∧ endOf s w = g := by
  unfold fnd
  rw [List.mem_flatMap]
  constructor
  · rintro ⟨i, hi, hw⟩
    obtain ⟨h1, h2⟩ := List.mem_filter.mp hw
    exact ⟨i, List.mem_range.mp hi, h1, of_decide_eq_true h2⟩
  · rintro ⟨i, hi, h1, h2⟩
    exact ⟨i, List.mem_range.mpr hi, List.mem_filter.mpr ⟨h1, decide_eq_true h2⟩⟩
/-! which walks are found -/
theorem wlk_chn : ∀ {w : List Hop} {r : Nat} {c t : Int}, Wlk net g r w c t ↔ Chn net r w ∧ endOf r w = g ∧ c = sumc w ∧ t = sumt w
  | [], r, c, t => by simp [Wlk, Chn, endOf, sumc, sumt]
  | h :: w, r, c, t => by
    show (h ∈ hopsOf net r ∧ Wlk net g h.to w (c - h.cost) (t - h.time)) ↔ (h ∈ hopsOf net r ∧ Chn net h.to w) ∧ endOf h.to w = g ∧ c = sumc (h :: w) ∧ t = sumt (h :: w)
    have e1 : sumc (h :: w) = h.cost + sumc w := by simp [sumc]
    have e2 : sumt (h :: w) = h.time + sumt w := by simp [sumt]
    rw [wlk_chn, e1, e2, and_assoc]
    constructor
    · rintro ⟨a, b, c', d, e⟩
      exact ⟨a, b, c', by omega, by omega⟩
    · rintro ⟨a, b, c', d, e⟩
      exact ⟨a, b, c', by omega, by omega⟩
/-- all chains that come to no router twice and not through the goal are in their level -/
theorem in_lev : ∀ (w : List Hop), Chn net s w → (stops s w).Nodup → g ∉ (stops s w).dropLast → w ∈ lev net s g w.length := by
  intro w
  induction hk : w.length generalizing w with
  | zero =>
    intro _ _ _
    obtain rfl : w = [] := List.length_eq_zero_iff.mp hk
    exact List.mem_singleton.mpr rfl
  | succ k ih =>
    intro h1 h2 h3
    have hne : w ≠ [] := fun z => by rw [z] at hk; cases hk
    obtain ⟨v, x, rfl⟩ : ∃ v x, w = v ++ [x] := ⟨w.dropLast, w.getLast hne, (List.dropLast_concat_getLast hne).symm⟩
    rw [List.length_append] at hk
    have hk' : v.length = k := by simpa using hk
    obtain ⟨c1, c2⟩ := chn_snoc.mp h1
    rw [stops_snoc] at h2 h3
    rw [List.dropLast_concat] at h3
    obtain ⟨n1, n2, n3⟩ := List.nodup_append.mp h2
    have hv := ih v hk' c1 n1 fun z => h3 (List.dropLast_subset _ z)
    refine List.mem_flatMap.mpr ⟨v, hv, ?_⟩
    have hend : endOf s v ∈ stops s v := List.mem_of_getLast? (stops_last v s)
    rw [if_neg (fun z : endOf s v = g => by rw [z] at hend; exact h3 hend)]
    exact mem_ext.mpr ⟨x, c2, fun z => n3 _ z _ (List.mem_singleton.mpr rfl) rfl, rfl⟩
theorem found_iff (hg : ∀ l ∈ net, GoodL n l) (hs : s < n) {w : List Hop} : w ∈ fnd net s g n ↔ Wlk net g s w (sumc w) (sumt w) ∧ (stops s w).Nodup := by
  rw [mem_fnd]
  constructor
  · rintro ⟨i, _, h1, h2⟩
    obtain ⟨_, h3, h4⟩ := lev_ok h1
    exact ⟨wlk_chn.mpr ⟨h3, h2, rfl, rfl⟩, h4⟩
  · rintro ⟨h1, h2⟩
    obtain ⟨c1, c2, _, _⟩ := wlk_chn.mp h1
    have hlt := stops_lt hg hs h1
    have hlen : (stops s w).length ≤ n := by
      have := nodup_le (u := List.range n) h2 fun q hq => List.mem_range.mpr (hlt q hq)
      rwa [List.length_range] at this
    rw [stops_len] at hlen
    have hne : stops s w ≠ [] := fun z => by
      have := stops_len w s
      rw [z] at this
      cases this
    have hst : stops s w = (stops s w).dropLast ++ [endOf s w] := by
      have h1 := stops_last w s
      rw [List.getLast?_eq_some_getLast hne] at h1
      rw [← Option.some.inj h1]
      exact (List.dropLast_concat_getLast hne).symm
    refine ⟨w.length, by omega, in_lev w c1 h2 fun z => ?_, c2⟩
    rw [hst, c2] at h2
    exact (List.nodup_append.mp h2).2.2 g z g (List.mem_singleton.mpr rfl) rfl
end
end K62


set_option maxRecDepth 100000
set_option maxHeartbeats 4000000
/-! N62g: the law's fronts are the told ones. -/
namespace K62
open PySem PySem.Spec PyProof.Rows L2 Z FR
section
variable {n g s : Nat} {net : List Ln}
def beats (p q : Int × Int) : Bool := (!(decide (q = p))) && ((decide (q.1 ≤ p.1)) && (decide (q.2 ≤ p.2)))
theorem beats_iff {p q : Int × Int} : beats p q = true ↔ q ≠ p ∧ dom q p := by
  unfold beats dom
  simp
def frontP (ps : Fr) : Fr := (ssort ps).filter fun p => decide ((ssort ps).filter (beats p) = [])
theorem mem_frontP {ps : Fr} {p : Int × Int} : p ∈ frontP ps ↔ p ∈ ps ∧ ∀ q ∈ ps, dom q p → q = p := by
  unfold frontP
  rw [List.mem_filter, mem_ssort, decide_eq_true_eq, List.filter_eq_nil_iff]
  constructor
  · rintro ⟨h1, h2⟩
    refine ⟨h1, fun q hq hd => ?_⟩
    by_cases e : q = p
    · exact e
    · exact absurd (beats_iff.mpr ⟨e, hd⟩) (h2 q (mem_ssort.mpr hq))
  · rintro ⟨h1, h2⟩
    refine ⟨h1, fun q hq hb => ?_⟩
    obtain ⟨e, hd⟩ := beats_iff.mp hb
    exact e (h2 q (mem_ssort.mp hq) hd)
theorem frontP_par (ps : Fr) : (frontP ps).Pairwise par := by
  have h1 : (frontP ps).Pairwise plt := (ssort_pw ps).sublist List.filter_sublist
  refine List.Pairwise.imp_of_mem (fun {a b} ha hb hlt => ?_) h1
  obtain ⟨a1, a2⟩ := mem_frontP.mp ha
  obtain ⟨b1, b2⟩ := mem_frontP.mp hb
  have ne : a ≠ b := plt_ne hlt
  unfold plt at hlt
  have hlt2 : b.2 < a.2 := by
    by_cases c : b.2 < a.2
    · exact c
    · exact absurd (b2 a a1 ⟨by omega, by omega⟩) ne
  exact ⟨by omega, hlt2⟩
theorem frontP_unb (ps : Fr) : frontP ps = unb ps := by
  have U := unb_un ps
  refine front_eq (frontP_par ps) U.pw (fun u hu => U.all u (mem_frontP.mp hu).1) fun v hv => ⟨v, mem_frontP.mpr ⟨U.sub v hv, fun q hq hd => ?_⟩, ⟨Int.le_refl _, Int.le_refl _⟩⟩
  obtain ⟨u, hu, hud⟩ := U.all q hq
  have e := par_dom U.pw hu hv (dom_trans hud hd)
  subst e
  exact Prod.ext (Int.le_antisymm hd.1 hud.1) (Int.le_antisymm hd.2 hud.2)
def pairsOf (ws : List (List Hop)) : Fr := ws.map fun w => (sumc w, sumt w)
theorem front_told (hG : ∀ l ∈ net, GoodL n l) (hg : g < n) (hs : s < n) : unb (pairsOf (fnd net s g n)) = (told net n g).getD s [] := by
  have U := unb_un (pairsOf (fnd net s g n))
  refine front_eq U.pw (tell_par hg hs n) (fun v hv => ?_) fun u hu => ?_
  · obtain ⟨w, hw, rfl⟩ := List.mem_map.mp (U.sub v hv)
    obtain ⟨h1, h2⟩ := (found_iff hG hs).mp hw
    have hlt := stops_lt hG hs h1
    have hlen : (stops s w).length ≤ n := by
      have := nodup_le (u := List.range n) h2 fun q hq => List.mem_range.mpr (hlt q hq)
      rwa [List.length_range] at this
    rw [stops_len] at hlen
    obtain ⟨u, hu, c1, c2⟩ := complete hG hg w n s _ _ (by omega) hs h1
    exact ⟨u, hu, c1, c2⟩
  · obtain ⟨w, _, hw⟩ := sound hG hg n s u hs hu
    obtain ⟨w', c', t', h1, h2, h3, h4⟩ := no_ring hG hw
    obtain ⟨_, _, e1, e2⟩ := wlk_chn.mp h1
    subst e1
    subst e2
    have hm : (sumc w', sumt w') ∈ pairsOf (fnd net s g n) := List.mem_map.mpr ⟨w', (found_iff hG hs).mpr ⟨h1, h4⟩, rfl⟩
    obtain ⟨v, hv, hd⟩ := U.all _ hm
    exact ⟨v, hv, dom_trans hd ⟨h2, h3⟩⟩
theorem filt_c {α : Type} (c : α → Bool) (xs : List α) : compT (fun x => if c x = true then some (some x) else some none) xs = some (xs.filter c) := by
  have := compT_filters (g := fun x => if c x = true then some (some x) else some none) (h := fun x => x) (c := c) (xs := xs) fun x _ => by
    by_cases h : c x = true <;> simp [h]
  rw [this, List.map_id']
theorem lfront_ok {ws : List (List Hop)} (h : ws.length ≤ 1000) : t__law_front (ws.map wkT) = some (frontP (pairsOf ws)) := by
  have hl : (pairsOf ws).length = ws.length := List.length_map _
  have hs := ssort_len (pairsOf ws)
  have e1 : (ws.map wkT).map (fun x : (Int × Int) × List (Int × Int) => x.1) = pairsOf ws := by
    rw [List.map_map]
    rfl
  unfold t__law_front
  rw [gd_t (by rw [List.length_map]; omega), Option.bind_some, compT_map, Option.bind_some, e1, ssT_ok (by omega), Option.bind_some, gd_t (by omega), Option.bind_some]
  have e2 : compT (fun x_23 : Int × Int => (some ()).bind fun _ => (compT (fun x_35 : Int × Int => if ((!(decide (x_35 = x_23))) && ((decide (x_35.1 ≤ x_23.1)) && (decide (x_35.2 ≤ x_23.2)))) = true then (some (some x_35)) else some none) (ssort (pairsOf ws))).bind fun v_46 => (if (decide (v_46 = [])) = true then (some (some x_23)) else some none)) (ssort (pairsOf ws)) = some (frontP (pairsOf ws)) := by
    have : (fun x_23 : Int × Int => (some ()).bind fun _ => (compT (fun x_35 : Int × Int => if ((!(decide (x_35 = x_23))) && ((decide (x_35.1 ≤ x_23.1)) && (decide (x_35.2 ≤ x_23.2)))) = true then (some (some x_35)) else some none) (ssort (pairsOf ws))).bind fun v_46 => (if (decide (v_46 = [])) = true then (some (some x_23)) else some none)) = fun x => if (decide ((ssort (pairsOf ws)).filter (beats x) = [])) = true then some (some x) else some none := by
      funext x
      have := filt_c (beats x) (ssort (pairsOf ws))
      unfold beats at this
      rw [Option.bind_some, this, Option.bind_some]
      rfl
    rw [this]
    exact filt_c _ _
  rw [e2, Option.bind_some]
theorem lfront_told (hG : ∀ l ∈ net, GoodL n l) (hg : g < n) (hs : s < n) (hn : net.length ≤ 14) : t__law_front ((fnd net s g n).map wkT) = some ((told net n g).getD s []) := by
  have := fnd_len (s := s) (g := g) hG hn n
  rw [lfront_ok (by omega), frontP_unb, front_told hG hg hs]
end
end K62


set_option maxRecDepth 100000
set_option maxHeartbeats 4000000
/-! N62h: the walk by least hops is the least one. -/
namespace K62
open PySem PySem.Spec PyProof.Rows L2 Z FR
section
variable {n g s : Nat} {net : List Ln}
def LexH : List Hop → List Hop → Prop
  | h :: w, h' :: w' => hlt h h' ∨ (h = h' ∧ LexH w w')
  | _, _ => False
def pdH (w : List Hop) : List PyData := w.map fun h => PyData.tuple [.int h.k, .int h.e]
def rl (xs ys : List PyData) : Bool := PySem.W.dataLt (.list xs) (.list ys)
theorem eqv_hop {a b : Hop} : PyData.eqv (.tuple [.int (a.k : Int), .int (a.e : Int)]) (.tuple [.int (b.k : Int), .int (b.e : Int)]) = (decide (a.k = b.k) && decide (a.e = b.e)) := by
  show ((a.k : Int) == (b.k : Int) && ((a.e : Int) == (b.e : Int) && true)) = _
  rw [Bool.and_true]
  congr 1
  · rw [Bool.eq_iff_iff, beq_iff_eq, decide_eq_true_eq]
    omega
  · rw [Bool.eq_iff_iff, beq_iff_eq, decide_eq_true_eq]
    omega
theorem rl_cons {a b : Hop} {xs ys : List PyData} : rl (.tuple [.int (a.k : Int), .int (a.e : Int)] :: xs) (.tuple [.int (b.k : Int), .int (b.e : Int)] :: ys) = if (decide (a.k = b.k) && decide (a.e = b.e)) = true then rl xs ys else decide ((a.k : Int) < b.k ∨ ((a.k : Int) = b.k ∧ (a.e : Int) < b.e)) := by
  unfold rl
  rw [PySem.W.dataLt_list, PySem.W.dataLt_cons (by rfl), eqv_hop, PySem.W.dataLt_ii, PySem.W.dataLt_list]
theorem lex_lt : ∀ {w w' : List Hop}, LexH w w' → rl (pdH w) (pdH w') = true ∧ rl (pdH w') (pdH w) = false
  | [], _, h => h.elim
  | _ :: _, [], h => h.elim
  | h :: w, h' :: w', hl => by
    show rl (.tuple [.int (h.k : Int), .int (h.e : Int)] :: pdH w) (.tuple [.int (h'.k : Int), .int (h'.e : Int)] :: pdH w') = true ∧ rl (.tuple [.int (h'.k : Int), .int (h'.e : Int)] :: pdH w') (.tuple [.int (h.k : Int), .int (h.e : Int)] :: pdH w) = false
    rw [rl_cons, rl_cons]
    rcases hl with hl | ⟨rfl, hl⟩
    · unfold hlt at hl
      rw [if_neg (by simp; omega), if_neg (by simp; omega)]
      exact ⟨decide_eq_true (by omega), decide_eq_false (by omega)⟩
    · rw [if_pos (by simp), if_pos (by simp)]
      exact lex_lt hl
theorem minD_least {m : PyData} (hm : PySem.W.dataLt m m = false) : ∀ {ys : List PyData} {x : PyData}, m ∈ x :: ys → (∀ z ∈ x :: ys, z = m ∨ (PySem.W.dataLt m z = true ∧ PySem.W.dataLt z m = false)) → PySem.W.minD x ys = m
  | [], x, h, _ => (List.mem_singleton.mp h).symm
  | y :: ys, x, h, hz => by
    show PySem.W.minD (if PySem.W.dataLt y x then y else x) ys = m
    have hx := hz x List.mem_cons_self
    have hy := hz y (List.mem_cons_of_mem _ List.mem_cons_self)
    by_cases ex : x = m
    · subst ex
      have : PySem.W.dataLt y x = false := by
        rcases hy with rfl | hy
        · exact hm
        · exact hy.2
      rw [this, if_neg Bool.false_ne_true]
      exact minD_least hm List.mem_cons_self fun z h2 => hz z (by
        rcases List.mem_cons.mp h2 with rfl | h2
        · exact List.mem_cons_self
        · exact List.mem_cons_of_mem _ (List.mem_cons_of_mem _ h2))
    · by_cases ey : y = m
      · subst ey
        have : PySem.W.dataLt y x = true := by
          rcases hx with hx | hx
          · exact absurd hx ex
          · exact hx.1
        rw [this, if_pos rfl]
        exact minD_least hm List.mem_cons_self fun z h2 => hz z (List.mem_cons_of_mem _ h2)
      · have hmem : m ∈ ys := by
          rcases List.mem_cons.mp h with h | h
          · exact absurd h.symm ex
          · rcases List.mem_cons.mp h with h | h
            · exact absurd h.symm ey
            · exact h
        refine minD_least hm (List.mem_cons_of_mem _ hmem) fun z h2 => hz z ?_
        rcases List.mem_cons.mp h2 with h2 | h2
        · rw [h2]
          split
          · exact List.mem_cons_of_mem _ List.mem_cons_self
          · exact List.mem_cons_self
        · exact List.mem_cons_of_mem _ (List.mem_cons_of_mem _ h2)
theorem pd_walk (w : List Hop) : (eL (e2 D.int D.int) (w.map hopI)).pd = .list (pdH w) := by
  show PyData.list (D.pdL ((w.map hopI).map (e2 D.int D.int))) = _
  rw [pdL_map, List.map_map]
  rfl
theorem alike_walks : ∀ (w w' : List Hop), PySem.W.alikeAll (pdH w) (pdH w') = true
  | [], _ => rfl
  | _ :: _, [] => rfl
  | h :: w, h' :: w' => by
    show (PySem.W.alike (.tuple [.int (h.k : Int), .int (h.e : Int)]) (.tuple [.int (h'.k : Int), .int (h'.e : Int)]) && PySem.W.alikeAll (pdH w) (pdH w')) = true
    rw [alike_walks w w']
    rfl
theorem ofPd_walk : ∀ w : List Hop, ofPdL (pdH w) = (w.map hopI).map (e2 D.int D.int)
  | [] => rfl
  | h :: w => by
    show ofPd (.tuple [.int (h.k : Int), .int (h.e : Int)]) :: ofPdL (pdH w) = _
    rw [ofPd_walk w]
    rfl
theorem depth_pdH : ∀ w : List Hop, PyData.depthAll (pdH w) ≤ 1
  | [] => Nat.zero_le _
  | h :: w => by
    show max (max 0 (max 0 0) + 1) (PyData.depthAll (pdH w)) ≤ 1
    exact Nat.max_le.mpr ⟨by decide, depth_pdH w⟩
theorem eL_inj {a b : List (Int × Int)} (h : eL (e2 D.int D.int) a = eL (e2 D.int D.int) b) : a = b := by
  have h' := D.lst.inj h
  clear h
  induction a generalizing b with
  | nil =>
    cases b with
    | nil => rfl
    | cons _ _ => cases h'
  | cons x a ih =>
    cases b with
    | nil => cases h'
    | cons y b =>
      obtain ⟨h1, h2⟩ := List.cons.inj h'
      rw [ih h2]
      have h3 := D.tup.inj h1
      simp only [List.cons.injEq, D.int.injEq, and_true] at h3
      rw [Prod.ext h3.1 h3.2]
theorem depthAll_le' {m : Nat} : ∀ {xs : List PyData}, (∀ x ∈ xs, x.depth ≤ m) → PyData.depthAll xs ≤ m
  | [], _ => Nat.zero_le _
  | x :: xs, h => by
    show max x.depth (PyData.depthAll xs) ≤ m
    exact Nat.max_le.mpr ⟨h x List.mem_cons_self, depthAll_le' fun y hy => h y (List.mem_cons_of_mem _ hy)⟩
theorem min_walks {ws : List (List Hop)} {w : List Hop} (hw : w ∈ ws) (h : ∀ v ∈ ws, v = w ∨ LexH w v) : minE (eL (e2 D.int D.int)) (ws.map fun w => w.map hopI) = some (w.map hopI) := by
  refine minE_of (fun b hb => eL_inj hb) ?_
  cases ws with
  | nil => cases hw
  | cons x ys =>
    have e : ((x :: ys).map fun w => w.map hopI).map (eL (e2 D.int D.int)) = (x :: ys).map fun w => eL (e2 D.int D.int) (w.map hopI) := by rw [List.map_map]; rfl
    have ep : ((x :: ys).map fun w => eL (e2 D.int D.int) (w.map hopI)).map D.pd = (x :: ys).map fun w => PyData.list (pdH w) := by
      rw [List.map_map]
      exact List.map_congr_left fun v _ => pd_walk v
    rw [e]
    have c1 : PySem.W.AlikeAll (((x :: ys).map fun w => eL (e2 D.int D.int) (w.map hopI)).map D.pd) := by
      rw [ep]
      refine ⟨fun a ha b hb => ?_, fun a ha => ?_⟩
      · obtain ⟨v, _, rfl⟩ := List.mem_map.mp ha
        obtain ⟨u, _, rfl⟩ := List.mem_map.mp hb
        exact alike_walks v u
      · obtain ⟨v, _, rfl⟩ := List.mem_map.mp ha
        exact fun z => nomatch z
    have c2 : PyData.depthAll (((x :: ys).map fun w => eL (e2 D.int D.int) (w.map hopI)).map D.pd) ≤ 64 := by
      rw [ep]
      refine depthAll_le' fun d hd => ?_
      obtain ⟨v, _, rfl⟩ := List.mem_map.mp hd
      show PyData.depthAll (pdH v) + 1 ≤ 64
      have := depth_pdH v
      omega
    have c3 : ∀ d ∈ (x :: ys).map (fun w => eL (e2 D.int D.int) (w.map hopI)), ofPd d.pd = d := by
      intro d hd
      obtain ⟨v, _, rfl⟩ := List.mem_map.mp hd
      rw [pd_walk]
      show D.lst (ofPdL (pdH v)) = _
      rw [ofPd_walk]
    have c4 : PySem.W.minD (PyData.list (pdH x)) (ys.map fun w => PyData.list (pdH w)) = PyData.list (pdH w) := by
      refine minD_least (PySem.W.dataLt_self _) ?_ fun z hz => ?_
      · rw [← List.map_cons (f := fun w => PyData.list (pdH w))]
        exact List.mem_map.mpr ⟨w, hw, rfl⟩
      · rw [← List.map_cons (f := fun w => PyData.list (pdH w))] at hz
        obtain ⟨v, hv, rfl⟩ := List.mem_map.mp hz
        rcases h v hv with rfl | hl
        · exact .inl rfl
        · exact .inr (lex_lt hl)
    rw [List.map_cons] at c1 c2 c3 ⊢
    unfold bMinD
    simp only
    rw [if_pos ⟨c1, c2, c3⟩, pd_walk]
    have e5 : (ys.map fun w => eL (e2 D.int D.int) (w.map hopI)).map D.pd = ys.map fun w => PyData.list (pdH w) := by
      rw [List.map_map]
      exact List.map_congr_left fun v _ => pd_walk v
    rw [e5, c4]
    show some (D.lst (ofPdL (pdH w))) = _
    rw [ofPd_walk]
end
end K62


set_option maxRecDepth 100000
set_option maxHeartbeats 4000000
/-! N62i: cheapest is the law's cheapest. -/
namespace K62
open PySem PySem.Spec PyProof.Rows L2 Z FR
section
variable {n g s : Nat} {net : List Ln}
theorem goods_in {T : List Fr} {left : Int × Int} {r : Nat} {h : Hop} : h ∈ goods net T left r ↔ h ∈ hopsOf net r ∧ rest left h ∈ T.getD h.to [] := by
  unfold goods good
  rw [List.mem_filter, decide_eq_true_eq]
  rfl
theorem head_in {T : List Fr} {left : Int × Int} {r : Nat} {h : Hop} {hs : List Hop} (e : goods net T left r = h :: hs) : h ∈ hopsOf net r ∧ rest left h ∈ T.getD h.to [] := goods_in.mp (by rw [e]; exact List.mem_cons_self)
theorem wk_wlk (hg : g < n) : ∀ {w : List Hop} {r : Nat} {left : Int × Int}, Wk net (told net n g) g r left w → left ∈ (told net n g).getD r [] → Wlk net g r w left.1 left.2
  | [], r, left, hw, hl => by
    obtain rfl : r = g := hw
    rw [show (told net n r).getD r [] = [(0, 0)] from tell_goal hg n] at hl
    rw [List.mem_singleton.mp hl]
    exact ⟨rfl, rfl, rfl⟩
  | h :: w, r, left, hw, hl => by
    obtain ⟨h1, ⟨hs, h2⟩, h3⟩ := hw
    obtain ⟨a, b⟩ := head_in h2
    exact ⟨a, wk_wlk hg h3 b⟩
theorem wk_less (hG : ∀ l ∈ net, GoodL n l) : ∀ {w : List Hop} {r : Nat} {left : Int × Int}, Wk net (told net n g) g r left w → left ∈ (told net n g).getD r [] → ∀ q ∈ stops r w, ∃ l' ∈ (told net n g).getD q [], l'.1 ≤ left.1 ∧ l'.2 ≤ left.2
  | [], r, left, hw, hl, q, hq => by
    rw [List.mem_singleton.mp hq]
    exact ⟨left, hl, Int.le_refl _, Int.le_refl _⟩
  | h :: w, r, left, hw, hl, q, hq => by
    obtain ⟨h1, ⟨hs, h2⟩, h3⟩ := hw
    obtain ⟨a, b⟩ := head_in h2
    rcases List.mem_cons.mp hq with rfl | hq
    · exact ⟨left, hl, Int.le_refl _, Int.le_refl _⟩
    · obtain ⟨l', c1, c2, c3⟩ := wk_less hG h3 b q hq
      have hh := hop_to hG a
      unfold FR.rest at c2 c3
      dsimp only at c2 c3
      exact ⟨l', c1, by omega, by omega⟩
theorem wk_nodup (hG : ∀ l ∈ net, GoodL n l) (hg : g < n) : ∀ {w : List Hop} {r : Nat} {left : Int × Int}, r < n → Wk net (told net n g) g r left w → left ∈ (told net n g).getD r [] → (stops r w).Nodup
  | [], r, left, _, _, _ => by simp [stops]
  | h :: w, r, left, hr, hw, hl => by
    obtain ⟨h1, ⟨hs, h2⟩, h3⟩ := hw
    obtain ⟨a, b⟩ := head_in h2
    have hh := hop_to hG a
    refine List.nodup_cons.mpr ⟨fun z => ?_, wk_nodup hG hg hh.1 h3 b⟩
    obtain ⟨l', c1, c2, c3⟩ := wk_less hG h3 b r z
    unfold FR.rest at c2 c3
    dsimp only at c2 c3
    have e := par_dom (tell_par hg hr n) c1 hl ⟨by omega, by omega⟩
    rw [e] at c2
    omega
theorem end_stops (w : List Hop) (r : Nat) : endOf r w ∈ stops r w := List.mem_of_getLast? (stops_last w r)
theorem suffix_in (hG : ∀ l ∈ net, GoodL n l) (hg : g < n) {r : Nat} {left : Int × Int} {h : Hop} {v : List Hop} (hr : r < n) (hne : r ≠ g) (hl : left ∈ (told net n g).getD r []) (hh : h ∈ hopsOf net r) (hv : Wlk net g h.to v (left.1 - h.cost) (left.2 - h.time)) (hlen : v.length ≤ n) :
    rest left h ∈ (told net n g).getD h.to [] := by
  have to := hop_to hG hh
  obtain ⟨u, hu, c1, c2⟩ := complete hG hg v n h.to _ _ hlen to.1 hv
  have hu' : u ∈ (told net n g).getD h.to [] := hu
  have fx := told_fix hG hg hr hne
  obtain ⟨u2, h1, h2⟩ := (unb_un (cand net (told net n g) r)).all (shift h u) (mem_cand.mpr ⟨h, hh, u, hu', rfl⟩)
  rw [← fx] at h1
  unfold dom shift at h2
  dsimp only at h2
  have e := par_dom (tell_par hg hr n) h1 hl ⟨by omega, by omega⟩
  rw [e] at h2
  have : rest left h = u := by
    unfold FR.rest
    exact Prod.ext (by show left.1 - h.cost = u.1; omega) (by show left.2 - h.time = u.2; omega)
  rw [this]
  exact hu'
theorem greedy_least (hG : ∀ l ∈ net, GoodL n l) (hg : g < n) : ∀ {w : List Hop} {r : Nat} {left : Int × Int} {w' : List Hop}, r < n → Wk net (told net n g) g r left w → left ∈ (told net n g).getD r [] → Wlk net g r w' left.1 left.2 → (stops r w').Nodup → w' = w ∨ LexH w w'
  | [], r, left, w', hr, hw, hl, hw', nd => by
    obtain rfl : r = g := hw
    cases w' with
    | nil => exact .inl rfl
    | cons h' v =>
      obtain ⟨_, h2, _⟩ := wlk_chn.mp hw'
      have h3 := end_stops v h'.to
      have h2 : endOf h'.to v = r := h2
      rw [h2] at h3
      exact absurd h3 (List.nodup_cons.mp nd).1
  | h :: w, r, left, w', hr, hw, hl, hw', nd => by
    obtain ⟨h1, ⟨hs, h2⟩, h3⟩ := hw
    obtain ⟨a, b⟩ := head_in h2
    cases w' with
    | nil => exact absurd hw'.1 h1
    | cons h' v =>
      obtain ⟨e1, e2⟩ := hw'
      obtain ⟨n1, n2⟩ := List.nodup_cons.mp nd
      have to := hop_to hG e1
      have hlen : v.length ≤ n := by
        have hlt := stops_lt hG to.1 e2
        have := nodup_le (u := List.range n) n2 fun q hq => List.mem_range.mpr (hlt q hq)
        rw [List.length_range, stops_len] at this
        omega
      have hin := suffix_in hG hg hr h1 hl e1 e2 hlen
      have hgd : h' ∈ h :: hs := by
        rw [← h2]
        exact goods_in.mpr ⟨e1, hin⟩
      have pw : (h :: hs).Pairwise hlt := by
        rw [← h2]
        exact (hops_pw net r).sublist List.filter_sublist
      rcases List.mem_cons.mp hgd with rfl | hm
      · rcases greedy_least hG hg to.1 h3 hin e2 n2 with e | hl
        · exact .inl (by rw [e])
        · exact .inr (.inr ⟨rfl, hl⟩)
      · exact .inr (.inl ((List.pairwise_cons.mp pw).1 h' hm))
theorem told_cost (hG : ∀ l ∈ net, GoodL n l) (hg : g < n) (hs : s < n) (h6 : n ≤ 6) {p : Int × Int} (hp : p ∈ (told net n g).getD s []) : 0 ≤ p.1 ∧ p.1 ≤ 60 := by
  obtain ⟨w, h1, h2⟩ := sound hG hg n s p hs hp
  have := wlk_nonneg hG h2
  omega
theorem cheapest_same (N : Nx n g net) (h6 : n ≤ 6) (hn : net.length ≤ 14) (hs : s < n) {lim : Int} (h0 : 0 ≤ lim) : ∃ x, t_cheapest n (lnks net) (mins net) s g lim = some (.ok x) ∧ t__law_cheapest ((fnd net s g n).map wkT) lim = some x ∧
    (x = none ∨ ∃ p w, x = some (p, w.map hopI) ∧ p ∈ (told net n g).getD s [] ∧ w ∈ fnd net s g n) := by
  have hG := N.hg
  have hg := N.hgn
  have hfl := fnd_len (s := s) (g := g) hG hn n
  have hl' : ((told net n g).getD s []).length ≤ 300 := N.hl s hs
  have start : ∀ y, ((if (decide (within ((told net n g).getD s []) lim = [])) = true then some none else y) : Option (Option ((Int × Int) × List (Int × Int)))) = (if within ((told net n g).getD s []) lim = [] then some none else y) := fun y => by
    by_cases h : within ((told net n g).getD s []) lim = [] <;> simp [h]
  cases hf : within ((told net n g).getD s []) lim with
  | nil =>
    refine ⟨none, cheapest_none N hs h0 hf, ?_, .inl rfl⟩
    unfold t__law_cheapest
    rw [lfront_told hG hg hs hn, Option.bind_some, gd_t (by omega), Option.bind_some, within_eq, Option.bind_some, hf, if_pos (by rfl)]
  | cons p ps =>
    have hp : p ∈ (told net n g).getD s [] := by
      have : p ∈ within ((told net n g).getD s []) lim := by rw [hf]; exact List.mem_cons_self
      exact (List.mem_filter.mp this).1
    have hc := told_cost hG hg hs h6 hp
    obtain ⟨w, hw, hwl⟩ := walk_ex hG hg 60 s p hs hp hc.2
    have hwlk := wk_wlk hg hw hp
    have hnd := wk_nodup hG hg hs hw hp
    obtain ⟨_, _, e1, e2⟩ := wlk_chn.mp hwlk
    have hfd : w ∈ fnd net s g n := (found_iff hG hs).mpr ⟨by rw [← e1, ← e2]; exact hwlk, hnd⟩
    refine ⟨some (p, w.map hopI), cheapest_some N hs h0 hf hw (by omega), ?_, .inr ⟨p, w, rfl, hp, hfd⟩⟩
    unfold t__law_cheapest
    have hat : atI (p :: ps) 0 = some p := by rw [show (0 : Int) = ((0 : Nat) : Int) from rfl, atI_n]; rfl
    rw [lfront_told hG hg hs hn, Option.bind_some, gd_t (by omega), Option.bind_some, within_eq, Option.bind_some, hf, if_neg (by simp), hat, Option.bind_some, gd_t (by rw [List.length_map]; omega), Option.bind_some]
    have ec : compT (fun x_24 : (Int × Int) × List (Int × Int) => (some p).bind fun v_40 => (if (decide (x_24.1 = v_40)) = true then (some (some x_24.2)) else some none)) ((fnd net s g n).map wkT) = some (((fnd net s g n).filter fun v => decide ((sumc v, sumt v) = p)).map fun v => v.map hopI) := by
      have := compT_filters (g := fun x_24 : (Int × Int) × List (Int × Int) => (some p).bind fun v_40 => (if (decide (x_24.1 = v_40)) = true then (some (some x_24.2)) else some none)) (h := fun x => x.2) (c := fun x => decide (x.1 = p)) (xs := (fnd net s g n).map wkT) fun x _ => by
        by_cases h : x.1 = p <;> simp [h]
      rw [this, List.filter_map, List.map_map]
      rfl
    rw [ec, Option.bind_some, min_walks (w := w), Option.bind_some]
    · exact List.mem_filter.mpr ⟨hfd, decide_eq_true (Prod.ext e1.symm e2.symm)⟩
    · intro v hv
      obtain ⟨v1, v2⟩ := List.mem_filter.mp hv
      have v2 := of_decide_eq_true v2
      obtain ⟨f1, f2⟩ := (found_iff hG hs).mp v1
      have f1' : Wlk net g s v p.1 p.2 := by
        rw [← v2]
        exact f1
      exact greedy_least hG hg hs hw hp f1' f2
end
end K62


set_option maxRecDepth 100000
set_option maxHeartbeats 4000000
/-! R1: repr of data of whole numbers. -/
namespace Z
open PySem PySem.Spec PyProof.Rows L2
def stOk (x : Str) : Prop := ∀ c ∈ x.cps.toList, c < 0x110000
theorem stOk_app {a b : Str} (ha : stOk a) (hb : stOk b) : stOk (a ++ b) := by
  intro c hc
  have : c ∈ (a.cps ++ b.cps).toList := hc
  rw [Array.toList_append, List.mem_append] at this
  exact this.elim (ha c) (hb c)
theorem stOk_of (s : String) : stOk (Str.ofString s) := by
  intro c hc
  rw [Str.ofString_eq_toList] at hc
  obtain ⟨x, _, rfl⟩ := List.mem_map.mp hc
  have := x.valid
  rcases this with h | ⟨_, h⟩
  · show x.val.toNat < _
    omega
  · exact h
theorem stOk_from : ∀ (ts : List Str) (k : Nat) (acc : Str), stOk acc → (∀ t ∈ ts, stOk t) → stOk (textFrom k acc ts)
  | [], _, _, h, _ => h
  | t :: ts, k, acc, h, ht => stOk_from ts (k + 1) _ (stOk_app (stOk_app h (stOk_of _)) (ht t List.mem_cons_self)) fun u hu => ht u (List.mem_cons_of_mem _ hu)
theorem stOk_join {sep : Str} (hs : stOk sep) : ∀ ts : List Str, (∀ t ∈ ts, stOk t) → stOk (Str.join sep ts)
  | [], _ => fun c hc => by cases hc
  | [x], h => h x List.mem_cons_self
  | x :: y :: r, h => stOk_app (stOk_app (h x List.mem_cons_self) hs) (stOk_join hs (y :: r) fun u hu => h u (List.mem_cons_of_mem _ hu))
/-- data without texts and dicts -/
inductive Pln : PyData → Prop
  | non : Pln .none
  | bl (b : Bool) : Pln (.bool b)
  | int (i : Int) : i.natAbs < 10 ^ 12 → Pln (.int i)
  | lst {xs : List PyData} : (∀ x ∈ xs, Pln x) → Pln (.list xs)
  | tup {xs : List PyData} : (∀ x ∈ xs, Pln x) → Pln (.tuple xs)
theorem mem_shownAll : ∀ {xs : List PyData} {t : Str}, t ∈ PyData.shownAll xs → ∃ x ∈ xs, t = x.shown
  | [], _, h => nomatch h
  | x :: xs, t, h => by
    rcases List.mem_cons.mp (show t ∈ x.shown :: PyData.shownAll xs from h) with rfl | h
    · exact ⟨x, List.mem_cons_self, rfl⟩
    · obtain ⟨y, hy, e⟩ := mem_shownAll h
      exact ⟨y, List.mem_cons_of_mem _ hy, e⟩
theorem Pln.st {d : PyData} (h : Pln d) : stOk d.shown := by
  induction h with
  | non => exact stOk_of _
  | bl b =>
    show stOk (PyData.shown (.bool b))
    cases b <;> exact stOk_of _
  | int i _ => exact stOk_of _
  | lst _ ih =>
    refine stOk_app (stOk_from _ _ _ (stOk_of _) fun t ht => ?_) (stOk_of _)
    obtain ⟨x, hx, rfl⟩ := mem_shownAll ht
    exact ih x hx
  | tup _ ih =>
    refine stOk_app (stOk_app (stOk_of _) (stOk_join (stOk_of _) _ fun t ht => ?_)) ?_
    · obtain ⟨x, hx, rfl⟩ := mem_shownAll ht
      exact ih x hx
    · exact stOk_of _
theorem all_of {p : PyData → Bool} {pa : List PyData → Bool} (h0 : pa [] = true) (h1 : ∀ x xs, pa (x :: xs) = (p x && pa xs)) : ∀ {xs : List PyData}, (∀ x ∈ xs, p x = true) → pa xs = true
  | [], _ => h0
  | x :: xs, h => by
    rw [h1, h x List.mem_cons_self, all_of h0 h1 fun y hy => h y (List.mem_cons_of_mem _ hy)]
    rfl
theorem Pln.ls {d : PyData} (h : Pln d) : d.leavesShort 13 = true ∧ d.showable = true ∧ d.hasDict = false := by
  induction h with
  | non => exact ⟨rfl, rfl, rfl⟩
  | bl b => exact ⟨rfl, rfl, rfl⟩
  | int i hi =>
    refine ⟨?_, ?_, rfl⟩
    · simp only [PyData.leavesShort, decide_eq_true_eq]
      exact PyData.shown_int_le hi
    · simp only [PyData.showable, decide_eq_true_eq]
      have : i.natAbs.log2 ≤ i.natAbs := Nat.log2_le_self _
      by_cases h0 : i.natAbs = 0
      · rw [h0]
        decide
      · have := (Nat.log2_lt h0 (k := 40)).mpr (Nat.lt_of_lt_of_le hi (by decide))
        omega
  | lst _ ih =>
    refine ⟨?_, ?_, ?_⟩
    · simp only [PyData.leavesShort]
      exact all_of (pa := PyData.leavesShortAll 13) rfl (fun _ _ => by rw [PyData.leavesShortAll]) fun x hx => (ih x hx).1
    · simp only [PyData.showable]
      exact all_of (pa := PyData.showableAll) rfl (fun _ _ => by rw [PyData.showableAll]) fun x hx => (ih x hx).2.1
    · simp only [PyData.hasDict]
      have := all_of (p := fun x => !PyData.hasDict x) (pa := fun xs => !PyData.hasDictAll xs) rfl (fun x xs => by rw [PyData.hasDictAll, Bool.not_or]) fun x hx => by rw [(ih x hx).2.2]; rfl
      simpa using this
  | tup _ ih =>
    refine ⟨?_, ?_, ?_⟩
    · simp only [PyData.leavesShort]
      exact all_of (pa := PyData.leavesShortAll 13) rfl (fun _ _ => by rw [PyData.leavesShortAll]) fun x hx => (ih x hx).1
    · simp only [PyData.showable]
      exact all_of (pa := PyData.showableAll) rfl (fun _ _ => by rw [PyData.showableAll]) fun x hx => (ih x hx).2.1
    · simp only [PyData.hasDict]
      have := all_of (p := fun x => !PyData.hasDict x) (pa := fun xs => !PyData.hasDictAll xs) rfl (fun x xs => by rw [PyData.hasDictAll, Bool.not_or]) fun x hx => by rw [(ih x hx).2.2]; rfl
      simpa using this
/-- the weight of a list -/
theorem weightAll_le {w : Nat} : ∀ {xs : List PyData}, (∀ x ∈ xs, x.weight ≤ w) → PyData.weightAll xs ≤ (w + 1) * xs.length
  | [], _ => Nat.zero_le _
  | x :: xs, h => by
    have h1 := h x List.mem_cons_self
    have h2 := weightAll_le fun y hy => h y (List.mem_cons_of_mem _ hy)
    show x.weight + 1 + PyData.weightAll xs ≤ (w + 1) * (xs.length + 1)
    rw [Nat.mul_add, Nat.mul_one]
    omega
theorem weight_int {i : Int} (h : i.natAbs < 10 ^ 12) : (PyData.int i).weight ≤ 40 := by
  show (if i == 0 then 0 else i.natAbs.log2 + 1) ≤ 40
  split
  · omega
  · rename_i h0
    have h1 : i.natAbs ≠ 0 := fun z => h0 (by rw [Int.natAbs_eq_zero.mp z]; rfl)
    have := (Nat.log2_lt h1 (k := 40)).mpr (Nat.lt_of_lt_of_le h (by decide))
    omega
/-- plain data of little weight, by D -/
structure Lt (d : D) (w : Nat) : Prop where
  pl : Pln d.pd
  wt : d.pd.weight ≤ w
theorem Lt.int {i : Int} (h : i.natAbs < 10 ^ 12) : Lt (.int i) 40 := ⟨.int i h, weight_int h⟩
theorem Lt.non : Lt .non 0 := ⟨.non, Nat.le_refl _⟩
theorem Lt.bl (b : Bool) : Lt (.bl b) 0 := ⟨.bl b, Nat.le_refl _⟩
theorem pdL_eq : ∀ ds : List D, D.pdL ds = ds.map D.pd
  | [] => rfl
  | d :: ds => by
    show d.pd :: D.pdL ds = _
    rw [pdL_eq ds]
    rfl
theorem Lt.lst {ds : List D} {w : Nat} (h : ∀ d ∈ ds, Lt d w) : Lt (.lst ds) ((w + 1) * ds.length) := by
  have hp : ∀ x ∈ D.pdL ds, ∃ d ∈ ds, x = d.pd := fun x hx => by
    rw [pdL_eq] at hx
    obtain ⟨d, hd, rfl⟩ := List.mem_map.mp hx
    exact ⟨d, hd, rfl⟩
  refine ⟨.lst fun x hx => ?_, ?_⟩
  · obtain ⟨d, hd, rfl⟩ := hp x hx
    exact (h d hd).pl
  · have := weightAll_le (w := w) (xs := D.pdL ds) fun x hx => by
      obtain ⟨d, hd, rfl⟩ := hp x hx
      exact (h d hd).wt
    rw [pdL_eq, List.length_map] at this
    show PyData.weightAll (D.pdL ds) ≤ _
    rw [pdL_eq]
    exact this
theorem Lt.tup {ds : List D} {w : Nat} (h : ∀ d ∈ ds, Lt d w) : Lt (.tup ds) ((w + 1) * ds.length) := by
  have := Lt.lst h
  refine ⟨.tup fun x hx => ?_, this.wt⟩
  rw [pdL_eq] at hx
  obtain ⟨d, hd, rfl⟩ := List.mem_map.mp hx
  exact (h d hd).pl
theorem Lt.mono {d : D} {w w' : Nat} (h : Lt d w) (hw : w ≤ w') : Lt d w' := ⟨h.pl, Nat.le_trans h.wt hw⟩
theorem Lt.list {α : Type} {e : α → D} {xs : List α} {w m : Nat} (h : ∀ x ∈ xs, Lt (e x) w) (hm : xs.length ≤ m) : Lt (eL e xs) ((w + 1) * m) := by
  refine (Lt.lst (w := w) fun d hd => ?_).mono (Nat.mul_le_mul_left _ (by rw [List.length_map]; exact hm))
  obtain ⟨x, hx, rfl⟩ := List.mem_map.mp hd
  exact h x hx
theorem Lt.listX {α : Type} {e : α → D} {xs : List α} {w m : Nat} (h : ∀ x ∈ xs, Lt (e x) w) (hm : xs.length ≤ m) : Lt (eX e xs) ((w + 1) * m) := by
  refine (Lt.tup (w := w) fun d hd => ?_).mono (Nat.mul_le_mul_left _ (by rw [List.length_map]; exact hm))
  obtain ⟨x, hx, rfl⟩ := List.mem_map.mp hd
  exact h x hx
/-- its text -/
theorem rp_ok {d : D} {w : Nat} (h : Lt d w) (hw : w ≤ 1000000) (hs : SeqAt.shaped d.pd = true) (hd : (∃ ds, d = .lst ds) ∨ (∃ ds, d = .tup ds) ∨ d = .non ∨ ∃ b, d = .bl b) : ∃ s, rpT d = some s ∧ eqS s s = some true := by
  obtain ⟨h1, h2, h3⟩ := h.pl.ls
  have h4 : d.pd.shown.length ≤ 16777216 := by
    have := PyData.shown_fits (B := 13) (by decide) (by decide) h1 (Nat.le_trans h.wt (Nat.le_trans hw (by decide)))
    rwa [sizeLine_eq] at this
  have hb : bRepr [d] = some (.str d.pd.shown) := by
    show reprD d = _
    rcases hd with ⟨ds, rfl⟩ | ⟨ds, rfl⟩ | rfl | ⟨b, rfl⟩ <;> unfold reprD <;> simp only <;> rw [if_pos (And.intro hs (And.intro h2 (And.intro h3 h4)))]
  refine ⟨d.pd.shown, ?_, ?_⟩
  · unfold rpT
    rw [hb]
  · have hso : PyData.strOk d.pd.shown = true := by
      unfold PyData.strOk
      rw [Array.all_eq_true_iff_forall_mem]
      exact fun c hc => decide_eq_true (h.pl.st c (Array.mem_toList_iff.mpr hc))
    have hsh : SeqAt.shaped (D.pd (.str d.pd.shown)) = true := by
      show (PyData.canLay0 (.str d.pd.shown) && decide (PyData.depth (.str d.pd.shown) ≤ 64)) = true
      rw [show PyData.canLay0 (.str d.pd.shown) = PyData.strOk d.pd.shown from rfl, hso]
      rfl
    unfold eqS eqD
    rw [if_pos ⟨hsh, hsh⟩]
    show some (PyData.eqv (.str d.pd.shown) (.str d.pd.shown)) = _
    have : PyData.eqv (.str d.pd.shown) (.str d.pd.shown) = true := by simp [PyData.eqv]
    rw [this]
end Z


set_option maxRecDepth 100000
set_option maxHeartbeats 4000000
/-! N62j: draws, nets, minutes. -/
namespace K62
open PySem PySem.Spec PyProof.Rows L2 Z FR
theorem forT_inv {α σ : Type} {f : σ → α → Option σ} (P : List α → σ → Prop) : ∀ {xs : List α} {s : σ}, P xs s → (∀ a as s, P (a :: as) s → a ∈ xs → ∃ s', f s a = some s' ∧ P as s') → ∃ s', forT f xs s = some s' ∧ P [] s'
  | [], s, h, _ => ⟨s, rfl, h⟩
  | a :: as, s, h, hs => by
    obtain ⟨s1, h1, h2⟩ := hs a as s h List.mem_cons_self
    obtain ⟨s', h3, h4⟩ := forT_inv P h2 fun b bs s hb hm => hs b bs s hb (List.mem_cons_of_mem _ hm)
    exact ⟨s', by rw [forT_cons, h1, Option.bind_some, h3], h4⟩
theorem mix_ok {dr : List Int} {k many : Int} (hm : 0 < many) : t__law_mix dr k many = some (mix dr k many) := by
  unfold t__law_mix mix
  by_cases h : 0 < dr.length
  · have h1 : 0 ≤ k % (dr.length : Int) := Int.emod_nonneg _ (by omega)
    have h2 : k % (dr.length : Int) < dr.length := Int.emod_lt_of_pos _ (by omega)
    obtain ⟨j, hj⟩ := Int.eq_ofNat_of_zero_le h1
    rw [hj] at h2 ⊢
    have h3 : j < dr.length := by omega
    have e : atI dr (j : Int) = some (dr.getD j 0) := by
      rw [atI_n, List.getD_eq_getElem?_getD, List.getElem?_eq_getElem h3]
      rfl
    rw [if_pos (by simpa using h), gd_t (by omega), Option.bind_some, e, gd_t hm, if_pos h, Int.toNat_natCast]
    by_cases hk : k < dr.length <;> simp [hk]
  · have h0 : dr.length = 0 := by omega
    rw [if_neg (by simp [h0]), gd_t hm, if_neg h]
    by_cases hk : k < dr.length
    · have : dr = [] := List.length_eq_zero_iff.mp h0
      subst this
      simp at hk
      simp [hk]
    · simp [hk]
theorem atI_lt {α : Type} {xs : List α} {x : Int} (h0 : 0 ≤ x) (h1 : x < xs.length) : ∃ a, atI xs x = some a ∧ a ∈ xs := by
  obtain ⟨j, rfl⟩ := Int.eq_ofNat_of_zero_le h0
  have : j < xs.length := by omega
  exact ⟨xs[j], by rw [atI_n, List.getElem?_eq_getElem this], List.getElem_mem this⟩
theorem draws_ok (ns : List Int) (hn : ns.length ≤ 63) : ∃ dr, t__law_draws ns = some dr := by
  unfold t__law_draws
  have hm : minT 63 (ns.length : Int) = (ns.length : Int) := by
    unfold minT
    split <;> omega
  obtain ⟨b, hb, _⟩ := pow18
  have hp : powT 10 18 = some b := by
    unfold powT
    rw [hb]
  rw [hm, gd_t (by unfold r62; omega), Option.bind_some]
  obtain ⟨s', h1, _⟩ := forT_inv (f := t__law_draws_b2 ns) (fun as (acc : List Int) => acc.length + 61 * as.length ≤ 100000) (xs := rangeT 0 (ns.length : Int)) (s := []) (by
    rw [len_rangeT]
    show 0 + _ ≤ _
    omega) fun x as acc hP hx => by
      obtain ⟨j, rfl, hj⟩ := mem_rangeT hx
      rw [List.length_cons] at hP
      have hat : atI ns (j : Int) = some ns[j] := by rw [atI_n, List.getElem?_eq_getElem hj]
      unfold t__law_draws_b2
      rw [hat, hp]
      simp only [Option.bind_some]
      by_cases hc : b ≤ absT ns[j]
      · obtain ⟨s2, g1, g2⟩ := forT_inv (f := t__law_draws_b1) (fun as (st : List Int × Int) => st.1.length + as.length ≤ acc.length + 60) (xs := rangeT 0 60) (s := (acc, absT ns[j])) (by
          rw [show (60 : Int) = ((60 : Nat) : Int) from rfl, len_rangeT]
          exact Nat.le_refl _) fun x as st hP2 _ => by
            rw [List.length_cons] at hP2
            unfold t__law_draws_b1
            by_cases h0 : 0 < st.2
            · rw [if_pos (decide_eq_true h0), gd_t (by omega)]
              exact ⟨_, rfl, by rw [List.length_append]; simp only [List.length_cons, List.length_nil]; omega⟩
            · rw [if_neg (by simpa using h0)]
              exact ⟨_, rfl, by show st.1.length + _ ≤ _; omega⟩
        rw [if_pos (decide_eq_true hc), g1]
        exact ⟨_, rfl, by show s2.1.length + _ ≤ _; have : s2.1.length + 0 ≤ acc.length + 60 := g2; omega⟩
      · rw [if_neg (by simpa using hc), gd_t (by omega), Option.bind_some, gd_t (by rw [List.length_append]; simp only [List.length_cons, List.length_nil]; omega)]
        exact ⟨_, rfl, by rw [List.length_append, List.length_append]; simp only [List.length_cons, List.length_nil]; omega⟩
  exact ⟨s', by rw [h1]; rfl⟩
/-- a good link's four numbers -/
structure GoodQ (n : Int) (q : Int × Int × Int × Int) : Prop where
  one0 : 0 ≤ q.1
  one : q.1 < n
  two0 : 0 ≤ q.2.1
  two : q.2.1 < n
  ne : q.1 ≠ q.2.1
  t1 : 1 ≤ q.2.2.1
  t2 : q.2.2.1 ≤ 10
  b1 : 1 ≤ q.2.2.2
  b2 : q.2.2.2 ≤ 10
theorem all_snoc {α : Type} {p : α → Prop} {xs : List α} {x : α} (h : ∀ y ∈ xs, p y) (hx : p x) : ∀ y ∈ xs ++ [x], p y := fun y hy => by
  rcases List.mem_append.mp hy with hy | hy
  · exact h y hy
  · rw [List.mem_singleton.mp hy]
    exact hx
theorem mem_rangeT' {a b x : Int} (h : x ∈ rangeT a b) : a ≤ x ∧ x < b := by
  unfold Z.rangeT at h
  obtain ⟨j, hj, rfl⟩ := List.mem_map.mp h
  have := List.mem_range.mp hj
  omega
theorem len_rangeT' (a b : Int) : (rangeT a b).length = (b - a).toNat := by
  unfold Z.rangeT
  rw [List.length_map, List.length_range]
theorem one1 : (1 : Int) ≤ 1 := by decide
theorem one10 : (1 : Int) ≤ 10 := by decide
theorem net_mk (dr : List Int) (k : Int) : ∃ n ls, t__law_net dr k = some (n, ls) ∧ 2 ≤ n ∧ n ≤ 6 ∧ (∀ q ∈ ls, GoodQ n q) ∧ ls.length ≤ 8 := by
  have a1 := mix_nonneg (dr := dr) (k := k) (many := 5) (by omega)
  have a2 := mix_lt (dr := dr) (k := k) (many := 5) (by omega)
  have c1 := mix_nonneg (dr := dr) (k := k + 20) (many := 4) (by omega)
  have c2 := mix_lt (dr := dr) (k := k + 20) (many := 4) (by omega)
  unfold t__law_net
  rw [mix_ok (by omega), Option.bind_some, gd_t (by unfold r62; omega), Option.bind_some]
  obtain ⟨n, hn⟩ : ∃ n, 2 + mix dr k 5 = n := ⟨_, rfl⟩
  rw [hn]
  obtain ⟨l1, h1, h2, h3⟩ := forT_inv (f := t__law_net_b1 dr k) (fun as (ls : List (Int × Int × Int × Int)) => (∀ q ∈ ls, GoodQ n q) ∧ ls.length + as.length ≤ 5) (xs := rangeT 1 n) (s := []) ⟨(fun q hq => nomatch hq), by
    rw [len_rangeT']
    show 0 + _ ≤ _
    omega⟩ fun x as ls ⟨hP, hl⟩ hx => by
      have hx := mem_rangeT' hx
      rw [List.length_cons] at hl
      have b1 := mix_nonneg (dr := dr) (k := k + x) (many := 2) (by omega)
      have b2 := mix_lt (dr := dr) (k := k + x) (many := 2) (by omega)
      unfold t__law_net_b1
      rw [mix_ok (by omega), Option.bind_some]
      have : mix dr (k + x) 2 = 0 ∨ mix dr (k + x) 2 = 1 := by omega
      rw [gd_t (by omega)]
      rcases this with e | e <;> rw [e]
      · exact ⟨_, rfl, all_snoc hP ⟨by show 0 ≤ x - 1; omega, by show x - 1 < n; omega, by show 0 ≤ x; omega, by show x < n; omega, by show x - 1 ≠ x; omega, one1, one10, one1, one10⟩, by rw [List.length_append]; simp only [List.length_cons, List.length_nil]; omega⟩
      · exact ⟨_, rfl, all_snoc hP ⟨by show 0 ≤ x; omega, by show x < n; omega, by show 0 ≤ x - 1; omega, by show x - 1 < n; omega, by show x ≠ x - 1; omega, one1, one10, one1, one10⟩, by rw [List.length_append]; simp only [List.length_cons, List.length_nil]; omega⟩
  rw [h1, Option.bind_some, mix_ok (by omega), Option.bind_some, gd_t (by unfold r62; omega), Option.bind_some]
  obtain ⟨l2, g1, g2, g3⟩ := forT_inv (f := t__law_net_b2 dr k n) (fun as (ls : List (Int × Int × Int × Int)) => (∀ q ∈ ls, GoodQ n q) ∧ ls.length + as.length ≤ 8) (xs := rangeT 0 (mix dr (k + 20) 4)) (s := l1) ⟨h2, by
    rw [len_rangeT']
    have : l1.length + 0 ≤ 5 := h3
    omega⟩ fun x as ls ⟨hP, hl⟩ hx => by
      have hx := mem_rangeT' hx
      rw [List.length_cons] at hl
      have b1 := mix_nonneg (dr := dr) (k := (k + 21) + (3 * x)) (many := n) (by omega)
      have b2 := mix_lt (dr := dr) (k := (k + 21) + (3 * x)) (many := n) (by omega)
      have d1 := mix_nonneg (dr := dr) (k := (k + 22) + (3 * x)) (many := n - 1) (by omega)
      have d2 := mix_lt (dr := dr) (k := (k + 22) + (3 * x)) (many := n - 1) (by omega)
      unfold t__law_net_b2
      rw [mix_ok (by omega), Option.bind_some, mix_ok (by omega), Option.bind_some, gd_t (by omega), Option.bind_some, Option.bind_some, gd_t (by omega)]
      generalize mix dr ((k + 21) + (3 * x)) n = u at b1 b2 ⊢
      generalize mix dr ((k + 22) + (3 * x)) (n - 1) = v at d1 d2 ⊢
      have e1 : 0 ≤ (u + 1 + v) % n := Int.emod_nonneg _ (by omega)
      have e2 : (u + 1 + v) % n < n := Int.emod_lt_of_pos _ (by omega)
      have e3 : u ≠ (u + 1 + v) % n := by
        by_cases c : u + 1 + v < n
        · rw [Int.emod_eq_of_lt (by omega) c]
          omega
        · have : (u + 1 + v) % n = u + 1 + v - n := by
            rw [← Int.sub_emod_right, Int.emod_eq_of_lt (by omega) (by omega)]
          omega
      exact ⟨_, rfl, all_snoc hP ⟨b1, b2, e1, e2, e3, one1, one10, one1, one10⟩, by rw [List.length_append]; simp only [List.length_cons, List.length_nil]; omega⟩
  exact ⟨n, l2, by rw [g1]; rfl, by omega, by omega, g2, g3⟩
end K62


set_option maxRecDepth 100000
set_option maxHeartbeats 4000000
/-! N62k: doubled nets, minutes; as one list of links. -/
namespace K62
open PySem PySem.Spec PyProof.Rows L2 Z FR
theorem mod10 {a : Int} : 1 ≤ 1 + a % 10 ∧ 1 + a % 10 ≤ 10 := by
  have h1 : 0 ≤ a % 10 := Int.emod_nonneg _ (by omega)
  have h2 : a % 10 < 10 := Int.emod_lt_of_pos _ (by omega)
  omega
theorem doubled_mk (dr : List Int) (k : Int) : ∃ n ls, t__law_doubled dr k = some (n, ls) ∧ 2 ≤ n ∧ n ≤ 6 ∧ (∀ q ∈ ls, GoodQ n q) ∧ ls.length ≤ 14 := by
  obtain ⟨n, ls, h1, h2, h3, h4, h5⟩ := net_mk dr k
  have a1 := mix_nonneg (dr := dr) (k := k + 80) (many := 7) (by omega)
  have a2 := mix_lt (dr := dr) (k := k + 80) (many := 7) (by omega)
  unfold t__law_doubled
  rw [h1, Option.bind_some, mix_ok (by omega), Option.bind_some]
  generalize mix dr (k + 80) 7 = u at a1 a2 ⊢
  by_cases c : ls = []
  · have e : mulT u (if ((!(decide (ls = []))) && (decide ((ls.length : Int) < 12))) = true then 1 else 0) = some 0 := by
      rw [if_neg (by simp [c])]
      unfold mulT
      rw [if_pos (by right; omega), Int.mul_zero]
    refine ⟨n, ls, ?_, h2, h3, h4, by omega⟩
    show (mulT u (if ((!(decide (ls = []))) && (decide ((ls.length : Int) < 12))) = true then 1 else 0)).bind _ = _
    rw [e, Option.bind_some, gd_t (by unfold r62; omega)]
    rfl
  · have e : mulT u (if ((!(decide (ls = []))) && (decide ((ls.length : Int) < 12))) = true then 1 else 0) = some u := by
      rw [if_pos (by simp [c]; omega)]
      unfold mulT
      rw [if_pos (by right; omega), Int.mul_one]
    obtain ⟨l2, g1, g2, g3, g4⟩ := forT_inv (f := t__law_doubled_b1 dr k) (fun as (ls : List (Int × Int × Int × Int)) => (∀ q ∈ ls, GoodQ n q) ∧ ls.length + as.length ≤ 14 ∧ ls ≠ []) (xs := rangeT 0 u) (s := ls) ⟨h4, by rw [len_rangeT']; omega, c⟩ fun x as l ⟨hP, hl, hne⟩ hx => by
      rw [List.length_cons] at hl
      have pos : 0 < l.length := List.length_pos_iff.mpr hne
      have b1 := mix_nonneg (dr := dr) (k := (k + 81) + (3 * x)) (many := (l.length : Int)) (by omega)
      have b2 := mix_lt (dr := dr) (k := (k + 81) + (3 * x)) (many := (l.length : Int)) (by omega)
      obtain ⟨q, hq, hm⟩ := atI_lt (xs := l) b1 b2
      have G := hP q hm
      unfold t__law_doubled_b1
      rw [mix_ok (by omega), Option.bind_some, hq, Option.bind_some, mix_ok (by omega), Option.bind_some, gd_t (by show l.length + 1 ≤ _; omega)]
      exact ⟨_, rfl, all_snoc hP ⟨G.one0, G.one, G.two0, G.two, G.ne, mod10.1, mod10.2, mod10.1, mod10.2⟩, by rw [List.length_append]; simp only [List.length_cons, List.length_nil]; omega, by simp⟩
    refine ⟨n, l2, ?_, h2, h3, g2, by have : l2.length + 0 ≤ 14 := g3; omega⟩
    show (mulT u (if ((!(decide (ls = []))) && (decide ((ls.length : Int) < 12))) = true then 1 else 0)).bind _ = _
    rw [e, Option.bind_some, gd_t (by unfold r62; omega), Option.bind_some]
    show (forT (t__law_doubled_b1 dr k) (rangeT 0 u) ls).bind _ = _
    rw [g1]
    rfl
def GoodM (m : List Int) : Prop := ∃ a b : Int, m = [a, b] ∧ 0 ≤ a ∧ a ≤ 1000 ∧ 0 ≤ b ∧ b ≤ 1000
theorem minutes_mk (dr : List Int) (k : Int) {n : Int} {ls : List (Int × Int × Int × Int)} (hG : ∀ q ∈ ls, GoodQ n q) (hl : ls.length ≤ 14) : ∃ ms, t__law_minutes dr k ls = some ms ∧ ms.length = ls.length ∧ ∀ m ∈ ms, GoodM m := by
  have p1 := mix_nonneg (dr := dr) (k := k) (many := 2) (by omega)
  have p2 := mix_lt (dr := dr) (k := k) (many := 2) (by omega)
  unfold t__law_minutes
  rw [mix_ok (by omega), Option.bind_some, gd_t (by unfold r62; omega), Option.bind_some]
  generalize mix dr k 2 = plan at p1 p2 ⊢
  obtain ⟨ms, g1, g2, g3⟩ := forT_inv (f := t__law_minutes_b1 dr k ls plan) (fun as (ms : List (List Int)) => (∀ m ∈ ms, GoodM m) ∧ ms.length + as.length = ls.length) (xs := rangeT 0 (ls.length : Int)) (s := []) ⟨(fun q hq => nomatch hq), by rw [len_rangeT]; exact Nat.zero_add _⟩ fun x as ms ⟨hP, hm⟩ hx => by
    obtain ⟨j, rfl, hj⟩ := mem_rangeT hx
    rw [List.length_cons] at hm
    have f1 := mix_nonneg (dr := dr) (k := k + 1) (many := 3) (by omega)
    have f2 := mix_lt (dr := dr) (k := k + 1) (many := 3) (by omega)
    have hq : atI ls (j : Int) = some ls[j] := by rw [atI_n, List.getElem?_eq_getElem hj]
    have G := hG ls[j] (List.getElem_mem hj)
    obtain ⟨far, hf, hfm⟩ := atI_lt (xs := [(3 : Int), 12, 1001]) (x := mix dr (k + 1) 3) f1 (by show _ < (3 : Int); exact f2)
    have hfar : far = 3 ∨ far = 12 ∨ far = 1001 := by simpa using hfm
    have a1 := mix_nonneg (dr := dr) (k := (k + 2) + (2 * (j : Int))) (many := far) (by omega)
    have a2 := mix_lt (dr := dr) (k := (k + 2) + (2 * (j : Int))) (many := far) (by omega)
    have b1 := mix_nonneg (dr := dr) (k := (k + 3) + (2 * (j : Int))) (many := far) (by omega)
    have b2 := mix_lt (dr := dr) (k := (k + 3) + (2 * (j : Int))) (many := far) (by omega)
    unfold t__law_minutes_b1
    rw [mix_ok (by omega), Option.bind_some, hf, Option.bind_some, mix_ok (by omega), Option.bind_some, mix_ok (by omega), Option.bind_some, mix_ok (by omega), Option.bind_some]
    generalize mix dr ((k + 2) + (2 * (j : Int))) far = A at a1 a2 ⊢
    generalize mix dr ((k + 3) + (2 * (j : Int))) far = B0 at b1 b2 ⊢
    obtain ⟨B, hB, hB1, hB2⟩ : ∃ B, atI [B0, 0] (if (decide (mix dr ((k + 60) + (j : Int)) 6 = 0)) = true then 1 else 0 : Int) = some B ∧ 0 ≤ B ∧ B < far := by
      by_cases c : mix dr ((k + 60) + (j : Int)) 6 = 0
      · rw [if_pos (decide_eq_true c)]
        exact ⟨0, rfl, by omega, by omega⟩
      · rw [if_neg (by simpa using c)]
        exact ⟨B0, rfl, by omega, by omega⟩
    rw [hB, Option.bind_some]
    have gl : gd (ms.length < 16777216) = some () := gd_t (by omega)
    by_cases c : plan = 1
    · rw [if_pos (decide_eq_true c), rangeT2, gd_t (by decide), Option.bind_some]
      obtain ⟨z, hz, hz1, hz2⟩ : ∃ z : Int, (if (decide (far < 13)) = true then (1 : Int) else 0) = z ∧ (z = 0 ∨ (z = 1 ∧ far < 13)) ∧ True := by
        by_cases d : far < 13
        · exact ⟨1, by rw [if_pos (decide_eq_true d)], .inr ⟨rfl, d⟩, trivial⟩
        · exact ⟨0, by rw [if_neg (by simpa using d)], .inl rfl, trivial⟩
      rw [hz]
      have row : ∀ (i : Int) (cst v : Int), (i = 0 ∧ cst = ls[j].2.2.1 ∧ v = A) ∨ (i = 1 ∧ cst = ls[j].2.2.2 ∧ v = B) → ((atI ls (j : Int)).bind fun v_90 => (atI [v_90.1, v_90.2.1, v_90.2.2.1, v_90.2.2.2] (2 + i)).bind fun v_92 => (atI ls (j : Int)).bind fun v_94 => (atI [v_94.1, v_94.2.1, v_94.2.2.1, v_94.2.2.2] (2 + i)).bind fun v_96 => (atI [A, B] i).bind fun v_98 => (mulT v_98 z).bind fun v_100 => (some (some ((maxT 0 (40 - (4 * v_96))) + v_100)) : Option (Option Int))) = some (some (maxT 0 (40 - 4 * cst) + v * z)) := by
        intro i cst v h
        have hmul : ∀ v : Int, mulT v z = some (v * z) := fun v => by
          unfold mulT
          rw [if_pos (by right; omega)]
        rcases h with ⟨rfl, rfl, hv⟩ | ⟨rfl, rfl, hv⟩
        · rw [hq, hv]
          show (mulT A z).bind _ = _
          rw [hmul]
          rfl
        · rw [hq, hv]
          show (mulT B z).bind _ = _
          rw [hmul]
          rfl
      unfold compT
      rw [row 0 _ _ (.inl ⟨rfl, rfl, rfl⟩), Option.bind_some]
      unfold compT
      rw [row 1 _ _ (.inr ⟨rfl, rfl, rfl⟩), Option.bind_some]
      unfold compT
      simp only [Option.bind_some]
      rw [gl]
      refine ⟨_, rfl, all_snoc hP ⟨_, _, rfl, ?_⟩, by rw [List.length_append]; simp only [List.length_cons, List.length_nil]; omega⟩
      have t1 := G.t1
      have t2 := G.t2
      have u1 := G.b1
      have u2 := G.b2
      unfold maxT
      rcases hz1 with rfl | ⟨rfl, hlt⟩
      · rw [Int.mul_zero, Int.mul_zero]
        refine ⟨?_, ?_, ?_, ?_⟩ <;> split <;> omega
      · rw [Int.mul_one, Int.mul_one]
        refine ⟨?_, ?_, ?_, ?_⟩ <;> split <;> omega
    · rw [if_neg (by simpa using c), Option.bind_some, gl]
      exact ⟨_, rfl, all_snoc hP ⟨A, B, rfl, a1, by omega, hB1, by omega⟩, by rw [List.length_append]; simp only [List.length_cons, List.length_nil]; omega⟩
  exact ⟨ms, by rw [g1]; rfl, g3, g2⟩
/-- as links -/
theorem as_net {n : Nat} : ∀ {ls : List (Int × Int × Int × Int)} {ms : List (List Int)}, ms.length = ls.length → (∀ q ∈ ls, GoodQ n q) → (∀ m ∈ ms, GoodM m) → ∃ net : List Ln, lnks net = ls ∧ mins net = ms ∧ ∀ l ∈ net, GoodL n l
  | [], ms, h, _, _ => ⟨[], rfl, (List.length_eq_zero_iff.mp h).symm, fun l hl => nomatch hl⟩
  | q :: ls, [], h, _, _ => by cases h
  | q :: ls, m :: ms, h, hq, hm => by
    obtain ⟨net, h1, h2, h3⟩ := as_net (ls := ls) (ms := ms) (by simpa using h) (fun x hx => hq x (List.mem_cons_of_mem _ hx)) fun x hx => hm x (List.mem_cons_of_mem _ hx)
    have G := hq q List.mem_cons_self
    obtain ⟨a, b, rfl, m1, m2, m3, m4⟩ := hm m List.mem_cons_self
    have g1 := G.one0
    have g2 := G.one
    have g3 := G.two0
    have g4 := G.two
    have g5 := G.ne
    refine ⟨⟨q.1.toNat, q.2.1.toNat, q.2.2.1, q.2.2.2, a, b⟩ :: net, ?_, ?_, fun l hl => ?_⟩
    · show ((q.1.toNat : Int), (q.2.1.toNat : Int), q.2.2.1, q.2.2.2) :: lnks net = _
      rw [h1, Int.toNat_of_nonneg g1, Int.toNat_of_nonneg g3]
    · show [a, b] :: mins net = _
      rw [h2]
    · rcases List.mem_cons.mp hl with rfl | hl
      · exact ⟨by show q.1.toNat < n; omega, by show q.2.1.toNat < n; omega, by show q.1.toNat ≠ q.2.1.toNat; omega, G.t1, G.t2, G.b1, G.b2, m1, m3, m2, m4⟩
      · exact h3 l hl
end K62


set_option maxRecDepth 100000
set_option maxHeartbeats 4000000
/-! N62l: bounds for repr, bent papers. -/
namespace K62
open PySem PySem.Spec PyProof.Rows L2 Z FR
section
variable {n g s : Nat} {net : List Ln}
theorem hop_more (hG : ∀ l ∈ net, GoodL n l) {r : Nat} {h : Hop} (hh : h ∈ hopsOf net r) : h.time ≤ 1000 ∧ h.k < net.length ∧ h.e ≤ 1 := by
  obtain ⟨⟨l, k⟩, h1, h2⟩ := mem_hops.mp hh
  have G := hG l (List.fst_mem_of_mem_zipIdx h1)
  have hk : k < net.length := (List.getElem?_eq_some_iff.mp (List.mem_zipIdx_iff_getElem?.mp h1)).1
  unfold hopsAt at h2
  rcases List.mem_append.mp h2 with h2 | h2
  · split at h2
    · rw [List.mem_singleton.mp h2]
      exact ⟨G.n0, hk, Nat.zero_le _⟩
    · cases h2
  · split at h2
    · rw [List.mem_singleton.mp h2]
      exact ⟨G.n1, hk, Nat.le_refl _⟩
    · cases h2
theorem wlk_time (hG : ∀ l ∈ net, GoodL n l) : ∀ {w : List Hop} {r : Nat} {c t : Int}, Wlk net g r w c t → t ≤ 1000 * w.length
  | [], r, c, t, h => by
    rw [h.2.2]
    exact Int.le_refl _
  | h :: w, r, c, t, ⟨h1, h2⟩ => by
    have a := (hop_more hG h1).1
    have b := wlk_time hG h2
    rw [List.length_cons]
    omega
theorem told_small (hG : ∀ l ∈ net, GoodL n l) (hg : g < n) (hs : s < n) (h6 : n ≤ 6) {p : Int × Int} (hp : p ∈ (told net n g).getD s []) : p.1.natAbs < 10 ^ 12 ∧ p.2.natAbs < 10 ^ 12 := by
  obtain ⟨w, h1, h2⟩ := sound hG hg n s p hs hp
  have a := wlk_nonneg hG h2
  have b := wlk_time hG h2
  have e : (10 : Nat) ^ 12 = 1000000000000 := by decide
  rw [e]
  omega
theorem small {i : Int} (h0 : 0 ≤ i) (h : i ≤ 100000) : i.natAbs < 10 ^ 12 := by
  have e : (10 : Nat) ^ 12 = 1000000000000 := by decide
  rw [e]
  omega
theorem lt_pair {p : Int × Int} (h1 : p.1.natAbs < 10 ^ 12) (h2 : p.2.natAbs < 10 ^ 12) : Lt (e2 D.int D.int p) 82 := Lt.tup (w := 40) (ds := [.int p.1, .int p.2]) fun d hd => by
  rcases List.mem_cons.mp hd with rfl | hd
  · exact Lt.int h1
  · rw [List.mem_singleton.mp hd]
    exact Lt.int h2
theorem lt_two {a b : D} {w : Nat} (h1 : Lt a w) (h2 : Lt b w) : Lt (.tup [a, b]) ((w + 1) * 2) := Lt.tup (w := w) (ds := [a, b]) fun d hd => by
  rcases List.mem_cons.mp hd with rfl | hd
  · exact h1
  · rw [List.mem_singleton.mp hd]
    exact h2
theorem rp_kept (hG : ∀ l ∈ net, GoodL n l) (h6 : n ≤ 6) (hn : net.length ≤ 14) : ∃ s, rpT (e2 (eL (e4 D.int D.int D.int D.int)) (eL (eX D.int)) (lnks net, mins net)) = some s ∧ eqS s s = some true := by
  have l1 : Lt (eL (e4 D.int D.int D.int D.int) (lnks net)) 5000 := (Lt.list (w := 164) (m := 14) (fun q hq => by
    unfold lnks at hq
    obtain ⟨l, hl, rfl⟩ := List.mem_map.mp hq
    have G := hG l hl
    have := G.one
    have := G.two
    have := G.t1
    have := G.t2
    have := G.b1
    have := G.b2
    refine Lt.tup (w := 40) (ds := [.int l.one, .int l.two, .int l.there, .int l.back]) fun d hd => ?_
    simp only [List.mem_cons, List.not_mem_nil, or_false] at hd
    rcases hd with rfl | rfl | rfl | rfl <;> exact Lt.int (small (by omega) (by omega))) (by rw [len_lnks]; exact hn)).mono (by decide)
  have l2 : Lt (eL (eX D.int) (mins net)) 5000 := (Lt.list (w := 82) (m := 14) (fun m hm => by
    unfold mins at hm
    obtain ⟨l, hl, rfl⟩ := List.mem_map.mp hm
    have G := hG l hl
    have := G.m0
    have := G.m1
    have := G.n0
    have := G.n1
    refine Lt.listX (w := 40) (m := 2) (fun x hx => ?_) (Nat.le_refl _)
    simp only [List.mem_cons, List.not_mem_nil, or_false] at hx
    rcases hx with rfl | rfl <;> exact Lt.int (small (by omega) (by omega))) (by rw [len_mins]; exact hn)).mono (by decide)
  exact rp_ok (lt_two l1 l2) (by decide) ((EE.e2 (EE.list (EE.e4 EE.int EE.int EE.int EE.int)) (EE.list (EE.eX EE.int))).shaped (by decide) (lnks net, mins net)) (.inr (.inl ⟨_, rfl⟩))
theorem told_len6 (hG : ∀ l ∈ net, GoodL n l) (hg : g < n) (hs : s < n) (h6 : n ≤ 6) : ((told net n g).getD s []).length ≤ 61 := by
  have := tell_len hG hg (k := n) hs
  unfold told
  omega
theorem mem_told {T : List Fr} {U : Fr} (h : U ∈ T) : ∃ r, r < T.length ∧ T.getD r [] = U := by
  obtain ⟨r, hr, e⟩ := List.getElem_of_mem h
  exact ⟨r, hr, by rw [List.getD_eq_getElem?_getD, List.getElem?_eq_getElem hr]; exact e⟩
theorem rp_told (hG : ∀ l ∈ net, GoodL n l) (hg : g < n) (h6 : n ≤ 6) : ∃ s, rpT (eL (eL (e2 D.int D.int)) (told net n g)) = some s ∧ eqS s s = some true := by
  have hT : (told net n g).length = n := tellK_len n
  have l1 : Lt (eL (eL (e2 D.int D.int)) (told net n g)) 100000 := (Lt.list (w := 5063) (m := 6) (fun U hU => by
    obtain ⟨r, hr, rfl⟩ := mem_told hU
    rw [hT] at hr
    refine (Lt.list (w := 82) (m := 61) (fun p hp => ?_) (told_len6 hG hg hr h6)).mono (by decide)
    have := told_small hG hg hr h6 hp
    exact lt_pair this.1 this.2) (by omega)).mono (by decide)
  exact rp_ok l1 (by decide) ((EE.list (EE.list (EE.e2 EE.int EE.int))).shaped (by decide) (told net n g)) (.inl ⟨_, rfl⟩)
theorem rp_bl (b : Bool) : ∃ s, rpT (.bl b) = some s ∧ eqS s s = some true := rp_ok (Lt.bl b) (by decide) (EE.bl.shaped (by decide) b) (.inr (.inr (.inr ⟨b, rfl⟩)))
theorem rp_ch (hG : ∀ l ∈ net, GoodL n l) (hg : g < n) (hs : s < n) (h6 : n ≤ 6) (hn : net.length ≤ 14) {x : Option ((Int × Int) × List (Int × Int))} (h : x = none ∨ ∃ p w, x = some (p, w.map hopI) ∧ p ∈ (told net n g).getD s [] ∧ w ∈ fnd net s g n) :
    ∃ t, rpT (eO (e2 (e2 D.int D.int) (eL (e2 D.int D.int))) x) = some t ∧ eqS t t = some true := by
  have sh := (EE.eO (EE.e2 (EE.e2 EE.int EE.int) (EE.list (EE.e2 EE.int EE.int))) (fun _ => rfl)).shaped (by decide) x
  rcases h with rfl | ⟨p, w, rfl, hp, hw⟩
  · exact rp_ok Lt.non (by decide) sh (.inr (.inr (.inl rfl)))
  · have hps := told_small hG hg hs h6 hp
    obtain ⟨i, hi, hlv, _⟩ := mem_fnd.mp hw
    obtain ⟨hl1, hl2, _⟩ := lev_ok hlv
    have hk : ∀ (w : List Hop) (r : Nat), Chn net r w → ∀ h ∈ w, h.k < net.length ∧ h.e ≤ 1 := by
      intro w
      induction w with
      | nil => exact fun _ _ h hh => nomatch hh
      | cons a w ih =>
        intro r hc h hh
        rcases List.mem_cons.mp hh with rfl | hh
        · exact (hop_more hG hc.1).2
        · exact ih _ hc.2 h hh
    have l2 : Lt (eL (e2 D.int D.int) (w.map hopI)) 1000 := (Lt.list (w := 82) (m := 6) (fun q hq => by
      obtain ⟨h, hh, rfl⟩ := List.mem_map.mp hq
      have := hk w s hl2 h hh
      exact lt_pair (small (by show (0 : Int) ≤ (h.k : Int); omega) (by show (h.k : Int) ≤ 100000; omega)) (small (by show (0 : Int) ≤ (h.e : Int); omega) (by show (h.e : Int) ≤ 100000; omega))) (by rw [List.length_map]; omega)).mono (by decide)
    exact rp_ok (lt_two ((lt_pair hps.1 hps.2).mono (by decide : 82 ≤ 1000)) l2) (by decide) sh (.inr (.inl ⟨_, rfl⟩))
/-! a bent paper -/
theorem getD_set {T : List Fr} {r q : Nat} {U : Fr} (hr : r < T.length) : (T.set r U).getD q [] = if q = r then U else T.getD q [] := by
  rw [List.getD_eq_getElem?_getD, List.getD_eq_getElem?_getD]
  by_cases c : q = r
  · subst c
    rw [if_pos rfl, List.getElem?_set_self hr]
    rfl
  · rw [if_neg c, List.getElem?_set_ne (Ne.symm c)]
theorem cand_set (hG : ∀ l ∈ net, GoodL n l) {T : List Fr} {r : Nat} {U : Fr} (hr : r < T.length) : cand net (T.set r U) r = cand net T r := by
  unfold cand cands
  refine flatMap_same fun h hh => ?_
  have := hop_to hG hh
  rw [getD_set hr, if_neg this.2.1]
theorem told_paper (hG : ∀ l ∈ net, GoodL n l) (hg : g < n) : (told net n g).getD g [] = [(0, 0)] ∧ ∀ r, r < n → r ≠ g → (told net n g).getD r [] = unb (cand net (told net n g) r) :=
  ⟨tell_goal hg n, fun r hr hne => told_fix hG hg hr hne⟩
theorem bent_iff (hG : ∀ l ∈ net, GoodL n l) (hg : g < n) {r : Nat} {U : Fr} (hr : r < n) :
    ((((told net n g).set r U).getD g [] = [(0, 0)] ∧ ∀ q, q < n → q ≠ g → ((told net n g).set r U).getD q [] = unb (cand net ((told net n g).set r U) q)) ↔ (told net n g).set r U = told net n g) := by
  have hT : (told net n g).length = n := tellK_len n
  have hr' : r < (told net n g).length := by omega
  have self : U = (told net n g).getD r [] → (told net n g).set r U = told net n g := fun e => by
    rw [e]
    refine List.ext_getElem? fun q => ?_
    by_cases c : q = r
    · subst c
      rw [List.getElem?_set_self hr', List.getD_eq_getElem?_getD, List.getElem?_eq_getElem hr']
      rfl
    · rw [List.getElem?_set_ne (Ne.symm c)]
  constructor
  · rintro ⟨h1, h2⟩
    refine self ?_
    by_cases c : r = g
    · subst c
      rw [getD_set hr', if_pos rfl] at h1
      rw [h1]
      exact (told_paper hG hg).1.symm
    · have := h2 r hr c
      rw [getD_set hr', if_pos rfl, cand_set hG hr'] at this
      rw [this]
      exact ((told_paper hG hg).2 r hr c).symm
  · intro e
    rw [e]
    exact told_paper hG hg
theorem cand_bent (hG : ∀ l ∈ net, GoodL n l) (hg : g < n) (h6 : n ≤ 6) (hn : net.length ≤ 14) {r q : Nat} {U : Fr} (hr : r < n) (hU : U.length ≤ 62) : (cand net ((told net n g).set r U) q).length < 1199 := by
  have hT : (told net n g).length = n := tellK_len n
  have a := cands_len (T := (told net n g).set r U) (m := 62) (hs := hopsOf net q) fun h hh => by
    have := hop_to hG hh
    rw [getD_set (by omega)]
    split
    · exact hU
    · have := told_len6 hG hg this.1 h6
      omega
  have b := hops_len hG q
  unfold cand
  have : 62 * (hopsOf net q).length ≤ 62 * 14 := Nat.mul_le_mul_left _ (by omega)
  omega
end
end K62


set_option maxRecDepth 100000
set_option maxHeartbeats 4000000
namespace K62
open PySem PySem.Spec PyProof.Rows L2 Z
def okB (o : Option (Sum Unit Bool)) : Bool := match o with
  | some (.inl _) => true
  | _ => false
theorem ok_inl {o : Option (Sum Unit Bool)} (h : okB o = true) : o = some (.inl ()) := by
  unfold okB at h
  split at h
  · rfl
  · cases h
theorem faults_a : okB (forR (t__law_faults_b1 [(0, 1, 1, 1), (1, 2, 1, 1)] [[0, 1000], [5, 5]] [[(-1), 0], [0, 1001], [0], [0, 0, 0]]) (rangeT 0 4) ()) = true := by
  decide +kernel
def wide : List (Int × Int × Int × Int) := [(0, 1, 1, 1), (0, 1, 2, 1), (1, 2, 1, 1), (1, 2, 3, 1), (2, 3, 1, 1), (2, 3, 5, 1), (3, 4, 1, 1), (3, 4, 9, 1), (4, 5, 1, 1), (4, 5, 17, 1), (5, 6, 1, 1), (5, 6, 33, 1), (6, 7, 1, 1), (6, 7, 65, 1), (7, 8, 1, 1), (7, 8, 129, 1), (8, 9, 1, 1), (8, 9, 257, 1)]
def times : List (List Int) := [[1, 0], [0, 0], [2, 0], [0, 0], [4, 0], [0, 0], [8, 0], [0, 0], [16, 0], [0, 0], [32, 0], [0, 0], [64, 0], [0, 0], [128, 0], [0, 0], [256, 0], [0, 0]]
theorem faults_b : forT t__law_faults_b2 (rangeT 0 9) ([], []) = some (wide, times) := by
  decide +kernel
end K62


set_option maxRecDepth 100000
set_option maxHeartbeats 4000000
namespace K62
open PySem PySem.Spec PyProof.Rows L2 Z
theorem faults_c : t__law_error 0 (10, wide, times) (9, 0, 0) = some (some (("many" : Str), 512)) := by
  decide +kernel
end K62


set_option maxRecDepth 100000
set_option maxHeartbeats 4000000
/-! N62m: the faults. -/
namespace K62
open PySem PySem.Spec PyProof.Rows L2 Z FR
def net3 : List Ln := [⟨0, 1, 1, 1, 0, 1000⟩, ⟨1, 2, 1, 1, 5, 5⟩]
theorem net3_good : ∀ l ∈ net3, GoodL 3 l := by
  intro l hl
  unfold net3 at hl
  simp only [List.mem_cons, List.not_mem_nil, or_false] at hl
  rcases hl with rfl | rfl <;> exact ⟨by decide, by decide, by decide, by decide, by decide, by decide, by decide, by decide, by decide, by decide, by decide⟩
theorem net3_nx : Nx 3 2 net3 := nx_of (by decide) (by decide) net3_good (by decide) (by decide)
theorem net3_told : told net3 3 2 = [[(2, 5)], [(1, 5)], [(0, 0)]] := by
  have h1 := find_ok net3_nx
  have h2 : (t_find_fronts 3 (lnks net3) (mins net3) 2).bind okR = some [[(2, 5)], [(1, 5)], [(0, 0)]] := by decide +kernel
  rw [show ((3 : Nat) : Int) = 3 from rfl, show ((2 : Nat) : Int) = 2 from rfl] at h1
  rw [h1] at h2
  exact Option.some.inj h2
theorem net3_ch : t_cheapest 3 (lnks net3) (mins net3) 0 2 5 = some (.ok (some ((2, 5), [(0, 0), (1, 0)]))) := by
  have hw : Wk net3 (told net3 3 2) 2 0 (2, 5) [⟨0, 0, 1, 1, 0⟩, ⟨1, 0, 2, 1, 5⟩] := by
    rw [net3_told]
    refine ⟨by decide, ⟨[], by decide⟩, ⟨by decide, ⟨[], by decide⟩, rfl⟩⟩
  exact cheapest_some net3_nx (s := 0) (by decide) (lim := 5) (by decide) (p := (2, 5)) (ps := []) (by rw [net3_told]; decide) hw (by decide)
theorem faults_d : (t_are_fronts 10 wide times 9 []).bind okR = some false := by decide +kernel
theorem faults_e : t__law_error 2 (3, [(0, 1, 1, 1), (1, 2, 1, 1)], [[0, 1000], [5, 5]]) (0, 2, -1) = some (some (("range" : Str), -1)) := by decide +kernel
theorem faults_f : eqD ((eO (e2 D.str D.int)) (some (("many" : Str), 512))) ((eO (e2 D.str D.int)) (some (("many" : Str), 512))) = some true := by decide +kernel
theorem faults_g : eqD ((eO (e2 D.str D.int)) (some (("range" : Str), -1))) ((eO (e2 D.str D.int)) (some (("range" : Str), -1))) = some true := by decide +kernel
theorem faults_ok : t__law_faults = some true := by
  have ch : (t_cheapest 3 [(0, 1, 1, 1), (1, 2, 1, 1)] [[0, 1000], [5, 5]] 0 2 5).bind okR = some (some ((2, 5), [(0, 0), (1, 0)])) := by
    have := net3_ch
    rw [show ([(0, 1, 1, 1), (1, 2, 1, 1)] : List (Int × Int × Int × Int)) = lnks net3 from rfl, show ([[0, 1000], [5, 5]] : List (List Int)) = mins net3 from rfl, this]
    rfl
  unfold t__law_faults
  simp only [Option.bind_some]
  rw [ok_inl faults_a, Option.bind_some, elimT_l, faults_b, Option.bind_some]
  simp only []
  rw [faults_c, Option.bind_some, faults_f, Option.bind_some, if_neg (by decide), faults_d]
  simp only [Option.bind_some]
  rw [if_neg (by decide), faults_e, Option.bind_some, faults_g, Option.bind_some, if_pos rfl, ch]
  simp
end K62


set_option maxRecDepth 100000
set_option maxHeartbeats 4000000
/-! N62n: the law. -/
namespace K62
open PySem PySem.Spec PyProof.Rows L2 Z FR
theorem compT_map2 {α β γ : Type} {G : β → Option (Option γ)} {F : α → β} {h : α → γ} : ∀ {xs : List α}, (∀ x ∈ xs, G (F x) = some (some (h x))) → compT G (xs.map F) = some (xs.map h)
  | [], _ => rfl
  | x :: xs, e => by
    rw [List.map_cons]
    unfold compT
    rw [e x List.mem_cons_self, Option.bind_some, compT_map2 fun y hy => e y (List.mem_cons_of_mem _ hy)]
    rfl
section
variable {n g : Nat} {net : List Ln} {dr : List Int}
def walksT (net : List Ln) (n g : Nat) : List (List ((Int × Int) × List (Int × Int))) := (List.range n).map fun r => (fnd net r g n).map wkT
theorem told_map (hG : ∀ l ∈ net, GoodL n l) : (List.range n).map (fun r => (told net n g).getD r []) = told net n g := by
  have hT : (told net n g).length = n := tellK_len n
  refine List.ext_getElem? fun q => ?_
  rw [List.getElem?_map]
  by_cases c : q < n
  · rw [List.getElem?_range c, Option.map_some, List.getD_eq_getElem?_getD, List.getElem?_eq_getElem (by omega)]
    rfl
  · rw [List.getElem?_eq_none (by rw [List.length_range]; omega), List.getElem?_eq_none (by omega)]
    rfl
/-- one turn of the law's loop -/
theorem turn_ok (h2 : 2 ≤ n) (h6 : n ≤ 6) (hG : ∀ l ∈ net, GoodL n l) (hn : net.length ≤ 14) (hg : g < n) {x : Int} : t_law_b1 dr n (lnks net) (mins net) g (walksT net n g) (told net n g) () x = some (.nx ()) := by
  have N : Nx n g net := nx_of (by omega) h6 hG hn hg
  have hT : (told net n g).length = n := tellK_len n
  have pick : ∀ k, ∃ r : Nat, mix dr k n = r ∧ r < n := fun k => by
    have a := mix_nonneg (dr := dr) (k := k) (many := (n : Int)) (by omega)
    have b := mix_lt (dr := dr) (k := k) (many := (n : Int)) (by omega)
    obtain ⟨r, hr⟩ := Int.eq_ofNat_of_zero_le a
    exact ⟨r, hr, by omega⟩
  obtain ⟨r, hr1, hr⟩ := pick (300 + (10 * x))
  obtain ⟨u, hu1, hu⟩ := pick ((300 + (10 * x)) + 3)
  have hlen := told_len6 hG hg hr h6
  have mx : (0 : Int) < maxT 1 ((((told net n g).getD r []).length : Nat) : Int) := by
    unfold maxT
    split <;> omega
  have k1 := mix_nonneg (dr := dr) (k := (300 + (10 * x)) + 1) mx
  unfold t_law_b1
  rw [mix_ok (by omega), Option.bind_some, hr1, at_tell (by omega), Option.bind_some, Option.bind_some, Option.bind_some, mix_ok mx, Option.bind_some]
  generalize mix dr ((300 + (10 * x)) + 1) (maxT 1 ((((told net n g).getD r []).length : Nat) : Int)) = kk at k1 ⊢
  obtain ⟨k, rfl⟩ := Int.eq_ofNat_of_zero_le k1
  have c1 : Z.cutD ((told net n g).getD r []) none (some (k : Int)) = ((told net n g).getD r []).take k := cut_to
  have c2 : Z.cutD ((told net n g).getD r []) (some ((k : Int) + 1)) none = ((told net n g).getD r []).drop (k + 1) := by
    rw [show (k : Int) + 1 = ((k + 1 : Nat) : Int) by omega]
    exact cut_from
  have c3 : Z.cutD (told net n g) none (some (r : Int)) = (told net n g).take r := cut_to
  have c4 : Z.cutD (told net n g) (some ((r : Int) + 1)) none = (told net n g).drop (r + 1) := by
    rw [show (r : Int) + 1 = ((r + 1 : Nat) : Int) by omega]
    exact cut_from
  rw [c1, c2, c3, c4]
  generalize hD : (told net n g).getD r [] = D0 at hlen ⊢
  have l1 := List.length_take_le k D0
  have l2 : (D0.drop (k + 1)).length ≤ D0.length := by rw [List.length_drop]; omega
  rw [gd_t (by rw [List.length_take, List.length_drop]; omega), Option.bind_some, gd_t (by show D0.length + 1 ≤ _; omega), Option.bind_some, gd_t (by omega), Option.bind_some, compT_map, Option.bind_some, mix_ok (by omega), Option.bind_some]
  have b1 := mix_nonneg (dr := dr) (k := (300 + (10 * x)) + 2) (many := 5) (by omega)
  have b2 := mix_lt (dr := dr) (k := (300 + (10 * x)) + 2) (many := 5) (by omega)
  obtain ⟨bent, hb, hbm⟩ := atI_lt (xs := [D0.take k ++ D0.drop (k + 1), D0 ++ [((99999 : Int), (0 : Int))], D0.reverse, D0.map (fun p : Int × Int => (p.1, p.2 + 1)), [((0 : Int), (0 : Int))]]) b1 (by show _ < (5 : Int); exact b2)
  have hbl : bent.length ≤ 62 := by
    simp only [List.mem_cons, List.not_mem_nil, or_false] at hbm
    rcases hbm with rfl | rfl | rfl | rfl | rfl
    · have : (D0.take k ++ D0.drop (k + 1)).length ≤ D0.length := by
        rw [List.length_append, List.length_take, List.length_drop]
        omega
      omega
    · rw [List.length_append]
      show D0.length + 1 ≤ 62
      omega
    · rw [List.length_reverse]
      omega
    · rw [List.length_map]
      omega
    · show 1 ≤ 62
      omega
  rw [hb, Option.bind_some]
  have e1 : ((told net n g).take r ++ [bent]) ++ (told net n g).drop (r + 1) = (told net n g).set r bent := by
    rw [List.set_eq_take_append_cons_drop, if_pos (by omega), List.append_assoc]
    rfl
  have t1 := List.length_take_le r (told net n g)
  have t2 : ((told net n g).drop (r + 1)).length ≤ n := by rw [List.length_drop]; omega
  rw [gd_t (by show ((told net n g).take r).length + 1 ≤ _; omega), Option.bind_some, gd_t (by rw [List.length_append]; show ((told net n g).take r).length + 1 + _ ≤ _; omega), Option.bind_some, e1, Option.bind_some]
  have hset : ((told net n g).set r bent).length = n := by rw [List.length_set, hT]
  rw [are_ok N.h1 N.h16 hG N.hn hg hset fun q hq => cand_bent hG hg h6 hn hr hbl]
  simp only [Option.bind_some, okR_ok]
  have eb : decide (((told net n g).set r bent).getD g [] = [(0, 0)] ∧ ∀ q, q < n → q ≠ g → ((told net n g).set r bent).getD q [] = unb (cand net ((told net n g).set r bent) q)) = decide ((told net n g).set r bent = told net n g) := by
    rw [Bool.eq_iff_iff, decide_eq_true_eq, decide_eq_true_eq]
    exact bent_iff hG hg hr
  rw [eb]
  obtain ⟨s1, hs1, hs2⟩ := rp_bl (decide ((told net n g).set r bent = told net n g))
  rw [hs1]
  simp only [Option.bind_some]
  rw [hs2]
  simp only [Option.bind_some]
  rw [if_neg (by decide), mix_ok (by omega), Option.bind_some, hu1, mix_ok (by omega), Option.bind_some]
  have f1 := mix_nonneg (dr := dr) (k := (300 + (10 * x)) + 5) (many := 3) (by omega)
  have f2 := mix_lt (dr := dr) (k := (300 + (10 * x)) + 5) (many := 3) (by omega)
  obtain ⟨far, hf, hfm⟩ := atI_lt (xs := [(12 : Int), 60, 4000]) f1 (by show _ < (3 : Int); exact f2)
  have hfar : 0 < far := by
    simp only [List.mem_cons, List.not_mem_nil, or_false] at hfm
    omega
  rw [hf, Option.bind_some, mix_ok hfar, Option.bind_some]
  have l0 := mix_nonneg (dr := dr) (k := (300 + (10 * x)) + 4) hfar
  generalize mix dr ((300 + (10 * x)) + 4) far = lim at l0 ⊢
  obtain ⟨y, hy1, hy2, hy3⟩ := cheapest_same N h6 hn hu l0
  obtain ⟨s2, hs3, hs4⟩ := rp_ch hG hg hu h6 hn hy3
  have hw : atI (walksT net n g) (u : Int) = some ((fnd net u g n).map wkT) := by
    unfold walksT
    rw [atI_n, List.getElem?_map, List.getElem?_range hu]
    rfl
  rw [hy1]
  simp only [Option.bind_some, okR_ok]
  rw [hs3, Option.bind_some, hw, Option.bind_some, hy2, Option.bind_some, hs3, Option.bind_some, hs4, Option.bind_some, if_neg (by decide), limits_ok N hu]
  simp only [Option.bind_some, okR_ok]
  have hlu := told_len6 hG hg hu h6
  rw [at_tell (by omega), Option.bind_some, gd_t (by omega), Option.bind_some, compT_map, Option.bind_some, if_neg]
  show ¬ ((!decide (List.mergeSort (((told net n g).getD u []).map swp) (leE (e2 D.int D.int)) = List.mergeSort (((told net n g).getD u []).map swp) (leE (e2 D.int D.int)))) = true)
  simp
theorem tlaw_true (ns : List Int) (h : ns.length ≤ 63) : t_law ns = some true := by
  obtain ⟨dr, hdr⟩ := draws_ok ns h
  obtain ⟨n', ls, h1, h2, h6, hq, hl⟩ := doubled_mk dr 10
  obtain ⟨ms, m1, m2, m3⟩ := minutes_mk dr 100 hq hl
  obtain ⟨n, rfl⟩ := Int.eq_ofNat_of_zero_le (show 0 ≤ n' by omega)
  obtain ⟨net, rfl, rfl, hG⟩ := as_net m2 hq m3
  have hn : net.length ≤ 14 := by rw [← len_lnks (net := net)]; exact hl
  have g1 := mix_nonneg (dr := dr) (k := 1) (many := (n : Int)) (by omega)
  have g2 := mix_lt (dr := dr) (k := 1) (many := (n : Int)) (by omega)
  unfold t_law
  rw [hdr, Option.bind_some, h1, Option.bind_some]
  simp only []
  rw [m1, Option.bind_some, mix_ok (by omega), Option.bind_some]
  generalize mix dr 1 n = g' at g1 g2 ⊢
  obtain ⟨g, rfl⟩ := Int.eq_ofNat_of_zero_le g1
  have hg : g < n := by omega
  have h6' : n ≤ 6 := by omega
  have N : Nx n g net := nx_of (by omega) h6' hG hn hg
  have hT : (told net n g).length = n := tellK_len n
  obtain ⟨s1, a1, a2⟩ := rp_kept (n := n) hG h6' hn
  obtain ⟨s2, b1, b2⟩ := rp_told hG hg h6'
  have lr := len_rangeT n
  have ew : compT (fun x_46 : Int => (t__law_walks n (lnks net) (mins net) x_46 g).bind fun v_63 => some (some v_63)) (Z.rangeT 0 (n : Int)) = some (walksT net n g) := by
    rw [rangeT_n]
    unfold walksT
    refine compT_map2 fun r hr => ?_
    rw [walks_ok hG hn h6', Option.bind_some]
  have ef : compT (fun x_77 : List ((Int × Int) × List (Int × Int)) => (t__law_front x_77).bind fun v_86 => some (some v_86)) (walksT net n g) = some (told net n g) := by
    unfold walksT
    have e := told_map (n := n) (g := g) hG
    rw [compT_map2 (h := fun r => (told net n g).getD r []) fun r hr => by rw [lfront_told hG hg (List.mem_range.mp hr) hn, Option.bind_some], e]
  have lw : (walksT net n g).length = n := by
    unfold walksT
    rw [List.length_map, List.length_range]
  have ea := are_ok N.h1 N.h16 hG N.hn hg hT fun q hq => N.hc n q (Nat.le_refl _) hq
  rw [decide_eq_true (told_paper hG hg)] at ea
  rw [a1, Option.bind_some, gd_t (r62_of (by omega)), Option.bind_some, gd_t (by omega), Option.bind_some, ew, Option.bind_some, gd_t (by omega), Option.bind_some, ef, Option.bind_some, fronts_ok N]
  simp only [Option.bind_some, okR_ok]
  rw [b1]
  simp only [Option.bind_some]
  rw [b2]
  simp only [Option.bind_some]
  rw [ea, if_neg (by decide)]
  simp only [Option.bind_some, okR_ok]
  rw [if_neg (by decide), forR_all (s := ()) fun x _ => turn_ok (by omega) h6' hG hn hg, Option.bind_some, elimT_l, faults_ok, Option.bind_some, if_pos rfl]
  rw [a2]
  rfl
end
theorem law_true : ∀ ns : List Int, ns.length ≤ 63 → m_law [.scr ns] = some (.bl true) := fun ns h => y_law (tlaw_true ns h)
end K62


open PySem PySem.W PyProof.Rows
set_option maxHeartbeats 0 in
theorem PySem.Challenge.cw_waysflooded_k62_whole_ways_by_two_costs_holds : PySem.Challenge.rw_waysflooded_k62_whole_ways_by_two_costs.Holds := by
  w_on; o_law; k_head; (case hw => w_witness2)
  k_fill
  refine Z.walkG (l := PySem.Challenge.rw_waysflooded_k62_whole_ways_by_two_costs) (n := 63) (k := 9) (x := "script") (o := K62.m_law) rfl (by decide) rfl ⟨rfl, by decide, by decide⟩ (fun w h Y => PySem.W.kIn_of Y) ?F K62.law_true
  case F =>
    intro w mg fa h KX G hmg
    refine K62.law_end KX G hmg ?d_is_span ?d_hops_of ?d_unbeaten ?d__law_draws ?d__law_mix ?d__law_walks ?d__law_front ?d__law_two ?d_next_front ?d_walk_by ?d__law_net ?d__law_minutes ?d__law_cheapest ?d_check_links ?d_check_router ?d_find_fronts ?d__law_doubled ?d_check_net ?d_fronts ?d_are_fronts ?d_check_ends ?d_cheapest ?d_limits ?d__law_error ?d__law_faults ?d_law ?c_MOST_COST ?c_MOST_LINKS ?c_MOST_MINUTES ?c_MOST_PAIRS ?c_MOST_ROUTERS ?n_abs ?n_all ?n_enumerate ?n_int ?n_isinstance ?n_len ?n_max ?n_min ?n_range ?n_repr ?n_set ?n_sorted ?n_tuple ?x_TooMany ?x_BadRouter ?x_BadLink ?x_BadRange ?i_BadLink ?i_BadRange ?i_BadRouter ?i_TooMany ?k_NetError
    (case d_is_span => refine' Z.def_mk KX G ?a ?l ?c ?k; (case a => k_is); (case l => k_is); (case c => k_is); (case k => k_is))
    (case d_hops_of => refine' Z.def_mk KX G ?a ?l ?c ?k; (case a => k_is); (case l => k_is); (case c => k_is); (case k => k_is))
    (case d_unbeaten => refine' Z.def_mk KX G ?a ?l ?c ?k; (case a => k_is); (case l => k_is); (case c => k_is); (case k => k_is))
    (case d__law_draws => refine' Z.def_mk KX G ?a ?l ?c ?k; (case a => k_is); (case l => k_is); (case c => k_is); (case k => k_is))
    (case d__law_mix => refine' Z.def_mk KX G ?a ?l ?c ?k; (case a => k_is); (case l => k_is); (case c => k_is); (case k => k_is))
    (case d__law_walks => refine' Z.def_mk KX G ?a ?l ?c ?k; (case a => k_is); (case l => k_is); (case c => k_is); (case k => k_is))
    (case d__law_front => refine' Z.def_mk KX G ?a ?l ?c ?k; (case a => k_is); (case l => k_is); (case c => k_is); (case k => k_is))
    (case d__law_two => refine' Z.def_mk KX G ?a ?l ?c ?k; (case a => k_is); (case l => k_is); (case c => k_is); (case k => k_is))
    (case d_next_front => refine' Z.def_mk KX G ?a ?l ?c ?k; (case a => k_is); (case l => k_is); (case c => k_is); (case k => k_is))
    (case d_walk_by => refine' Z.def_mk KX G ?a ?l ?c ?k; (case a => k_is); (case l => k_is); (case c => k_is); (case k => k_is))
    (case d__law_net => refine' Z.def_mk KX G ?a ?l ?c ?k; (case a => k_is); (case l => k_is); (case c => k_is); (case k => k_is))
    (case d__law_minutes => refine' Z.def_mk KX G ?a ?l ?c ?k; (case a => k_is); (case l => k_is); (case c => k_is); (case k => k_is))
    (case d__law_cheapest => refine' Z.def_mk KX G ?a ?l ?c ?k; (case a => k_is); (case l => k_is); (case c => k_is); (case k => k_is))
    (case d_check_links => refine' Z.def_mk KX G ?a ?l ?c ?k; (case a => k_is); (case l => k_is); (case c => k_is); (case k => k_is))
    (case d_check_router => refine' Z.def_mk KX G ?a ?l ?c ?k; (case a => k_is); (case l => k_is); (case c => k_is); (case k => k_is))
    (case d_find_fronts => refine' Z.def_mk KX G ?a ?l ?c ?k; (case a => k_is); (case l => k_is); (case c => k_is); (case k => k_is))
    (case d__law_doubled => refine' Z.def_mk KX G ?a ?l ?c ?k; (case a => k_is); (case l => k_is); (case c => k_is); (case k => k_is))
    (case d_check_net => refine' Z.def_mk KX G ?a ?l ?c ?k; (case a => k_is); (case l => k_is); (case c => k_is); (case k => k_is))
    (case d_fronts => refine' Z.def_mk KX G ?a ?l ?c ?k; (case a => k_is); (case l => k_is); (case c => k_is); (case k => k_is))
    (case d_are_fronts => refine' Z.def_mk KX G ?a ?l ?c ?k; (case a => k_is); (case l => k_is); (case c => k_is); (case k => k_is))
    (case d_check_ends => refine' Z.def_mk KX G ?a ?l ?c ?k; (case a => k_is); (case l => k_is); (case c => k_is); (case k => k_is))
    (case d_cheapest => refine' Z.def_mk KX G ?a ?l ?c ?k; (case a => k_is); (case l => k_is); (case c => k_is); (case k => k_is))
    (case d_limits => refine' Z.def_mk KX G ?a ?l ?c ?k; (case a => k_is); (case l => k_is); (case c => k_is); (case k => k_is))
    (case d__law_error => refine' Z.def_mk KX G ?a ?l ?c ?k; (case a => k_is); (case l => k_is); (case c => k_is); (case k => k_is))
    (case d__law_faults => refine' Z.def_mk KX G ?a ?l ?c ?k; (case a => k_is); (case l => k_is); (case c => k_is); (case k => k_is))
    (case d_law => refine' Z.def_mk KX G ?a ?l ?c ?k; (case a => k_is); (case l => k_is); (case c => k_is); (case k => k_is))
    (case c_MOST_COST => refine' Z.int_mk KX G ?a; (case a => k_is))
    (case c_MOST_LINKS => refine' Z.int_mk KX G ?a; (case a => k_is))
    (case c_MOST_MINUTES => refine' Z.int_mk KX G ?a; (case a => k_is))
    (case c_MOST_PAIRS => refine' Z.int_mk KX G ?a; (case a => k_is))
    (case c_MOST_ROUTERS => refine' Z.int_mk KX G ?a; (case a => k_is))
    (case n_abs => refine' PySem.W.mg_none_of KX G ?a; (case a => k_is))
    (case n_all => refine' PySem.W.mg_none_of KX G ?a; (case a => k_is))
    (case n_enumerate => refine' PySem.W.mg_none_of KX G ?a; (case a => k_is))
    (case n_int => refine' PySem.W.mg_none_of KX G ?a; (case a => k_is))
    (case n_isinstance => refine' PySem.W.mg_none_of KX G ?a; (case a => k_is))
    (case n_len => refine' PySem.W.mg_none_of KX G ?a; (case a => k_is))
    (case n_max => refine' PySem.W.mg_none_of KX G ?a; (case a => k_is))
    (case n_min => refine' PySem.W.mg_none_of KX G ?a; (case a => k_is))
    (case n_range => refine' PySem.W.mg_none_of KX G ?a; (case a => k_is))
    (case n_repr => refine' PySem.W.mg_none_of KX G ?a; (case a => k_is))
    (case n_set => refine' PySem.W.mg_none_of KX G ?a; (case a => k_is))
    (case n_sorted => refine' PySem.W.mg_none_of KX G ?a; (case a => k_is))
    (case n_tuple => refine' PySem.W.mg_none_of KX G ?a; (case a => k_is))
    (case x_TooMany => refine' Z.exc_mk KX G ?a ?l ?r ?sa ?sb ?ty ?kp ?no ?i ?ti ?lf ?cd ?lc ?hv ?hfile ?lcc ?hD ?hs ?op ?top ?up ?ve ?un ?bi ?ga ?gt ?ha ?hn ?tk ?hm ?hd ?ic; (case a => k_is); (case l => k_is); (case sa => k_is); (case sb => k_is); (case ty => k_is); (case kp => k_is); (case no => k_is); (case i => k_is); (case ti => k_is); (case lf => k_is); (case cd => k_is); (case lc => k_is); (case lcc => k_is); (case hD => k_is); (case hs => k_is); (case op => k_is); (case ve => k_is); (case un => k_is); (case ga => k_is); (case gt => k_is); (case ha => k_is); (case hn => k_is); (case tk => k_is); (case hm => k_is); (case hd => k_is); (case ic => k_is); (case r => rfl); (case hv => rfl); (case hfile => rfl); (case top => rfl); (case up => kernel_rfl); (case bi => exact fun us hl => match us, hl with | [_, _], _ => rfl))
    (case x_BadRouter => refine' Z.exc_mk KX G ?a ?l ?r ?sa ?sb ?ty ?kp ?no ?i ?ti ?lf ?cd ?lc ?hv ?hfile ?lcc ?hD ?hs ?op ?top ?up ?ve ?un ?bi ?ga ?gt ?ha ?hn ?tk ?hm ?hd ?ic; (case a => k_is); (case l => k_is); (case sa => k_is); (case sb => k_is); (case ty => k_is); (case kp => k_is); (case no => k_is); (case i => k_is); (case ti => k_is); (case lf => k_is); (case cd => k_is); (case lc => k_is); (case lcc => k_is); (case hD => k_is); (case hs => k_is); (case op => k_is); (case ve => k_is); (case un => k_is); (case ga => k_is); (case gt => k_is); (case ha => k_is); (case hn => k_is); (case tk => k_is); (case hm => k_is); (case hd => k_is); (case ic => k_is); (case r => rfl); (case hv => rfl); (case hfile => rfl); (case top => rfl); (case up => kernel_rfl); (case bi => exact fun us hl => match us, hl with | [_, _], _ => rfl))
    (case x_BadLink => refine' Z.exc_mk KX G ?a ?l ?r ?sa ?sb ?ty ?kp ?no ?i ?ti ?lf ?cd ?lc ?hv ?hfile ?lcc ?hD ?hs ?op ?top ?up ?ve ?un ?bi ?ga ?gt ?ha ?hn ?tk ?hm ?hd ?ic; (case a => k_is); (case l => k_is); (case sa => k_is); (case sb => k_is); (case ty => k_is); (case kp => k_is); (case no => k_is); (case i => k_is); (case ti => k_is); (case lf => k_is); (case cd => k_is); (case lc => k_is); (case lcc => k_is); (case hD => k_is); (case hs => k_is); (case op => k_is); (case ve => k_is); (case un => k_is); (case ga => k_is); (case gt => k_is); (case ha => k_is); (case hn => k_is); (case tk => k_is); (case hm => k_is); (case hd => k_is); (case ic => k_is); (case r => rfl); (case hv => rfl); (case hfile => rfl); (case top => rfl); (case up => kernel_rfl); (case bi => exact fun us hl => match us, hl with | [_, _], _ => rfl))
    (case x_BadRange => refine' Z.exc_mk KX G ?a ?l ?r ?sa ?sb ?ty ?kp ?no ?i ?ti ?lf ?cd ?lc ?hv ?hfile ?lcc ?hD ?hs ?op ?top ?up ?ve ?un ?bi ?ga ?gt ?ha ?hn ?tk ?hm ?hd ?ic; (case a => k_is); (case l => k_is); (case sa => k_is); (case sb => k_is); (case ty => k_is); (case kp => k_is); (case no => k_is); (case i => k_is); (case ti => k_is); (case lf => k_is); (case cd => k_is); (case lc => k_is); (case lcc => k_is); (case hD => k_is); (case hs => k_is); (case op => k_is); (case ve => k_is); (case un => k_is); (case ga => k_is); (case gt => k_is); (case ha => k_is); (case hn => k_is); (case tk => k_is); (case hm => k_is); (case hd => k_is); (case ic => k_is); (case r => rfl); (case hv => rfl); (case hfile => rfl); (case top => rfl); (case up => kernel_rfl); (case bi => exact fun us hl => match us, hl with | [_, _], _ => rfl))
    (case i_BadLink => exact Z.isi_mk KX G (by kernel_rfl))
    (case i_BadRange => exact Z.isi_mk KX G (by kernel_rfl))
    (case i_BadRouter => exact Z.isi_mk KX G (by kernel_rfl))
    (case i_TooMany => exact Z.isi_mk KX G (by kernel_rfl))
    (case k_NetError => exact Z.catch_mk KX G (by kernel_rfl))

