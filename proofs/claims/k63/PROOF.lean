import PyProof.Rows.All
import Wide.All
import OpenK.AllK
import Wide.FinOn
import HandS.ForMost
import HandS.Walk
import HandS.Style
import HandS.Conv
import HandS.Flow
import HandS.Deep
import HandS.TupSets
import KE.SortData
import KE.DataMinMax
import PySem.Challenge.RW_waysflooded_k63_main_what_holds_of_ways
set_option Elab.async false
set_option linter.all false
set_option maxRecDepth 100000
set_option maxHeartbeats 4000000
/-! Z1: a pure reading of defs over the hand layer: data, frozen and own lists, expressions, statements. -/
namespace Z
open PySem PySem.Spec PyProof.Rows L2

/-- plain data -/
inductive D where
  | non | bl (b : Bool) | int (i : Int) | str (x : Str)
  | lst (xs : List D) | tup (xs : List D)
  | scr (ns : List Int)
deriving Inhabited

/-- from (F, H) to (F', H'): F what is frozen, H the heap. Nothing tracked changes, what is frozen anew was free ahead -/
structure Ext (F H F' H' : Hp) : Prop where
  fr : Same F F'
  sub : Same F' H'
  keep : Same H H'
  new : ∀ a, F' a = F a ∨ H a = none
section
variable {F H F1 H1 F2 H2 : Hp} {p : Addr} {o : HO}
theorem Ext.refl (h : Same F H) : Ext F H F H := ⟨.refl _, h, .refl _, fun _ => .inl rfl⟩
theorem Ext.trans (a : Ext F H F1 H1) (b : Ext F1 H1 F2 H2) : Ext F H F2 H2 :=
  ⟨a.fr.trans b.fr, b.sub, a.keep.trans b.keep, fun x => by
    rcases b.new x with e | e
    · rcases a.new x with e' | e'
      · exact .inl (e.trans e')
      · exact .inr e'
    · exact .inr (a.keep.free e)⟩
theorem same_upd (h : H p = none) : Same H (upd H p o) := fun b x e => by
  rw [upd_ne (ne_of_none e h)]
  exact e
theorem same_upd2 (h : Same F H) (n : H p = none) : Same (upd F p o) (upd H p o) := fun b x e => by
  by_cases hb : b = p
  · subst hb
    rw [upd_same] at e ⊢
    exact e
  · rw [upd_ne hb] at e ⊢
    exact h b x e
theorem Ext.alloc (h : Same F H) (n : H p = none) : Ext F H (upd F p o) (upd H p o) :=
  ⟨same_upd (h.free n), same_upd2 h n, same_upd n, fun a => by
    by_cases e : a = p
    · subst e
      exact .inr n
    · exact .inl (upd_ne e)⟩
theorem Ext.allocH (h : Same F H) (n : H p = none) : Ext F H F (upd H p o) :=
  ⟨.refl _, h.trans (same_upd n), same_upd n, fun _ => .inl rfl⟩
end

mutual
inductive Rep (K : PySem.W.Frag) (F : Hp) : V → D → Prop
  | non : Rep K F .non .non
  | bl (b : Bool) : Rep K F (.bl b) (.bl b)
  | int (i : Int) : Rep K F (.int i) (.int i)
  | str (x : Str) : Rep K F (.str x) (.str x)
  | lst {a : Addr} {vs : List V} {ds : List D} : F a = some (.lst vs) → RepL K F vs ds → Rep K F (.ref a) (.lst ds)
  | tup {a : Addr} {vs : List V} {ds : List D} : F a = some (.tup vs) → RepL K F vs ds → Rep K F (.ref a) (.tup ds)
  | scr {a : Addr} {ns : List Int} : SqL K F a (ns.map V.int) → Rep K F (.ref a) (.scr ns)
inductive RepL (K : PySem.W.Frag) (F : Hp) : List V → List D → Prop
  | nil : RepL K F [] []
  | cons {v : V} {vs : List V} {d : D} {ds : List D} : Rep K F v d → RepL K F vs ds → RepL K F (v :: vs) (d :: ds)
end
section
variable {K : PySem.W.Frag} {F F' : Hp}
mutual
theorem Rep.mono (e : Same F F') : ∀ {v : V} {d : D}, Rep K F v d → Rep K F' v d
  | _, _, .non => .non
  | _, _, .bl b => .bl b
  | _, _, .int i => .int i
  | _, _, .str x => .str x
  | _, _, .lst h r => .lst (e _ _ h) (RepL.mono e r)
  | _, _, .tup h r => .tup (e _ _ h) (RepL.mono e r)
  | _, _, .scr h => .scr (e.seq h)
theorem RepL.mono (e : Same F F') : ∀ {vs : List V} {ds : List D}, RepL K F vs ds → RepL K F' vs ds
  | _, _, .nil => .nil
  | _, _, .cons h r => .cons (Rep.mono e h) (RepL.mono e r)
end
theorem RepL.len : ∀ {vs : List V} {ds : List D}, RepL K F vs ds → vs.length = ds.length
  | _, _, .nil => rfl
  | _, _, .cons _ r => by rw [List.length_cons, List.length_cons, r.len]
theorem RepL.get : ∀ {vs : List V} {ds : List D} {i : Nat} {d : D}, RepL K F vs ds → ds[i]? = some d → ∃ v, vs[i]? = some v ∧ Rep K F v d
  | _, _, _, _, .nil, e => by simp at e
  | _, _, 0, _, .cons h _, e => by
    simp at e
    subst e
    exact ⟨_, rfl, h⟩
  | _, _, i + 1, d, .cons _ r, e => by
    obtain ⟨v, h1, h2⟩ := RepL.get (i := i) (d := d) r (by simpa using e)
    exact ⟨v, by simpa using h1, h2⟩
theorem RepL.getV {vs : List V} {ds : List D} {i : Nat} {v : V} (r : RepL K F vs ds) (e : vs[i]? = some v) : ∃ d, ds[i]? = some d ∧ Rep K F v d := by
  have hl := r.len
  obtain ⟨h, _⟩ := List.getElem?_eq_some_iff.mp e
  obtain ⟨w, h1, h2⟩ := r.get (List.getElem?_eq_getElem (show i < ds.length by omega))
  rw [e] at h1
  cases h1
  exact ⟨_, List.getElem?_eq_getElem (show i < ds.length by omega), h2⟩
theorem RepL.of : ∀ {vs : List V} {ds : List D}, vs.length = ds.length → (∀ (i : Nat) v d, vs[i]? = some v → ds[i]? = some d → Rep K F v d) → RepL K F vs ds
  | [], [], _, _ => .nil
  | v :: vs, d :: ds, hl, h => .cons (h 0 v d rfl rfl) (RepL.of (by simpa using hl) fun i v d e1 e2 => h (i + 1) v d (by simpa using e1) (by simpa using e2))
  | [], _ :: _, hl, _ => by simp at hl
  | _ :: _, [], hl, _ => by simp at hl
theorem RepL.append : ∀ {vs ws : List V} {ds es : List D}, RepL K F vs ds → RepL K F ws es → RepL K F (vs ++ ws) (ds ++ es)
  | _, _, _, _, .nil, s => s
  | _, _, _, _, .cons h r, s => .cons h (RepL.append r s)
theorem RepL.set {v : V} {d : D} (h : Rep K F v d) : ∀ {vs : List V} {ds : List D} (i : Nat), RepL K F vs ds → RepL K F (vs.set i v) (ds.set i d)
  | _, _, _, .nil => .nil
  | _, _, 0, .cons _ r => .cons h r
  | _, _, i + 1, .cons q r => .cons q (RepL.set h i r)
theorem RepL.take : ∀ {vs : List V} {ds : List D} (n : Nat), RepL K F vs ds → RepL K F (vs.take n) (ds.take n)
  | _, _, 0, _ => .nil
  | _, _, _ + 1, .nil => .nil
  | _, _, n + 1, .cons h r => .cons h (RepL.take n r)
theorem RepL.drop : ∀ {vs : List V} {ds : List D} (n : Nat), RepL K F vs ds → RepL K F (vs.drop n) (ds.drop n)
  | _, _, 0, r => r
  | _, _, _ + 1, .nil => .nil
  | _, _, n + 1, .cons _ r => RepL.drop n r
theorem RepL.reverse : ∀ {vs : List V} {ds : List D}, RepL K F vs ds → RepL K F vs.reverse ds.reverse
  | _, _, .nil => .nil
  | _, _, .cons h r => by
    rw [List.reverse_cons, List.reverse_cons]
    exact r.reverse.append (.cons h .nil)
theorem RepL.ints (ns : List Int) : RepL K F (ns.map V.int) (ns.map D.int) := by
  induction ns with
  | nil => exact .nil
  | cons n ns ih => exact .cons (.int n) ih
theorem Rep.lst_inv {v : V} {ds : List D} (r : Rep K F v (.lst ds)) : ∃ a vs, v = .ref a ∧ F a = some (.lst vs) ∧ RepL K F vs ds := by
  cases r with
  | lst h q => exact ⟨_, _, rfl, h, q⟩
theorem Rep.tup_inv {v : V} {ds : List D} (r : Rep K F v (.tup ds)) : ∃ a vs, v = .ref a ∧ F a = some (.tup vs) ∧ RepL K F vs ds := by
  cases r with
  | tup h q => exact ⟨_, _, rfl, h, q⟩
end

/-- what a slot holds -/
inductive L where
  | un
  | fro (d : D)
  | own (xs : List D)
deriving Inhabited
abbrev EV := List L

/-- the slots σ and the heap H bear the readings ev; F is frozen; F0, H0: at the entry -/
structure SR (K : PySem.W.Frag) (F0 H0 : Hp) (ev : EV) (σ : L2.St) (F H : Hp) : Prop where
  ext : Ext F0 H0 F H
  len : σ.length = ev.length
  fro : ∀ (i : Nat) d, ev[i]? = some (.fro d) → ∃ v, σ[i]? = some (some v) ∧ Rep K F v d
  own : ∀ (i : Nat) xs, ev[i]? = some (.own xs) → ∃ a vs, σ[i]? = some (some (.ref a)) ∧ H a = some (.lst vs) ∧ F a = none ∧ H0 a = none ∧ RepL K F vs xs
  dis : ∀ (i j : Nat) xs ys a, ev[i]? = some (.own xs) → ev[j]? = some (.own ys) → σ[i]? = some (some (.ref a)) → σ[j]? = some (some (.ref a)) → i = j
section
variable {K : PySem.W.Frag} {F0 H0 F H F' H' : Hp} {ev : EV} {σ : L2.St} {i : Nat}
theorem SR.sub (s : SR K F0 H0 ev σ F H) : Same F H := s.ext.sub
theorem SR.up (s : SR K F0 H0 ev σ F H) (e : Ext F H F' H') : SR K F0 H0 ev σ F' H' := by
  refine ⟨s.ext.trans e, s.len, fun i d h => ?_, fun i xs h => ?_, s.dis⟩
  · obtain ⟨v, h1, h2⟩ := s.fro i d h
    exact ⟨v, h1, h2.mono e.fr⟩
  · obtain ⟨a, vs, h1, h2, h3, h4, h5⟩ := s.own i xs h
    refine ⟨a, vs, h1, e.keep _ _ h2, ?_, h4, h5.mono e.fr⟩
    rcases e.new a with z | z
    · exact z.trans h3
    · rw [z] at h2
      cases h2
theorem get_set {α : Type} {l : List α} {i j : Nat} {x y : α} (h : (l.set i x)[j]? = some y) : (j = i ∧ i < l.length ∧ y = x) ∨ (j ≠ i ∧ l[j]? = some y) := by
  by_cases e : j = i
  · subst e
    by_cases hl : j < l.length
    · rw [List.getElem?_set_self hl] at h
      cases h
      exact .inl ⟨rfl, hl, rfl⟩
    · rw [List.getElem?_eq_none (by simpa using hl)] at h
      cases h
  · rw [List.getElem?_set_ne (Ne.symm e)] at h
    exact .inr ⟨e, h⟩
theorem set_ne_get {α : Type} {l : List α} {i j : Nat} {x : α} (e : j ≠ i) : (l.set i x)[j]? = l[j]? := List.getElem?_set_ne (Ne.symm e)
theorem SR.setFro {v : V} {d : D} (s : SR K F0 H0 ev σ F H) (r : Rep K F v d) : SR K F0 H0 (ev.set i (.fro d)) (σ.set i (some v)) F H := by
  refine ⟨s.ext, by simp [s.len], fun j e h => ?_, fun j xs h => ?_, fun j k xs ys a h1 h2 h3 h4 => ?_⟩
  · rcases get_set h with ⟨rfl, hl, e⟩ | ⟨hj, h⟩
    · cases e
      exact ⟨v, List.getElem?_set_self (by rw [s.len]; exact hl), r⟩
    · rw [set_ne_get hj]
      exact s.fro j e h
  · rcases get_set h with ⟨rfl, hl, e⟩ | ⟨hj, h⟩
    · cases e
    · rw [set_ne_get hj]
      exact s.own j xs h
  · rcases get_set h1 with ⟨_, _, e⟩ | ⟨hj, h1⟩
    · cases e
    · rcases get_set h2 with ⟨_, _, e⟩ | ⟨hk, h2⟩
      · cases e
      · rw [set_ne_get hj] at h3
        rw [set_ne_get hk] at h4
        exact s.dis j k xs ys a h1 h2 h3 h4
theorem SR.setUn {x : Option V} (s : SR K F0 H0 ev σ F H) : SR K F0 H0 (ev.set i .un) (σ.set i x) F H := by
  refine ⟨s.ext, by simp [s.len], fun j e h => ?_, fun j xs h => ?_, fun j k xs ys a h1 h2 h3 h4 => ?_⟩
  · rcases get_set h with ⟨rfl, hl, e⟩ | ⟨hj, h⟩
    · cases e
    · rw [set_ne_get hj]
      exact s.fro j e h
  · rcases get_set h with ⟨rfl, hl, e⟩ | ⟨hj, h⟩
    · cases e
    · rw [set_ne_get hj]
      exact s.own j xs h
  · rcases get_set h1 with ⟨_, _, e⟩ | ⟨hj, h1⟩
    · cases e
    · rcases get_set h2 with ⟨_, _, e⟩ | ⟨hk, h2⟩
      · cases e
      · rw [set_ne_get hj] at h3
        rw [set_ne_get hk] at h4
        exact s.dis j k xs ys a h1 h2 h3 h4
theorem SR.setOwn {a : Addr} {vs : List V} {xs : List D} (s : SR K F0 H0 ev σ F H) (hH : H a = some (.lst vs)) (hF : F a = none) (hH0 : H0 a = none) (r : RepL K F vs xs)
    (hd : ∀ (j : Nat) ys, j ≠ i → ev[j]? = some (.own ys) → σ[j]? ≠ some (some (.ref a))) : SR K F0 H0 (ev.set i (.own xs)) (σ.set i (some (.ref a))) F H := by
  refine ⟨s.ext, by simp [s.len], fun j e h => ?_, fun j zs h => ?_, fun j k ys zs b h1 h2 h3 h4 => ?_⟩
  · rcases get_set h with ⟨rfl, hl, e⟩ | ⟨hj, h⟩
    · cases e
    · rw [set_ne_get hj]
      exact s.fro j e h
  · rcases get_set h with ⟨rfl, hl, e⟩ | ⟨hj, h⟩
    · cases e
      exact ⟨a, vs, List.getElem?_set_self (by rw [s.len]; exact hl), hH, hF, hH0, r⟩
    · rw [set_ne_get hj]
      exact s.own j zs h
  · rcases get_set h1 with ⟨rfl, hl, e⟩ | ⟨hj, g1⟩
    · rw [List.getElem?_set_self (by rw [s.len]; exact hl)] at h3
      cases h3
      rcases get_set h2 with ⟨rfl, _, _⟩ | ⟨hk, h2⟩
      · rfl
      · rw [set_ne_get hk] at h4
        exact absurd h4 (hd k zs hk h2)
    · rcases get_set h2 with ⟨rfl, hl, e⟩ | ⟨hk, g2⟩
      · rw [List.getElem?_set_self (by rw [s.len]; exact hl)] at h4
        cases h4
        rw [set_ne_get hj] at h3
        exact absurd h3 (hd j ys hj g1)
      · rw [set_ne_get hj] at h3
        rw [set_ne_get hk] at h4
        exact s.dis j k ys zs b g1 g2 h3 h4
/-- an own list changed in place -/
theorem SR.mut {a : Addr} {vs vs' : List V} {xs xs' : List D} (s : SR K F0 H0 ev σ F H) (h : ev[i]? = some (.own xs)) (hσ : σ[i]? = some (some (.ref a))) (hH : H a = some (.lst vs)) (r : RepL K F vs' xs') :
    SR K F0 H0 (ev.set i (.own xs')) σ F (upd H a (.lst vs')) := by
  obtain ⟨a', vs0, q1, q2, q3, q4, q5⟩ := s.own i xs h
  rw [hσ] at q1
  cases q1
  have hi : i < ev.length := (List.getElem?_eq_some_iff.mp h).1
  have nF : ∀ b o, F b = some o → b ≠ a := fun b o e => ne_of_none e q3
  have nH0 : ∀ b o, H0 b = some o → b ≠ a := fun b o e => ne_of_none e q4
  refine ⟨⟨s.ext.fr, fun b o e => ?_, fun b o e => ?_, s.ext.new⟩, by simp [s.len], fun j e hj => ?_, fun j zs hj => ?_, fun j k ys zs b h1 h2 h3 h4 => ?_⟩
  · rw [upd_ne (nF b o e)]
    exact s.ext.sub b o e
  · rw [upd_ne (nH0 b o e)]
    exact s.ext.keep b o e
  · rcases get_set hj with ⟨rfl, hl, e⟩ | ⟨hj, h⟩
    · cases e
    · exact s.fro j e h
  · rcases get_set hj with ⟨rfl, hl, e⟩ | ⟨hji, hj⟩
    · cases e
      exact ⟨a, vs', hσ, upd_same, q3, q4, r⟩
    · obtain ⟨b, ws, p1, p2, p3, p4, p5⟩ := s.own j zs hj
      refine ⟨b, ws, p1, ?_, p3, p4, p5⟩
      rw [upd_ne]
      · exact p2
      · intro e
        subst e
        exact hji (s.dis j i zs xs b hj h p1 hσ)
  · have g1 : ∃ ys', ev[j]? = some (.own ys') := by
      rcases get_set h1 with ⟨rfl, _, _⟩ | ⟨_, h1⟩
      · exact ⟨_, h⟩
      · exact ⟨_, h1⟩
    have g2 : ∃ ys', ev[k]? = some (.own ys') := by
      rcases get_set h2 with ⟨rfl, _, _⟩ | ⟨_, h2⟩
      · exact ⟨_, h⟩
      · exact ⟨_, h2⟩
    obtain ⟨_, g1⟩ := g1
    obtain ⟨_, g2⟩ := g2
    exact s.dis j k _ _ b g1 g2 h3 h4
/-- an own list frozen -/
def evFrz (ev : EV) (i : Nat) : EV := match ev[i]? with
  | some (.own xs) => ev.set i (.fro (.lst xs))
  | _ => ev
theorem SR.frz (s : SR K F0 H0 ev σ F H) (i : Nat) : ∃ F', Same F F' ∧ SR K F0 H0 (evFrz ev i) σ F' H := by
  unfold evFrz
  split
  · rename_i xs h
    obtain ⟨a, vs, q1, q2, q3, q4, q5⟩ := s.own i xs h
    have m : Same F (upd F a (.lst vs)) := same_upd q3
    refine ⟨upd F a (.lst vs), m, ⟨s.ext.fr.trans m, fun b o e => ?_, s.ext.keep, fun b => ?_⟩, by simp [s.len], fun j e hj => ?_, fun j zs hj => ?_, fun j k ys zs b h1 h2 h3 h4 => ?_⟩
    · by_cases hb : b = a
      · subst hb
        rw [upd_same] at e
        exact q2.trans e
      · rw [upd_ne hb] at e
        exact s.ext.sub b o e
    · by_cases hb : b = a
      · subst hb
        exact .inr q4
      · rw [upd_ne hb]
        exact s.ext.new b
    · rcases get_set hj with ⟨rfl, hl, e⟩ | ⟨hj, h⟩
      · cases e
        exact ⟨_, q1, .lst upd_same (q5.mono m)⟩
      · obtain ⟨v, p1, p2⟩ := s.fro j e h
        exact ⟨v, p1, p2.mono m⟩
    · rcases get_set hj with ⟨rfl, hl, e⟩ | ⟨hji, hj⟩
      · cases e
      · obtain ⟨b, ws, p1, p2, p3, p4, p5⟩ := s.own j zs hj
        refine ⟨b, ws, p1, p2, ?_, p4, p5.mono m⟩
        rw [upd_ne]
        · exact p3
        · intro e
          subst e
          exact hji (s.dis j i zs xs b hj h p1 q1)
    · rcases get_set h1 with ⟨_, _, e⟩ | ⟨_, h1⟩
      · cases e
      · rcases get_set h2 with ⟨_, _, e⟩ | ⟨_, h2⟩
        · cases e
        · exact s.dis j k _ _ b h1 h2 h3 h4
  · exact ⟨F, .refl _, s⟩
/-- another entry -/
theorem SR.base {F1 : Hp} (s : SR K F0 H0 ev σ F H) (h1 : Same F1 F) (h2 : ∀ a, F a = F1 a ∨ H0 a = none) : SR K F1 H0 ev σ F H :=
  ⟨⟨h1, s.ext.sub, s.ext.keep, h2⟩, s.len, s.fro, s.own, s.dis⟩
def evWipe (ev : EV) : List Nat → EV
  | [] => ev
  | v :: vs => (evWipe ev vs).set v .un
theorem SR.wipe (s : SR K F0 H0 ev σ F H) : ∀ vs : List Nat, SR K F0 H0 (evWipe ev vs) (L2.wipe σ vs) F H
  | [] => s
  | v :: vs => (s.wipe vs).setUn
end

/-! ### the judgements -/
def ERun (K : PySem.W.Frag) (fz : Bool) (f : EV → Option D) (t : TE) : Prop :=
  ∀ (F0 H0 : Hp) (ev : EV) (σ : L2.St) (F H : Hp) (d : D) (Q : VK), SR K F0 H0 ev σ F H → f ev = some d →
    (∀ v F' H', Ext F H F' H' → Rep K H' v d → (fz = true → Rep K F' v d) → Q v H') → t σ H Q
/-- an expression; fz: its value is frozen -/
def EOk (X : Cx) (e : Expr) (fz : Bool) (f : EV → Option D) : Prop := ∃ t, PE X e t ∧ ERun X.K fz f t
def TRun (K : PySem.W.Frag) (f : EV → Option Bool) (t : TT) : Prop :=
  ∀ (F0 H0 : Hp) (ev : EV) (σ : L2.St) (F H : Hp) (b : Bool) (Q : Bool → Hp → Prop), SR K F0 H0 ev σ F H → f ev = some b → (∀ F' H', Ext F H F' H' → Q b H') → t σ H Q
def TOk (X : Cx) (e : Expr) (f : EV → Option Bool) : Prop := ∃ t, PT X e t ∧ TRun X.K f t
def WOk (X : Cx) (e : Expr) (f : EV → Option Bool) : Prop := ∃ t, PW X e t ∧ TRun X.K f t
def TsOk (X : Cx) (es : List Expr) (f : EV → Option Bool) : Prop := ∃ t, PTs X es t ∧ TRun X.K f t
def ARun (K : PySem.W.Frag) (fz : Bool) (f : EV → Option (List D)) (t : TA) : Prop :=
  ∀ (F0 H0 : Hp) (ev : EV) (σ : L2.St) (F H : Hp) (ds : List D) (Q : List V → Hp → Prop), SR K F0 H0 ev σ F H → f ev = some ds →
    (∀ vs F' H', Ext F H F' H' → RepL K H' vs ds → (fz = true → RepL K F' vs ds) → Q vs H') → t σ H Q
def AOk (X : Cx) (es : List Expr) (fz : Bool) (f : EV → Option (List D)) : Prop := ∃ t, PA X es t ∧ ARun X.K fz f t

inductive Fl where
  | nx (e : EV) | rt (d : D) | bk (e : EV) | ct (e : EV)
def Post (K : PySem.W.Frag) (F0 H0 : Hp) (E : Ends) : Fl → Prop
  | .nx e => ∀ σ F H, SR K F0 H0 e σ F H → E.nx σ H
  | .bk e => ∀ σ F H, SR K F0 H0 e σ F H → E.bk σ H
  | .ct e => ∀ σ F H, SR K F0 H0 e σ F H → E.ct σ H
  | .rt d => ∀ v F H, Ext F0 H0 F H → Rep K F v d → E.rt v H
def SRun (K : PySem.W.Frag) (g : EV → Option Fl) (t : TS) : Prop :=
  ∀ (F0 H0 : Hp) (ev : EV) (σ : L2.St) (F H : Hp) (E : Ends) (r : Fl), SR K F0 H0 ev σ F H → g ev = some r → Post K F0 H0 E r → t E σ H
def SOk (X : Cx) (st : Stmt) (g : EV → Option Fl) : Prop := ∃ t, PS X st t ∧ SRun X.K g t
def BOk (X : Cx) (st : List Stmt) (g : EV → Option Fl) : Prop := ∃ t, PSs X st t ∧ SRun X.K g t

/-! ### expressions -/
section
variable {X : Cx} {a b c e : Expr} {fz fa fb : Bool} {f g h : EV → Option D} {pos : Pos}
theorem EOk.mono (q : EOk X e fz f) (hf : ∀ ev d, g ev = some d → f ev = some d) : EOk X e fz g := by
  obtain ⟨t, p, r⟩ := q
  exact ⟨t, p, fun F0 H0 ev σ F H d Q s he => r F0 H0 ev σ F H d Q s (hf _ _ he)⟩
def cVar (i : Nat) : EV → Option D := fun ev => match ev[i]? with
  | some (.fro d) => some d
  | _ => none
def cOwn (i : Nat) : EV → Option D := fun ev => match ev[i]? with
  | some (.own xs) => some (.lst xs)
  | _ => none
def cC (d : D) : EV → Option D := fun _ => some d
theorem e_var {i : Nat} {x : Str} (hp : PE X (.Name x pos) (tVar i)) : EOk X (.Name x pos) true (cVar i) := by
  refine ⟨_, hp, fun F0 H0 ev σ F H d Q s he q => ?_⟩
  unfold cVar at he
  split at he
  · rename_i d' h
    cases he
    obtain ⟨v, h1, h2⟩ := s.fro i _ h
    exact ⟨v, h1, q v F H (.refl s.sub) (h2.mono s.sub) fun _ => h2⟩
  · cases he
theorem e_own {i : Nat} {x : Str} (hp : PE X (.Name x pos) (tVar i)) : EOk X (.Name x pos) false (cOwn i) := by
  refine ⟨_, hp, fun F0 H0 ev σ F H d Q s he q => ?_⟩
  unfold cOwn at he
  split at he
  · rename_i xs h
    cases he
    obtain ⟨a, vs, h1, h2, h3, h4, h5⟩ := s.own i _ h
    exact ⟨.ref a, h1, q _ F H (.refl s.sub) (.lst h2 (h5.mono s.sub)) fun z => nomatch z⟩
  · cases he
theorem e_const {v : V} {d : D} (hp : PE X e (tC v)) (r : ∀ F : Hp, Rep X.K F v d) : EOk X e true (cC d) := by
  refine ⟨_, hp, fun F0 H0 ev σ F H d' Q s he q => ?_⟩
  cases he
  exact q v F H (.refl s.sub) (r H) fun _ => r F
theorem e_int {i : Int} {j} : EOk X (.Constant (.int i) j pos) true (cC (.int i)) := e_const pe_int fun _ => .int i
theorem e_bl {i : Bool} {j} : EOk X (.Constant (.bool i) j pos) true (cC (.bl i)) := e_const pe_bl fun _ => .bl i
theorem e_non {j} : EOk X (.Constant .none j pos) true (cC .non) := e_const pe_non fun _ => .non
theorem e_str {x : Str} {j} : EOk X (.Constant (.str x) j pos) true (cC (.str x)) := e_const pe_str fun _ => .str x
theorem e_gint {x : Str} {i : Int} {u : Value} (hg : Gl X x) (hm : X.mg x = some u) (r : RelV (.int i) u) (hd : (x == ("__debug__" : Str)) = false := by decide) : EOk X (.Name x pos) true (cC (.int i)) :=
  e_const (pe_glob hg hm r hd) fun _ => .int i

/-- data without addresses -/
def D.flat : D → Bool
  | .non => true | .bl _ => true | .int _ => true | .str _ => true
  | _ => false
theorem Rep.flat {K : PySem.W.Frag} {F G : Hp} {v : V} {d : D} (h : d.flat = true) (r : Rep K F v d) : Rep K G v d := by
  cases r with
  | non => exact .non
  | bl b => exact .bl b
  | int i => exact .int i
  | str x => exact .str x
  | lst _ _ => cases h
  | tup _ _ => cases h
  | scr _ => cases h
/-- its value is flat, so it is frozen -/
def cFlat (f : EV → Option D) : EV → Option D := fun ev => match f ev with
  | some d => if d.flat then some d else none
  | none => none
theorem e_flat (q : EOk X e fz f) : EOk X e true (cFlat f) := by
  obtain ⟨t, p, r⟩ := q
  refine ⟨t, p, fun F0 H0 ev σ F H d Q s he q => ?_⟩
  unfold cFlat at he
  split at he
  · rename_i d' hd
    by_cases hf : d'.flat = true
    · rw [if_pos hf] at he
      cases he
      exact r F0 H0 ev σ F H _ Q s hd fun v F' H' x r1 _ => q v F' H' x r1 fun _ => r1.flat hf
    · rw [if_neg hf] at he
      cases he
  · cases he

/-- what a rule by values asks, of data -/
def R2Ok (K : PySem.W.Frag) (r : R2) (op : D → D → Option D) : Prop :=
  ∀ (F H : Hp) (x y : V) (dx dy d : D) (Q : VK), Same F H → Rep K H x dx → Rep K H y dy → op dx dy = some d →
    (∀ v F' H', Ext F H F' H' → Rep K H' v d → (Rep K F x dx → Rep K F y dy → Rep K F' v d) → Q v H') → r x y H Q
def c2 (op : D → D → Option D) (f g : EV → Option D) : EV → Option D := fun ev => (f ev).bind fun x => (g ev).bind fun y => op x y
theorem run2 {K : PySem.W.Frag} {ta tb : TE} {r : R2} {op : D → D → Option D} (hr : R2Ok K r op) (ha : ERun K fa f ta) (hb : ERun K fb g tb) : ERun K (fa && fb) (c2 op f g) (tOp r ta tb) := by
  intro F0 H0 ev σ F H d Q s he q
  obtain ⟨x, h1, he⟩ := Option.bind_eq_some_iff.mp he
  obtain ⟨y, h2, h3⟩ := Option.bind_eq_some_iff.mp he
  refine ha F0 H0 ev σ F H x _ s h1 fun v F1 H1 x1 r1 z1 => ?_
  have s1 := s.up x1
  refine hb F0 H0 ev σ F1 H1 y _ s1 h2 fun u F2 H2 x2 r2 z2 => ?_
  have s2 := s1.up x2
  refine hr F2 H2 v u x y d Q s2.sub (r1.mono x2.keep) r2 h3 fun w F3 H3 x3 r3 z3 => ?_
  refine q w F3 H3 ((x1.trans x2).trans x3) r3 fun z => ?_
  rw [Bool.and_eq_true] at z
  exact z3 ((z1 z.1).mono x2.fr) (z2 z.2)
theorem e_op {op : Operator} {r : R2} {k : D → D → Option D} (ho : OpR X (binaryOp op) r) (hr : R2Ok X.K r k) (ha : EOk X a fa f) (hb : EOk X b fb g) : EOk X (.BinOp a op b pos) (fa && fb) (c2 k f g) := by
  obtain ⟨ta, pa, ra⟩ := ha
  obtain ⟨tb, pb, rb⟩ := hb
  exact ⟨_, pe_op ho pa pb, run2 hr ra rb⟩
theorem e_cmp {op : CmpOp} {r : R2} {k : D → D → Option D} (ho : OpR X (compareOp op) r) (hr : R2Ok X.K r k) (ha : EOk X a fa f) (hb : EOk X b fb g) (hm : behindInMarks op b = false := by first | exact nomark _ | rfl) : EOk X (.Compare a [op] [b] pos) (fa && fb) (c2 k f g) := by
  obtain ⟨ta, pa, ra⟩ := ha
  obtain ⟨tb, pb, rb⟩ := hb
  exact ⟨_, pe_cmpR ho pa pb hm, run2 hr ra rb⟩
/-- a bool -/
def asB : Option D → Option Bool
  | some (.bl b) => some b
  | _ => none
def tOf (f : EV → Option D) : EV → Option Bool := fun ev => asB (f ev)
theorem runB {K : PySem.W.Frag} {t : TE} (h : ERun K fz f t) : TRun K (tOf f) (tTest t) := by
  intro F0 H0 ev σ F H d Q s he q
  unfold tOf at he
  cases hf : f ev with
  | none =>
    rw [hf] at he
    cases he
  | some x =>
    rw [hf] at he
    cases x <;> (try cases he)
    refine h F0 H0 ev σ F H _ _ s hf fun v F' H' x r _ => ?_
    cases r
    exact ⟨_, rfl, q F' H' x⟩
theorem t_cmp {op : CmpOp} {r : R2} {k : D → D → Option D} (ho : OpR X (compareOp op) r) (hr : R2Ok X.K r k) (ha : EOk X a fa f) (hb : EOk X b fb g) (hm : behindInMarks op b = false := by first | exact nomark _ | rfl) : TOk X (.Compare a [op] [b] pos) (tOf (c2 k f g)) := by
  obtain ⟨ta, pa, ra⟩ := ha
  obtain ⟨tb, pb, rb⟩ := hb
  exact ⟨_, pt_cmpR ho pa pb hm, runB (run2 hr ra rb)⟩
theorem t_val (h : EOk X e fz f) (he : ∀ whole, isTrue e X.env whole = (do let v ← whole; standAt e.pos; holding [v] (truthy v)) := by intro _; rfl) : TOk X e (tOf f) := by
  obtain ⟨t, p, r⟩ := h
  exact ⟨_, pt_val p he, runB r⟩

/-! ops on ints -/
def oI (k : Int → Int → Option D) : D → D → Option D
  | .int i, .int j => k i j
  | _, _ => none
def oAdd : D → D → Option D := oI fun i j => some (.int (i + j))
def oSub : D → D → Option D := oI fun i j => some (.int (i - j))
def oMul : D → D → Option D := oI fun i j => if (-(2 ^ 64) < i ∧ i < 2 ^ 64) ∨ (-(2 ^ 64) < j ∧ j < 2 ^ 64) then some (.int (i * j)) else none
def oDiv : D → D → Option D := oI fun i j => if 0 < j ∧ j < 1073741824 then some (.int (i / j)) else none
def oMod : D → D → Option D := oI fun i j => if 0 < j then some (.int (i % j)) else none
def oPow : D → D → Option D := oI fun i j => if 0 ≤ j ∧ j ≤ 1000000 ∧ i.natAbs < 2 ^ 64 then some (.int (i ^ j.toNat)) else none
def oLt : D → D → Option D := oI fun i j => some (.bl (decide (i < j)))
def oLe : D → D → Option D := oI fun i j => some (.bl (decide (i ≤ j)))
def oGt : D → D → Option D := oI fun i j => some (.bl (decide (j < i)))
def oGe : D → D → Option D := oI fun i j => some (.bl (decide (j ≤ i)))
theorem oI_some {k : Int → Int → Option D} {x y d : D} (h : oI k x y = some d) : ∃ i j, x = .int i ∧ y = .int j ∧ k i j = some d := by
  unfold oI at h
  split at h
  · exact ⟨_, _, rfl, rfl, h⟩
  · cases h
section
variable {K : PySem.W.Frag}
theorem r_I {C : Int → Int → Prop} {gV : Int → Int → V} {k : Int → Int → Option D} (h : ∀ i j d, k i j = some d → C i j ∧ d.flat = true ∧ ∀ F, Rep K F (gV i j) d) : R2Ok K (rI C gV) (oI k) := by
  intro F H x y dx dy d Q s rx ry ho q
  obtain ⟨i, j, rfl, rfl, e⟩ := oI_some ho
  cases rx
  cases ry
  obtain ⟨hc, hf, r⟩ := h i j d e
  exact ⟨i, j, rfl, rfl, hc, q _ F H (.refl s) (r H) fun _ _ => r F⟩
theorem r_I0 {gV : Int → Int → V} {k : Int → Int → Option D} (h : ∀ i j d, k i j = some d → ∀ F, Rep K F (gV i j) d) : R2Ok K (rI0 gV) (oI k) := by
  intro F H x y dx dy d Q s rx ry ho q
  obtain ⟨i, j, rfl, rfl, e⟩ := oI_some ho
  cases rx
  cases ry
  have r := h i j d e
  exact ⟨i, j, rfl, rfl, q _ F H (.refl s) (r H) fun _ _ => r F⟩
theorem r_add : R2Ok K (rI0 fun i j => .int (i + j)) oAdd := r_I0 fun i j d e F => by cases e; exact .int _
theorem r_sub : R2Ok K (rI0 fun i j => .int (i - j)) oSub := r_I0 fun i j d e F => by cases e; exact .int _
theorem r_lt : R2Ok K (rI0 fun i j => .bl (decide (i < j))) oLt := r_I0 fun i j d e F => by cases e; exact .bl _
theorem r_le : R2Ok K (rI0 fun i j => .bl (decide (i ≤ j))) oLe := r_I0 fun i j d e F => by cases e; exact .bl _
theorem r_gt : R2Ok K (rI0 fun i j => .bl (decide (j < i))) oGt := r_I0 fun i j d e F => by cases e; exact .bl _
theorem r_ge : R2Ok K (rI0 fun i j => .bl (decide (j ≤ i))) oGe := r_I0 fun i j d e F => by cases e; exact .bl _
theorem of_ite {p : Prop} [Decidable p] {α : Type} {x y : α} (h : (if p then some x else none) = some y) : p ∧ x = y := by
  by_cases q : p
  · rw [if_pos q] at h
    cases h
    exact ⟨q, rfl⟩
  · rw [if_neg q] at h
    cases h
theorem r_mul : R2Ok K (rI CMul fun i j => .int (i * j)) oMul := r_I fun i j d e => by
  obtain ⟨h, rfl⟩ := of_ite e
  exact ⟨h, rfl, fun _ => .int _⟩
theorem r_div : R2Ok K (rI CDiv fun i j => .int (i / j)) oDiv := r_I fun i j d e => by
  obtain ⟨h, rfl⟩ := of_ite e
  exact ⟨h, rfl, fun _ => .int _⟩
theorem r_mod : R2Ok K (rI (fun _ j => 0 < j) fun i j => .int (i % j)) oMod := r_I fun i j d e => by
  obtain ⟨h, rfl⟩ := of_ite e
  exact ⟨h, rfl, fun _ => .int _⟩
theorem r_pow : R2Ok K (rI CPow fun i j => .int (i ^ j.toNat)) oPow := r_I fun i j d e => by
  obtain ⟨h, rfl⟩ := of_ite e
  exact ⟨h, rfl, fun _ => .int _⟩
end
end
end Z


set_option maxRecDepth 100000
set_option maxHeartbeats 4000000
/-! Z2: expressions. -/
namespace Z
open PySem PySem.Spec PyProof.Rows L2
section
variable {X : Cx} {a b c e : Expr} {fz fa fb fc : Bool} {f g h : EV → Option D} {pos : Pos} {K : PySem.W.Frag}

/-! ### == -/
mutual
def D.pd : D → PyData
  | .non => .none
  | .bl b => .bool b
  | .int i => .int i
  | .str x => .str x
  | .lst xs => .list (D.pdL xs)
  | .tup xs => .tuple (D.pdL xs)
  | .scr ns => .list (ns.map PyData.int)
def D.pdL : List D → List PyData
  | [] => []
  | d :: ds => d.pd :: D.pdL ds
end
theorem dp_ints {H : Hp} : ∀ ns : List Int, DpAll K H (ns.map V.int) (ns.map PyData.int)
  | [] => .nil
  | n :: ns => .cons (.int n) (dp_ints ns)
mutual
theorem Rep.dp {H : Hp} : ∀ {v : V} {d : D}, Rep K H v d → Dp K H v d.pd
  | _, _, .non => .non
  | _, _, .bl b => .bl b
  | _, _, .int i => .int i
  | _, _, .str x => .str x
  | _, _, .lst h r => by
    rw [D.pd]
    exact .lst (SqL.of h) (RepL.dp r)
  | _, _, .tup h r => by
    rw [D.pd]
    exact .tup (SqT.of h) (RepL.dp r)
  | _, _, .scr h => .lst h (dp_ints _)
theorem RepL.dp {H : Hp} : ∀ {vs : List V} {ds : List D}, RepL K H vs ds → DpAll K H vs (D.pdL ds)
  | _, _, .nil => .nil
  | _, _, .cons h r => .cons h.dp r.dp
end
def eqD (x y : D) : Option Bool := if SeqAt.shaped x.pd = true ∧ SeqAt.shaped y.pd = true then some (PyData.eqv x.pd y.pd) else none
def oEq (x y : D) : Option D := (eqD x y).map .bl
def oNe (x y : D) : Option D := (eqD x y).map fun b => .bl (!b)
theorem r_eq : R2Ok K (rEqD K) oEq := by
  intro F H x y dx dy d Q s rx ry ho q
  obtain ⟨b, hb, rfl⟩ := Option.map_eq_some_iff.mp ho
  obtain ⟨⟨h1, h2⟩, rfl⟩ := of_ite hb
  exact ⟨_, _, rx.dp, ry.dp, h1, h2, q _ F H (.refl s) (.bl _) fun _ _ => .bl _⟩
theorem r_ne : R2Ok K (rNeD K) oNe := by
  intro F H x y dx dy d Q s rx ry ho q
  obtain ⟨b, hb, rfl⟩ := Option.map_eq_some_iff.mp ho
  obtain ⟨⟨h1, h2⟩, rfl⟩ := of_ite hb
  exact ⟨_, _, rx.dp, ry.dp, h1, h2, q _ F H (.refl s) (.bl _) fun _ _ => .bl _⟩
/-- is None, is not None -/
def D.isNon : D → Bool
  | .non => true
  | _ => false
def oIs : D → D → Option D
  | x, .non => some (.bl x.isNon)
  | _, _ => none
def oIsNot : D → D → Option D
  | x, .non => some (.bl (!x.isNon))
  | .bl a, .bl b => some (.bl (!decide (a = b)))
  | _, _ => none
theorem isNon_iff {H : Hp} {v : V} {d : D} (r : Rep K H v d) : decide (v = .non) = d.isNon := by
  cases r <;> rfl
theorem r_is : R2Ok K (fun x y H Q => y = .non ∧ Q (.bl (decide (x = .non))) H) oIs := by
  intro F H x y dx dy d Q s rx ry ho q
  unfold oIs at ho
  split at ho
  · cases ho
    cases ry
    exact ⟨rfl, by rw [isNon_iff rx]; exact q _ F H (.refl s) (.bl _) fun _ _ => .bl _⟩
  · cases ho
theorem r_isnot : R2Ok K (fun x y H Q => (y = .non ∧ Q (.bl (!decide (x = .non))) H) ∨ rNotB x y H Q) oIsNot := by
  intro F H x y dx dy d Q s rx ry ho q
  unfold oIsNot at ho
  split at ho
  · cases ho
    cases ry
    exact .inl ⟨rfl, by rw [isNon_iff rx]; exact q _ F H (.refl s) (.bl _) fun _ _ => .bl _⟩
  · cases ho
    cases rx
    cases ry
    exact .inr ⟨_, _, rfl, rfl, q _ F H (.refl s) (.bl _) fun _ _ => .bl _⟩
  · cases ho
theorem op_isnot : OpR X (compareOp .IsNot) (fun x y H Q => (y = .non ∧ Q (.bl (!decide (x = .non))) H) ∨ rNotB x y H Q) := op_notN.or op_notBl

/-! ### one argument -/
def c1 (op : D → Option D) (f : EV → Option D) : EV → Option D := fun ev => (f ev).bind op
def oNeg : D → Option D
  | .int i => some (.int (-i))
  | _ => none
theorem e_neg (ha : EOk X a fa f) : EOk X (.UnaryOp .USub a pos) true (c1 oNeg f) := by
  obtain ⟨t, p, r⟩ := ha
  refine ⟨_, pe_un un_neg p, fun F0 H0 ev σ F H d Q s he q => ?_⟩
  obtain ⟨x, h1, he⟩ := Option.bind_eq_some_iff.mp he
  refine r F0 H0 ev σ F H x _ s h1 fun v F' H' x r1 _ => ?_
  unfold oNeg at he
  split at he
  · cases he
    cases r1
    exact ⟨_, rfl, q _ F' H' x (.int _) fun _ => .int _⟩
  · cases he
/-- a value's truth -/
def D.tru : D → Option Bool
  | .non => some false
  | .bl b => some b
  | .int i => some (i != 0)
  | .lst xs => some (!xs.isEmpty)
  | .tup xs => some (!xs.isEmpty)
  | .scr ns => some (!ns.isEmpty)
  | .str _ => none
theorem Rep.tru {H : Hp} {v : V} {d : D} {k : Bool} (r : Rep K H v d) (h : d.tru = some k) : TruV K v H k := by
  cases r with
  | non => cases h; rfl
  | bl b => cases h; rfl
  | int i => cases h; rfl
  | str x => cases h
  | lst h1 r =>
    cases h
    refine Or.inl ⟨_, SqL.of h1, ?_⟩
    cases r <;> rfl
  | tup h1 r =>
    cases h
    refine Or.inr (Or.inl ⟨_, SqT.of h1, ?_⟩)
    cases r <;> rfl
  | scr h1 =>
    cases h
    refine Or.inl ⟨_, h1, ?_⟩
    rename_i ns
    cases ns <;> rfl
def oNot (x : D) : Option D := x.tru.map fun k => .bl (!k)
theorem e_not (ha : EOk X a fa f) : EOk X (.UnaryOp .Not a pos) true (c1 oNot f) := by
  obtain ⟨t, p, r⟩ := ha
  refine ⟨_, pe_notT p, fun F0 H0 ev σ F H d Q s he q => ?_⟩
  obtain ⟨x, h1, he⟩ := Option.bind_eq_some_iff.mp he
  obtain ⟨k, h2, rfl⟩ := Option.map_eq_some_iff.mp he
  exact r F0 H0 ev σ F H x _ s h1 fun v F' H' x r1 _ => ⟨k, r1.tru h2, q _ F' H' x (.bl _) fun _ => .bl _⟩
/-! and, or as values -/
def cOr (f g : EV → Option D) : EV → Option D := fun ev => (f ev).bind fun x => x.tru.bind fun k => if k then some x else g ev
def cAnd (f g : EV → Option D) : EV → Option D := fun ev => (f ev).bind fun x => x.tru.bind fun k => if k then g ev else some x
variable {rest : List Expr}
theorem e_one {op} (ha : EOk X a fa f) : EOk X (.BoolOp op [a] pos) fa f := by
  obtain ⟨t, p, r⟩ := ha
  exact ⟨_, pe_one p, r⟩
theorem e_or (ha : EOk X a fa f) (hb : EOk X (.BoolOp .Or (b :: rest) pos) fb g) : EOk X (.BoolOp .Or (a :: b :: rest) pos) (fa && fb) (cOr f g) := by
  obtain ⟨ta, pa, ra⟩ := ha
  obtain ⟨tb, pb, rb⟩ := hb
  refine ⟨_, pe_orT pa pb, fun F0 H0 ev σ F H d Q s he q => ?_⟩
  obtain ⟨x, h1, he⟩ := Option.bind_eq_some_iff.mp he
  obtain ⟨k, h2, he⟩ := Option.bind_eq_some_iff.mp he
  refine ra F0 H0 ev σ F H x _ s h1 fun v F1 H1 x1 r1 z1 => ⟨k, r1.tru h2, ?_⟩
  cases k with
  | true =>
    cases he
    rw [if_pos rfl]
    exact q v F1 H1 x1 r1 fun z => z1 (Bool.and_eq_true _ _ ▸ z).1
  | false =>
    rw [if_neg (by decide)]
    exact rb F0 H0 ev σ F1 H1 d Q (s.up x1) he fun u F2 H2 x2 r2 z2 => q u F2 H2 (x1.trans x2) r2 fun z => z2 (Bool.and_eq_true _ _ ▸ z).2
theorem e_and (ha : EOk X a fa f) (hb : EOk X (.BoolOp .And (b :: rest) pos) fb g) : EOk X (.BoolOp .And (a :: b :: rest) pos) (fa && fb) (cAnd f g) := by
  obtain ⟨ta, pa, ra⟩ := ha
  obtain ⟨tb, pb, rb⟩ := hb
  refine ⟨_, pe_andT pa pb, fun F0 H0 ev σ F H d Q s he q => ?_⟩
  obtain ⟨x, h1, he⟩ := Option.bind_eq_some_iff.mp he
  obtain ⟨k, h2, he⟩ := Option.bind_eq_some_iff.mp he
  refine ra F0 H0 ev σ F H x _ s h1 fun v F1 H1 x1 r1 z1 => ⟨k, r1.tru h2, ?_⟩
  cases k with
  | true =>
    rw [if_pos rfl]
    exact rb F0 H0 ev σ F1 H1 d Q (s.up x1) he fun u F2 H2 x2 r2 z2 => q u F2 H2 (x1.trans x2) r2 fun z => z2 (Bool.and_eq_true _ _ ▸ z).2
  | false =>
    cases he
    rw [if_neg (by decide)]
    exact q v F1 H1 x1 r1 fun z => z1 (Bool.and_eq_true _ _ ▸ z).1

/-! ### tests -/
variable {p q : EV → Option Bool}
def tAndZ (p q : EV → Option Bool) : EV → Option Bool := fun ev => (p ev).bind fun k => if k then q ev else some false
def tOrZ (p q : EV → Option Bool) : EV → Option Bool := fun ev => (p ev).bind fun k => if k then some true else q ev
def tNotZ (p : EV → Option Bool) : EV → Option Bool := fun ev => (p ev).map (!·)
def tTru (f : EV → Option D) : EV → Option Bool := fun ev => (f ev).bind D.tru
theorem w_and1 (ha : TOk X a p) : WOk X (.BoolOp .And [a] pos) p := by
  obtain ⟨t, h, r⟩ := ha
  exact ⟨_, pw_and1 h, r⟩
theorem w_or1 (ha : TOk X a p) : WOk X (.BoolOp .Or [a] pos) p := by
  obtain ⟨t, h, r⟩ := ha
  exact ⟨_, pw_or1 h, r⟩
theorem run_and {ta tb : TT} (ra : TRun K p ta) (rb : TRun K q tb) : TRun K (tAndZ p q) (tAnd ta tb) := by
  intro F0 H0 ev σ F H d Q s he z
  obtain ⟨k, h1, he⟩ := Option.bind_eq_some_iff.mp he
  refine ra F0 H0 ev σ F H k _ s h1 fun F1 H1 x1 => ?_
  cases k with
  | true =>
    rw [if_pos rfl] at he ⊢
    exact rb F0 H0 ev σ F1 H1 d Q (s.up x1) he fun F2 H2 x2 => z F2 H2 (x1.trans x2)
  | false =>
    rw [if_neg (by decide)] at he ⊢
    cases he
    exact z F1 H1 x1
theorem run_or {ta tb : TT} (ra : TRun K p ta) (rb : TRun K q tb) : TRun K (tOrZ p q) (tOr ta tb) := by
  intro F0 H0 ev σ F H d Q s he z
  obtain ⟨k, h1, he⟩ := Option.bind_eq_some_iff.mp he
  refine ra F0 H0 ev σ F H k _ s h1 fun F1 H1 x1 => ?_
  cases k with
  | true =>
    rw [if_pos rfl] at he ⊢
    cases he
    exact z F1 H1 x1
  | false =>
    rw [if_neg (by decide)] at he ⊢
    exact rb F0 H0 ev σ F1 H1 d Q (s.up x1) he fun F2 H2 x2 => z F2 H2 (x1.trans x2)
theorem w_and (ha : TOk X a p) (hb : WOk X (.BoolOp .And (b :: rest) pos) q) : WOk X (.BoolOp .And (a :: b :: rest) pos) (tAndZ p q) := by
  obtain ⟨ta, pa, ra⟩ := ha
  obtain ⟨tb, pb, rb⟩ := hb
  exact ⟨_, pw_and pa pb, run_and ra rb⟩
theorem w_or (ha : TOk X a p) (hb : WOk X (.BoolOp .Or (b :: rest) pos) q) : WOk X (.BoolOp .Or (a :: b :: rest) pos) (tOrZ p q) := by
  obtain ⟨ta, pa, ra⟩ := ha
  obtain ⟨tb, pb, rb⟩ := hb
  exact ⟨_, pw_or pa pb, run_or ra rb⟩
theorem t_w (h : WOk X e p) : TOk X e p := by
  obtain ⟨t, h, r⟩ := h
  exact ⟨_, h.pt, r⟩
theorem t_not (h : TOk X a p) : TOk X (.UnaryOp .Not a pos) (tNotZ p) := by
  obtain ⟨t, h, r⟩ := h
  refine ⟨_, pt_not h, fun F0 H0 ev σ F H d Q s he z => ?_⟩
  obtain ⟨k, h1, rfl⟩ := Option.map_eq_some_iff.mp he
  exact r F0 H0 ev σ F H k _ s h1 fun F1 H1 x1 => z F1 H1 x1
theorem t_tru (h : EOk X e fz f) (he : ∀ whole, isTrue e X.env whole = (do let v ← whole; standAt e.pos; holding [v] (truthy v)) := by intro _; rfl) : TOk X e (tTru f) := by
  obtain ⟨t, p, r⟩ := h
  refine ⟨_, pt_truth p he, fun F0 H0 ev σ F H d Q s he z => ?_⟩
  obtain ⟨x, h1, h2⟩ := Option.bind_eq_some_iff.mp he
  exact r F0 H0 ev σ F H x _ s h1 fun v F' H' x r1 _ => ⟨d, r1.tru h2, z F' H' x⟩
theorem ts_nil : TsOk X [] (fun _ => some true) := ⟨_, pts_nil, fun F0 H0 ev σ F H d Q s he z => by
  cases he
  exact z F H (.refl s.sub)⟩
theorem ts_one (h : TOk X c p) : TsOk X [c] p := by
  obtain ⟨t, h, r⟩ := h
  exact ⟨_, pts_one h, r⟩
/-- a if c else b -/
def cIf (p : EV → Option Bool) (f g : EV → Option D) : EV → Option D := fun ev => (p ev).bind fun k => if k then f ev else g ev
theorem e_if (hc : TOk X c p) (ha : EOk X a fa f) (hb : EOk X b fb g) : EOk X (.IfExp c a b pos) (fa && fb) (cIf p f g) := by
  obtain ⟨tc, pc, rc⟩ := hc
  obtain ⟨ta, pa, ra⟩ := ha
  obtain ⟨tb, pb, rb⟩ := hb
  refine ⟨_, pe_ifExp pc pa pb, fun F0 H0 ev σ F H d Q s he z => ?_⟩
  obtain ⟨k, h1, he⟩ := Option.bind_eq_some_iff.mp he
  refine rc F0 H0 ev σ F H k _ s h1 fun F1 H1 x1 => ?_
  cases k with
  | true =>
    rw [if_pos rfl] at he ⊢
    exact ra F0 H0 ev σ F1 H1 d Q (s.up x1) he fun u F2 H2 x2 r2 z2 => z u F2 H2 (x1.trans x2) r2 fun y => z2 (Bool.and_eq_true _ _ ▸ y).1
  | false =>
    rw [if_neg (by decide)] at he ⊢
    exact rb F0 H0 ev σ F1 H1 d Q (s.up x1) he fun u F2 H2 x2 r2 z2 => z u F2 H2 (x1.trans x2) r2 fun y => z2 (Bool.and_eq_true _ _ ▸ y).2

/-! ### chains of comparisons -/
structure PCh (X : Cx) (pos : Pos) (ops : List CmpOp) (es : List Expr) (t : V → TE) : Prop where
  run : ∀ (pins : List (Addr × Obj)) (s : Shared) (σ : L2.St) (H : Hp) (x : V) (v : Value) (Q : VK), Inv X pins σ H s → RelV x v → t x σ H Q →
    wpAny (model X.prog X.w) X.A (compareChain pos v ops (evalEach es X.env)) (EP X pins σ Q) X.xe s
def tLink (r : R2) (tb : TE) (t : V → TE) : V → TE := fun x σ H Q => tb σ H fun y H2 => r x y H2 fun z H3 => ∃ k, z = .bl k ∧ (if k = true then t y σ H3 Q else Q (.bl false) H3)
def tLast (r : R2) (tb : TE) : V → TE := fun x σ H Q => tb σ H fun y H2 => r x y H2 Q
theorem pch_last {op : CmpOp} {r : R2} {tb : TE} (ho : OpR X (compareOp op) r) (hb : PE X b tb) : PCh X pos [op] [b] (tLast r tb) := by
  refine ⟨fun pins s σ H x v Q I rx h => ?_⟩
  exact chain_last (thn (hb.run pins s σ H _ I h) fun u s2 ⟨y, H2, I2, r2, q2⟩ => ho pins s2 σ H2 x y v u Q I2 rx r2 q2)
theorem pch_link {op op' : CmpOp} {ops : List CmpOp} {es : List Expr} {r : R2} {tb : TE} {t : V → TE} (ho : OpR X (compareOp op) r) (hb : PE X b tb) (hc : PCh X pos (op' :: ops) (c :: es) t) :
    PCh X pos (op :: op' :: ops) (b :: c :: es) (tLink r tb t) := by
  refine ⟨fun pins s σ H x v Q I rx h => ?_⟩
  show wpAny (model X.prog X.w) X.A (compareChain pos v (op :: op' :: ops) (eval b X.env :: eval c X.env :: evalEach es X.env)) (EP X pins σ Q) X.xe s
  refine chain_link (thn (hb.run pins s σ H _ I h) fun u s2 ⟨y, H2, I2, r2, q2⟩ => thn (ho pins s2 σ H2 x y v u _ I2 rx r2 q2) fun d s3 ⟨z, H3, I3, r3, k, e, q3⟩ => ?_)
  subst e
  cases r3
  refine wpAny_truthy_bool ?_
  cases k with
  | false => exact ite_ff ⟨.bl false, H3, I3, rfl, q3⟩
  | true => exact ite_tt (hc.run pins s3 σ H3 y u Q I3 r2 q3)
theorem pe_chn {op op' : CmpOp} {ops : List CmpOp} {es : List Expr} {ta : TE} {t : V → TE} (ha : PE X a ta) (hc : PCh X pos (op :: op' :: ops) (b :: c :: es) t)
    (hm : lastMarks (op :: op' :: ops) (b :: c :: es) = false := by with_unfolding_all rfl) : PE X (.Compare a (op :: op' :: ops) (b :: c :: es) pos) (fun σ H Q => ta σ H fun x H1 => t x σ H1 Q) := by
  refine ⟨fun pins s σ H Q I h => ?_⟩
  exact Compare_chain (thn (ha.run pins s σ H _ I h) fun v s1 ⟨x, H1, I1, r1, q1⟩ => hc.run pins s1 σ H1 x v Q I1 r1 q1) hm
/-- .. of data -/
def ChRun (K : PySem.W.Frag) (f : D → EV → Option D) (t : V → TE) : Prop :=
  ∀ (F0 H0 : Hp) (ev : EV) (σ : L2.St) (F H : Hp) (x : V) (dx d : D) (Q : VK), SR K F0 H0 ev σ F H → Rep K H x dx → f dx ev = some d → (∀ (k : Bool) F' H', Ext F H F' H' → d = .bl k → Q (.bl k) H') → t x σ H Q
def ChOk (X : Cx) (pos : Pos) (ops : List CmpOp) (es : List Expr) (f : D → EV → Option D) : Prop := ∃ t, PCh X pos ops es t ∧ ChRun X.K f t
def chLast (op : D → D → Option D) (g : EV → Option D) : D → EV → Option D := fun x ev => (g ev).bind fun y => match op x y with
  | some (.bl k) => some (.bl k)
  | _ => none
def chLink (op : D → D → Option D) (g : EV → Option D) (r : D → EV → Option D) : D → EV → Option D := fun x ev => (g ev).bind fun y => match op x y with
  | some (.bl true) => r y ev
  | some (.bl false) => some (.bl false)
  | _ => none
theorem ch_last {op : CmpOp} {r : R2} {k : D → D → Option D} (ho : OpR X (compareOp op) r) (hr : R2Ok X.K r k) (hb : EOk X b fb g) : ChOk X pos [op] [b] (chLast k g) := by
  obtain ⟨tb, pb, rb⟩ := hb
  refine ⟨_, pch_last ho pb, fun F0 H0 ev σ F H x dx d Q s rx he q => ?_⟩
  obtain ⟨y, h1, he⟩ := Option.bind_eq_some_iff.mp he
  refine rb F0 H0 ev σ F H y _ s h1 fun u F1 H1 x1 r1 _ => ?_
  split at he
  · rename_i k' hk
    cases he
    refine hr F1 H1 x u dx y _ _ (s.up x1).sub (rx.mono x1.keep) r1 hk fun w F2 H2 x2 r2 _ => ?_
    cases r2
    exact q _ F2 H2 (x1.trans x2) rfl
  · cases he
theorem ch_link {op op' : CmpOp} {ops : List CmpOp} {es : List Expr} {r : R2} {k : D → D → Option D} {l : D → EV → Option D} (ho : OpR X (compareOp op) r) (hr : R2Ok X.K r k) (hb : EOk X b fb g)
    (hc : ChOk X pos (op' :: ops) (c :: es) l) : ChOk X pos (op :: op' :: ops) (b :: c :: es) (chLink k g l) := by
  obtain ⟨tb, pb, rb⟩ := hb
  obtain ⟨tc, pc, rc⟩ := hc
  refine ⟨_, pch_link ho pb pc, fun F0 H0 ev σ F H x dx d Q s rx he q => ?_⟩
  obtain ⟨y, h1, he⟩ := Option.bind_eq_some_iff.mp he
  refine rb F0 H0 ev σ F H y _ s h1 fun u F1 H1 x1 r1 _ => ?_
  split at he
  · rename_i hk
    refine hr F1 H1 x u dx y _ _ (s.up x1).sub (rx.mono x1.keep) r1 hk fun w F2 H2 x2 r2 _ => ?_
    cases r2
    refine ⟨true, rfl, ?_⟩
    rw [if_pos rfl]
    exact rc F0 H0 ev σ F2 H2 u y d Q ((s.up x1).up x2) (r1.mono x2.keep) he fun k F3 H3 x3 => q k F3 H3 ((x1.trans x2).trans x3)
  · rename_i hk
    cases he
    refine hr F1 H1 x u dx y _ _ (s.up x1).sub (rx.mono x1.keep) r1 hk fun w F2 H2 x2 r2 _ => ?_
    cases r2
    refine ⟨false, rfl, ?_⟩
    rw [if_neg (by decide)]
    exact q false F2 H2 (x1.trans x2) rfl
  · cases he
def cCh (f : EV → Option D) (l : D → EV → Option D) : EV → Option D := fun ev => (f ev).bind fun x => l x ev
theorem e_chn {op op' : CmpOp} {ops : List CmpOp} {es : List Expr} {l : D → EV → Option D} (ha : EOk X a fa f) (hc : ChOk X pos (op :: op' :: ops) (b :: c :: es) l)
    (hm : lastMarks (op :: op' :: ops) (b :: c :: es) = false := by with_unfolding_all rfl) : EOk X (.Compare a (op :: op' :: ops) (b :: c :: es) pos) true (cCh f l) := by
  obtain ⟨ta, pa, ra⟩ := ha
  obtain ⟨tc, pc, rc⟩ := hc
  refine ⟨_, pe_chn pa pc hm, fun F0 H0 ev σ F H d Q s he q => ?_⟩
  obtain ⟨x, h1, he⟩ := Option.bind_eq_some_iff.mp he
  refine ra F0 H0 ev σ F H x _ s h1 fun v F1 H1 x1 r1 _ => ?_
  refine rc F0 H0 ev σ F1 H1 v x d Q (s.up x1) r1 he fun k F2 H2 x2 e => ?_
  subst e
  exact q _ F2 H2 (x1.trans x2) (.bl _) fun _ => .bl _

/-! .. as tests -/
structure PTh (X : Cx) (pos : Pos) (ops : List CmpOp) (es : List Expr) (t : V → TT) : Prop where
  run : ∀ (pins : List (Addr × Obj)) (s : Shared) (σ : L2.St) (H : Hp) (x : V) (v : Value) (Q : Bool → Hp → Prop), Inv X pins σ H s → RelV x v → t x σ H Q →
    wpAny (model X.prog X.w) X.A (testChain pos v ops (evalEach es X.env)) (TP X pins σ Q) X.xe s
def ttLink (r : R2) (tb : TE) (t : V → TT) : V → TT := fun x σ H Q => tb σ H fun y H2 => r x y H2 fun z H3 => ∃ k, z = .bl k ∧ (if k = true then t y σ H3 Q else Q false H3)
def ttLast (r : R2) (tb : TE) : V → TT := fun x σ H Q => tb σ H fun y H2 => r x y H2 fun z H3 => ∃ k, z = .bl k ∧ Q k H3
theorem pth_last {op : CmpOp} {r : R2} {tb : TE} (ho : OpR X (compareOp op) r) (hb : PE X b tb) : PTh X pos [op] [b] (ttLast r tb) := by
  refine ⟨fun pins s σ H x v Q I rx h => ?_⟩
  refine test_last (thn (hb.run pins s σ H _ I h) fun u s2 ⟨y, H2, I2, r2, q2⟩ => thn (ho pins s2 σ H2 x y v u _ I2 rx r2 q2) fun d s3 ⟨z, H3, I3, r3, k, e, q3⟩ => ?_)
  subst e
  cases r3
  exact wpAny_truthy_bool ⟨H3, I3, q3⟩
theorem pth_link {op op' : CmpOp} {ops : List CmpOp} {es : List Expr} {r : R2} {tb : TE} {t : V → TT} (ho : OpR X (compareOp op) r) (hb : PE X b tb) (hc : PTh X pos (op' :: ops) (c :: es) t) :
    PTh X pos (op :: op' :: ops) (b :: c :: es) (ttLink r tb t) := by
  refine ⟨fun pins s σ H x v Q I rx h => ?_⟩
  show wpAny (model X.prog X.w) X.A (testChain pos v (op :: op' :: ops) (eval b X.env :: eval c X.env :: evalEach es X.env)) (TP X pins σ Q) X.xe s
  refine test_link (thn (hb.run pins s σ H _ I h) fun u s2 ⟨y, H2, I2, r2, q2⟩ => thn (ho pins s2 σ H2 x y v u _ I2 rx r2 q2) fun d s3 ⟨z, H3, I3, r3, k, e, q3⟩ => ?_)
  subst e
  cases r3
  refine wpAny_truthy_bool ?_
  cases k with
  | false => exact ite_ff ⟨H3, I3, q3⟩
  | true => exact ite_tt (hc.run pins s3 σ H3 y u Q I3 r2 q3)
theorem pt_chn {op op' : CmpOp} {ops : List CmpOp} {es : List Expr} {ta : TE} {t : V → TT} (ha : PE X a ta) (hc : PTh X pos (op :: op' :: ops) (b :: c :: es) t)
    (hm : lastMarks (op :: op' :: ops) (b :: c :: es) = false := by with_unfolding_all rfl) : PT X (.Compare a (op :: op' :: ops) (b :: c :: es) pos) (fun σ H Q => ta σ H fun x H1 => t x σ H1 Q) := by
  refine ⟨fun pins s σ H Q I h => ?_⟩
  exact isTrue_chain (thn (ha.run pins s σ H _ I h) fun v s1 ⟨x, H1, I1, r1, q1⟩ => hc.run pins s1 σ H1 x v Q I1 r1 q1) hm
def ThRun (K : PySem.W.Frag) (f : D → EV → Option D) (t : V → TT) : Prop :=
  ∀ (F0 H0 : Hp) (ev : EV) (σ : L2.St) (F H : Hp) (x : V) (dx d : D) (Q : Bool → Hp → Prop), SR K F0 H0 ev σ F H → Rep K H x dx → f dx ev = some d → (∀ (k : Bool) F' H', Ext F H F' H' → d = .bl k → Q k H') → t x σ H Q
def ThOk (X : Cx) (pos : Pos) (ops : List CmpOp) (es : List Expr) (f : D → EV → Option D) : Prop := ∃ t, PTh X pos ops es t ∧ ThRun X.K f t
theorem th_last {op : CmpOp} {r : R2} {k : D → D → Option D} (ho : OpR X (compareOp op) r) (hr : R2Ok X.K r k) (hb : EOk X b fb g) : ThOk X pos [op] [b] (chLast k g) := by
  obtain ⟨tb, pb, rb⟩ := hb
  refine ⟨_, pth_last ho pb, fun F0 H0 ev σ F H x dx d Q s rx he q => ?_⟩
  obtain ⟨y, h1, he⟩ := Option.bind_eq_some_iff.mp he
  refine rb F0 H0 ev σ F H y _ s h1 fun u F1 H1 x1 r1 _ => ?_
  split at he
  · rename_i k' hk
    cases he
    refine hr F1 H1 x u dx y _ _ (s.up x1).sub (rx.mono x1.keep) r1 hk fun w F2 H2 x2 r2 _ => ?_
    cases r2
    exact ⟨_, rfl, q _ F2 H2 (x1.trans x2) rfl⟩
  · cases he
theorem th_link {op op' : CmpOp} {ops : List CmpOp} {es : List Expr} {r : R2} {k : D → D → Option D} {l : D → EV → Option D} (ho : OpR X (compareOp op) r) (hr : R2Ok X.K r k) (hb : EOk X b fb g)
    (hc : ThOk X pos (op' :: ops) (c :: es) l) : ThOk X pos (op :: op' :: ops) (b :: c :: es) (chLink k g l) := by
  obtain ⟨tb, pb, rb⟩ := hb
  obtain ⟨tc, pc, rc⟩ := hc
  refine ⟨_, pth_link ho pb pc, fun F0 H0 ev σ F H x dx d Q s rx he q => ?_⟩
  obtain ⟨y, h1, he⟩ := Option.bind_eq_some_iff.mp he
  refine rb F0 H0 ev σ F H y _ s h1 fun u F1 H1 x1 r1 _ => ?_
  split at he
  · rename_i hk
    refine hr F1 H1 x u dx y _ _ (s.up x1).sub (rx.mono x1.keep) r1 hk fun w F2 H2 x2 r2 _ => ?_
    cases r2
    refine ⟨true, rfl, ?_⟩
    rw [if_pos rfl]
    exact rc F0 H0 ev σ F2 H2 u y d Q ((s.up x1).up x2) (r1.mono x2.keep) he fun k F3 H3 x3 => q k F3 H3 ((x1.trans x2).trans x3)
  · rename_i hk
    cases he
    refine hr F1 H1 x u dx y _ _ (s.up x1).sub (rx.mono x1.keep) r1 hk fun w F2 H2 x2 r2 _ => ?_
    cases r2
    refine ⟨false, rfl, ?_⟩
    rw [if_neg (by decide)]
    exact q false F2 H2 (x1.trans x2) rfl
  · cases he
theorem t_chn {op op' : CmpOp} {ops : List CmpOp} {es : List Expr} {l : D → EV → Option D} (ha : EOk X a fa f) (hc : ThOk X pos (op :: op' :: ops) (b :: c :: es) l)
    (hm : lastMarks (op :: op' :: ops) (b :: c :: es) = false := by with_unfolding_all rfl) : TOk X (.Compare a (op :: op' :: ops) (b :: c :: es) pos) (tOf (cCh f l)) := by
  obtain ⟨ta, pa, ra⟩ := ha
  obtain ⟨tc, pc, rc⟩ := hc
  refine ⟨_, pt_chn pa pc hm, fun F0 H0 ev σ F H d Q s he q => ?_⟩
  have he' : ∃ z, cCh f l ev = some z ∧ z = .bl d := by
    unfold tOf at he
    cases hz : cCh f l ev with
    | none =>
      rw [hz] at he
      cases he
    | some z =>
      rw [hz] at he
      cases z <;> (try cases he)
      exact ⟨_, rfl, rfl⟩
  obtain ⟨z, he, rfl⟩ := he'
  obtain ⟨x, h1, he⟩ := Option.bind_eq_some_iff.mp he
  refine ra F0 H0 ev σ F H x _ s h1 fun v F1 H1 x1 r1 _ => ?_
  refine rc F0 H0 ev σ F1 H1 v x _ Q (s.up x1) r1 he fun k F2 H2 x2 e => ?_
  cases e
  exact q F2 H2 (x1.trans x2)
end
end Z


set_option maxRecDepth 100000
set_option maxHeartbeats 4000000
/-! Z3: subscripts, displays, calls, new lists, what is walked, comprehensions. -/
namespace Z
open PySem PySem.Spec PyProof.Rows L2
section
variable {X : Cx} {a b c e : Expr} {fz fa fb fc : Bool} {f g h : EV → Option D} {pos : Pos} {K : PySem.W.Frag}

/-! ### xs[i] -/
theorem atI_ix {α : Type} {xs : List α} {i : Int} {y : α} (h : atI xs i = some y) : ∃ j, ixN xs.length i = some j ∧ xs[j]? = some y := Option.bind_eq_some_iff.mp h
theorem RepL.atI {H : Hp} {vs : List V} {ds : List D} {i : Int} {d : D} (r : RepL K H vs ds) (h : atI ds i = some d) : ∃ v, L2.atI vs i = some v ∧ Rep K H v d := by
  obtain ⟨j, h1, h2⟩ := atI_ix h
  obtain ⟨v, h3, h4⟩ := r.get h2
  refine ⟨v, ?_, h4⟩
  unfold L2.atI
  rw [r.len, h1]
  exact h3
def oIx : D → D → Option D
  | .lst xs, .int i => atI xs i
  | .tup xs, .int i => atI xs i
  | .scr ns, .int i => (atI ns i).map .int
  | _, _ => none
theorem atI_map {α β : Type} (k : α → β) (xs : List α) (i : Int) : atI (xs.map k) i = (atI xs i).map k := by
  unfold atI
  rw [List.length_map]
  cases ixN xs.length i with
  | none => rfl
  | some j => simp
theorem r_ix : R2Ok K (rIx K) oIx := by
  intro F H x y dx dy d Q s rx ry ho q
  unfold oIx at ho
  split at ho
  · rename_i ds i
    obtain ⟨p, vs, rfl, h1, r⟩ := rx.lst_inv
    cases ry
    obtain ⟨v, h2, r2⟩ := r.atI ho
    refine .inl ⟨p, vs, i, v, rfl, rfl, SqL.of h1, h2, q v F H (.refl s) r2 fun z _ => ?_⟩
    obtain ⟨p', vs', e, h1', r'⟩ := z.lst_inv
    cases e
    have e : vs' = vs := by
      have := s _ _ h1'
      rw [h1] at this
      cases this
      rfl
    subst e
    obtain ⟨v', h2', r2'⟩ := r'.atI ho
    rw [h2] at h2'
    cases h2'
    exact r2'
  · rename_i ds i
    obtain ⟨p, vs, rfl, h1, r⟩ := rx.tup_inv
    cases ry
    obtain ⟨v, h2, r2⟩ := r.atI ho
    refine .inr (.inl ⟨p, vs, i, v, rfl, rfl, SqT.of h1, h2, q v F H (.refl s) r2 fun z _ => ?_⟩)
    obtain ⟨p', vs', e, h1', r'⟩ := z.tup_inv
    cases e
    have e : vs' = vs := by
      have := s _ _ h1'
      rw [h1] at this
      cases this
      rfl
    subst e
    obtain ⟨v', h2', r2'⟩ := r'.atI ho
    rw [h2] at h2'
    cases h2'
    exact r2'
  · rename_i ns i
    cases rx
    rename_i p h1
    cases ry
    obtain ⟨n, h2, rfl⟩ := Option.map_eq_some_iff.mp ho
    exact .inl ⟨p, _, i, .int n, rfl, rfl, h1, by rw [atI_map, h2]; rfl, q _ F H (.refl s) (.int n) fun _ _ => .int n⟩
  · cases ho
theorem e_ix (ha : EOk X a fa f) (hb : EOk X b fb g) (hs : PlainIx b := by exact fun _ _ => rfl) : EOk X (.Subscript a b pos) (fa && fb) (c2 oIx f g) := by
  obtain ⟨ta, pa, ra⟩ := ha
  obtain ⟨tb, pb, rb⟩ := hb
  exact ⟨_, pe_ix ix_seq pa pb hs, run2 r_ix ra rb⟩
/-- an own list's item -/
def cIxo (i : Nat) (g : EV → Option D) : EV → Option D := fun ev => match ev[i]?, g ev with
  | some (.own xs), some (.int k) => atI xs k
  | _, _ => none
theorem e_ixo {i : Nat} {x : Str} {p : Pos} (hp : PE X (.Name x p) (tVar i)) (hb : EOk X b fb g) (hs : PlainIx b := by exact fun _ _ => rfl) : EOk X (.Subscript (.Name x p) b pos) true (cIxo i g) := by
  obtain ⟨tb, pb, rb⟩ := hb
  refine ⟨_, pe_ix ix_seq hp pb hs, fun F0 H0 ev σ F H d Q s he q => ?_⟩
  unfold cIxo at he
  split at he
  · rename_i xs k h h1
    obtain ⟨l, vs, h2, h3, h4, h5, h6⟩ := s.own i _ h
    refine ⟨.ref l, h2, rb F0 H0 ev σ F H _ _ s h1 fun u F1 H1 x1 r1 _ => ?_⟩
    cases r1
    obtain ⟨v, h7, r2⟩ := h6.atI he
    exact .inl ⟨l, vs, k, v, rfl, rfl, SqL.of (x1.keep _ _ h3), h7, q v F1 H1 x1 ((r2.mono x1.fr).mono x1.sub) fun _ => r2.mono x1.fr⟩
  · cases he

/-! ### displays -/
def aNil : EV → Option (List D) := fun _ => some []
def aCons (f : EV → Option D) (g : EV → Option (List D)) : EV → Option (List D) := fun ev => (f ev).bind fun x => (g ev).map (x :: ·)
variable {es : List Expr} {k : EV → Option (List D)}
theorem a_nil : AOk X [] true aNil := ⟨_, pa_nil, fun F0 H0 ev σ F H d Q s he q => by
  cases he
  exact q [] F H (.refl s.sub) .nil fun _ => .nil⟩
theorem a_cons (ha : EOk X e fa f) (hb : AOk X es fb k) (hs : starEach (e :: es) X.env = (false, eval e X.env) :: starEach es X.env := by rfl) : AOk X (e :: es) (fa && fb) (aCons f k) := by
  obtain ⟨ta, pa, ra⟩ := ha
  obtain ⟨tb, pb, rb⟩ := hb
  refine ⟨_, pa_cons pa pb hs, fun F0 H0 ev σ F H d Q s he q => ?_⟩
  obtain ⟨x, h1, he⟩ := Option.bind_eq_some_iff.mp he
  obtain ⟨xs, h2, rfl⟩ := Option.map_eq_some_iff.mp he
  refine ra F0 H0 ev σ F H x _ s h1 fun v F1 H1 x1 r1 z1 => ?_
  refine rb F0 H0 ev σ F1 H1 xs _ (s.up x1) h2 fun vs F2 H2 x2 r2 z2 => ?_
  refine q (v :: vs) F2 H2 (x1.trans x2) (.cons (r1.mono x2.keep) r2) fun z => ?_
  rw [Bool.and_eq_true] at z
  exact .cons ((z1 z.1).mono x2.fr) (z2 z.2)
theorem AOk.cast {fz' : Bool} (h : AOk X es fz k) (z : fz = fz' := by rfl) : AOk X es fz' k := by
  subst z
  exact h
theorem EOk.cast {fz' : Bool} (h : EOk X e fz f) (z : fz = fz' := by rfl) : EOk X e fz' f := by
  subst z
  exact h
def cTup (k : EV → Option (List D)) : EV → Option D := fun ev => (k ev).bind fun ds => if ds.length ≤ 1000 then some (.tup ds) else none
theorem len_line {n : Nat} (h : n ≤ 1000) : n ≤ sizeLine := Nat.le_of_lt (small1000 h)
theorem e_tup {x1} (h : AOk X es fz k) : EOk X (.Tuple es x1 pos) fz (cTup k) := by
  obtain ⟨t, p, r⟩ := h
  refine ⟨_, pe_tup p, fun F0 H0 ev σ F H d Q s he q => ?_⟩
  obtain ⟨ds, h1, he⟩ := Option.bind_eq_some_iff.mp he
  obtain ⟨h2, rfl⟩ := of_ite he
  refine r F0 H0 ev σ F H ds _ s h1 fun vs F1 H1 x1 r1 z1 => ⟨len_line (by rw [r1.len]; exact h2), fun p np => ?_⟩
  have s1 := s.up x1
  cases hz : fz with
  | true =>
    have y : Ext F1 H1 (upd F1 p (.tup vs)) (upd H1 p (.tup vs)) := .alloc s1.sub np
    exact q _ _ _ (x1.trans y) (.tup upd_same (r1.mono y.keep)) fun _ => .tup upd_same ((z1 hz).mono y.fr)
  | false =>
    have y : Ext F1 H1 F1 (upd H1 p (.tup vs)) := .allocH s1.sub np
    exact q _ _ _ (x1.trans y) (.tup upd_same (r1.mono y.keep)) fun z => Bool.noConfusion (hz.symm.trans z)

/-! ### a new list -/
def FRun (K : PySem.W.Frag) (f : EV → Option (List D)) (t : TE) : Prop :=
  ∀ (F0 H0 : Hp) (ev : EV) (σ : L2.St) (F H : Hp) (xs : List D) (Q : VK), SR K F0 H0 ev σ F H → f ev = some xs →
    (∀ l vs F' H', Ext F H F' H' → H l = none → F' l = none → H' l = some (.lst vs) → RepL K F' vs xs → Q (.ref l) H') → t σ H Q
/-- an expression that gives a new list of frozen items -/
def FOk (X : Cx) (e : Expr) (f : EV → Option (List D)) : Prop := ∃ t, PE X e t ∧ FRun X.K f t
def cLst (k : EV → Option (List D)) : EV → Option D := fun ev => (k ev).map .lst
theorem frun_e {t : TE} (h : FRun K k t) : ERun K true (cLst k) t := by
  intro F0 H0 ev σ F H d Q s he q
  obtain ⟨xs, h1, rfl⟩ := Option.map_eq_some_iff.mp he
  refine h F0 H0 ev σ F H xs _ s h1 fun l vs F' H' x n1 n2 e r => ?_
  have m : Same F' (upd F' l (.lst vs)) := same_upd n2
  have x2 : Ext F H (upd F' l (.lst vs)) H' := ⟨x.fr.trans m, fun b o eb => by
    by_cases hb : b = l
    · subst hb
      rw [upd_same] at eb
      exact e.trans eb
    · rw [upd_ne hb] at eb
      exact x.sub b o eb, x.keep, fun b => by
    by_cases hb : b = l
    · subst hb
      exact .inr n1
    · rw [upd_ne hb]
      exact x.new b⟩
  exact q _ _ _ x2 (.lst e (r.mono x.sub)) fun _ => .lst upd_same (r.mono m)
theorem e_f (h : FOk X e k) : EOk X e true (cLst k) := by
  obtain ⟨t, p, r⟩ := h
  exact ⟨t, p, frun_e r⟩
def kList (k : EV → Option (List D)) : EV → Option (List D) := fun ev => (k ev).bind fun ds => if ds.length ≤ 1000 then some ds else none
theorem f_lst (h : AOk X es true k) : FOk X (.List es pos) (kList k) := by
  obtain ⟨t, p, r⟩ := h
  refine ⟨_, pe_lst p, fun F0 H0 ev σ F H d Q s he q => ?_⟩
  obtain ⟨ds, h1, he⟩ := Option.bind_eq_some_iff.mp he
  obtain ⟨h2, rfl⟩ := of_ite he
  refine r F0 H0 ev σ F H ds _ s h1 fun vs F1 H1 x1 r1 z1 => ⟨len_line (by rw [r1.len]; exact h2), fun p np => ?_⟩
  have s1 := s.up x1
  exact q p vs F1 _ (x1.trans (.allocH s1.sub np)) (x1.keep.free np) (s1.sub.free np) upd_same (z1 rfl)
/-- as a display whose items are not frozen -/
theorem e_lstV (h : AOk X es fz k) : EOk X (.List es pos) false (cLst (kList k)) := by
  obtain ⟨t, p, r⟩ := h
  refine ⟨_, pe_lst p, fun F0 H0 ev σ F H d Q s he q => ?_⟩
  obtain ⟨ds0, he1, rfl⟩ := Option.map_eq_some_iff.mp he
  obtain ⟨ds, h1, he2⟩ := Option.bind_eq_some_iff.mp he1
  obtain ⟨h2, rfl⟩ := of_ite he2
  refine r F0 H0 ev σ F H ds _ s h1 fun vs F1 H1 x1 r1 z1 => ⟨len_line (by rw [r1.len]; exact h2), fun p np => ?_⟩
  have s1 := s.up x1
  have y : Ext F1 H1 F1 (upd H1 p (.lst vs)) := .allocH s1.sub np
  exact q _ _ _ (x1.trans y) (.lst upd_same (r1.mono y.keep)) fun z => nomatch z

/-! ### slices -/
def cutD {α : Type} (xs : List α) (lo hi : Option Int) : List α := (xs.drop (HT.sIx xs.length 0 lo)).take (HT.sIx xs.length xs.length hi - HT.sIx xs.length 0 lo)
theorem RepL.cut {H : Hp} {vs : List V} {ds : List D} (lo hi : Option Int) (r : RepL K H vs ds) : RepL K H (cutV vs lo hi) (cutD ds lo hi) := by
  unfold cutV cutD
  rw [r.len]
  exact (r.drop _).take _
theorem cutD_map {α β : Type} (k : α → β) (xs : List α) (lo hi : Option Int) : cutD (xs.map k) lo hi = (cutD xs lo hi).map k := by
  unfold cutD
  rw [List.length_map, List.map_take, List.map_drop]
def PRun (K : PySem.W.Frag) (f : EV → Option (Option Int)) (t : TO) : Prop :=
  ∀ (F0 H0 : Hp) (ev : EV) (σ : L2.St) (F H : Hp) (o : Option Int) (Q : Option Int → Hp → Prop), SR K F0 H0 ev σ F H → f ev = some o → (∀ F' H', Ext F H F' H' → Q o H') → t σ H Q
def POk (X : Cx) (e : Option Expr) (f : EV → Option (Option Int)) : Prop := ∃ t, PO X e t ∧ PRun X.K f t
def pNo : EV → Option (Option Int) := fun _ => some none
def pAt (f : EV → Option D) : EV → Option (Option Int) := fun ev => match f ev with
  | some (.int i) => some (some i)
  | _ => none
theorem p_no : POk X none pNo := ⟨_, po_none, fun F0 H0 ev σ F H o Q s he q => by
  cases he
  exact q F H (.refl s.sub)⟩
theorem p_at (h : EOk X e fz f) : POk X (some e) (pAt f) := by
  obtain ⟨t, p, r⟩ := h
  refine ⟨_, po_some p, fun F0 H0 ev σ F H o Q s he q => ?_⟩
  unfold pAt at he
  split at he
  · rename_i i h1
    cases he
    refine r F0 H0 ev σ F H _ _ s h1 fun v F1 H1 x1 r1 _ => ?_
    cases r1
    exact ⟨i, rfl, q F1 H1 x1⟩
  · cases he
variable {lo hi : Option Expr} {l u : EV → Option (Option Int)}
/-- xs[lo:hi] of a frozen list -/
def kSl (f : EV → Option D) (l u : EV → Option (Option Int)) : EV → Option (List D) := fun ev => match f ev with
  | some (.lst xs) => (l ev).bind fun a => (u ev).map fun b => cutD xs a b
  | _ => none
theorem f_sl {p2 : Pos} (he : EOk X e true f) (hl : POk X lo l) (hu : POk X hi u) : FOk X (.Subscript e (.Slice lo hi none p2) pos) (kSl f l u) := by
  obtain ⟨t, p, r⟩ := he
  obtain ⟨tl, pl, rl⟩ := hl
  obtain ⟨tu, pu, ru⟩ := hu
  refine ⟨_, pe_slice sl_list p pl pu, fun F0 H0 ev σ F H xs Q s he q => ?_⟩
  unfold kSl at he
  split at he
  · rename_i ds h1
    obtain ⟨lo', h2, he⟩ := Option.bind_eq_some_iff.mp he
    obtain ⟨hi', h3, rfl⟩ := Option.map_eq_some_iff.mp he
    refine r F0 H0 ev σ F H _ _ s h1 fun v F1 H1 x1 r1 z1 => ?_
    refine rl F0 H0 ev σ F1 H1 _ _ (s.up x1) h2 fun F2 H2 x2 => ?_
    refine ru F0 H0 ev σ F2 H2 _ _ ((s.up x1).up x2) h3 fun F3 H3 x3 => ?_
    have s3 := ((s.up x1).up x2).up x3
    obtain ⟨p, vs, rfl, e1, rr⟩ := (((z1 rfl).mono x2.fr).mono x3.fr).lst_inv
    refine ⟨p, vs, rfl, SqL.of (s3.sub _ _ e1), fun l nl => ?_⟩
    have x := (x1.trans x2).trans x3
    exact q l _ F3 _ (x.trans (.allocH s3.sub nl)) (x.keep.free nl) (s3.sub.free nl) upd_same (rr.cut _ _)
  · cases he
/-- of an own list -/
def kSlo (i : Nat) (l u : EV → Option (Option Int)) : EV → Option (List D) := fun ev => match ev[i]? with
  | some (.own xs) => (l ev).bind fun a => (u ev).map fun b => cutD xs a b
  | _ => none
theorem f_slo {i : Nat} {x : Str} {p p2 : Pos} (hp : PE X (.Name x p) (tVar i)) (hl : POk X lo l) (hu : POk X hi u) : FOk X (.Subscript (.Name x p) (.Slice lo hi none p2) pos) (kSlo i l u) := by
  obtain ⟨tl, pl, rl⟩ := hl
  obtain ⟨tu, pu, ru⟩ := hu
  refine ⟨_, pe_slice sl_list hp pl pu, fun F0 H0 ev σ F H xs Q s he q => ?_⟩
  unfold kSlo at he
  split at he
  · rename_i ds h1
    obtain ⟨lo', h2, he⟩ := Option.bind_eq_some_iff.mp he
    obtain ⟨hi', h3, rfl⟩ := Option.map_eq_some_iff.mp he
    obtain ⟨a, vs, g2, g3, g4, g5, g6⟩ := s.own i _ h1
    refine ⟨.ref a, g2, ?_⟩
    refine rl F0 H0 ev σ F H _ _ s h2 fun F2 H2 x2 => ?_
    refine ru F0 H0 ev σ F2 H2 _ _ (s.up x2) h3 fun F3 H3 x3 => ?_
    have s3 := (s.up x2).up x3
    have x := x2.trans x3
    refine ⟨a, vs, rfl, SqL.of (x.keep _ _ g3), fun l nl => ?_⟩
    exact q l _ F3 _ (x.trans (.allocH s3.sub nl)) (x.keep.free nl) (s3.sub.free nl) upd_same ((g6.mono x.fr).cut _ _)
  · cases he
/-- a tuple's slice, not the whole -/
def cSlT (f : EV → Option D) (l u : EV → Option (Option Int)) : EV → Option D := fun ev => match f ev with
  | some (.tup xs) => (l ev).bind fun a => (u ev).bind fun b => if ¬ (HT.sIx xs.length 0 a = 0 ∧ HT.sIx xs.length xs.length b = xs.length) then some (.tup (cutD xs a b)) else none
  | _ => none
theorem e_slT {p2 : Pos} (he : EOk X e true f) (hl : POk X lo l) (hu : POk X hi u) : EOk X (.Subscript e (.Slice lo hi none p2) pos) true (cSlT f l u) := by
  obtain ⟨t, p, r⟩ := he
  obtain ⟨tl, pl, rl⟩ := hl
  obtain ⟨tu, pu, ru⟩ := hu
  refine ⟨_, pe_slice sl_tup p pl pu, fun F0 H0 ev σ F H d Q s he q => ?_⟩
  unfold cSlT at he
  split at he
  · rename_i ds h1
    obtain ⟨lo', h2, he⟩ := Option.bind_eq_some_iff.mp he
    obtain ⟨hi', h3, he⟩ := Option.bind_eq_some_iff.mp he
    obtain ⟨hw, rfl⟩ := of_ite he
    refine r F0 H0 ev σ F H _ _ s h1 fun v F1 H1 x1 r1 z1 => ?_
    refine rl F0 H0 ev σ F1 H1 _ _ (s.up x1) h2 fun F2 H2 x2 => ?_
    refine ru F0 H0 ev σ F2 H2 _ _ ((s.up x1).up x2) h3 fun F3 H3 x3 => ?_
    have s3 := ((s.up x1).up x2).up x3
    obtain ⟨p, vs, rfl, e1, rr⟩ := (((z1 rfl).mono x2.fr).mono x3.fr).tup_inv
    refine ⟨p, vs, rfl, SqT.of (s3.sub _ _ e1), by rw [rr.len]; exact hw, fun l nl => ?_⟩
    have x := (x1.trans x2).trans x3
    have y : Ext F3 H3 (upd F3 l (.tup (cutV vs lo' hi'))) (upd H3 l (.tup (cutV vs lo' hi'))) := .alloc s3.sub nl
    exact q _ _ _ (x.trans y) (.tup upd_same (((rr.cut _ _).mono s3.sub).mono y.keep)) fun _ => .tup upd_same ((rr.cut _ _).mono y.fr)
  · cases he
/-- xs[::-1] -/
def kRev (f : EV → Option D) : EV → Option (List D) := fun ev => match f ev with
  | some (.lst xs) => some xs.reverse
  | _ => none
theorem f_rev {k : Nat} {p1 p2 p3 : Pos} (he : EOk X e true f) : FOk X (.Subscript e (.Slice none none (some (.UnaryOp .USub (.Constant (.int 1) k p1) p2)) p3) pos) (kRev f) := by
  obtain ⟨t, p, r⟩ := he
  refine ⟨_, pe_revL p, fun F0 H0 ev σ F H xs Q s he q => ?_⟩
  unfold kRev at he
  split at he
  · rename_i ds h1
    cases he
    refine r F0 H0 ev σ F H _ _ s h1 fun v F1 H1 x1 r1 z1 => ?_
    have s1 := s.up x1
    obtain ⟨p, vs, rfl, e1, rr⟩ := (z1 rfl).lst_inv
    exact ⟨p, vs, rfl, SqL.of (s1.sub _ _ e1), fun l nl => q l _ F1 _ (x1.trans (.allocH s1.sub nl)) (x1.keep.free nl) (s1.sub.free nl) upd_same rr.reverse⟩
  · cases he
def kRevo (i : Nat) : EV → Option (List D) := fun ev => match ev[i]? with
  | some (.own xs) => some xs.reverse
  | _ => none
theorem f_revo {i k : Nat} {x : Str} {p p1 p2 p3 : Pos} (hp : PE X (.Name x p) (tVar i)) : FOk X (.Subscript (.Name x p) (.Slice none none (some (.UnaryOp .USub (.Constant (.int 1) k p1) p2)) p3) pos) (kRevo i) := by
  refine ⟨_, pe_revL hp, fun F0 H0 ev σ F H xs Q s he q => ?_⟩
  unfold kRevo at he
  split at he
  · rename_i ds h1
    cases he
    obtain ⟨a, vs, g2, g3, g4, g5, g6⟩ := s.own i _ h1
    exact ⟨.ref a, g2, a, vs, rfl, SqL.of g3, fun l nl => q l _ F _ (.allocH s.sub nl) nl (s.sub.free nl) upd_same g6.reverse⟩
  · cases he
/-- xs + ys, lists -/
def kCat (f g : EV → Option D) : EV → Option (List D) := fun ev => match f ev, g ev with
  | some (.lst xs), some (.lst ys) => if xs.length + ys.length ≤ 16777216 then some (xs ++ ys) else none
  | _, _ => none
theorem f_cat (ha : EOk X a true f) (hb : EOk X b true g) : FOk X (.BinOp a .Add b pos) (kCat f g) := by
  obtain ⟨ta, pa, ra⟩ := ha
  obtain ⟨tb, pb, rb⟩ := hb
  refine ⟨_, pe_op op_cat pa pb, fun F0 H0 ev σ F H xs Q s he q => ?_⟩
  unfold kCat at he
  split at he
  · rename_i ds es h1 h2
    obtain ⟨hl, rfl⟩ := of_ite he
    refine ra F0 H0 ev σ F H _ _ s h1 fun v F1 H1 x1 r1 z1 => ?_
    refine rb F0 H0 ev σ F1 H1 _ _ (s.up x1) h2 fun u F2 H2 x2 r2 z2 => ?_
    have s2 := (s.up x1).up x2
    obtain ⟨p, vs, rfl, e1, rr⟩ := ((z1 rfl).mono x2.fr).lst_inv
    obtain ⟨p', ws, rfl, e2, rr'⟩ := (z2 rfl).lst_inv
    have x := x1.trans x2
    exact ⟨p, p', vs, ws, rfl, rfl, s2.sub _ _ e1, s2.sub _ _ e2, by rw [rr.len, rr'.len, sizeLine_eq]; exact hl, fun l nl =>
      q l _ F2 _ (x.trans (.allocH s2.sub nl)) (x.keep.free nl) (s2.sub.free nl) upd_same (rr.append rr')⟩
  · cases he
/-- [x] * n -/
def kRep (f g : EV → Option D) : EV → Option (List D) := fun ev => match f ev, g ev with
  | some (.lst xs), some (.int n) => if -(2 ^ 63) ≤ n ∧ n < 2 ^ 63 ∧ xs.length * n.toNat ≤ 16777216 then some (List.replicate n.toNat xs).flatten else none
  | _, _ => none
theorem RepL.rep {H : Hp} {vs : List V} {ds : List D} (r : RepL K H vs ds) : ∀ k : Nat, RepL K H (List.replicate k vs).flatten (List.replicate k ds).flatten
  | 0 => .nil
  | k + 1 => by
    rw [List.replicate_succ, List.replicate_succ, List.flatten_cons, List.flatten_cons]
    exact r.append (r.rep k)
theorem f_rep (ha : EOk X a true f) (hb : EOk X b fb g) : FOk X (.BinOp a .Mult b pos) (kRep f g) := by
  obtain ⟨ta, pa, ra⟩ := ha
  obtain ⟨tb, pb, rb⟩ := hb
  refine ⟨_, pe_op op_rep pa pb, fun F0 H0 ev σ F H xs Q s he q => ?_⟩
  unfold kRep at he
  split at he
  · rename_i ds n h1 h2
    obtain ⟨⟨g1, g2, hl⟩, rfl⟩ := of_ite he
    refine ra F0 H0 ev σ F H _ _ s h1 fun v F1 H1 x1 r1 z1 => ?_
    refine rb F0 H0 ev σ F1 H1 _ _ (s.up x1) h2 fun u F2 H2 x2 r2 z2 => ?_
    have s2 := (s.up x1).up x2
    obtain ⟨p, vs, rfl, e1, rr⟩ := ((z1 rfl).mono x2.fr).lst_inv
    cases r2
    have x := x1.trans x2
    exact ⟨p, n, vs, rfl, rfl, s2.sub _ _ e1, g1, g2, by rw [rr.len, sizeLine_eq]; exact hl, fun l nl =>
      q l _ F2 _ (x.trans (.allocH s2.sub nl)) (x.keep.free nl) (s2.sub.free nl) upd_same (rr.rep _)⟩
  · cases he

/-! ### calls of built-ins -/
def CROk (K : PySem.W.Frag) (r : List V → Hp → VK → Prop) (op : List D → Option D) : Prop :=
  ∀ (F H : Hp) (vs : List V) (ds : List D) (d : D) (Q : VK), Same F H → RepL K H vs ds → op ds = some d →
    (∀ v F' H', Ext F H F' H' → Rep K H' v d → (RepL K F vs ds → Rep K F' v d) → Q v H') → r vs H Q
def cCB (op : List D → Option D) (k : EV → Option (List D)) : EV → Option D := fun ev => (k ev).bind op
theorem runCB {r : List V → Hp → VK → Prop} {op : List D → Option D} {t : TA} (hr : CROk K r op) (ha : ARun K fz k t) : ERun K fz (cCB op k) (tCB r t) := by
  intro F0 H0 ev σ F H d Q s he q
  obtain ⟨ds, h1, h2⟩ := Option.bind_eq_some_iff.mp he
  refine ha F0 H0 ev σ F H ds _ s h1 fun vs F1 H1 x1 r1 z1 => ?_
  exact hr F1 H1 vs ds d Q (s.up x1).sub r1 h2 fun v F2 H2 x2 r2 z2 => q v F2 H2 (x1.trans x2) r2 fun z => z2 (z1 z)
theorem e_cb {id : String} {x : Str} {p : Pos} {r : List V → Hp → VK → Prop} {op : List D → Option D} (hc : CallR X (.builtin id) r) (hr : CROk X.K r op) (hg : Gl X x) (hm : X.mg x = none) (hv : bootBuiltins x = some (.builtin id))
    (ha : AOk X (e :: es) fz k) (hn : x ≠ "__name__" := by decide) (hdb : (x == ("__debug__" : Str)) = false := by decide)
    (he : starEach (e :: es) X.env = (false, eval e X.env) :: starEach es X.env := by rfl) (hpl : (backTo pos (starEach es X.env)).any (·.1) = false := by rfl) : EOk X (.Call (.Name x p) (e :: es) [] pos) fz (cCB op k) := by
  obtain ⟨t, pa, ra⟩ := ha
  exact ⟨_, pe_callB hc hg hm hv pa hn hdb he hpl, runCB hr ra⟩
theorem e_cty {T : String} {x : Str} {p : Pos} {r : List V → Hp → VK → Prop} {op : List D → Option D} (hc : CallR X (.type T) r) (hr : CROk X.K r op) (hg : Gl X x) (hm : X.mg x = none) (hv : bootBuiltins x = some (.type T))
    (ha : AOk X (e :: es) fz k) (hn : x ≠ "__name__" := by decide) (hdb : (x == ("__debug__" : Str)) = false := by decide)
    (he : starEach (e :: es) X.env = (false, eval e X.env) :: starEach es X.env := by rfl) (hpl : (backTo pos (starEach es X.env)).any (·.1) = false := by rfl) : EOk X (.Call (.Name x p) (e :: es) [] pos) fz (cCB op k) := by
  obtain ⟨t, pa, ra⟩ := ha
  exact ⟨_, pe_callTy hc hg hm hv pa hn hdb he hpl, runCB hr ra⟩
def bLen : List D → Option D
  | [.lst xs] => some (.int xs.length)
  | [.tup xs] => some (.int xs.length)
  | [.scr ns] => some (.int ns.length)
  | _ => none
def bInt : List D → Option D
  | [.int i] => some (.int i)
  | [.bl k] => some (.int (if k then 1 else 0))
  | _ => none
def bAbs : List D → Option D
  | [.int i] => some (.int (if i < 0 then -i else i))
  | _ => none
def bMax : List D → Option D
  | [.int i, .int j] => some (.int (if j > i then j else i))
  | _ => none
def bMin : List D → Option D
  | [.int i, .int j] => some (.int (if j < i then j else i))
  | _ => none
def asBs : List D → Option (List Bool)
  | [] => some []
  | .bl b :: ds => (asBs ds).map (b :: ·)
  | _ :: _ => none
def bAll : List D → Option D
  | [.lst xs] => (asBs xs).map fun bs => .bl (bs.all id)
  | _ => none
def bAny : List D → Option D
  | [.lst xs] => (asBs xs).map fun bs => .bl (bs.any id)
  | _ => none
def asIs : List D → Option (List Int)
  | [] => some []
  | .int b :: ds => (asIs ds).map (b :: ·)
  | _ :: _ => none
def bSum : List D → Option D
  | [.lst xs] => (asIs xs).map fun bs => .int bs.sum
  | _ => none
theorem RepL.one {H : Hp} {vs : List V} {d : D} (r : RepL K H vs [d]) : ∃ v, vs = [v] ∧ Rep K H v d := by
  cases r with
  | cons h r =>
    cases r
    exact ⟨_, rfl, h⟩
theorem RepL.two {H : Hp} {vs : List V} {d e : D} (r : RepL K H vs [d, e]) : ∃ v w, vs = [v, w] ∧ Rep K H v d ∧ Rep K H w e := by
  cases r with
  | cons h r =>
    obtain ⟨w, rfl, h2⟩ := r.one
    exact ⟨_, _, rfl, h, h2⟩
theorem cr_len : CROk K (fun xs H Q => ∃ p ys, xs = [.ref p] ∧ (SqL K H p ys ∨ SqT K H p ys) ∧ Q (.int ys.length) H) bLen := by
  intro F H vs ds d Q s r ho q
  unfold bLen at ho
  split at ho
  · cases ho
    obtain ⟨v, rfl, r0⟩ := r.one
    obtain ⟨p, ws, rfl, h1, rr⟩ := r0.lst_inv
    exact ⟨p, ws, rfl, .inl (SqL.of h1), by rw [rr.len]; exact q _ F H (.refl s) (.int _) fun _ => .int _⟩
  · cases ho
    obtain ⟨v, rfl, r0⟩ := r.one
    obtain ⟨p, ws, rfl, h1, rr⟩ := r0.tup_inv
    exact ⟨p, ws, rfl, .inr (SqT.of h1), by rw [rr.len]; exact q _ F H (.refl s) (.int _) fun _ => .int _⟩
  · cases ho
    obtain ⟨v, rfl, r0⟩ := r.one
    cases r0
    rename_i h1
    exact ⟨_, _, rfl, .inl h1, by rw [List.length_map]; exact q _ F H (.refl s) (.int _) fun _ => .int _⟩
  · cases ho
theorem cr_int : CROk K (fun xs H Q => (∃ i, xs = [.int i] ∧ Q (.int i) H) ∨ ∃ k, xs = [.bl k] ∧ Q (.int (if k then 1 else 0)) H) bInt := by
  intro F H vs ds d Q s r ho q
  unfold bInt at ho
  split at ho
  · cases ho
    obtain ⟨v, rfl, r0⟩ := r.one
    cases r0
    exact .inl ⟨_, rfl, q _ F H (.refl s) (.int _) fun _ => .int _⟩
  · cases ho
    obtain ⟨v, rfl, r0⟩ := r.one
    cases r0
    exact .inr ⟨_, rfl, q _ F H (.refl s) (.int _) fun _ => .int _⟩
  · cases ho
theorem cr_abs : CROk K (fun xs H Q => ∃ i, xs = [.int i] ∧ Q (.int (if i < 0 then -i else i)) H) bAbs := by
  intro F H vs ds d Q s r ho q
  unfold bAbs at ho
  split at ho
  · cases ho
    obtain ⟨v, rfl, r0⟩ := r.one
    cases r0
    exact ⟨_, rfl, q _ F H (.refl s) (.int _) fun _ => .int _⟩
  · cases ho
theorem cr_max2 : CROk K (fun xs H Q => ∃ i j, xs = [.int i, .int j] ∧ Q (.int (if j > i then j else i)) H) bMax := by
  intro F H vs ds d Q s r ho q
  unfold bMax at ho
  split at ho
  · cases ho
    obtain ⟨v, w, rfl, r1, r2⟩ := r.two
    cases r1
    cases r2
    exact ⟨_, _, rfl, q _ F H (.refl s) (.int _) fun _ => .int _⟩
  · cases ho
theorem cr_min2 : CROk K (fun xs H Q => ∃ i j, xs = [.int i, .int j] ∧ Q (.int (if j < i then j else i)) H) bMin := by
  intro F H vs ds d Q s r ho q
  unfold bMin at ho
  split at ho
  · cases ho
    obtain ⟨v, w, rfl, r1, r2⟩ := r.two
    cases r1
    cases r2
    exact ⟨_, _, rfl, q _ F H (.refl s) (.int _) fun _ => .int _⟩
  · cases ho
theorem asBs_rep {H : Hp} : ∀ {ds : List D} {vs : List V} {bs : List Bool}, asBs ds = some bs → RepL K H vs ds → vs = bs.map V.bl
  | [], _, _, e, r => by
    cases e
    cases r
    rfl
  | .bl b :: ds, _, _, e, r => by
    obtain ⟨bs, h1, rfl⟩ := Option.map_eq_some_iff.mp e
    cases r with
    | cons h r =>
      cases h
      rw [asBs_rep h1 r, List.map_cons]
  | .non :: _, _, _, e, _ => nomatch e
  | .int _ :: _, _, _, e, _ => nomatch e
  | .str _ :: _, _, _, e, _ => nomatch e
  | .lst _ :: _, _, _, e, _ => nomatch e
  | .tup _ :: _, _, _, e, _ => nomatch e
  | .scr _ :: _, _, _, e, _ => nomatch e
theorem asIs_rep {H : Hp} : ∀ {ds : List D} {vs : List V} {bs : List Int}, asIs ds = some bs → RepL K H vs ds → vs = bs.map V.int
  | [], _, _, e, r => by
    cases e
    cases r
    rfl
  | .int b :: ds, _, _, e, r => by
    obtain ⟨bs, h1, rfl⟩ := Option.map_eq_some_iff.mp e
    cases r with
    | cons h r =>
      cases h
      rw [asIs_rep h1 r, List.map_cons]
  | .non :: _, _, _, e, _ => nomatch e
  | .bl _ :: _, _, _, e, _ => nomatch e
  | .str _ :: _, _, _, e, _ => nomatch e
  | .lst _ :: _, _, _, e, _ => nomatch e
  | .tup _ :: _, _, _, e, _ => nomatch e
  | .scr _ :: _, _, _, e, _ => nomatch e
theorem r_all : CROk K (rAll K) bAll := by
  intro F H vs ds d Q s r ho q
  unfold bAll at ho
  split at ho
  · obtain ⟨bs, h1, rfl⟩ := Option.map_eq_some_iff.mp ho
    obtain ⟨v, rfl, r0⟩ := r.one
    obtain ⟨p, ws, rfl, h2, rr⟩ := r0.lst_inv
    exact ⟨p, bs, rfl, SqL.of (by rw [← asBs_rep h1 rr]; exact h2), q _ F H (.refl s) (.bl _) fun _ => .bl _⟩
  · cases ho
theorem r_any : CROk K (rAny K) bAny := by
  intro F H vs ds d Q s r ho q
  unfold bAny at ho
  split at ho
  · obtain ⟨bs, h1, rfl⟩ := Option.map_eq_some_iff.mp ho
    obtain ⟨v, rfl, r0⟩ := r.one
    obtain ⟨p, ws, rfl, h2, rr⟩ := r0.lst_inv
    exact ⟨p, bs, rfl, SqL.of (by rw [← asBs_rep h1 rr]; exact h2), q _ F H (.refl s) (.bl _) fun _ => .bl _⟩
  · cases ho
theorem r_sum : CROk K (rSum K) bSum := by
  intro F H vs ds d Q s r ho q
  unfold bSum at ho
  split at ho
  · obtain ⟨bs, h1, rfl⟩ := Option.map_eq_some_iff.mp ho
    obtain ⟨v, rfl, r0⟩ := r.one
    obtain ⟨p, ws, rfl, h2, rr⟩ := r0.lst_inv
    exact ⟨p, bs, rfl, SqL.of (by rw [← asIs_rep h1 rr]; exact h2), q _ F H (.refl s) (.int _) fun _ => .int _⟩
  · cases ho
/-- list(x), a new list -/
def kOf (k : EV → Option (List D)) : EV → Option (List D) := fun ev => match k ev with
  | some [.lst xs] => some xs
  | some [.tup xs] => some xs
  | _ => none
theorem f_list {x : Str} {p : Pos} (hg : Gl X x) (hm : X.mg x = none) (hv : bootBuiltins x = some (.type "list"))
    (ha : AOk X [e] true k) (hn : x ≠ "__name__" := by decide) (hdb : (x == ("__debug__" : Str)) = false := by decide)
    (he : starEach [e] X.env = (false, eval e X.env) :: starEach [] X.env := by rfl) (hpl : (backTo pos (starEach [] X.env)).any (·.1) = false := by rfl) : FOk X (.Call (.Name x p) [e] [] pos) (kOf k) := by
  obtain ⟨t, pa, ra⟩ := ha
  refine ⟨_, pe_callTy call_list_of hg hm hv pa hn hdb he hpl, fun F0 H0 ev σ F H xs Q s he q => ?_⟩
  unfold kOf at he
  split at he
  · rename_i ds h1
    cases he
    refine ra F0 H0 ev σ F H _ _ s h1 fun vs F1 H1 x1 r1 z1 => ?_
    have s1 := s.up x1
    obtain ⟨v, rfl, r0⟩ := (z1 rfl).one
    obtain ⟨p, ws, rfl, h2, rr⟩ := r0.lst_inv
    exact ⟨p, ws, rfl, .inl (SqL.of (s1.sub _ _ h2)), fun l nl => q l _ F1 _ (x1.trans (.allocH s1.sub nl)) (x1.keep.free nl) (s1.sub.free nl) upd_same rr⟩
  · rename_i ds h1
    cases he
    refine ra F0 H0 ev σ F H _ _ s h1 fun vs F1 H1 x1 r1 z1 => ?_
    have s1 := s.up x1
    obtain ⟨v, rfl, r0⟩ := (z1 rfl).one
    obtain ⟨p, ws, rfl, h2, rr⟩ := r0.tup_inv
    exact ⟨p, ws, rfl, .inr (SqT.of (s1.sub _ _ h2)), fun l nl => q l _ F1 _ (x1.trans (.allocH s1.sub nl)) (x1.keep.free nl) (s1.sub.free nl) upd_same rr⟩
  · cases he

/-! ### calls of the program's own defs -/
def FSp (K : PySem.W.Frag) (n : Nat) (g : List D → Option D) : Sp := fun vs H Q _ => vs.length = n ∧ ∃ F ds d, Same F H ∧ RepL K F vs ds ∧ g ds = some d ∧ ∀ v F' H', Ext F H F' H' → Rep K F' v d → Q v H'
theorem e_call {x : Str} {p : Pos} {lv n : Nat} {fn : Addr} {fd : FuncData} {ps : List Str} {o : List D → Option D} (G : FnOk X.prog X.w X.K X.mg X.base CX0 lv fn fd ps (FSp X.K n o)) (hr : Room lv X.A) (hg : Gl X x) (hm : X.mg x = some (.ref fn))
    (hk : PySem.W.keepIn X.K (.ref fn) = true) (hb : Binds X.K fd ps []) (ha : AOk X (e :: es) fz k) (hn : (e :: es).length = n) (hdb : (x == ("__debug__" : Str)) = false := by decide)
    (he : starEach (e :: es) X.env = (false, eval e X.env) :: starEach es X.env := by rfl) (hpl : (backTo pos (starEach es X.env)).any (·.1) = false := by rfl)
    (hl : ∀ ev ds, k ev = some ds → ds.length = (e :: es).length) : EOk X (.Call (.Name x p) (e :: es) [] pos) fz (cCB o k) := by
  obtain ⟨t, pa, ra⟩ := ha
  refine ⟨_, pe_call G hr hg hm hk hb .nil pass0 pa hdb he hpl, fun F0 H0 ev σ F H d Q s he q => ?_⟩
  obtain ⟨ds, h1, h2⟩ := Option.bind_eq_some_iff.mp he
  refine ra F0 H0 ev σ F H ds _ s h1 fun vs F1 H1 x1 r1 z1 => ?_
  have hlen : (vs ++ []).length = n := by rw [List.append_nil, r1.len, hl ev ds h1, hn]
  refine ⟨hlen, ?_⟩
  rw [List.append_nil]
  have s1 := s.up x1
  cases hz : fz with
  | true => exact ⟨F1, ds, d, s1.sub, z1 hz, h2, fun v F' H' x r => q v F' H' (x1.trans x) (r.mono x.sub) fun _ => r⟩
  | false => exact ⟨H1, ds, d, .refl _, r1, h2, fun v F' H' x r => q v F1 H' (x1.trans ⟨.refl _, s1.sub.trans x.keep, x.keep, fun _ => .inl rfl⟩) (r.mono x.sub) fun z => Bool.noConfusion (hz.symm.trans z)⟩
theorem aNil_len {ev : EV} {ds : List D} (h : aNil ev = some ds) : ds.length = 0 := by
  cases h
  rfl
theorem aCons_len {n : Nat} (h : ∀ ev ds, k ev = some ds → ds.length = n) : ∀ ev ds, aCons f k ev = some ds → ds.length = n + 1 := by
  intro ev ds e
  obtain ⟨x, h1, e⟩ := Option.bind_eq_some_iff.mp e
  obtain ⟨xs, h2, rfl⟩ := Option.map_eq_some_iff.mp e
  rw [List.length_cons, h ev xs h2]
theorem AOk.len (h : AOk X es fz k) : ∀ ev ds, k ev = some ds → True := fun _ _ _ => trivial
end
end Z


set_option maxRecDepth 100000
set_option maxHeartbeats 4000000
/-! Z4: what is walked, targets, comprehensions, statements, defs. -/
namespace Z
open PySem PySem.Spec PyProof.Rows L2
section
variable {X : Cx} {a b c e tg iter elt : Expr} {fz fa fb fc : Bool} {f g h : EV → Option D} {pos : Pos} {K : PySem.W.Frag}

/-! ### what is walked: B is what must stay -/
structure WalkD (K : PySem.W.Frag) (J : It) (Fb B : Hp) (ds : List D) : Prop where
  go : ∀ (i : Nat) H, i < ds.length → Same B H → J.go i H
  stop : ∀ H, Same B H → J.stop ds.length H
  yld : ∀ (i : Nat) F H x H', i < ds.length → Same Fb F → Same F H → Same B H → J.yld i H x H' → ∃ F' d, Ext F H F' H' ∧ ds[i]? = some d ∧ Rep K F' x d
def IRun (K : PySem.W.Frag) (fz : Bool) (fi : EV → Option (List D)) (wi : TI) : Prop :=
  ∀ (F0 H0 : Hp) (ev : EV) (σ : L2.St) (F H : Hp) (ds : List D) (R : It → Hp → Prop), SR K F0 H0 ev σ F H → fi ev = some ds →
    (∀ J F' H', Ext F H F' H' → WalkD K J F' (if fz = true then F' else H') ds → R J H') → wi σ H R
def IOk (X : Cx) (tg iter : Expr) (fz : Bool) (fi : EV → Option (List D)) : Prop := ∃ wi, PI X tg iter wi ∧ IRun X.K fz fi wi
theorem walkD_list {l : Addr} {vs : List V} {ds : List D} {Fb B : Hp} (hB : B l = some (.lst vs)) (r : RepL K Fb vs ds) : WalkD K (Itl K l) Fb B ds := by
  have w := walk_list (K := K) (a := l) (xs := vs)
  have hl := r.len
  refine ⟨fun i H hi s => w.goes i H (by omega) (SqL.of (s _ _ hB)), fun H s => by rw [← hl]; exact w.stops H (SqL.of (s _ _ hB)), fun i F H x H' hi sF sH s y => ?_⟩
  obtain ⟨rfl, hx⟩ := w.yields i H x H' (by omega) (SqL.of (s _ _ hB)) y
  obtain ⟨d, hd, rd⟩ := r.getV hx
  exact ⟨F, d, .refl sH, hd, rd.mono sF⟩
theorem walkD_tup {l : Addr} {vs : List V} {ds : List D} {Fb B : Hp} (hB : B l = some (.tup vs)) (r : RepL K Fb vs ds) : WalkD K (Itt K l) Fb B ds := by
  have w := walk_tup (K := K) (a := l) (xs := vs)
  have hl := r.len
  refine ⟨fun i H hi s => w.goes i H (by omega) (SqT.of (s _ _ hB)), fun H s => by rw [← hl]; exact w.stops H (SqT.of (s _ _ hB)), fun i F H x H' hi sF sH s y => ?_⟩
  obtain ⟨rfl, hx⟩ := w.yields i H x H' (by omega) (SqT.of (s _ _ hB)) y
  obtain ⟨d, hd, rd⟩ := r.getV hx
  exact ⟨F, d, .refl sH, hd, rd.mono sF⟩
def iLst (f : EV → Option D) : EV → Option (List D) := fun ev => match f ev with
  | some (.lst xs) => some xs
  | _ => none
def iTuple (f : EV → Option D) : EV → Option (List D) := fun ev => match f ev with
  | some (.tup xs) => some xs
  | _ => none
/-- a frozen list -/
theorem i_list (he : EOk X iter true f) : IOk X tg iter true (iLst f) := by
  obtain ⟨t, p, r⟩ := he
  refine ⟨_, pi_list p, fun F0 H0 ev σ F H ds R s he q => ?_⟩
  unfold iLst at he
  split at he
  · rename_i ds' h1
    cases he
    refine r F0 H0 ev σ F H _ _ s h1 fun v F1 H1 x1 r1 z1 => ?_
    obtain ⟨l, vs, rfl, e1, rr⟩ := (z1 rfl).lst_inv
    have s1 := s.up x1
    exact ⟨l, rfl, ⟨_, SqL.of (s1.sub _ _ e1)⟩, q _ F1 H1 x1 (by rw [if_pos rfl]; exact walkD_list e1 rr)⟩
  · cases he
theorem i_tup (he : EOk X iter true f) : IOk X tg iter true (iTuple f) := by
  obtain ⟨t, p, r⟩ := he
  refine ⟨_, pi_tup p, fun F0 H0 ev σ F H ds R s he q => ?_⟩
  unfold iTuple at he
  split at he
  · rename_i ds' h1
    cases he
    refine r F0 H0 ev σ F H _ _ s h1 fun v F1 H1 x1 r1 z1 => ?_
    obtain ⟨l, vs, rfl, e1, rr⟩ := (z1 rfl).tup_inv
    have s1 := s.up x1
    exact ⟨l, rfl, ⟨_, SqT.of (s1.sub _ _ e1)⟩, q _ F1 H1 x1 (by rw [if_pos rfl]; exact walkD_tup e1 rr)⟩
  · cases he
/-- an own list, walked by a comprehension -/
def iOwn (i : Nat) : EV → Option (List D) := fun ev => match ev[i]? with
  | some (.own xs) => some xs
  | _ => none
theorem i_own {i : Nat} {x : Str} {p : Pos} (hp : PE X (.Name x p) (tVar i)) : IOk X tg (.Name x p) false (iOwn i) := by
  refine ⟨_, pi_list hp, fun F0 H0 ev σ F H ds R s he q => ?_⟩
  unfold iOwn at he
  split at he
  · rename_i xs h1
    cases he
    obtain ⟨l, vs, g2, g3, g4, g5, g6⟩ := s.own i _ h1
    exact ⟨.ref l, g2, l, rfl, ⟨_, SqL.of g3⟩, q _ F H (.refl s.sub) (by rw [if_neg (by decide)]; exact walkD_list g3 g6)⟩
  · cases he
/-- range -/
def rangeD (i j : Int) : List D := (List.range (j - i).toNat).map fun k => .int (i + (k : Nat))
theorem walkD_range {lo hi : Int} {Fb B : Hp} : WalkD K (Itr lo (hi - lo).toNat) Fb B (rangeD lo hi) := by
  have hl : (rangeD lo hi).length = (hi - lo).toNat := by
    unfold rangeD
    rw [List.length_map, List.length_range]
  refine ⟨fun i H hi _ => by rw [hl] at hi; exact hi, fun H _ => by rw [hl]; exact Nat.le_refl _, fun i F H x H' hi sF sH s y => ?_⟩
  rw [hl] at hi
  obtain ⟨rfl, rfl⟩ := y
  refine ⟨F, .int (lo + (i : Nat)), .refl sH, ?_, .int _⟩
  unfold rangeD
  rw [List.getElem?_map, List.getElem?_range hi]
  rfl
def iR1 (k : EV → Option (List D)) : EV → Option (List D) := fun ev => match k ev with
  | some [.int j] => if -(2 ^ 62) ≤ j ∧ j < 2 ^ 62 then some (rangeD 0 j) else none
  | _ => none
def iR2 (k : EV → Option (List D)) : EV → Option (List D) := fun ev => match k ev with
  | some [.int i, .int j] => if -(2 ^ 62) ≤ i ∧ i < 2 ^ 62 ∧ -(2 ^ 62) ≤ j ∧ j < 2 ^ 62 then some (rangeD i j) else none
  | _ => none
variable {k : EV → Option (List D)}
theorem i_range1 {p pos : Pos} (hg : Gl X "range") (hm : X.mg "range" = none) (ha : AOk X [a] fz k) (hs : starEach [a] X.env = [(false, eval a X.env)] := by rfl) : IOk X tg (.Call (.Name "range" p) [a] [] pos) true (iR1 k) := by
  obtain ⟨t, pa, ra⟩ := ha
  refine ⟨_, pi_range1 hg hm pa hs, fun F0 H0 ev σ F H ds R s he q => ?_⟩
  unfold iR1 at he
  split at he
  · rename_i j h1
    obtain ⟨⟨h2, h3⟩, rfl⟩ := of_ite he
    refine ra F0 H0 ev σ F H _ _ s h1 fun vs F1 H1 x1 r1 z1 => ?_
    obtain ⟨v, rfl, r0⟩ := r1.one
    cases r0
    refine ⟨j, rfl, h2, h3, q _ F1 H1 x1 ?_⟩
    have w := walkD_range (K := X.K) (lo := 0) (hi := j) (Fb := F1) (B := if true = true then F1 else H1)
    rw [Int.sub_zero] at w
    exact w
  · cases he
theorem i_range2 {p pos : Pos} (hg : Gl X "range") (hm : X.mg "range" = none) (ha : AOk X [a, b] fz k) (hs : starEach [a, b] X.env = [(false, eval a X.env), (false, eval b X.env)] := by rfl) (hs2 : starEach [b] X.env = [(false, eval b X.env)] := by rfl) :
    IOk X tg (.Call (.Name "range" p) [a, b] [] pos) true (iR2 k) := by
  obtain ⟨t, pa, ra⟩ := ha
  refine ⟨_, pi_range2 hg hm pa hs hs2, fun F0 H0 ev σ F H ds R s he q => ?_⟩
  unfold iR2 at he
  split at he
  · rename_i i j h1
    obtain ⟨h2, rfl⟩ := of_ite he
    refine ra F0 H0 ev σ F H _ _ s h1 fun vs F1 H1 x1 r1 z1 => ?_
    obtain ⟨v, w, rfl, r0, r0'⟩ := r1.two
    cases r0
    cases r0'
    exact ⟨i, j, rfl, h2, q _ F1 H1 x1 walkD_range⟩
  · cases he
/-- enumerate(xs), a frozen list -/
def enumD (xs : List D) : List D := xs.zipIdx.map fun p => .tup [.int (p.2 : Nat), p.1]
theorem walkD_enum {l : Addr} {vs : List V} {ds : List D} {Fb B : Hp} (hB : B l = some (.lst vs)) (r : RepL K Fb vs ds) : WalkD K (Ite K l) Fb B (enumD ds) := by
  have w := walk_enum (K := K) (a := l) (xs := vs)
  have hl := r.len
  have hn : (enumD ds).length = ds.length := by
    unfold enumD
    rw [List.length_map, List.length_zipIdx]
  refine ⟨fun i H hi s => w.goes i H (by omega) (SqL.of (s _ _ hB)), fun H s => by rw [hn, ← hl]; exact w.stops H (SqL.of (s _ _ hB)), fun i F H x H' hi sF sH s y => ?_⟩
  obtain ⟨T, x1, y1, rfl, nT, rfl, h1, h2⟩ := w.yields i H x H' (by omega) (SqL.of (s _ _ hB)) y
  cases h1
  obtain ⟨d, hd, rd⟩ := r.getV h2
  refine ⟨upd F T (.tup [.int (i : Nat), y1]), .tup [.int (i : Nat), d], .alloc sH nT, ?_, .tup upd_same ?_⟩
  · unfold enumD
    rw [List.getElem?_map, List.getElem?_zipIdx, hd, Nat.zero_add]
    rfl
  · exact .cons (.int _) (.cons ((rd.mono sF).mono (Ext.alloc sH nT).fr) .nil)
def iEn (k : EV → Option (List D)) : EV → Option (List D) := fun ev => match k ev with
  | some [.lst xs] => some (enumD xs)
  | _ => none
theorem i_enum {p pos tpos : Pos} {elts : List Expr} {kk : Nat} (hg : Gl X "enumerate") (hm : X.mg "enumerate" = none) (ha : AOk X [e] true k) (hs : starEach [e] X.env = [(false, eval e X.env)] := by rfl) :
    IOk X (.Tuple elts kk tpos) (.Call (.Name "enumerate" p) [e] [] pos) true (iEn k) := by
  obtain ⟨t, pa, ra⟩ := ha
  refine ⟨_, pi_enum hg hm pa hs, fun F0 H0 ev σ F H ds R s he q => ?_⟩
  unfold iEn at he
  split at he
  · rename_i xs h1
    cases he
    refine ra F0 H0 ev σ F H _ _ s h1 fun vs F1 H1 x1 r1 z1 => ?_
    obtain ⟨v, rfl, r0⟩ := (z1 rfl).one
    obtain ⟨l, ws, rfl, e1, rr⟩ := r0.lst_inv
    have s1 := s.up x1
    exact ⟨l, ws, rfl, SqL.of (s1.sub _ _ e1), q _ F1 H1 x1 (by rw [if_pos rfl]; exact walkD_enum e1 rr)⟩
  · cases he
/-- zip(xs, ys), frozen lists -/
def zipD (xs ys : List D) : List D := (xs.zip ys).map fun p => .tup [p.1, p.2]
theorem walkD_zip {l m : Addr} {vs ws : List V} {ds es : List D} {Fb B : Hp} (hB : B l = some (.lst vs)) (hB2 : B m = some (.lst ws)) (r : RepL K Fb vs ds) (r2 : RepL K Fb ws es) : WalkD K (Itz K l m) Fb B (zipD ds es) := by
  have hl := r.len
  have hl2 := r2.len
  have hn : (zipD ds es).length = min vs.length ws.length := by
    unfold zipD
    rw [List.length_map, List.length_zip, hl, hl2]
  have w := walk_zip (K := K) (a := l) (b := m) (xs := vs) (ys := ws) rfl
  refine ⟨fun i H hi s => w.goes i H (by omega) ⟨SqL.of (s _ _ hB), SqL.of (s _ _ hB2)⟩, fun H s => by rw [hn]; exact w.stops H ⟨SqL.of (s _ _ hB), SqL.of (s _ _ hB2)⟩, fun i F H x H' hi sF sH s y => ?_⟩
  obtain ⟨T, x1, y1, rfl, nT, rfl, h1, h2⟩ := w.yields i H x H' (by omega) ⟨SqL.of (s _ _ hB), SqL.of (s _ _ hB2)⟩ y
  obtain ⟨d, hd, rd⟩ := r.getV h1
  obtain ⟨d2, hd2, rd2⟩ := r2.getV h2
  refine ⟨upd F T (.tup [x1, y1]), .tup [d, d2], .alloc sH nT, ?_, .tup upd_same ?_⟩
  · unfold zipD
    rw [List.getElem?_map, List.getElem?_zip_eq_some (z := (d, d2)) |>.mpr ⟨hd, hd2⟩]
    rfl
  · exact .cons ((rd.mono sF).mono (Ext.alloc sH nT).fr) (.cons ((rd2.mono sF).mono (Ext.alloc sH nT).fr) .nil)
def iZp (k : EV → Option (List D)) : EV → Option (List D) := fun ev => match k ev with
  | some [.lst xs, .lst ys] => some (zipD xs ys)
  | _ => none
theorem i_zip {e2 : Expr} {p pos tpos : Pos} {elts : List Expr} {kk : Nat} (hg : Gl X "zip") (hm : X.mg "zip" = none) (ha : AOk X [e, e2] true k)
    (hs : starEach [e, e2] X.env = (false, eval e X.env) :: starEach [e2] X.env := by rfl) (hpl : (backTo pos (starEach [e2] X.env)).any (·.1) = false := by rfl) :
    IOk X (.Tuple elts kk tpos) (.Call (.Name "zip" p) [e, e2] [] pos) true (iZp k) := by
  obtain ⟨t, pa, ra⟩ := ha
  refine ⟨_, pi_zip hg hm pa hs hpl, fun F0 H0 ev σ F H ds R s he q => ?_⟩
  unfold iZp at he
  split at he
  · rename_i xs ys h1
    cases he
    refine ra F0 H0 ev σ F H _ _ s h1 fun vs F1 H1 x1 r1 z1 => ?_
    obtain ⟨v, w, rfl, r0, r0'⟩ := (z1 rfl).two
    obtain ⟨l, ws, rfl, e1, rr⟩ := r0.lst_inv
    obtain ⟨m, us, rfl, e2, rr2⟩ := r0'.lst_inv
    have s1 := s.up x1
    exact ⟨l, m, ws, us, rfl, SqL.of (s1.sub _ _ e1), SqL.of (s1.sub _ _ e2), q _ F1 H1 x1 (by rw [if_pos rfl]; exact walkD_zip e1 e2 rr rr2)⟩
  · cases he

/-! ### targets; ws: the slots that are stored -/
def GRun (K : PySem.W.Frag) (ws : List Nat) (m : D → EV → Option EV) (t : TG) : Prop :=
  ∀ (F0 H0 : Hp) (ev ev' : EV) (σ : L2.St) (F H : Hp) (v : V) (d : D) (Q : L2.St → Hp → Prop), SR K F0 H0 ev σ F H → Rep K F v d → m d ev = some ev' →
    (∀ σ', SR K F0 H0 ev' σ' F H → (∀ vs : List Nat, (∀ i ∈ ws, i ∈ vs) → L2.wipe σ' vs = L2.wipe σ vs) → Q σ' H) → t v σ H Q
def GOk (X : Cx) (tg : Expr) (ws : List Nat) (m : D → EV → Option EV) : Prop := ∃ t, PG X tg t ∧ GRun X.K ws m t
def mName (i : Nat) : D → EV → Option EV := fun d ev => some (ev.set i (.fro d))
theorem wipe_set {σ : L2.St} {i : Nat} {x : Option V} : ∀ {vs : List Nat}, i ∈ vs → L2.wipe (σ.set i x) vs = L2.wipe σ vs
  | [], h => nomatch h
  | v :: vs, h => by
    unfold L2.wipe
    by_cases hv : i ∈ vs
    · rw [wipe_set hv]
    · have e : i = v := by
        rcases List.mem_cons.mp h with e | e
        · exact e
        · exact absurd e hv
      subst e
      have hw : ∀ (us : List Nat), i ∉ us → L2.wipe (σ.set i x) us = (L2.wipe σ us).set i x := by
        intro us
        induction us with
        | nil => intro _; rfl
        | cons u us ih =>
          intro hu
          have h1 : i ≠ u := fun e => hu (by rw [e]; exact List.mem_cons_self)
          have h2 : i ∉ us := fun e => hu (List.mem_cons_of_mem _ e)
          unfold L2.wipe
          rw [ih h2, List.set_comm _ _ h1]
      rw [hw vs hv, List.set_set]
theorem g_name {i : Nat} {x : Str} (hp : PG X (.Name x pos) (gName i)) : GOk X (.Name x pos) [i] (mName i) := by
  refine ⟨_, hp, fun F0 H0 ev ev' σ F H v d Q s r he q => ?_⟩
  cases he
  exact q _ (s.setFro r) fun vs hv => wipe_set (hv i List.mem_cons_self)
def GsRun (K : PySem.W.Frag) (ws : List Nat) (m : List D → EV → Option EV) (t : TGs) : Prop :=
  ∀ (F0 H0 : Hp) (ev ev' : EV) (σ : L2.St) (F H : Hp) (us : List V) (ds : List D) (Q : L2.St → Hp → Prop), SR K F0 H0 ev σ F H → RepL K F us ds → m ds ev = some ev' →
    (∀ σ', SR K F0 H0 ev' σ' F H → (∀ vs : List Nat, (∀ i ∈ ws, i ∈ vs) → L2.wipe σ' vs = L2.wipe σ vs) → Q σ' H) → t us σ H Q
def GsOk (X : Cx) (tgs : List Expr) (n : Nat) (ws : List Nat) (m : List D → EV → Option EV) : Prop := ∃ t, PGs X tgs t ∧ GsRun X.K ws m t ∧ ∀ ds ev ev', m ds ev = some ev' → ds.length = n
def mNil : List D → EV → Option EV
  | [], ev => some ev
  | _ :: _, _ => none
def mCons (m : D → EV → Option EV) (ms : List D → EV → Option EV) : List D → EV → Option EV
  | [], _ => none
  | d :: ds, ev => (m d ev).bind fun ev' => ms ds ev'
theorem gs_nil : GsOk X [] 0 [] mNil := by
  refine ⟨_, pgs_nil, fun F0 H0 ev ev' σ F H us ds Q s r he q => ?_, fun ds ev ev' he => ?_⟩
  · cases ds with
    | nil =>
      cases he
      cases r
      exact ⟨rfl, q σ s fun _ _ => rfl⟩
    | cons _ _ => cases he
  · cases ds with
    | nil => rfl
    | cons _ _ => cases he
theorem gs_cons {n : Nat} {ws1 ws2 : List Nat} {m : D → EV → Option EV} {ms : List D → EV → Option EV} {es : List Expr} (h1 : GOk X e ws1 m) (h2 : GsOk X es n ws2 ms)
    (hs : (assignEach (e :: es) X.env).map (·.2) = assign e X.env :: (assignEach es X.env).map (·.2) := by rfl) : GsOk X (e :: es) (n + 1) (ws1 ++ ws2) (mCons m ms) := by
  obtain ⟨t1, p1, r1⟩ := h1
  obtain ⟨t2, p2, r2, l2⟩ := h2
  refine ⟨_, pgs_cons p1 p2 hs, fun F0 H0 ev ev' σ F H us ds Q s r he q => ?_, fun ds ev ev' he => ?_⟩
  · cases ds with
    | nil => cases he
    | cons d ds =>
      obtain ⟨ev1, g1, g2⟩ := Option.bind_eq_some_iff.mp he
      cases r with
      | cons ra rb =>
        refine ⟨_, _, rfl, r1 F0 H0 ev ev1 σ F H _ d _ s ra g1 fun σ1 s1 w1 => ?_⟩
        refine r2 F0 H0 ev1 ev' σ1 F H _ ds _ s1 rb g2 fun σ2 s2 w2 => ?_
        exact q σ2 s2 fun vs hv => (w2 vs fun i hi => hv i (List.mem_append_right _ hi)).trans (w1 vs fun i hi => hv i (List.mem_append_left _ hi))
  · cases ds with
    | nil => cases he
    | cons d ds =>
      obtain ⟨ev1, g1, g2⟩ := Option.bind_eq_some_iff.mp he
      rw [List.length_cons, l2 ds ev1 ev' g2]
def mTup (ms : List D → EV → Option EV) : D → EV → Option EV
  | .tup ds, ev => ms ds ev
  | _, _ => none
theorem g_tup {es : List Expr} {kk n : Nat} {ws : List Nat} {ms : List D → EV → Option EV} (hc : X.calm = true) (hg : GsOk X es n ws ms)
    (hn : (assignEach es X.env).length = n := by rfl) (hst : (assignEach es X.env).findIdx? (·.1) = none := by rfl) : GOk X (.Tuple es kk pos) ws (mTup ms) := by
  obtain ⟨t, p, r, l⟩ := hg
  refine ⟨_, pg_tup hc p hn hst, fun F0 H0 ev ev' σ F H v d Q s rd he q => ?_⟩
  unfold mTup at he
  split at he
  · obtain ⟨a, vs, rfl, h1, rr⟩ := rd.tup_inv
    exact ⟨a, vs, rfl, SqT.of (s.sub _ _ h1), by rw [rr.len]; exact l _ _ _ he, r F0 H0 ev ev' σ F H vs _ Q s rr he q⟩
  · cases he

/-! ### comprehensions -/
def consO : Option D → List D → List D
  | some y, r => y :: r
  | none, r => r
def compGo (k : D → Option (Option D)) : List D → Option (List D)
  | [] => some []
  | d :: ds => (k d).bind fun o => (compGo k ds).map (consO o)
def kComp (fi : EV → Option (List D)) (m : D → EV → Option EV) (p : EV → Option Bool) (f : EV → Option D) (vs : List Nat) : EV → Option (List D) := fun ev =>
  (fi ev).bind fun ds => if ds.length ≤ 16777216 then compGo (fun d => (m d (evWipe ev vs)).bind fun ev' => (p ev').bind fun b => if b then (f ev').map some else some none) ds else none
def snocO : List D → Option D → List D
  | ys, some y => ys ++ [y]
  | ys, none => ys
theorem compGo_snoc {k : D → Option (Option D)} : ∀ {ds ys : List D} {d : D} {o : Option D}, compGo k ds = some ys → k d = some o → compGo k (ds ++ [d]) = some (snocO ys o)
  | [], ys, d, o, h, h2 => by
    cases h
    show (k d).bind _ = _
    rw [h2]
    cases o <;> rfl
  | x :: ds, ys, d, o, h, h2 => by
    obtain ⟨o', h1, h3⟩ := Option.bind_eq_some_iff.mp h
    obtain ⟨r, h4, h5⟩ := Option.map_eq_some_iff.mp h3
    rw [List.cons_append]
    unfold compGo
    rw [h1, Option.bind_some, compGo_snoc h4 h2]
    subst h5
    cases o' <;> cases o <;> rfl
theorem compGo_some {k : D → Option (Option D)} : ∀ {ds ys : List D} {d : D} {i : Nat}, compGo k ds = some ys → ds[i]? = some d → ∃ o, k d = some o
  | [], _, _, _, _, h => by simp at h
  | x :: ds, ys, d, 0, h, e => by
    obtain ⟨o', h1, h3⟩ := Option.bind_eq_some_iff.mp h
    simp at e
    subst e
    exact ⟨o', h1⟩
  | x :: ds, ys, d, i + 1, h, e => by
    obtain ⟨o', h1, h3⟩ := Option.bind_eq_some_iff.mp h
    obtain ⟨r, h4, h5⟩ := Option.map_eq_some_iff.mp h3
    exact compGo_some h4 (by simpa using e)
variable {ws : List Nat} {m : D → EV → Option EV} {p : EV → Option Bool} {fi : EV → Option (List D)} {ifs : List Expr} {scope : Scope} {own : List (Str × Nat)}
/-- the parts of a comprehension, in its block -/
def Blk (X : Cx) (scope : Scope) (P : Cx → Prop) : Prop := ∀ (s : Shared) (H : Hp) (C : Addr) (cl : List (Str × Addr)) (fp : List Addr), P (X.blk s H scope (compEnvC scope cl C X.env) fp)
def GOkB (X : Cx) (scope : Scope) (tg : Expr) (ws : List Nat) (m : D → EV → Option EV) : Prop := ∃ t, Blk X scope (fun Y => PG Y tg t) ∧ GRun X.K ws m t
def TsOkB (X : Cx) (scope : Scope) (ifs : List Expr) (p : EV → Option Bool) : Prop := ∃ t, Blk X scope (fun Y => PTs Y ifs t) ∧ TRun X.K p t
def EOkB (X : Cx) (scope : Scope) (e : Expr) (fz : Bool) (f : EV → Option D) : Prop := ∃ t, Blk X scope (fun Y => PE Y e t) ∧ ERun X.K fz f t
theorem lc_run {wi : TI} {gt : TG} {tt : TT} {te : TE} {vs : List Nat} (ri : IRun K fz fi wi) (rg : GRun K ws m gt) (rt : TRun K p tt) (re : ERun K true f te) (hws : ∀ i ∈ ws, i ∈ vs) :
    FRun K (kComp fi m p f vs) (tLc wi gt tt te vs) := by
  intro F0 H0 ev σ F H xs Q s he q
  obtain ⟨ds, h1, he⟩ := Option.bind_eq_some_iff.mp he
  have hlen : ds.length ≤ 16777216 := by
    by_cases hl : ds.length ≤ 16777216
    · exact hl
    · rw [if_neg hl] at he
      cases he
  rw [if_pos hlen] at he
  refine ri F0 H0 ev σ F H ds _ s h1 fun J F1 H1 x1 w => ?_
  intro Dl nD
  have s1 := s.up x1
  refine ⟨fun i m' H' => m' = ds.length - i ∧ i ≤ ds.length ∧ ∃ F' acc ys, Ext F1 H1 F' H' ∧ H' Dl = some (.lst acc) ∧ F' Dl = none ∧ compGo (fun d => (m d (evWipe ev vs)).bind fun ev' => (p ev').bind fun b => if b then (f ev').map some else some none) (ds.take i) = some ys ∧ ys.length ≤ i ∧ RepL K F' acc ys,
    ⟨ds.length, by omega, Nat.zero_le _, F1, [], [], .allocH s1.sub nD, upd_same, s1.sub.free nD, rfl, Nat.le_refl _, .nil⟩, ?_⟩
  rintro i m' H' ⟨rfl, hi, F', acc, ys, x2, hD, hF, hy, hyl, ra⟩
  have hB : Same (if fz = true then F1 else H1) H' := by
    split
    · exact x2.fr.trans x2.sub
    · exact x2.keep
  by_cases hlt : i < ds.length
  · refine .inr ⟨w.go i H' hlt hB, fun H2 => ∃ F2 acc ys, Ext F1 H1 F2 H2 ∧ H2 Dl = some (.lst acc) ∧ F2 Dl = none ∧ compGo (fun d => (m d (evWipe ev vs)).bind fun ev' => (p ev').bind fun b => if b then (f ev').map some else some none) (ds.take (i + 1)) = some ys ∧ ys.length ≤ i + 1 ∧ RepL K F2 acc ys,
      fun H2 h2 => ⟨ds.length - (i + 1), by omega, rfl, hlt, h2⟩, fun x H2 hx => ?_⟩
    obtain ⟨F2, d, x3, hd, rd⟩ := w.yld i F' H' x H2 hlt x2.fr x2.sub hB hx
    obtain ⟨o, ho⟩ := compGo_some he hd
    have hk := ho
    have htk : ds.take (i + 1) = ds.take i ++ [d] := by
      rw [List.take_add_one, hd]
      rfl
    have hnew := compGo_snoc hy ho
    obtain ⟨ev', g1, ho⟩ := Option.bind_eq_some_iff.mp ho
    obtain ⟨b, g2, ho⟩ := Option.bind_eq_some_iff.mp ho
    have s2 : SR K F0 H0 (evWipe ev vs) (L2.wipe σ vs) F2 H2 := (s1.wipe vs).up (x2.trans x3)
    refine rg F0 H0 _ ev' _ F2 H2 x d _ s2 rd g1 fun σ2 s3 hw => ⟨?_, ?_⟩
    · rw [hw vs hws]
      have ww : ∀ (σ : L2.St) (vs : List Nat), L2.wipe (L2.wipe σ vs) vs = L2.wipe σ vs := by
        intro σ vs
        have aux : ∀ (us : List Nat), (∀ u ∈ us, u ∈ vs) → L2.wipe (L2.wipe σ us) vs = L2.wipe σ vs := by
          intro us
          induction us with
          | nil => intro _; rfl
          | cons u us ih =>
            intro hu
            show L2.wipe ((L2.wipe σ us).set u none) vs = L2.wipe σ vs
            rw [wipe_set (hu u List.mem_cons_self)]
            exact ih fun z hz => hu z (List.mem_cons_of_mem _ hz)
        exact aux vs fun _ h => h
      exact ww σ vs
    · refine rt F0 H0 ev' σ2 F2 H2 b _ s3 g2 fun F3 H3 x4 => ?_
      cases b with
      | true =>
        rw [if_pos rfl] at ho ⊢
        obtain ⟨y, g3, rfl⟩ := Option.map_eq_some_iff.mp ho
        refine re F0 H0 ev' σ2 F3 H3 y _ (s3.up x4) g3 fun v F4 H4 x5 r5 z5 => ?_
        have xx := (x3.trans x4).trans x5
        have hD4 : H4 Dl = some (.lst acc) := xx.keep _ _ hD
        have hF4 : F4 Dl = none := by
          rcases xx.new Dl with z | z
          · exact z.trans hF
          · rw [z] at hD
            cases hD
        refine ⟨acc, hD4, ?_, F4, acc ++ [v], ys ++ [y], ?_, upd_same, hF4, ?_, ?_, ?_⟩
        · rw [ra.len, sizeLine_eq]
          omega
        · have x6 := x2.trans xx
          refine ⟨x6.fr, fun b' o' e => ?_, fun b' o' e => ?_, x6.new⟩
          · rw [upd_ne (ne_of_none e hF4)]
            exact x6.sub _ _ e
          · rw [upd_ne (ne_of_none e nD)]
            exact x6.keep _ _ e
        · rw [htk]
          exact hnew
        · rw [List.length_append]
          show ys.length + 1 ≤ i + 1
          omega
        · exact (ra.mono xx.fr).append (.cons (z5 rfl) .nil)
      | false =>
        rw [if_neg (by decide)] at ho ⊢
        cases ho
        have xx := x3.trans x4
        refine ⟨F3, acc, ys, x2.trans xx, xx.keep _ _ hD, ?_, ?_, by omega, ra.mono xx.fr⟩
        · rcases xx.new Dl with z | z
          · exact z.trans hF
          · rw [z] at hD
            cases hD
        · rw [htk]
          exact hnew
  · have hi' : i = ds.length := by omega
    subst hi'
    rw [List.take_length, he] at hy
    cases hy
    exact .inl ⟨w.stop H' hB, q Dl acc F' H' (x1.trans x2) (x1.keep.free nD) hF hD ra⟩
theorem f_lc (hc : X.calm = true) (hN : X.N.Nodup) (hi : IOk X tg iter fz fi) (ok : blkC X.N X.env.scope scope own = true) (hg : GOkB X scope tg ws m) (ht : TsOkB X scope ifs p) (he : EOkB X scope elt true f)
    (hw : ∀ i ∈ ws, i ∈ own.map (·.2) := by decide) (hs : ∀ x, foldedSetIterable iter X.env x = pure x := by intro _; rfl) : FOk X (.ListComp elt [⟨tg, iter, ifs, 0⟩] scope pos) (kComp fi m p f (own.map (·.2))) := by
  obtain ⟨wi, pi, ri⟩ := hi
  obtain ⟨gt, pg, rg⟩ := hg
  obtain ⟨tt, pt, rt⟩ := ht
  obtain ⟨te, pe, re⟩ := he
  exact ⟨_, pe_lc (own := own) hc hN pi (blkOk_by ok) pg pt pe hs, lc_run ri rg rt re hw⟩

/-! ### statements -/
variable {st : Stmt} {sts rest : List Stmt} {u v : EV → Option Fl}
theorem SRun.of {t : TS} {w : EV → Option Fl} (h : SRun K u t) (hw : ∀ ev r, w ev = some r → u ev = some r) : SRun K w t := fun F0 H0 ev σ F H E r s he => h F0 H0 ev σ F H E r s (hw ev r he)
def sNx : EV → Option Fl := fun ev => some (.nx ev)
theorem b_nil : BOk X [] sNx := ⟨_, pss_nil, fun F0 H0 ev σ F H E r s he q => by
  cases he
  exact q σ F H s⟩
def sSeq (u v : EV → Option Fl) : EV → Option Fl := fun ev => (u ev).bind fun r => match r with
  | .nx e => v e
  | r => some r
theorem run_seq {t t' : TS} (h1 : SRun K u t) (h2 : SRun K v t') : SRun K (sSeq u v) (tSeq t t') := by
  intro F0 H0 ev σ F H E r s he q
  obtain ⟨r1, g1, g2⟩ := Option.bind_eq_some_iff.mp he
  refine h1 F0 H0 ev σ F H _ r1 s g1 ?_
  cases r1 with
  | nx e =>
    intro σ1 F1 H1 s1
    exact h2 F0 H0 e σ1 F1 H1 E r s1 g2 q
  | rt d => cases g2; exact q
  | bk e => cases g2; exact q
  | ct e => cases g2; exact q
theorem b_cons (h1 : SOk X st u) (h2 : BOk X rest v) : BOk X (st :: rest) (sSeq u v) := by
  obtain ⟨t1, p1, r1⟩ := h1
  obtain ⟨t2, p2, r2⟩ := h2
  exact ⟨_, pss_cons p1 p2, run_seq r1 r2⟩
theorem b_one (h : SOk X st u) : BOk X [st] u := by
  obtain ⟨t, p, r⟩ := h
  exact ⟨_, pss_one p, r⟩
/-- an own list is frozen ahead of a block -/
def sFrz (i : Nat) (u : EV → Option Fl) : EV → Option Fl := fun ev => u (evFrz ev i)
theorem run_frz {t : TS} {i : Nat} (h : SRun K u t) : SRun K (sFrz i u) t := by
  intro F0 H0 ev σ F H E r s he q
  obtain ⟨F', _, s'⟩ := s.frz i
  exact h F0 H0 _ σ F' H E r s' he q
theorem b_frz (i : Nat) (h : BOk X sts u) : BOk X sts (sFrz i u) := by
  obtain ⟨t, p, r⟩ := h
  exact ⟨t, p, run_frz r⟩
theorem s_frz (i : Nat) (h : SOk X st u) : SOk X st (sFrz i u) := by
  obtain ⟨t, p, r⟩ := h
  exact ⟨t, p, run_frz r⟩
/-- code that is never come to -/
def sNo : EV → Option Fl := fun _ => none
theorem s_never : SOk X st sNo := ⟨_, ps_never, fun F0 H0 ev σ F H E r s he q => nomatch he⟩
theorem s_pass : SOk X (.Pass pos) sNx := ⟨_, ps_pass, fun F0 H0 ev σ F H E r s he q => by
  cases he
  exact q σ F H s⟩
def sBk : EV → Option Fl := fun ev => some (.bk ev)
theorem s_break : SOk X (.Break pos) sBk := ⟨_, ps_break, fun F0 H0 ev σ F H E r s he q => by
  cases he
  exact q σ F H s⟩
def sCt : EV → Option Fl := fun ev => some (.ct ev)
theorem s_continue : SOk X (.Continue pos) sCt := ⟨_, ps_continue, fun F0 H0 ev σ F H E r s he q => by
  cases he
  exact q σ F H s⟩
def sRet (f : EV → Option D) : EV → Option Fl := fun ev => (f ev).map .rt
theorem s_ret (h : EOk X e true f) : SOk X (.Return (some e) pos) (sRet f) := by
  obtain ⟨t, p, r⟩ := h
  refine ⟨_, ps_ret p, fun F0 H0 ev σ F H E r' s he q => ?_⟩
  obtain ⟨d, h1, rfl⟩ := Option.map_eq_some_iff.mp he
  refine r F0 H0 ev σ F H d _ s h1 fun v F1 H1 x1 r1 z1 => ?_
  exact q v F1 H1 (s.up x1).ext (z1 rfl)
theorem s_retN : SOk X (.Return none pos) (fun _ => some (.rt .non)) := ⟨_, ps_retN, fun F0 H0 ev σ F H E r s he q => by
  cases he
  exact q .non F H s.ext .non⟩
end
end Z


set_option maxRecDepth 100000
set_option maxHeartbeats 4000000
/-! Z5: statements, loops, defs. -/
namespace Z
open PySem PySem.Spec PyProof.Rows L2
section
variable {X : Cx} {a b c e tg iter elt : Expr} {fz fa fb fc : Bool} {f g h : EV → Option D} {pos : Pos} {K : PySem.W.Frag}
variable {st : Stmt} {sts rest : List Stmt} {u v : EV → Option Fl} {k : EV → Option (List D)}

/-! ### within a comprehension's block -/
def tE (K : PySem.W.Frag) (fz : Bool) (f : EV → Option D) : TE := fun σ H Q => ∃ F0 H0 ev F d, SR K F0 H0 ev σ F H ∧ f ev = some d ∧ ∀ v F' H', Ext F H F' H' → Rep K H' v d → (fz = true → Rep K F' v d) → Q v H'
theorem eB {scope : Scope} (q : ∀ (s : Shared) (H : Hp) (C : Addr) (cl : List (Str × Addr)) (fp : List Addr), EOk (X.blk s H scope (compEnvC scope cl C X.env) fp) e fz f) : EOkB X scope e fz f := by
  refine ⟨tE X.K fz f, fun s H C cl fp => ?_, fun F0 H0 ev σ F H d Q s he q => ⟨F0, H0, ev, F, d, s, he, q⟩⟩
  obtain ⟨t, p, r⟩ := q s H C cl fp
  exact ⟨fun pins s' σ H' Q I ⟨F0, H0, ev, F, d, s, he, q⟩ => p.run pins s' σ H' Q I (r F0 H0 ev σ F H' d Q s he q)⟩
def tT (K : PySem.W.Frag) (f : EV → Option Bool) : TT := fun σ H Q => ∃ F0 H0 ev F d, SR K F0 H0 ev σ F H ∧ f ev = some d ∧ ∀ F' H', Ext F H F' H' → Q d H'
theorem tsB {scope : Scope} {ifs : List Expr} {p : EV → Option Bool} (q : ∀ (s : Shared) (H : Hp) (C : Addr) (cl : List (Str × Addr)) (fp : List Addr), TsOk (X.blk s H scope (compEnvC scope cl C X.env) fp) ifs p) : TsOkB X scope ifs p := by
  refine ⟨tT X.K p, fun s H C cl fp => ?_, fun F0 H0 ev σ F H d Q s he q => ⟨F0, H0, ev, F, d, s, he, q⟩⟩
  obtain ⟨t, p, r⟩ := q s H C cl fp
  exact ⟨fun pins s' σ H' Q I ⟨F0, H0, ev, F, d, s, he, q⟩ => p.run pins s' σ H' Q I (r F0 H0 ev σ F H' d Q s he q)⟩
def tG (K : PySem.W.Frag) (ws : List Nat) (m : D → EV → Option EV) : TG := fun v σ H Q => ∃ F0 H0 ev ev' F d, SR K F0 H0 ev σ F H ∧ Rep K F v d ∧ m d ev = some ev' ∧
  ∀ σ', SR K F0 H0 ev' σ' F H → (∀ vs : List Nat, (∀ i ∈ ws, i ∈ vs) → L2.wipe σ' vs = L2.wipe σ vs) → Q σ' H
theorem gB {scope : Scope} {ws : List Nat} {m : D → EV → Option EV} (q : ∀ (s : Shared) (H : Hp) (C : Addr) (cl : List (Str × Addr)) (fp : List Addr), GOk (X.blk s H scope (compEnvC scope cl C X.env) fp) tg ws m) : GOkB X scope tg ws m := by
  refine ⟨tG X.K ws m, fun s H C cl fp => ?_, fun F0 H0 ev ev' σ F H v d Q s r he q => ⟨F0, H0, ev, ev', F, d, s, r, he, q⟩⟩
  obtain ⟨t, p, r⟩ := q s H C cl fp
  exact ⟨fun pins s' σ H' v u Q I rv ⟨F0, H0, ev, ev', F, d, s, rd, he, q⟩ => p.run pins s' σ H' v u Q I rv (r F0 H0 ev ev' σ F H' v d Q s rd he q)⟩

/-! ### what is stored: frozen data, or an own list -/
def LRep (K : PySem.W.Frag) (F' H' H : Hp) (v : V) : L → Prop
  | .un => False
  | .fro d => Rep K F' v d
  | .own xs => ∃ a vs, v = .ref a ∧ H a = none ∧ F' a = none ∧ H' a = some (.lst vs) ∧ RepL K F' vs xs
def RRun (K : PySem.W.Frag) (f : EV → Option L) (t : TE) : Prop :=
  ∀ (F0 H0 : Hp) (ev : EV) (σ : L2.St) (F H : Hp) (l : L) (Q : VK), SR K F0 H0 ev σ F H → f ev = some l → (∀ v F' H', Ext F H F' H' → LRep K F' H' H v l → Q v H') → t σ H Q
def ROk (X : Cx) (e : Expr) (f : EV → Option L) : Prop := ∃ t, PE X e t ∧ RRun X.K f t
def lF (f : EV → Option D) : EV → Option L := fun ev => (f ev).map .fro
def lO (k : EV → Option (List D)) : EV → Option L := fun ev => (k ev).map .own
theorem rrun_e {t : TE} (r : ERun K true f t) : RRun K (lF f) t := by
  intro F0 H0 ev σ F H l Q s he q
  obtain ⟨d, h1, rfl⟩ := Option.map_eq_some_iff.mp he
  exact r F0 H0 ev σ F H d Q s h1 fun v F' H' x _ z => q v F' H' x (z rfl)
theorem rrun_f {t : TE} (r : FRun K k t) : RRun K (lO k) t := by
  intro F0 H0 ev σ F H l Q s he q
  obtain ⟨d, h1, rfl⟩ := Option.map_eq_some_iff.mp he
  exact r F0 H0 ev σ F H d Q s h1 fun l vs F' H' x n1 n2 e rr => q _ F' H' x ⟨l, vs, rfl, n1, n2, e, rr⟩
theorem r_e (h : EOk X e true f) : ROk X e (lF f) := by
  obtain ⟨t, p, r⟩ := h
  exact ⟨t, p, rrun_e r⟩
theorem r_f (h : FOk X e k) : ROk X e (lO k) := by
  obtain ⟨t, p, r⟩ := h
  exact ⟨t, p, rrun_f r⟩
theorem SR.setL {F0 H0 F H F' H' : Hp} {ev : EV} {σ : L2.St} {i : Nat} {l : L} {v : V} (s : SR K F0 H0 ev σ F H) (x : Ext F H F' H') (r : LRep K F' H' H v l) : SR K F0 H0 (ev.set i l) (σ.set i (some v)) F' H' := by
  cases l with
  | un => exact r.elim
  | fro d => exact (s.up x).setFro r
  | own xs =>
    obtain ⟨a, vs, rfl, n1, n2, e, rr⟩ := r
    refine (s.up x).setOwn e n2 (s.ext.keep.free n1) rr fun j ys _ hj hσ => ?_
    obtain ⟨b, ws, g1, g2, _⟩ := s.own j ys hj
    rw [hσ] at g1
    cases g1
    rw [n1] at g2
    cases g2
def sSetL (i : Nat) (f : EV → Option L) : EV → Option Fl := fun ev => (f ev).map fun l => .nx (ev.set i l)
theorem run_setL {i : Nat} {f : EV → Option L} {t : TE} (r : RRun K f t) : SRun K (sSetL i f) (tAsg t (gName i)) := by
  intro F0 H0 ev σ F H E r' s he q
  obtain ⟨l, h1, rfl⟩ := Option.map_eq_some_iff.mp he
  exact r F0 H0 ev σ F H l _ s h1 fun v F' H' x rl => q _ F' H' (s.setL x rl)
/-- name = e -/
theorem s_set {i : Nat} {x : Str} {pos' : Pos} {f : EV → Option L} (hN : X.N.Nodup) (hi : X.N[i]? = some x) (hx : Loc X.env.scope x) (he : ROk X e f) (hs : swapsWith e (some (.Name x pos')) pos.line X.env = pure false := by rfl)
    (hf : X.fn x = true ∨ X.env.scope.names.lookup x = some .local := by first | exact .inl rfl | exact .inr rfl | assumption) : SOk X (.Assign [.Name x pos'] e pos) (sSetL i f) := by
  obtain ⟨t, p, r⟩ := he
  exact ⟨_, ps_set hN hi hx p hs hf, run_setL r⟩
/-- name = [.. for ..], stored within -/
theorem s_setLc {i : Nat} {y : Str} {py spos : Pos} {ws : List Nat} {m : D → EV → Option EV} {p : EV → Option Bool} {fi : EV → Option (List D)} {ifs : List Expr} {scope : Scope} {own : List (Str × Nat)}
    (hc : X.calm = true) (hN : X.N.Nodup) (hy : X.N[i]? = some y) (hyl : X.env.scope.names.lookup y = some .local) (hsw : swapsWith (.ListComp elt [⟨tg, iter, ifs, 0⟩] scope pos) (some (.Name y py)) spos.line X.env = pure true)
    (hi : IOk X tg iter fz fi) (ok : blkC X.N X.env.scope scope own = true) (hg : GOkB X scope tg ws m) (ht : TsOkB X scope ifs p) (he : EOkB X scope elt true f) (hw : ∀ i ∈ ws, i ∈ own.map (·.2) := by decide)
    (hs : ∀ x, foldedSetIterable iter X.env x = pure x := by intro _; rfl) {l : EV → Option L} (hl : ∀ t, FRun X.K (kComp fi m p f (own.map (·.2))) t → RRun X.K l t) : SOk X (.Assign [.Name y py] (.ListComp elt [⟨tg, iter, ifs, 0⟩] scope pos) spos) (sSetL i l) := by
  obtain ⟨wi, pi, ri⟩ := hi
  obtain ⟨gt, pg, rg⟩ := hg
  obtain ⟨tt, pt, rt⟩ := ht
  obtain ⟨te, pe, re⟩ := he
  exact ⟨_, ps_setLc (own := own) hc hN hy hyl hsw pi (blkOk_by ok) pg pt pe hs, run_setL (hl _ (lc_run ri rg rt re hw))⟩
theorem lc_own (t : TE) (h : FRun K k t) : RRun K (lO k) t := rrun_f h
theorem lc_fro (t : TE) (h : FRun K k t) : RRun K (lF (cLst k)) t := rrun_e (frun_e h)
/-- a, b = x, y, both plain locals -/
def sPar (i j : Nat) (f g : EV → Option L) : EV → Option Fl := fun ev => (f ev).bind fun l => (g ev).map fun m => .nx ((ev.set i l).set j m)
theorem LRep.up {F' H' H F2 H2 : Hp} {v : V} {l : L} (r : LRep K F' H' H v l) (x : Ext F' H' F2 H2) : LRep K F2 H2 H v l := by
  cases l with
  | un => exact r
  | fro d => exact Rep.mono x.fr r
  | own xs =>
    obtain ⟨a, vs, rfl, n1, n2, e, rr⟩ := r
    refine ⟨a, vs, rfl, n1, ?_, x.keep _ _ e, rr.mono x.fr⟩
    rcases x.new a with z | z
    · exact z.trans n2
    · rw [z] at e
      cases e
theorem SR.setL2 {F0 H0 F H F1 H1 F2 H2 : Hp} {ev : EV} {σ : L2.St} {i j : Nat} {l m : L} {v w : V} (s : SR K F0 H0 ev σ F H) (x1 : Ext F H F1 H1) (r1 : LRep K F1 H1 H v l) (x2 : Ext F1 H1 F2 H2) (r2 : LRep K F2 H2 H1 w m) :
    SR K F0 H0 ((ev.set i l).set j m) ((σ.set i (some v)).set j (some w)) F2 H2 := (s.setL x1 r1).setL x2 r2
theorem s_par {i j : Nat} {x y : Str} {px py pt : Pos} {kt k2 pt2} {f g : EV → Option L} (hc : X.calm = true) (hN : X.N.Nodup) (hi : X.N[i]? = some x) (hj : X.N[j]? = some y) (hij : i ≠ j)
    (hx : X.env.scope.names.lookup x = some .local) (hy : X.env.scope.names.lookup y = some .local) (ha : ROk X a f) (hb : ROk X b g)
    (hw : swappedStores [.Tuple [.Name x px, .Name y py] kt pt] (.Tuple [a, b] k2 pt2) X.env = pure (some [x, y]))
    (hs : swapsWithSole [.Tuple [.Name x px, .Name y py] kt pt] (.Tuple [a, b] k2 pt2) pos.line X.env = pure false := by rfl)
    (h1 : starEach [a, b] X.env = (false, eval a X.env) :: starEach [b] X.env := by rfl) (h2 : starEach [b] X.env = (false, eval b X.env) :: starEach [] X.env := by rfl) :
    SOk X (.Assign [.Tuple [.Name x px, .Name y py] kt pt] (.Tuple [a, b] k2 pt2) pos) (sPar i j f g) := by
  obtain ⟨ta, pa, ra⟩ := ha
  obtain ⟨tb, pb, rb⟩ := hb
  refine ⟨_, ps_par hc hN hi hj hij hx hy (pa_cons pa (pa_cons pb pa_nil h2) h1) hw hs, fun F0 H0 ev σ F H E r s he q => ?_⟩
  obtain ⟨l, g1, he⟩ := Option.bind_eq_some_iff.mp he
  obtain ⟨m, g2, rfl⟩ := Option.map_eq_some_iff.mp he
  refine ra F0 H0 ev σ F H l _ s g1 fun v F1 H1 x1 r1 => ?_
  refine rb F0 H0 ev σ F1 H1 m _ (s.up x1) g2 fun w F2 H2 x2 r2 => ?_
  exact ⟨v, w, rfl, q _ F2 H2 (s.setL2 x1 r1 x2 r2)⟩
def sPar3 (i j o : Nat) (f g h : EV → Option L) : EV → Option Fl := fun ev => (f ev).bind fun l => (g ev).bind fun m => (h ev).map fun n => .nx (((ev.set i l).set j m).set o n)
theorem s_par3 {i j o : Nat} {x y z : Str} {px py pz pt : Pos} {kt k2 pt2} {f g h : EV → Option L} (hc : X.calm = true) (hN : X.N.Nodup) (hi : X.N[i]? = some x) (hj : X.N[j]? = some y) (ho : X.N[o]? = some z) (hij : i ≠ j) (hio : i ≠ o) (hjo : j ≠ o)
    (ha : ROk X a f) (hb : ROk X b g) (hd : ROk X c h)
    (hp : ∀ ta, PA X [a, b, c] ta → PS X (.Assign [.Tuple [.Name x px, .Name y py, .Name z pz] kt pt] (.Tuple [a, b, c] k2 pt2) pos) (tPar3 i j o ta))
    (h1 : starEach [a, b, c] X.env = (false, eval a X.env) :: starEach [b, c] X.env := by rfl) (h2 : starEach [b, c] X.env = (false, eval b X.env) :: starEach [c] X.env := by rfl) (h3 : starEach [c] X.env = (false, eval c X.env) :: starEach [] X.env := by rfl) :
    SOk X (.Assign [.Tuple [.Name x px, .Name y py, .Name z pz] kt pt] (.Tuple [a, b, c] k2 pt2) pos) (sPar3 i j o f g h) := by
  obtain ⟨ta, pa, ra⟩ := ha
  obtain ⟨tb, pb, rb⟩ := hb
  obtain ⟨tc, pc, rc⟩ := hd
  refine ⟨_, hp _ (pa_cons pa (pa_cons pb (pa_cons pc pa_nil h3) h2) h1), fun F0 H0 ev σ F H E r s he q => ?_⟩
  obtain ⟨l, g1, he⟩ := Option.bind_eq_some_iff.mp he
  obtain ⟨m, g2, he⟩ := Option.bind_eq_some_iff.mp he
  obtain ⟨n, g3, rfl⟩ := Option.map_eq_some_iff.mp he
  refine ra F0 H0 ev σ F H l _ s g1 fun v F1 H1 x1 r1 => ?_
  refine rb F0 H0 ev σ F1 H1 m _ (s.up x1) g2 fun w F2 H2 x2 r2 => ?_
  refine rc F0 H0 ev σ F2 H2 n _ ((s.up x1).up x2) g3 fun w' F3 H3 x3 r3 => ?_
  exact ⟨v, w, w', rfl, q _ F3 H3 (((s.setL x1 r1).setL x2 r2).setL x3 r3)⟩
/-- a target's tuple = e -/
def sAsg (f : EV → Option D) (m : D → EV → Option EV) : EV → Option Fl := fun ev => (f ev).bind fun d => (m d ev).map .nx
theorem s_asg {ws : List Nat} {m : D → EV → Option EV} (he : EOk X e true f) (hg : GOk X tg ws m) (hs : swapsWithSole [tg] e pos.line X.env = pure false := by rfl) (hw : swappedStores [tg] e X.env = pure none := by rfl)
    (h1 : (assignEach [tg] X.env).map (·.2) = [assign tg X.env] := by rfl) : SOk X (.Assign [tg] e pos) (sAsg f m) := by
  obtain ⟨te, pe, re⟩ := he
  obtain ⟨gt, pg, rg⟩ := hg
  refine ⟨_, ps_asg pe pg hs hw h1, fun F0 H0 ev σ F H E r s he q => ?_⟩
  obtain ⟨d, g1, he⟩ := Option.bind_eq_some_iff.mp he
  obtain ⟨ev', g2, rfl⟩ := Option.map_eq_some_iff.mp he
  refine re F0 H0 ev σ F H d _ s g1 fun v F1 H1 x1 _ z1 => ?_
  exact rg F0 H0 ev ev' σ F1 H1 v d _ (s.up x1) (z1 rfl) g2 fun σ' s' _ => q σ' F1 H1 s'

/-! ### own lists changed -/
def sApp (i : Nat) (f : EV → Option D) : EV → Option Fl := fun ev => match ev[i]? with
  | some (.own xs) => if xs.length < 16777216 then (f ev).map fun d => .nx (ev.set i (.own (xs ++ [d]))) else none
  | _ => none
theorem s_app {i : Nat} {x : Str} {p apos cpos epos : Pos} (hp : PE X (.Name x p) (tVar i)) (he : EOk X e true f)
    (hbase : attributeBase (.Name x p) "append" X.env (eval (.Name x p) X.env) = eval (.Name x p) X.env := by rfl)
    (hfew : ((backTo cpos (starEach [e] X.env)).all (fun x => !x.1) && (backToKw cpos (keywordEach [] X.env)).all (fun x => x.1.isSome)
      && decide (([e] : List Expr).length + ([] : List Keyword).length + (if ([] : List Keyword).isEmpty then 0 else 1) < 30)) = true := by rfl)
    (hline : (apos.endLine == cpos.line) = true := by rfl) (h1 : starEach [e] X.env = (false, eval e X.env) :: starEach [] X.env := by rfl) (hplain : (backTo cpos (starEach [] X.env)).any (·.1) = false := by rfl)
    (hs : swapsWith (.Call (.Attribute (.Name x p) "append" apos) [e] [] cpos) none epos.line X.env = pure false := by rfl) :
    SOk X (.Expr (.Call (.Attribute (.Name x p) "append" apos) [e] [] cpos) epos) (sApp i f) := by
  obtain ⟨te, pe, re⟩ := he
  refine ⟨_, ps_expr (pe_bm PySem.F.plainAttrs_list PySem.F.slot_list_append PySem.F.type_list_append mt_append hp (pa_cons pe pa_nil h1) hbase hfew hline h1 hplain) hs, fun F0 H0 ev σ F H E r s he q => ?_⟩
  unfold sApp at he
  split at he
  · rename_i xs h
    have hlen : xs.length < 16777216 := by
      by_cases hl : xs.length < 16777216
      · exact hl
      · rw [if_neg hl] at he
        cases he
    rw [if_pos hlen] at he
    obtain ⟨d, g1, rfl⟩ := Option.map_eq_some_iff.mp he
    obtain ⟨l, vs, h2, h3, h4, h5, h6⟩ := s.own i _ h
    refine ⟨.ref l, h2, .inl ⟨rfl, _, SqL.of h3⟩, re F0 H0 ev σ F H d _ s g1 fun v F1 H1 x1 r1 z1 => ?_⟩
    refine ⟨l, vs, v, rfl, rfl, x1.keep _ _ h3, by rw [h6.len, sizeLine_eq]; exact hlen, ?_⟩
    exact q σ F1 _ ((s.up x1).mut h h2 (x1.keep _ _ h3) ((h6.mono x1.fr).append (.cons (z1 rfl) .nil)))
  · cases he
def sExt (i : Nat) (f : EV → Option D) : EV → Option Fl := fun ev => match ev[i]?, f ev with
  | some (.own xs), some (.lst ys) => if xs.length + ys.length ≤ 16777216 then some (.nx (ev.set i (.own (xs ++ ys)))) else none
  | _, _ => none
theorem s_ext {i : Nat} {x : Str} {p apos cpos epos : Pos} (hp : PE X (.Name x p) (tVar i)) (he : EOk X e true f)
    (hbase : attributeBase (.Name x p) "extend" X.env (eval (.Name x p) X.env) = eval (.Name x p) X.env := by rfl)
    (hfew : ((backTo cpos (starEach [e] X.env)).all (fun x => !x.1) && (backToKw cpos (keywordEach [] X.env)).all (fun x => x.1.isSome)
      && decide (([e] : List Expr).length + ([] : List Keyword).length + (if ([] : List Keyword).isEmpty then 0 else 1) < 30)) = true := by rfl)
    (hline : (apos.endLine == cpos.line) = true := by rfl) (h1 : starEach [e] X.env = (false, eval e X.env) :: starEach [] X.env := by rfl) (hplain : (backTo cpos (starEach [] X.env)).any (·.1) = false := by rfl)
    (hs : swapsWith (.Call (.Attribute (.Name x p) "extend" apos) [e] [] cpos) none epos.line X.env = pure false := by rfl) :
    SOk X (.Expr (.Call (.Attribute (.Name x p) "extend" apos) [e] [] cpos) epos) (sExt i f) := by
  obtain ⟨te, pe, re⟩ := he
  refine ⟨_, ps_expr (pe_bm PySem.F.plainAttrs_list PySem.F.slot_list_extend PySem.F.type_list_extend mt_extend hp (pa_cons pe pa_nil h1) hbase hfew hline h1 hplain) hs, fun F0 H0 ev σ F H E r s he q => ?_⟩
  unfold sExt at he
  split at he
  · rename_i xs ys h g1
    obtain ⟨hlen, rfl⟩ := of_ite he
    obtain ⟨l, vs, h2, h3, h4, h5, h6⟩ := s.own i _ h
    refine ⟨.ref l, h2, .inl ⟨rfl, _, SqL.of h3⟩, re F0 H0 ev σ F H _ _ s g1 fun v F1 H1 x1 r1 z1 => ?_⟩
    obtain ⟨b, ws, rfl, e1, rr⟩ := (z1 rfl).lst_inv
    have s1 := s.up x1
    refine ⟨l, b, vs, ws, rfl, rfl, x1.keep _ _ h3, s1.sub _ _ e1, by rw [h6.len, rr.len, sizeLine_eq]; exact hlen, ?_⟩
    exact q σ F1 _ (s1.mut h h2 (x1.keep _ _ h3) ((h6.mono x1.fr).append rr))
  · cases he
def sSub (i : Nat) (g f : EV → Option D) : EV → Option Fl := fun ev => match ev[i]?, g ev, f ev with
  | some (.own xs), some (.int n), some d => (ixN xs.length n).map fun j => .nx (ev.set i (.own (xs.set j d)))
  | _, _, _ => none
theorem s_sub {i : Nat} {x : Str} {p tpos : Pos} (hp : PE X (.Name x p) (tVar i)) (hg : EOk X a fa g) (he : EOk X e true f)
    (ha : ∀ v, assign (.Subscript (.Name x p) a tpos) X.env v = (do
      let ov ← holding [v] (eval (.Name x p) X.env)
      let iv ← holding [v, ov] (eval a X.env)
      standAt tpos
      holding [v, ov, iv] (setItem ov iv v)
      release [v, ov, iv] []) := by intro _; rfl)
    (hs : swapsWithSole [.Subscript (.Name x p) a tpos] e pos.line X.env = pure false := by rfl) (hw : swappedStores [.Subscript (.Name x p) a tpos] e X.env = pure none := by rfl)
    (h1 : (assignEach [.Subscript (.Name x p) a tpos] X.env).map (·.2) = [assign (.Subscript (.Name x p) a tpos) X.env] := by rfl) : SOk X (.Assign [.Subscript (.Name x p) a tpos] e pos) (sSub i g f) := by
  obtain ⟨tg, pg, rg⟩ := hg
  obtain ⟨te, pe, re⟩ := he
  refine ⟨_, ps_asg pe (pg_sub hp pg set_list ha) hs hw h1, fun F0 H0 ev σ F H E r s he q => ?_⟩
  unfold sSub at he
  split at he
  · rename_i xs n d h g1 g2
    obtain ⟨j, hj, rfl⟩ := Option.map_eq_some_iff.mp he
    obtain ⟨l, vs, h2, h3, h4, h5, h6⟩ := s.own i _ h
    refine re F0 H0 ev σ F H d _ s g2 fun v F1 H1 x1 r1 z1 => ?_
    refine ⟨.ref l, h2, rg F0 H0 ev σ F1 H1 _ _ (s.up x1) g1 fun w F2 H2 x2 r2 z2 => ?_⟩
    cases r2
    have x := x1.trans x2
    refine ⟨l, vs, n, j, rfl, rfl, x.keep _ _ h3, by rw [h6.len]; exact hj, ?_⟩
    exact q σ F2 _ ((s.up x).mut h h2 (x.keep _ _ h3) (RepL.set ((z1 rfl).mono x2.fr) j (h6.mono x.fr)))
  · cases he

/-! ### expression statements, if, loops -/
def sDrop (f : EV → Option D) : EV → Option Fl := fun ev => (f ev).map fun _ => .nx ev
theorem s_expr (he : EOk X e fz f) (hs : swapsWith e none pos.line X.env = pure false := by rfl) : SOk X (.Expr e pos) (sDrop f) := by
  obtain ⟨t, p, r⟩ := he
  refine ⟨_, ps_expr p hs, fun F0 H0 ev σ F H E r' s he q => ?_⟩
  obtain ⟨d, h1, rfl⟩ := Option.map_eq_some_iff.mp he
  exact r F0 H0 ev σ F H d _ s h1 fun v F1 H1 x1 _ _ => q σ F1 H1 (s.up x1)
def sIf (p : EV → Option Bool) (u v : EV → Option Fl) : EV → Option Fl := fun ev => (p ev).bind fun b => if b then u ev else v ev
theorem s_if {p : EV → Option Bool} (hc : TOk X c p) (ha : BOk X sts u) (hb : BOk X rest v) : SOk X (.If c sts rest pos) (sIf p u v) := by
  obtain ⟨tc, pc, rc⟩ := hc
  obtain ⟨ta, pa, ra⟩ := ha
  obtain ⟨tb, pb, rb⟩ := hb
  refine ⟨_, ps_if pc pa pb, fun F0 H0 ev σ F H E r s he q => ?_⟩
  obtain ⟨b, g1, he⟩ := Option.bind_eq_some_iff.mp he
  refine rc F0 H0 ev σ F H b _ s g1 fun F1 H1 x1 => ?_
  cases b with
  | true =>
    rw [if_pos rfl] at he ⊢
    exact ra F0 H0 ev σ F1 H1 E r (s.up x1) he q
  | false =>
    rw [if_neg (by decide)] at he ⊢
    exact rb F0 H0 ev σ F1 H1 E r (s.up x1) he q
def forGo (m : D → EV → Option EV) (u : EV → Option Fl) : List D → EV → Option Fl
  | [], ev => some (.nx ev)
  | d :: ds, ev => (m d ev).bind fun e1 => (u e1).bind fun r => match r with
    | .nx e => forGo m u ds e
    | .ct e => forGo m u ds e
    | .bk e => some (.nx e)
    | .rt d => some (.rt d)
def sFor (fi : EV → Option (List D)) (m : D → EV → Option EV) (u : EV → Option Fl) : EV → Option Fl := fun ev => (fi ev).bind fun ds => forGo m u ds ev
theorem run_for {fi : EV → Option (List D)} {m : D → EV → Option EV} {ws : List Nat} {wi : TI} {gt : TG} {tb : TS} (ri : IRun K true fi wi) (rg : GRun K ws m gt) (rb : SRun K u tb) : SRun K (sFor fi m u) (tFor wi gt tb) := by
  intro F0 H0 ev σ F H E r s he q
  obtain ⟨ds, h1, he⟩ := Option.bind_eq_some_iff.mp he
  refine ri F0 H0 ev σ F H ds _ s h1 fun J F1 H1 x1 w => ?_
  rw [if_pos rfl] at w
  have s1 := s.up x1
  refine ⟨fun i m' σ' H' => m' = ds.length - i ∧ i ≤ ds.length ∧ ((∃ ev' F', SR K F1 H0 ev' σ' F' H' ∧ forGo m u (ds.drop i) ev' = some r)), ⟨ds.length, by omega, Nat.zero_le _, ev, F1, ?_, by simpa using he⟩, ?_⟩
  · exact s1.base (.refl _) fun a => .inl rfl
  rintro i m' σ' H' ⟨rfl, hi, ev', F', s2, hgo⟩
  have hB : Same F1 H' := s2.ext.fr.trans s2.ext.sub
  have back : ∀ {e σ2 F2 H2}, SR K F1 H0 e σ2 F2 H2 → SR K F0 H0 e σ2 F2 H2 := fun {e σ2 F2 H2} s3 => s3.base ((s1.ext.fr).trans s3.ext.fr) fun a => by
    rcases s3.ext.new a with z | z
    · rcases s1.ext.new a with z2 | z2
      · exact .inl (z.trans z2)
      · exact .inr z2
    · exact .inr z
  by_cases hlt : i < ds.length
  · have hd : ds.drop i = ds[i] :: ds.drop (i + 1) := List.drop_eq_getElem_cons hlt
    rw [hd] at hgo
    obtain ⟨e1, g1, hgo⟩ := Option.bind_eq_some_iff.mp hgo
    obtain ⟨r1, g2, hgo⟩ := Option.bind_eq_some_iff.mp hgo
    refine .inr ⟨w.go i H' hlt hB, fun σ2 H2 => ∃ ev2 F2, SR K F1 H0 ev2 σ2 F2 H2 ∧ forGo m u (ds.drop (i + 1)) ev2 = some r, fun σ2 H2 h2 => ⟨ds.length - (i + 1), by omega, rfl, hlt, h2⟩, fun x H2 hx => ?_⟩
    obtain ⟨F2, d, x3, hd2, rd⟩ := w.yld i F' H' x H2 hlt s2.ext.fr s2.ext.sub hB hx
    rw [List.getElem?_eq_getElem hlt] at hd2
    cases hd2
    refine rg F1 H0 ev' e1 σ' F2 H2 x _ _ (s2.up x3) rd g1 fun σ3 s3 _ => ?_
    refine rb F1 H0 e1 σ3 F2 H2 _ r1 s3 g2 ?_
    cases r1 with
    | nx e => exact fun σ4 F4 H4 s4 => ⟨e, F4, s4, hgo⟩
    | ct e => exact fun σ4 F4 H4 s4 => ⟨e, F4, s4, hgo⟩
    | bk e =>
      intro σ4 F4 H4 s4
      cases hgo
      exact q σ4 F4 H4 (back s4)
    | rt d =>
      intro v4 F4 H4 x4 r4
      cases hgo
      have x5 : Ext F0 H0 F4 H4 := ⟨s1.ext.fr.trans x4.fr, x4.sub, x4.keep, fun a => by
        rcases x4.new a with z | z
        · rcases s1.ext.new a with z2 | z2
          · exact .inl (z.trans z2)
          · exact .inr z2
        · exact .inr z⟩
      exact q v4 F4 H4 x5 r4
  · have hi' : i = ds.length := by omega
    subst hi'
    rw [List.drop_length] at hgo
    cases hgo
    exact .inl ⟨w.stop H' hB, q σ' F' H' (back s2)⟩
theorem s_for {fi : EV → Option (List D)} {m : D → EV → Option EV} {ws : List Nat} {body : List Stmt} (hp : PassesOwn (model X.prog X.w) X.A X.env X.xe) (hc : X.calm = true) (hi : IOk X tg iter true fi) (hg : GOk X tg ws m) (hb : BOk X body u)
    (hs : ∀ x, foldedSetIterable iter X.env x = pure x := by intro _; rfl) : SOk X (.For tg iter body [] pos) (sFor fi m u) := by
  obtain ⟨wi, pi, ri⟩ := hi
  obtain ⟨gt, pg, rg⟩ := hg
  obtain ⟨tb, pb, rb⟩ := hb
  exact ⟨_, ps_for hp hc pi pg pb hs, run_for ri rg rb⟩
def whileGo (p : EV → Option Bool) (u : EV → Option Fl) : Nat → EV → Option Fl
  | 0, _ => none
  | n + 1, ev => (p ev).bind fun b => if b then (u ev).bind fun r => match r with
    | .nx e => whileGo p u n e
    | .ct e => whileGo p u n e
    | .bk e => some (.nx e)
    | .rt d => some (.rt d)
    else some (.nx ev)
theorem run_while {p : EV → Option Bool} {tc : TT} {tb : TS} {n : Nat} (rc : TRun K p tc) (rb : SRun K u tb) : SRun K (whileGo p u n) (tWhile tc tb) := by
  intro F0 H0 ev σ F H E r s he q
  refine ⟨fun m σ' H' => ∃ ev' F', SR K F0 H0 ev' σ' F' H' ∧ whileGo p u m ev' = some r, ⟨n, ev, F, s, he⟩, ?_⟩
  rintro m σ' H' ⟨ev', F', s', he'⟩
  cases m with
  | zero => cases he'
  | succ m =>
    obtain ⟨b, g1, he'⟩ := Option.bind_eq_some_iff.mp he'
    refine rc F0 H0 ev' σ' F' H' b _ s' g1 fun F1 H1 x1 => ?_
    cases b with
    | true =>
      rw [if_pos rfl] at he' ⊢
      obtain ⟨r1, g2, he'⟩ := Option.bind_eq_some_iff.mp he'
      refine ⟨fun σ2 H2 => ∃ ev2 F2, SR K F0 H0 ev2 σ2 F2 H2 ∧ whileGo p u m ev2 = some r, fun σ2 H2 h2 => ⟨m, Nat.lt_succ_self m, h2⟩, ?_⟩
      refine rb F0 H0 ev' σ' F1 H1 _ r1 (s'.up x1) g2 ?_
      cases r1 with
      | nx e => exact fun σ4 F4 H4 s4 => ⟨e, F4, s4, he'⟩
      | ct e => exact fun σ4 F4 H4 s4 => ⟨e, F4, s4, he'⟩
      | bk e =>
        intro σ4 F4 H4 s4
        cases he'
        exact q σ4 F4 H4 s4
      | rt d =>
        intro v4 F4 H4 x4 r4
        cases he'
        exact q v4 F4 H4 x4 r4
    | false =>
      rw [if_neg (by decide)] at he' ⊢
      cases he'
      exact q σ' F1 H1 (s'.up x1)
theorem s_while (n : Nat) {p : EV → Option Bool} {body : List Stmt} (hp : PassesOwn (model X.prog X.w) X.A X.env X.xe) (hc : TOk X c p) (hb : BOk X body u) : SOk X (.While c body [] pos) (whileGo p u n) := by
  obtain ⟨tc, pc, rc⟩ := hc
  obtain ⟨tb, pb, rb⟩ := hb
  exact ⟨_, ps_while hp pc pb, run_while rc rb⟩
end

/-! ### defs -/
def evStart (ds : List D) (m : Nat) : EV := ds.map .fro ++ List.replicate m .un
def runFn (n m : Nat) (u : EV → Option Fl) : List D → Option D := fun ds => if ds.length = n then (match u (evStart ds m) with
  | some (.rt d) => some d
  | some (.nx _) => some .non
  | _ => none) else none
theorem start_sr {K : PySem.W.Frag} {F H : Hp} {N : List Str} {vs : List V} {ds : List D} {m : Nat} (hs : Same F H) (r : RepL K F vs ds) (hm : m = N.length - ds.length) : SR K F H (evStart ds m) (L2.start N vs) F H := by
  have hl := r.len
  refine ⟨.refl hs, ?_, fun i d h => ?_, fun i xs h => ?_, fun i j xs ys a h => ?_⟩
  · unfold evStart L2.start
    simp only [List.length_append, List.length_map, List.length_replicate]
    omega
  · unfold evStart at h
    by_cases hi : i < ds.length
    · rw [List.getElem?_append_left (by simpa using hi), List.getElem?_map] at h
      obtain ⟨d', h1, h2⟩ := Option.map_eq_some_iff.mp h
      cases h2
      obtain ⟨v, h3, h4⟩ := r.get h1
      refine ⟨v, ?_, h4⟩
      unfold L2.start
      rw [List.getElem?_append_left (by simp; omega), List.getElem?_map, h3]
      rfl
    · rw [List.getElem?_append_right (by simp; omega)] at h
      rw [List.getElem?_replicate] at h
      split at h <;> cases h
  · unfold evStart at h
    by_cases hi : i < ds.length
    · rw [List.getElem?_append_left (by simpa using hi), List.getElem?_map] at h
      obtain ⟨d', h1, h2⟩ := Option.map_eq_some_iff.mp h
      cases h2
    · rw [List.getElem?_append_right (by simp; omega)] at h
      rw [List.getElem?_replicate] at h
      split at h <;> cases h
  · unfold evStart at h
    by_cases hi : i < ds.length
    · rw [List.getElem?_append_left (by simpa using hi), List.getElem?_map] at h
      obtain ⟨d', h1, h2⟩ := Option.map_eq_some_iff.mp h
      cases h2
    · rw [List.getElem?_append_right (by simp; omega)] at h
      rw [List.getElem?_replicate] at h
      split at h <;> cases h
theorem fn_ok {P : Program} {w : World} {K : PySem.W.Frag} {mg : Str → Option Value} {base : Heap} {x qual : Str} {st : Stmt} {f : Addr} {fd : FuncData} {N ps : List Str} {k n m : Nat} {u : EV → Option Fl} (F : Fun K x qual st f fd) (S : FnScope N ps (defScope st))
    (hn : ps.length = n) (hm : N.length - n = m)
    (hb : ∀ (cdv : Value) (A : Around) (outer : List Env) (s : Shared) (H : Hp) (E : XK), Room k (A.deeper (envOfC qual (defScope st) s.heap.objs.size f cdv)) →
      BOk (cxOf CX0 P w K mg base N qual (defScope st) f cdv A outer s H E).nox (defBody st) u) : FnOk P w K mg base CX0 (k + 1) f fd ps (FSp K n (runFn n m u)) := by
  refine F.ok S (fun vs H Q E h => h.1.trans hn.symm) (fun cdv A outer s H vs Q E hr h => ?_)
  obtain ⟨hl, F0, ds, d, hs, r, he, q⟩ := h
  obtain ⟨t, p, run⟩ := hb cdv A outer s H E hr
  refine ⟨t, p, ?_⟩
  have hds : ds.length = n := by rw [← r.len]; exact hl
  unfold runFn at he
  rw [if_pos hds] at he
  have s0 : SR K F0 H (evStart ds m) (L2.start N vs) F0 H := start_sr hs r (by rw [hds]; exact hm.symm)
  split at he
  · rename_i d' hu
    cases he
    exact run F0 H _ _ F0 H _ _ s0 hu fun v F' H' x rr => q v F' H' x rr
  · rename_i e' hu
    cases he
    exact run F0 H _ _ F0 H _ _ s0 hu fun σ' F' H' s' => q .non F' H' s'.ext .non
  · cases he
end Z


set_option maxRecDepth 100000
set_option maxHeartbeats 4000000
/-! Z6: defs by name, membership, index, whiles without a told length. -/
namespace Z
open PySem PySem.Spec PyProof.Rows L2
section
variable {X : Cx} {a b c e tg iter elt : Expr} {fz fa fb fc : Bool} {f g h : EV → Option D} {pos : Pos} {K : PySem.W.Frag}
variable {st : Stmt} {sts rest : List Stmt} {u v : EV → Option Fl} {k : EV → Option (List D)} {es : List Expr}

/-! ### whiles -/
theorem whileGo_mono {p : EV → Option Bool} : ∀ {n m : Nat} {ev : EV} {r : Fl}, whileGo p u n ev = some r → n ≤ m → whileGo p u m ev = some r
  | 0, _, _, _, h, _ => nomatch h
  | n + 1, 0, _, _, _, hm => absurd hm (Nat.not_succ_le_zero n)
  | n + 1, m + 1, ev, r, h, hm => by
    obtain ⟨b, h1, h2⟩ := Option.bind_eq_some_iff.mp h
    unfold whileGo
    rw [h1, Option.bind_some]
    cases b with
    | false => exact h2
    | true =>
      rw [if_pos rfl] at h2 ⊢
      obtain ⟨r1, h3, h4⟩ := Option.bind_eq_some_iff.mp h2
      rw [h3, Option.bind_some]
      cases r1 with
      | nx e => exact whileGo_mono h4 (Nat.le_of_succ_le_succ hm)
      | ct e => exact whileGo_mono h4 (Nat.le_of_succ_le_succ hm)
      | bk e => exact h4
      | rt d => exact h4
open Classical in
noncomputable def sWhile (p : EV → Option Bool) (u : EV → Option Fl) : EV → Option Fl := fun ev => if h : ∃ r n, whileGo p u n ev = some r then some (choose h) else none
theorem sWhile_of {p : EV → Option Bool} {n : Nat} {ev : EV} {r : Fl} (h : whileGo p u n ev = some r) : sWhile p u ev = some r := by
  have hx : ∃ r n, whileGo p u n ev = some r := ⟨r, n, h⟩
  unfold sWhile
  rw [dif_pos hx]
  obtain ⟨m, hm⟩ := Classical.choose_spec hx
  have h1 := whileGo_mono h (Nat.le_max_left n m)
  have h2 := whileGo_mono hm (Nat.le_max_right n m)
  rw [h1] at h2
  exact h2.symm
theorem s_whl {p : EV → Option Bool} {body : List Stmt} (hp : PassesOwn (model X.prog X.w) X.A X.env X.xe) (hc : TOk X c p) (hb : BOk X body u) : SOk X (.While c body [] pos) (sWhile p u) := by
  obtain ⟨tc, pc, rc⟩ := hc
  obtain ⟨tb, pb, rb⟩ := hb
  refine ⟨_, ps_while hp pc pb, fun F0 H0 ev σ F H E r s he q => ?_⟩
  unfold sWhile at he
  split at he
  · rename_i hx
    obtain ⟨m, hm⟩ := Classical.choose_spec hx
    cases he
    exact run_while rc rb F0 H0 ev σ F H E _ s hm q
  · cases he

/-! ### in, index -/
def memD (x : D) (ys : List D) : Option Bool := if SeqAt.shaped x.pd = true ∧ SeqAt.shaped (.list (D.pdL ys)) = true then some ((D.pdL ys).any fun z => PyData.eqv z x.pd) else none
def oIn : D → D → Option D
  | x, .lst ys => (memD x ys).map .bl
  | _, _ => none
def oNotIn : D → D → Option D
  | x, .lst ys => (memD x ys).map fun b => .bl (!b)
  | _, _ => none
theorem r_in : R2Ok K (rInD K) oIn := by
  intro F H x y dx dy d Q s rx ry ho q
  unfold oIn at ho
  split at ho
  · obtain ⟨b, hb, rfl⟩ := Option.map_eq_some_iff.mp ho
    obtain ⟨⟨h1, h2⟩, rfl⟩ := of_ite hb
    have z := ry.dp
    rw [D.pd] at z
    exact ⟨_, _, rx.dp, z, h1, h2, q _ F H (.refl s) (.bl _) fun _ _ => .bl _⟩
  · cases ho
theorem r_notin : R2Ok K (rNotInD K) oNotIn := by
  intro F H x y dx dy d Q s rx ry ho q
  unfold oNotIn at ho
  split at ho
  · obtain ⟨b, hb, rfl⟩ := Option.map_eq_some_iff.mp ho
    obtain ⟨⟨h1, h2⟩, rfl⟩ := of_ite hb
    have z := ry.dp
    rw [D.pd] at z
    exact ⟨_, _, rx.dp, z, h1, h2, q _ F H (.refl s) (.bl _) fun _ _ => .bl _⟩
  · cases ho
theorem units65 {A : Around} {k : Nat} (hr : Room k A) : A.units + 65 < cLine := by
  have := hr.un
  omega
def oIndex : D → D → Option D
  | .lst xs, y => if SeqAt.shaped (.list (D.pdL xs)) = true ∧ SeqAt.shaped y.pd = true then ((D.pdL xs).findIdx? fun z => PyData.eqv z y.pd).map fun j => .int (j : Nat) else none
  | _, _ => none
theorem e_index {o : Expr} {apos cpos : Pos} (hu : X.A.units + 65 < cLine) (ho : EOk X o fa f) (he : EOk X e fb g)
    (hbase : attributeBase o "index" X.env (eval o X.env) = eval o X.env := by rfl)
    (hfew : ((backTo cpos (starEach [e] X.env)).all (fun x => !x.1) && (backToKw cpos (keywordEach [] X.env)).all (fun x => x.1.isSome)
      && decide (([e] : List Expr).length + ([] : List Keyword).length + (if ([] : List Keyword).isEmpty then 0 else 1) < 30)) = true := by rfl)
    (hline : (apos.endLine == cpos.line) = true := by rfl) (h1 : starEach [e] X.env = (false, eval e X.env) :: starEach [] X.env := by rfl) (hplain : (backTo cpos (starEach [] X.env)).any (·.1) = false := by rfl) :
    EOk X (.Call (.Attribute o "index" apos) [e] [] cpos) true (c2 oIndex f g) := by
  obtain ⟨to, po, ro⟩ := ho
  obtain ⟨te, pe, re⟩ := he
  refine ⟨_, pe_bm PySem.F.plainAttrs_list PySem.F.slot_list_index PySem.F.type_list_index (mt_indexD hu) po (pa_cons pe pa_nil h1) hbase hfew hline h1 hplain, fun F0 H0 ev σ F H d Q s he q => ?_⟩
  obtain ⟨x, g1, he⟩ := Option.bind_eq_some_iff.mp he
  obtain ⟨y, g2, he⟩ := Option.bind_eq_some_iff.mp he
  refine ro F0 H0 ev σ F H x _ s g1 fun v F1 H1 x1 r1 _ => ?_
  cases x with
  | lst xs =>
    unfold oIndex at he
    simp only at he
    by_cases hs : SeqAt.shaped (.list (D.pdL xs)) = true ∧ SeqAt.shaped y.pd = true
    · rw [if_pos hs] at he
      obtain ⟨j, hj, rfl⟩ := Option.map_eq_some_iff.mp he
      obtain ⟨p, vs, rfl, h2, rr⟩ := r1.lst_inv
      refine ⟨.inl ⟨rfl, _, SqL.of h2⟩, re F0 H0 ev σ F1 H1 y _ (s.up x1) g2 fun w F2 H2 x2 r2 _ => ?_⟩
      obtain ⟨hjl, hj1, hj2⟩ := List.findIdx?_eq_some_iff_getElem.mp hj
      have z := (r1.mono x2.keep).dp
      rw [D.pd] at z
      refine ⟨p, w, y.pd, D.pdL xs, j, (D.pdL xs)[j], rfl, rfl, z, r2.dp, hs.1, hs.2, List.getElem?_eq_getElem hjl, hj1, fun m z' hm hz => ?_, q _ F2 H2 (x1.trans x2) (.int _) fun _ => .int _⟩
      obtain ⟨hml, e1⟩ := List.getElem?_eq_some_iff.mp hz
      have := hj2 m hm
      rw [e1] at this
      simpa using this
    · rw [if_neg hs] at he
      cases he
  | _ => cases he
/-- list(x), x an own list -/
theorem f_listo {i : Nat} {x y : Str} {p p2 : Pos} (hp : PE X (.Name y p2) (tVar i)) (hg : Gl X x) (hm : X.mg x = none) (hv : bootBuiltins x = some (.type "list"))
    (hn : x ≠ "__name__" := by decide) (hdb : (x == ("__debug__" : Str)) = false := by decide)
    (he : starEach [.Name y p2] X.env = (false, eval (.Name y p2) X.env) :: starEach [] X.env := by rfl) (hpl : (backTo pos (starEach [] X.env)).any (·.1) = false := by rfl) : FOk X (.Call (.Name x p) [.Name y p2] [] pos) (iOwn i) := by
  refine ⟨_, pe_callTy call_list_of hg hm hv (pa_cons hp pa_nil he) hn hdb he hpl, fun F0 H0 ev σ F H xs Q s he q => ?_⟩
  unfold iOwn at he
  split at he
  · rename_i xs h
    cases he
    obtain ⟨l, vs, h2, h3, h4, h5, h6⟩ := s.own i _ h
    exact ⟨.ref l, h2, l, vs, rfl, .inl (SqL.of h3), fun q' nq => q q' _ F _ (.allocH s.sub nq) nq (s.sub.free nq) upd_same h6⟩
  · cases he

/-! ### defs by name -/
def DefAt (K : PySem.W.Frag) (mg : Str → Option Value) (x qual : Str) (st : Stmt) : Prop := ∃ f fd, mg x = some (.ref f) ∧ Fun K qual qual st f fd
def IntAt (mg : Str → Option Value) (x : Str) (i : Int) : Prop := ∃ t, mg x = some (.int i t)
structure FnAt (P : Program) (w : World) (K : PySem.W.Frag) (mg : Str → Option Value) (base : Heap) (x : Str) (lv n : Nat) (o : List D → Option D) : Prop where
  ex : ∃ f fd ps, mg x = some (.ref f) ∧ PySem.W.keepIn K (.ref f) = true ∧ Binds K fd ps [] ∧ FnOk P w K mg base CX0 lv f fd ps (FSp K n o)
theorem fn_at {P : Program} {w : World} {K : PySem.W.Frag} {mg : Str → Option Value} {base : Heap} {x qual : Str} {st : Stmt} {N ps : List Str} {k n m : Nat} {u : EV → Option Fl} (T : DefAt K mg x qual st) (S : FnScope N ps (defScope st))
    (hn : ps.length = n) (hm : N.length - n = m)
    (hbi : ∀ (kV doc pm : Value) (an : Option Addr) (cdv ct : Value) (us : List Value), us.length = ps.length → bindArgs (PySem.W.fnOf qual qual (defArgs st) (defBody st) (defScope st) .none kV doc pm an cdv ct) ⟨us, []⟩ = pure (ps.zip us))
    (hb : ∀ (f : Addr) (cdv : Value) (A : Around) (outer : List Env) (s : Shared) (H : Hp) (E : XK), Room k (A.deeper (envOfC qual (defScope st) s.heap.objs.size f cdv)) →
      BOk (cxOf CX0 P w K mg base N qual (defScope st) f cdv A outer s H E).nox (defBody st) u) : FnAt P w K mg base x (k + 1) n (runFn n m u) := by
  obtain ⟨f, fd, h1, F⟩ := T
  exact ⟨f, fd, ps, h1, F.kp, F.binds hbi, fn_ok F S hn hm (hb f)⟩
theorem e_fn {x : Str} {p : Pos} {lv j n : Nat} {o : List D → Option D} (G : FnAt X.prog X.w X.K X.mg X.base x lv n o) (hr : Room j X.A) (hj : lv ≤ j) (hg : Gl X x) (ha : AOk X (e :: es) fz k) (hn : (e :: es).length = n)
    (hl : ∀ ev ds, k ev = some ds → ds.length = (e :: es).length) (hdb : (x == ("__debug__" : Str)) = false := by decide)
    (he : starEach (e :: es) X.env = (false, eval e X.env) :: starEach es X.env := by rfl) (hpl : (backTo pos (starEach es X.env)).any (·.1) = false := by rfl) : EOk X (.Call (.Name x p) (e :: es) [] pos) fz (cCB o k) := by
  obtain ⟨f, fd, ps, h1, h2, h3, h4⟩ := G.ex
  exact e_call h4 (hr.mono hj) hg h1 h2 h3 ha hn hdb he hpl hl
theorem e_gc {x : Str} {i : Int} (hm : IntAt X.mg x i) (hg : Gl X x) (hd : (x == ("__debug__" : Str)) = false := by decide) : EOk X (.Name x pos) true (cC (.int i)) := by
  obtain ⟨t, h⟩ := hm
  exact e_gint hg h ⟨t, rfl⟩ hd
end
end Z


set_option maxRecDepth 100000
set_option maxHeartbeats 4000000
/-! Z7: the law's own def, entered where no repr is under way; repr of data. -/
namespace Z
open PySem PySem.Spec PyProof.Rows L2

/-- a def that is entered with no guard -/
structure FnG (P : Program) (w : World) (K : PySem.W.Frag) (mg : Str → Option Value) (base : Heap) (k : Nat) (f : Addr) (fd : FuncData) (ps : List Str) (sp : Sp) : Prop where
  len : ∀ vs H Q E, sp vs H Q E → vs.length = ps.length
  run : ∀ (A : Around) (outer : List Env) (s : Shared) (H : Hp) (args : Args) (us : List Value) (vs : List V) (Q : VK) (E : XK), Room k A → A.guards = some [] → Env0 P w K mg base A outer s H →
    BindsTo s fd args (ps.zip us) → Vals vs us → sp vs H Q E → codeAny (model P w) A (.call (.ref f) args) (CR CX0 outer P w H s Q E) s
section
variable {P : Program} {w : World} {K : PySem.W.Frag} {mg : Str → Option Value} {base : Heap}
theorem fnG_of {x qual : Str} {st : Stmt} {f : Addr} {fd : FuncData} {N ps : List Str} {k : Nat} {sp : Sp} (F : Fun K x qual st f fd) (S : FnScope N ps (defScope st))
    (len : ∀ vs H Q E, sp vs H Q E → vs.length = ps.length)
    (hb : ∀ (cdv : Value) (A : Around) (outer : List Env) (s : Shared) (H : Hp) (vs : List V) (Q : VK) (E : XK), Room k (A.deeper (envOfC qual (defScope st) s.heap.objs.size f cdv)) → A.guards = some [] → sp vs H Q E →
      ∃ t, PSs (cxOf CX0 P w K mg base N qual (defScope st) f cdv A outer s H E).nox (defBody st) t ∧ t { nx := fun _ H' => Q .non H', rt := Q } (L2.start N vs) H) : FnG P w K mg base (k + 1) f fd ps sp := by
  obtain ⟨oc, od, kV, doc, pm, an, cdv, ct, osl, rfl, lk, hcd⟩ := F.ex
  constructor
  · exact len
  intro A outer s H args us vs Q E hr hgd e0 hbi rv hsp
  have hl := len vs H Q E hsp
  have kp : ∀ b o, base.get? b = some o → s.heap.get? b = some o := fun b o e => (e0.bs b o e).1
  have KX := e0.mod.kin.keeps kp
  have hk : ∀ y ∈ ps.zip us, (defScope st).names.lookup y.1 = some .local ∨ ((defScope st).names.lookup y.1 = some .cell ∧ ((cellsFrom (s.heap.objs.size + 1) (defScope st).names []).lookup y.1).isSome = true) := by
    rintro ⟨z, v⟩ hy
    cases S.par z (List.of_mem_zip hy).1 with
    | inl q => exact Or.inl q
    | inr q => exact Or.inr ⟨q, PySem.W.cellsFrom_some _ _ _ (Or.inl q)⟩
  apply codeAny_call_function hr.depth (KX _ _ lk) rfl S.co S.gen rfl (PySem.W.codeRec_of KX hcd)
  apply hbi
  apply wpAny_newFunctionEnv_cells S.kind hk
  intro env he s1 x
  subst he
  refine ⟨(e0.mod.nolimit.keeps kp).keeps x.toInCall.keep, ?_⟩
  apply codeAny_func
  obtain ⟨t, ht, hq⟩ := hb cdv A outer s H vs Q E (hr.deeper _) hgd hsp
  have I := inv_start (CX := CX0) (E := E) S hr.hd e0 hl rv x
  refine wpAny_mono (ht.nox.run [] s1 (L2.start N vs) H _ I hq) ?_ fun _ _ z => z
  intro fl s' hs
  cases fl with
  | brk => obtain ⟨_, _, _, q⟩ := hs; exact q.elim
  | cont => obtain ⟨_, _, _, q⟩ := hs; exact q.elim
  | ret u =>
    obtain ⟨v, _, H', J, rv', q⟩ := hs
    exact ⟨v, H', J.os, J.bare, J.base, J.hok, rv', q⟩
  | next =>
    obtain ⟨_, H', J, q⟩ := hs
    exact ⟨V.non, H', J.os, J.bare, J.base, J.hok, rfl, q⟩

/-- the law's call, from its promise -/
theorem lawG {mb : Str → Option Value} {k : Nat} {fa a : Addr} {fd : FuncData} {x : Str} {sp : Sp} {s₁ : Shared} {vs : List Value} {ns : List Int}
    (KX : K.In s₁.heap) (hns : s₁.heap.Ns mainGlobals mg) (hb : s₁.heap.Ns builtinsNs mb) (hbb : ∀ x : Str, x ≠ "__name__" → mb x = bootBuiltins x) (hlim : s₁.heap.NoLimit) (hg : s₁.gens = #[])
    (ha : s₁.heap.get? a = some { cls := .type "list", data := .seq vs.toArray }) (hi : IntsAre vs ns) (hl : ns.length ≤ sizeLine) (hr : Room k callerA)
    (F : ∀ base : Heap, K.In base → base.Ns mainGlobals mg → FnG P w K mg base k fa fd [x] sp) (hbind : ∀ (s : Shared) (u : Value), BindsTo s fd ⟨[u], []⟩ [(x, u)])
    (hsp : ∀ H : Hp, SqL K H a (ns.map V.int) → sp [.ref a] H (fun v _ => v = .bl true) fun _ _ _ => False) :
    codeAny (model P w) callerA (.call (.ref fa) ⟨[.ref a], []⟩) (fun r s' => r = .ok (.ret (.bool true)) ∧ OldK s₁.heap s'.heap ∧ s'.os = s₁.os ∧ AllBare s'.gens) s₁ := by
  have rv := vals_ints hi
  have lenV := hi.length
  have core : ∀ H : Hp, (∀ b, H b = none ∨ ∃ o xs, H b = some (.frz o (.lst xs))) → SqL K H a (ns.map V.int) → HOk P w H s₁.heap → (∀ b, H b ≠ none → b = a) → (H a ≠ none → K.lookup a = none) →
      codeAny (model P w) callerA (.call (.ref fa) ⟨[.ref a], []⟩) (fun r s' => r = .ok (.ret (.bool true)) ∧ OldK s₁.heap s'.heap ∧ s'.os = s₁.os ∧ AllBare s'.gens) s₁ := by
    intro H hO hS hok hA hK
    have noD : ∀ {b : Addr} {o : Obj} {es : Array DictEntry} {ep : Nat}, s₁.heap.get? b = some o → o.data = .dict es ep → H b = none := by
      intro b o es ep e d
      rcases hO b with z | ⟨o', xs, z⟩
      · exact z
      · have e' := hA b (by rw [z]; simp)
        subst e'
        rw [ha] at e
        cases e
        cases (show Data.seq vs.toArray _ = Data.dict es ep from d)
    have nsK : ∀ {b : Addr} {m : Str → Option Value}, s₁.heap.Ns b m → (hidT s₁.heap H).Ns b m := by
      rintro b m ⟨o, es, ep, e, d, r⟩
      exact ⟨o, es, ep, hidT_get e (noD e d), d, r⟩
    have hKb : K.In (hidT s₁.heap H) := by
      intro b o e
      refine hidT_get (KX b o e) ?_
      rcases hO b with z | ⟨o', xs, z⟩
      · exact z
      · have e' := hA b (by rw [z]; simp)
        subst e'
        rw [hK (by rw [z]; simp)] at e
        cases e
    have hM : Mod K mg (hidT s₁.heap H) := by
      obtain ⟨mc, h1, h2⟩ := hlim
      exact ⟨hKb, nsK hns, ⟨mb, nsK hb, hbb⟩, ⟨mc, nsK h1, h2⟩⟩
    have e0 : Env0 P w K mg (hidT s₁.heap H) callerA [] s₁ H :=
      { frames := rfl, mod := hM, bs := fun b o e => of_hidT e, bsz := Nat.le_of_eq (hidT_size _ _), funs := trivial, frf := fun b hb' => (List.not_mem_nil hb').elim, hok := hok, bare := .of_eq hg }
    have run := (F _ hKb (nsK hns)).run callerA [] s₁ H ⟨[.ref a], []⟩ [.ref a] [.ref a] _ _ hr rfl e0 (hbind s₁ (.ref a)) (.cons rfl .nil) (hsp H hS)
    refine codeAny_mono run ?_
    intro r s' h
    match r, h with
    | .ok (.ret u), h =>
      obtain ⟨v, H', os, bare, un, hok', r', q⟩ := h
      have q' : v = .bl true := q
      subst q'
      obtain rfl : u = Value.bool true := r'
      refine ⟨rfl, OldK.of_keep ?_, os, bare⟩
      intro b o e
      rcases hO b with z | ⟨ob, xs, z⟩
      · exact un.keep b o e z List.not_mem_nil List.not_mem_nil
      · obtain ⟨e1, _⟩ := hok b _ z
        obtain ⟨e2, _⟩ := hok' b _ (un.frzs b ob _ z)
        rw [e] at e1
        cases e1
        exact e2
    | .error e, h => exact (show False from h).elim
    | .ok .next, h => exact (show False from h).elim
    | .ok .brk, h => exact (show False from h).elim
    | .ok .cont, h => exact (show False from h).elim
  cases hk : K.lookup a with
  | some o =>
    have e := KX a o hk
    rw [ha] at e
    cases e
    apply core (fun _ => none) (fun _ => .inl rfl)
    · exact .inr ⟨_, vs.toArray, _, hk, rfl, rfl, rfl, by rw [List.size_toArray, lenV]; exact hl, by simpa using rv⟩
    · intro b u z
      cases (show (none : Option HO) = some u from z)
    · exact fun b z => absurd rfl z
    · exact fun z => absurd rfl z
  | none =>
    let o₁ : Obj := { cls := .type "list", data := .seq vs.toArray }
    have at_a : (fun b => if b = a then some (HO.frz o₁ (.lst (ns.map V.int))) else none : Hp) a = some (.frz o₁ (.lst (ns.map V.int))) := if_pos rfl
    have off : ∀ b, b ≠ a → (fun b => if b = a then some (HO.frz o₁ (.lst (ns.map V.int))) else none : Hp) b = none := fun b h => if_neg h
    apply core (fun b => if b = a then some (.frz o₁ (.lst (ns.map V.int))) else none)
    · intro b
      by_cases e : b = a
      · subst e
        exact .inr ⟨_, _, at_a⟩
      · exact .inl (off b e)
    · exact .inl (.inr ⟨o₁, at_a⟩)
    · intro b u z
      by_cases e : b = a
      · subst e
        have z' := at_a.symm.trans z
        cases z'
        exact ⟨ha, by rw [List.length_map]; exact hl, vs, _, rv, ha⟩
      · have z' := (off b e).symm.trans z
        cases z'
    · intro b z
      by_cases e : b = a
      · exact e
      · exact absurd (off b e) z
    · exact fun _ => hk
/-- the goal that the head leaves -/
theorem walkG {l : PySem.W.OpenLaw} {n k : Nat} {q : Program} {loose : List Str} {XP : (Str → Option Value) → Heap → Prop} {YP : World → Heap → Prop} {d : DefRec} {K : Params → PySem.W.Frag} {o : List D → Option D} {x : Str}
    (hn : l.most = some n) (hn2 : n ≤ sizeLine) (hdf : d.params.defaults = []) (hr : Room k callerA) (hY : ∀ (w : World) (h : Heap), YP w h → (K w.params).In h)
    (F : ∀ (w : World) (mg : Str → Option Value) (fa : Addr) (h : Heap), (K w.params).In h → h.Ns mainGlobals mg → mg d.name = some (.ref fa) →
      ∃ fd : FuncData, (∀ (s : Shared) (u : Value), BindsTo s fd ⟨[u], []⟩ [(x, u)]) ∧
        ∀ base : Heap, (K w.params).In base → base.Ns mainGlobals mg → FnG l.prog w (K w.params) mg base k fa fd [x] (FSp (K w.params) 1 o))
    (hsp : ∀ ns : List Int, ns.length ≤ n → o [.scr ns] = some (.bl true)) : PySem.W.WalkO q loose XP YP l.row.toRowW d [] (fun f vs => PySem.call f vs) := by
  refine Att.attach_call hn hdf ?_
  intro w s₀ s₁ mg mb fa ob pm cd doc a vs ns G Y ho hd hcd hmg hobj hints hlen hg
  have KX := hY w _ Y
  obtain ⟨fd, hb, hF⟩ := F w mg fa _ KX G.T.g hmg
  refine lawG KX G.T.g G.T.b G.T.builtins G.T.nolimit hg hobj hints (Nat.le_trans hlen hn2) hr hF hb fun H hS => ⟨rfl, H, [.scr ns], .bl true, .refl _, .cons (.scr hS) .nil, hsp ns hlen, fun v F' H' _ r => ?_⟩
  cases r
  rfl
/-- the law's def by its body -/
theorem law_ok {qual : Str} {st : Stmt} {f : Addr} {fd : FuncData} {N : List Str} {x : Str} {k m : Nat} {u : EV → Option Fl} (F : Fun K qual qual st f fd) (S : FnScope N [x] (defScope st)) (hm : N.length - 1 = m)
    (hb : ∀ (cdv : Value) (A : Around) (outer : List Env) (s : Shared) (H : Hp) (E : XK), Room k (A.deeper (envOfC qual (defScope st) s.heap.objs.size f cdv)) → A.guards = some [] →
      BOk (cxOf CX0 P w K mg base N qual (defScope st) f cdv A outer s H E).nox (defBody st) u) : FnG P w K mg base (k + 1) f fd [x] (FSp K 1 (runFn 1 m u)) := by
  refine fnG_of F S (fun vs H Q E h => h.1) fun cdv A outer s H vs Q E hr hgd h => ?_
  obtain ⟨hl, F0, ds, d, hs, r, he, q⟩ := h
  obtain ⟨t, p, run⟩ := hb cdv A outer s H E hr hgd
  refine ⟨t, p, ?_⟩
  have hds : ds.length = 1 := by rw [← r.len]; exact hl
  unfold runFn at he
  rw [if_pos hds] at he
  have s0 : SR K F0 H (evStart ds m) (L2.start N vs) F0 H := start_sr hs r (by rw [hds]; exact hm.symm)
  split at he
  · rename_i d' hu
    cases he
    exact run F0 H _ _ F0 H _ _ s0 hu fun v F' H' x rr => q v F' H' x rr
  · rename_i e' hu
    cases he
    exact run F0 H _ _ F0 H _ _ s0 hu fun σ' F' H' s' => q .non F' H' s'.ext .non
  · cases he
end

/-! ### repr -/
def reprD (d : D) : Option D := match d with
  | .lst _ => if SeqAt.shaped d.pd = true ∧ PyData.showable d.pd = true ∧ PyData.hasDict d.pd = false ∧ (PyData.shown d.pd).length ≤ 16777216 then some (.str (PyData.shown d.pd)) else none
  | .tup _ => if SeqAt.shaped d.pd = true ∧ PyData.showable d.pd = true ∧ PyData.hasDict d.pd = false ∧ (PyData.shown d.pd).length ≤ 16777216 then some (.str (PyData.shown d.pd)) else none
  | _ => none
def bRepr : List D → Option D
  | [d] => reprD d
  | _ => none
def rReprD (K : PySem.W.Frag) : List V → Hp → VK → Prop := fun xs H Q => ∃ a d, xs = [.ref a] ∧ Dp K H (.ref a) d ∧ SeqAt.shaped d = true ∧ PyData.showable d = true ∧ PyData.hasDict d = false ∧ (PyData.shown d).length ≤ sizeLine ∧ Q (.str (PyData.shown d)) H
theorem call_reprD {X : Cx} (hu : X.A.units + 100 < cLine) (hg : X.A.guards = some []) : CallR X (.builtin "repr") (rReprD X.K) := by
  intro pins s σ H vs us Q I r h
  obtain ⟨a, d, rfl, hd, h1, h2, h3, h4, q⟩ := h
  obtain ⟨as, hr⟩ := hd.reads I d (.ref a) (.ref a) rfl
  obtain ⟨u, rfl, ru⟩ := vals1 r
  cases ru
  have hdep : d.depth ≤ 64 := by
    have := h1
    unfold SeqAt.shaped at this
    rw [Bool.and_eq_true] at this
    exact of_decide_eq_true this.2
  exact repr_of_reads' hr h2 (fun z => by rw [h3] at z; cases z) hg (by omega) (fun _ _ e => e) (fun h' t tk hk => ⟨.str _, H, I.kept hk, ⟨_, rfl⟩, q⟩) h4
theorem r_repr {K : PySem.W.Frag} : CROk K (rReprD K) bRepr := by
  intro F H vs ds d Q s r ho q
  match ds, ho, r with
  | [x], ho, r =>
    obtain ⟨v, rfl, r0⟩ := r.one
    have ho : reprD x = some d := ho
    cases x with
    | lst xs =>
      obtain ⟨⟨h1, h2, h3, h4⟩, rfl⟩ := of_ite ho
      obtain ⟨a, ws, rfl, g1, rr⟩ := r0.lst_inv
      exact ⟨a, _, rfl, r0.dp, h1, h2, h3, by rw [sizeLine_eq]; exact h4, q _ F H (.refl s) (.str _) fun _ => .str _⟩
    | tup xs =>
      obtain ⟨⟨h1, h2, h3, h4⟩, rfl⟩ := of_ite ho
      obtain ⟨a, ws, rfl, g1, rr⟩ := r0.tup_inv
      exact ⟨a, _, rfl, r0.dp, h1, h2, h3, by rw [sizeLine_eq]; exact h4, q _ F H (.refl s) (.str _) fun _ => .str _⟩
    | _ => cases ho
  | [], ho, _ => cases ho
  | _ :: _ :: _, ho, _ => cases ho
/-- what the top has written -/
theorem def_mk {K : PySem.W.Frag} {h : Heap} {mg : Str → Option Value} {x qual : Str} {st : Stmt} (X : K.In h) (G : h.Ns mainGlobals mg) {f : Addr} {oc : Value} {od an : Option Addr} {sl : Array (Option Value)} {kV dc pm cd ct : Value}
    (a : PySem.W.nsIn K mainGlobals x = some (some (.ref f))) (l : K.lookup f = some ⟨oc, od, .func (PySem.W.fnOf qual qual (defArgs st) (defBody st) (defScope st) .none kV dc pm an cd ct), sl⟩) (c : PySem.W.codeIn K cd qual = true)
    (k : PySem.W.keepIn K (.ref f) = true) : DefAt K mg x qual st := ⟨f, _, PySem.W.mg_of X G a, fun_mk l c k⟩
theorem int_mk {K : PySem.W.Frag} {h : Heap} {mg : Str → Option Value} {x : Str} {i : Int} {t : Tok} (X : K.In h) (G : h.Ns mainGlobals mg) (a : PySem.W.nsIn K mainGlobals x = some (some (.int i t))) : IntAt mg x i := ⟨t, PySem.W.mg_of X G a⟩
theorem units100 {A : Around} {k : Nat} (hr : Room k A) : A.units + 100 < cLine := by
  have := hr.un
  omega
end Z


set_option maxRecDepth 100000
set_option maxHeartbeats 4000000
/-! S1: sets of tuples with up to 1,200 items: the table's slots. -/
namespace Z
open PySem PySem.Spec PyProof.Rows L2
/-- the masks of tables up to 2,048 slots -/
def Mk (m : Nat) : Prop := m = 7 ∨ m = 31 ∨ m = 127 ∨ m = 511 ∨ m = 2047
def seen (m : Nat) : Nat → Nat → Nat → Nat
  | 0, _, acc => acc
  | n + 1, x, acc => seen m n ((x * 5 + 1) % (m + 1)) (acc ||| 1 <<< x)
theorem lcgI_succ (m : Nat) : ∀ (k i : Nat), lcgI m ((i * 5 + 1) % (m + 1)) k = lcgI m i (k + 1)
  | 0, _ => rfl
  | k + 1, i => by
    show (lcgI m ((i * 5 + 1) % (m + 1)) k * 5 + 1) % (m + 1) = (lcgI m i (k + 1) * 5 + 1) % (m + 1)
    rw [lcgI_succ m k i]
theorem seen_bit {m j : Nat} : ∀ (n x acc : Nat), (seen m n x acc).testBit j = true → acc.testBit j = true ∨ ∃ k, k < n ∧ lcgI m x k = j
  | 0, _, _, h => .inl h
  | n + 1, x, acc, h => by
    rcases seen_bit n _ _ h with h | ⟨k, h1, h2⟩
    · rw [Nat.testBit_or, Bool.or_eq_true] at h
      rcases h with h | h
      · exact .inl h
      · refine .inr ⟨0, Nat.succ_pos _, ?_⟩
        rw [Nat.one_shiftLeft, Nat.testBit_two_pow] at h
        exact of_decide_eq_true h
    · exact .inr ⟨k + 1, Nat.succ_lt_succ h1, by rw [← lcgI_succ]; exact h2⟩
theorem seen_all {m : Nat} (hm : Mk m) : seen m (m + 1) 0 0 = 2 ^ (m + 1) - 1 := by
  rcases hm with rfl | rfl | rfl | rfl | rfl <;> decide +kernel
theorem lcg_n0 (m : Nat) : ∀ k, lcgI m 0 k = lcgN m k
  | 0 => rfl
  | k + 1 => by
    show (lcgI m 0 k * 5 + 1) % (m + 1) = (lcgN m k * 5 + 1) % (m + 1)
    rw [lcg_n0 m k]
theorem mk_all {m : Nat} (hm : Mk m) {j : Nat} (hj : j ≤ m) : ∃ b, b ≤ m ∧ lcgN m b = j := by
  have h : (seen m (m + 1) 0 0).testBit j = true := by
    rw [seen_all hm, Nat.testBit_two_pow_sub_one]
    exact decide_eq_true (by omega)
  rcases seen_bit _ _ _ h with h | ⟨k, h1, h2⟩
  · rw [Nat.zero_testBit] at h
    cases h
  · exact ⟨k, by omega, by rw [← lcg_n0]; exact h2⟩
theorem mk_round {m : Nat} (hm : Mk m) : lcgN m (m + 1) = 0 := by
  rcases hm with rfl | rfl | rfl | rfl | rfl <;> decide +kernel
theorem mk_turn {m : Nat} (hm : Mk m) : ∀ k, lcgN m (m + 1 + k) = lcgN m k
  | 0 => mk_round hm
  | k + 1 => congrArg (fun x => (x * 5 + 1) % (m + 1)) (mk_turn hm k)
theorem mk_from {m : Nat} (hm : Mk m) {i j : Nat} (hi : i ≤ m) (hj : j ≤ m) : ∃ k, k ≤ m ∧ lcgI m i k = j := by
  obtain ⟨a, ha, rfl⟩ := mk_all hm hi
  obtain ⟨b, hb, rfl⟩ := mk_all hm hj
  by_cases c : a ≤ b
  · exact ⟨b - a, by omega, by rw [lcgN_add, show a + (b - a) = b by omega]⟩
  · exact ⟨m + 1 + b - a, by omega, by rw [lcgN_add, show a + (m + 1 + b - a) = m + 1 + b by omega, mk_turn hm]⟩
/-- every slot begins a run in time -/
theorem mk_runs {m : Nat} (hm : Mk m) (h : Int) {j : Nat} (hj : j ≤ m) : ∃ n, n ≤ m + 12 ∧ runI m (SetTable.bits h) n = j := by
  obtain ⟨k, hk, e⟩ := mk_from hm (runI_le m (SetTable.bits h) 12) hj
  refine ⟨12 + k, by omega, ?_⟩
  rw [runI_tail (bits_lt h), e]
theorem mk_way {m : Nat} (hm : Mk m) (h : Int) {j : Nat} (hj : j ≤ m) : ∃ k, k < 10 * SetTable.turns m ∧ way m h k = j := by
  obtain ⟨n, hn, e⟩ := mk_runs hm h hj
  obtain ⟨k, hk, e'⟩ := run_nth m (SetTable.bits h) n
  exact ⟨k, by unfold SetTable.turns; omega, by unfold way; rw [e']; exact e⟩
theorem way_in {m : Nat} {h : Int} {k : Nat} : way m h k ≤ m := by
  have hi : SetTable.bits h % (m + 1) < m + 1 := Nat.mod_lt _ (Nat.succ_pos _)
  have hr := runEnd_bd (Nat.le_of_lt_succ hi)
  have hs : (runAt m (SetTable.bits h % (m + 1)) (SetTable.bits h)).j + (runAt m (SetTable.bits h % (m + 1)) (SetTable.bits h)).more ≤ m := by
    unfold runAt
    simp only
    omega
  exact Nat.le_trans (Nat.le_add_right _ _) (nth_in k _ hs)
/-! ### a table in order -/
structure Tb (t : SetTable) (hs : List Int) : Prop where
  ris : Ris t.place.toList
  dm : t.dummies = #[]
  sz : t.place.size = hs.length
  msk : Mk t.mask
  bd : ∀ x ∈ t.place.toList, x ≤ t.mask
  reach : ∀ (i : Nat) (h : Int) (j : Nat), hs[i]? = some h → t.place.toList[i]? = some j → ∃ k, way t.mask h k = j ∧ ∀ k', k' < k → way t.mask h k' ∈ t.place.toList
section
variable {t : SetTable} {hs : List Int}
theorem Tb.len (T : Tb t hs) : t.place.toList.length = hs.length := by
  rw [Array.length_toList, T.sz]
theorem Tb.free (T : Tb t hs) (hl : hs.length ≤ t.mask) (h : Int) : ∃ n, n < 10 * SetTable.turns t.mask ∧ way t.mask h n ∉ t.place.toList ∧ ∀ k, k < n → way t.mask h k ∈ t.place.toList := by
  obtain ⟨j, hj, hn⟩ := st_missing t.place.toList (t.mask + 1) (by rw [T.len]; omega)
  obtain ⟨k, hk, e⟩ := mk_way T.msk h (j := j) (by omega)
  obtain ⟨n, h1, h2, h3⟩ := st_least (p := fun k => ¬ way t.mask h k ∈ t.place.toList) k (fun z => hn (e ▸ z))
  exact ⟨n, by omega, h2, fun k' hk' => Classical.not_not.mp (h3 k' hk')⟩
theorem Tb.ahead (T : Tb t hs) {h : Int} {n i j : Nat} (hn : way t.mask h n ∉ t.place.toList) (hi : hs[i]? = some h) (hj : t.place.toList[i]? = some j) : ∃ k, k < n ∧ way t.mask h k = j := by
  obtain ⟨k, e, hb⟩ := T.reach i h j hi hj
  refine ⟨k, ?_, e⟩
  by_cases c : k < n
  · exact c
  · exfalso
    by_cases d : k = n
    · exact hn (by rw [← d, e]; exact List.mem_of_getElem? hj)
    · exact hn (hb n (by omega))
/-- one more -/
theorem Tb.add (T : Tb t hs) {h : Int} {j p : Nat} (hp : SetTable.below t.place j = p) (hw : ∃ n, way t.mask h n = j ∧ ∀ k, k < n → way t.mask h k ∈ t.place.toList) (hj : j ∉ t.place.toList) :
    p ≤ hs.length ∧ Tb (t.put j).1 (hs.take p ++ h :: hs.drop p) ∧ (t.put j).1.fill = hs.length + 1 := by
  obtain ⟨n, rfl, hb⟩ := hw
  obtain ⟨c1, _, _⟩ := below_cut T.ris (way t.mask h n)
  rw [hp] at c1
  have hps : p ≤ hs.length := by rw [← T.sz]; exact c1
  have hpl : p ≤ t.place.toList.length := by rw [T.len]; exact hps
  have hnew := put_place t (way t.mask h n)
  rw [hp] at hnew
  have hsize : (t.put (way t.mask h n)).1.place.size = hs.length + 1 := by
    rw [← Array.length_toList, hnew, len_ins _ hpl, T.len]
  have mono : ∀ {x : Nat}, x ∈ t.place.toList → x ∈ (t.put (way t.mask h n)).1.place.toList := fun hx => by rw [hnew, mem_ins]; exact .inr hx
  refine ⟨hps, ⟨?_, put_dm T.dm _, by rw [hsize, len_ins _ hps], T.msk, ?_, ?_⟩, ?_⟩
  · refine ris_insert T.ris fun e => hj (List.mem_of_getElem? (i := SetTable.below t.place (way t.mask h n)) ?_)
    rw [Array.getElem?_toList]
    exact e
  · intro x hx
    rw [hnew, mem_ins] at hx
    rcases hx with rfl | hx
    · exact way_in
    · exact T.bd x hx
  · intro i h' j' e1 e2
    rw [tins_get _ hps] at e1
    rw [hnew, tins_get _ hpl] at e2
    have up : ∀ {a : Nat}, hs[a]? = some h' → t.place.toList[a]? = some j' → ∃ k, way t.mask h' k = j' ∧ ∀ k', k' < k → way t.mask h' k' ∈ (t.put (way t.mask h n)).1.place.toList := fun q1 q2 => by
      obtain ⟨k, e, z⟩ := T.reach _ h' j' q1 q2
      exact ⟨k, e, fun k' hk' => mono (z k' hk')⟩
    by_cases c : i < p
    · rw [if_pos c] at e1 e2
      exact up e1 e2
    · rw [if_neg c] at e1 e2
      by_cases d : i = p
      · rw [if_pos d] at e1 e2
        cases e1
        cases e2
        exact ⟨n, rfl, fun k' hk' => mono (hb k' hk')⟩
      · rw [if_neg d] at e1 e2
        exact up e1 e2
  · unfold SetTable.fill
    rw [hsize, put_dm T.dm]
    rfl
end
/-! ### laid anew -/
structure Sits (m : Nat) (done : List Int) (owner : Array (Option Nat)) : Prop where
  sz : owner.size = m + 1
  who : ∀ j k, j ≤ m → oAt owner j = some k → ∃ h n, done[k]? = some h ∧ way m h n = j ∧ ∀ k', k' < n → oAt owner (way m h k') ≠ none
  all : ∀ k, k < done.length → ∃ j, j ≤ m ∧ oAt owner j = some k
  ps : ∃ ps : List Nat, ps.length = done.length ∧ ∀ j, j ≤ m → oAt owner j ≠ none → j ∈ ps
theorem sits_zero (m : Nat) : Sits m [] (Array.replicate (m + 1) none) :=
  ⟨by simp, (fun j k hj e => nomatch ((oAt_init hj).symm.trans e)), (fun k hk => absurd hk (Nat.not_lt_zero _)), ⟨[], rfl, fun j hj e => absurd (oAt_init hj) e⟩⟩
theorem free_at {m : Nat} (hm : Mk m) {owner : Array (Option Nat)} (h : Int) {j : Nat} (hj : j ≤ m) (hf : oAt owner j = none) :
    ∃ n, SetTable.layClean.free m owner (SetTable.turns m) (SetTable.bits h % (m + 1)) (SetTable.bits h) = some (way m h n) ∧ oAt owner (way m h n) = none ∧ ∀ k, k < n → oAt owner (way m h k) ≠ none := by
  obtain ⟨r, hr, e⟩ := mk_runs hm h hj
  have hw : way m h (off m (SetTable.bits h % (m + 1)) (SetTable.bits h) r) = j := by
    unfold way
    rw [nth_off, itL_run]
    exact e
  obtain ⟨n, k1, k2, k3⟩ := st_least (p := fun k => oAt owner (way m h k) = none) _ (show oAt owner (way m h (off m (SetTable.bits h % (m + 1)) (SetTable.bits h) r)) = none by rw [hw]; exact hf)
  refine ⟨n, ?_, k2, k3⟩
  refine free_spec m owner _ r _ _ n (by unfold SetTable.turns; omega) k1 (fun k hk => ?_) ?_
  · rw [← Option.not_isSome, Bool.not_eq_false']
    exact Option.isSome_iff_ne_none.mpr (k3 k hk)
  · exact Option.isNone_iff_eq_none.mpr k2
theorem Sits.more {m : Nat} (hm : Mk m) {done : List Int} {owner : Array (Option Nat)} (S : Sits m done owner) (hl : done.length ≤ m) (h : Int) :
    ∃ j, SetTable.layClean.free m owner (SetTable.turns m) (SetTable.bits h % (m + 1)) (SetTable.bits h) = some j ∧ Sits m (done ++ [h]) (owner.setIfInBounds j (some done.length)) := by
  obtain ⟨ps, hps, hin⟩ := S.ps
  obtain ⟨j0, h0, h1⟩ := st_missing ps (m + 1) (by omega)
  have hj0 : oAt owner j0 = none := Classical.byContradiction fun z => h1 (hin j0 (by omega) z)
  obtain ⟨n, e1, e2, e3⟩ := free_at hm h (j := j0) (by omega) hj0
  have hjs : way m h n < owner.size := by
    rw [S.sz]
    exact Nat.lt_succ_of_le way_in
  have self := oAt_set_self (some done.length) hjs
  have keep : ∀ {i : Nat}, oAt owner i ≠ none → oAt (owner.setIfInBounds (way m h n) (some done.length)) i ≠ none := fun {i} hi => by
    by_cases c : i = way m h n
    · subst c
      exact absurd e2 hi
    · rw [oAt_set_ne _ c]
      exact hi
  refine ⟨way m h n, e1, by rw [Array.size_setIfInBounds, S.sz], ?_, ?_, way m h n :: ps, by simp [hps], ?_⟩
  · intro j k hj e
    by_cases c : j = way m h n
    · subst c
      rw [self] at e
      cases e
      exact ⟨h, n, by simp, rfl, fun k' hk' => keep (e3 k' hk')⟩
    · rw [oAt_set_ne _ c] at e
      obtain ⟨h', n', a1, a2, a3⟩ := S.who j k hj e
      exact ⟨h', n', by rw [List.getElem?_append_left (List.getElem?_eq_some_iff.mp a1).1]; exact a1, a2, fun k' hk' => keep (a3 k' hk')⟩
  · intro k hk
    by_cases c : k < done.length
    · obtain ⟨j, hj, e⟩ := S.all k c
      exact ⟨j, hj, by rw [oAt_set_ne _ (fun z => by rw [z, e2] at e; cases e)]; exact e⟩
    · simp at hk
      exact ⟨way m h n, way_in, by rw [self, show k = done.length by omega]⟩
  · intro j hj e
    by_cases c : j = way m h n
    · exact c ▸ List.mem_cons_self
    · rw [oAt_set_ne _ c] at e
      exact List.mem_cons_of_mem _ (hin j hj e)
theorem sits_fold {m : Nat} (hm : Mk m) : ∀ (rest done : List Int) (owner : Array (Option Nat)), Sits m done owner → done.length + rest.length ≤ m →
    ∃ owner', rest.foldl (stepF m) (some (owner, done.length)) = some (owner', done.length + rest.length) ∧ Sits m (done ++ rest) owner'
  | [], done, owner, S, _ => ⟨owner, rfl, by rw [List.append_nil]; exact S⟩
  | h :: rest, done, owner, S, hl => by
    rw [List.length_cons] at hl ⊢
    obtain ⟨j, e, S'⟩ := S.more hm (by omega) h
    obtain ⟨owner', f, S2⟩ := sits_fold hm rest (done ++ [h]) _ S' (by simp; omega)
    rw [List.append_assoc] at S2
    refine ⟨owner', ?_, S2⟩
    rw [List.foldl_cons, stepF_some e]
    simp only [List.length_append, List.length_singleton] at f
    rw [f, show done.length + 1 + rest.length = done.length + (rest.length + 1) by omega]
theorem lay_ok {m : Nat} (hm : Mk m) {hs : Array Int} (hn : hs.size ≤ m) : ∃ owner, SetTable.layClean m hs = some owner ∧ Sits m hs.toList owner := by
  obtain ⟨owner, f, S⟩ := sits_fold hm hs.toList [] _ (sits_zero m) (by simpa using hn)
  refine ⟨owner, ?_, S⟩
  rw [layClean_eq, show (0 : Nat) = ([] : List Int).length from rfl, f]
  rfl
theorem anew_ok (t : SetTable) {hs : Array Int} {wanted m : Nat} (hw : SetTable.sizeAbove wanted - 1 = m) (hm : Mk m) (hn : hs.size ≤ m) :
    ∃ t' order, t.relaid hs wanted = some (t', order) ∧ order.toList.Perm (List.range hs.size) ∧ Tb t' (order.toList.map fun i => hs.getD i 0) ∧ t'.mask = m ∧ t'.led = t.led ∧ t'.plain = t.plain := by
  obtain ⟨owner, e, S⟩ := lay_ok hm hn
  have hr : t.relaid hs wanted = some (tabOf t m owner, ((liveOf m owner).map (·.2)).toArray) := by
    rw [relaid_eq, hw, e]
    rfl
  obtain ⟨r1, r2⟩ := ris_live (fun j => owner.getD j none) (List.range (m + 1)) List.pairwise_lt_range
  have r1' : Ris ((liveOf m owner).map (·.1)) := r1
  have r2' : ∀ x ∈ (liveOf m owner).map (·.1), x ∈ List.range (m + 1) := r2
  have hlen : (liveOf m owner).length = hs.size := by
    obtain ⟨ps, p1, p2⟩ := S.ps
    have nd : ((liveOf m owner).map (·.1)).Nodup := by
      unfold Ris at r1'
      exact List.Pairwise.imp (fun h => Nat.ne_of_lt h) r1'
    have hz : hs.toList.length = hs.size := Array.length_toList
    have a := nat_nodup_len ((liveOf m owner).map (·.1)) ps nd (by
      intro x hx
      obtain ⟨⟨y, k⟩, hq, rfl⟩ := List.mem_map.mp hx
      obtain ⟨b1, b2⟩ := (mem_live S.sz).mp hq
      exact p2 y b1 (by rw [b2]; exact fun z => nomatch z))
    have b := nat_nodup_len (List.range hs.size) ((liveOf m owner).map (·.2)) List.nodup_range (by
      intro k hk
      obtain ⟨j, b1, b2⟩ := S.all k (by rw [Array.length_toList]; exact List.mem_range.mp hk)
      exact List.mem_map.mpr ⟨(j, k), (mem_live S.sz).mpr ⟨b1, b2⟩, rfl⟩)
    rw [List.length_map, p1] at a
    rw [List.length_map, List.length_range] at b
    omega
  refine ⟨_, _, hr, ?_, ⟨r1', rfl, by simp [tabOf], hm, fun x hx => Nat.le_of_lt_succ (List.mem_range.mp (r2' x hx)), ?_⟩, rfl, rfl, rfl⟩
  · refine perm_range hs.size _ (by simpa using hlen) fun k hk => ?_
    obtain ⟨j, b1, b2⟩ := S.all k (by rw [Array.length_toList]; exact hk)
    exact List.mem_map.mpr ⟨(j, k), (mem_live S.sz).mpr ⟨b1, b2⟩, rfl⟩
  · intro i h j q1 q2
    have q1' : (((liveOf m owner).map (·.2)).map fun i => hs.getD i 0)[i]? = some h := q1
    have q2' : ((liveOf m owner).map (·.1))[i]? = some j := q2
    rw [List.getElem?_map, List.getElem?_map] at q1'
    rw [List.getElem?_map] at q2'
    cases hq : (liveOf m owner)[i]? with
    | none =>
      rw [hq] at q2'
      cases q2'
    | some q =>
      obtain ⟨y, k⟩ := q
      rw [hq] at q1' q2'
      cases q2'
      obtain ⟨b1, b2⟩ := (mem_live S.sz).mp (List.mem_of_getElem? hq)
      obtain ⟨h0, n, a1, a2, a3⟩ := S.who y k b1 b2
      have e0 : hs.getD k 0 = h0 := by
        rw [Array.getElem?_toList] at a1
        rw [Array.getD_eq_getD_getElem?, a1]
        rfl
      have eh : hs.getD k 0 = h := Option.some.inj q1'
      rw [e0] at eh
      subst eh
      refine ⟨n, a2, fun k' hk' => ?_⟩
      show way m h0 k' ∈ (liveOf m owner).map (·.1)
      obtain ⟨k2, z⟩ := Option.ne_none_iff_exists'.mp (a3 k' hk')
      exact List.mem_map.mpr ⟨(way m h0 k', k2), (mem_live S.sz).mpr ⟨way_in, z⟩, rfl⟩
end Z


set_option maxRecDepth 100000
set_option maxHeartbeats 4000000
/-! S2: sets of tuples with up to 1,200 items: searched, added to. -/
namespace Z
open PySem PySem.Spec PyProof.Rows L2
section
variable {P : Program} {w : World} {A : Around} {E : Value → Shared → Prop} {s : Shared}
structure SetB (P : Program) (w : World) (h : Heap) (a : Addr) (L : List (Addr × List Int)) (es : Array (Int × Value)) (ep : Nat) (t : SetTable) : Prop where
  ob : ∃ o, h.get? a = some o ∧ o.ExactSet ∧ o.data = .set es ep t
  rows : es.toList = rowsOf P w L
  tab : Tb t (L.map fun p => thash P w p.2)
  nd : (L.map (·.2)).Nodup
  tup : ∀ p ∈ L, IsT P w h p.2 p.1
  plain : t.plain = true
  led : w.params.followText "set-order" = true ∨ t.led = true
  room : L.length * 5 < t.mask * 3
  few : L.length < 1200
/-- the c-th probe of a hash -/
def prb (m : Nat) (h : Int) (c : Nat) : SetTable.Probe := nth m (runAt m (SetTable.bits h % (m + 1)) (SetTable.bits h)) c
theorem prb_j (m : Nat) (h : Int) (c : Nat) : (prb m h c).j = way m h c := rfl
theorem prb_add (m : Nat) (h : Int) (c q : Nat) : nth m (prb m h c) q = prb m h (c + q) := (nth_add m c _ q).symm
theorem nth_dummy (m : Nat) : ∀ (n : Nat) (p : SetTable.Probe), p.dummy = none → (nth m p n).dummy = none
  | 0, _, h => h
  | n + 1, p, h => nth_dummy m n (adv m p) (by
    unfold adv
    split
    · exact h
    · exact h)
variable {a : Addr} {L : List (Addr × List Int)} {es : Array (Int × Value)} {ep : Nat} {t : SetTable}
theorem SetB.esz (R : SetB P w s.heap a L es ep t) : es.size = L.length := by
  have := congrArg List.length R.rows
  simpa [rowsOf] using this
theorem SetB.psz (R : SetB P w s.heap a L es ep t) : t.place.size = L.length := by
  have := R.tab.sz
  simpa using this
theorem SetB.fit (R : SetB P w s.heap a L es ep t) : t.fits es.size = true := by
  have h1 := R.psz
  have h2 := R.esz
  have h3 := R.room
  unfold SetTable.fits SetTable.fill
  rw [R.tab.dm, h1, h2, Bool.and_eq_true, beq_iff_eq, decide_eq_true_eq]
  exact ⟨rfl, by show L.length + 0 ≤ t.mask; omega⟩
theorem SetB.ent (R : SetB P w s.heap a L es ep t) {i : Nat} {p : Addr × List Int} (h : L[i]? = some p) : es[i]? = some (thash P w p.2, Value.ref p.1) := by
  have e : es.toList[i]? = some (thash P w p.2, Value.ref p.1) := by
    rw [R.rows]
    unfold rowsOf
    rw [List.getElem?_map, h]
    rfl
  rw [Array.getElem?_toList] at e
  exact e
theorem SetB.stay (R : SetB P w s.heap a L es ep t) : ¬ t.gaveWay = true := by
  have : t.mask % 2 = 1 := by
    rcases R.tab.msk with e | e | e | e | e <;> rw [e]
  unfold SetTable.gaveWay
  rw [this]
  decide
/-- the search from its c-th probe on -/
theorem look_from (R : SetB P w s.heap a L es ep t) {x : Addr} {k : List Int} (hx : IsT P w s.heap k x) (hu : A.units < cLine) {n : Nat} (hn : n < 10 * SetTable.turns t.mask)
    (hN : way t.mask (thash P w k) n ∉ t.place.toList) (hB : ∀ c, c < n → way t.mask (thash P w k) c ∈ t.place.toList) {Q : SetFound → Shared → Prop}
    (hin : k ∈ L.map (·.2) → Q (.there none) s) (hout : k ∉ L.map (·.2) → Q (.free (way t.mask (thash P w k) n) false) s) :
    ∀ (f c : Nat) (stand : Option SetTable.Probe), stand.getD (t.probeStart (thash P w k)) = prb t.mask (thash P w k) c → c ≤ n → n - c < f →
      (∀ (i : Nat) p, L[i]? = some p → p.2 = k → ∃ c', c ≤ c' ∧ c' < n ∧ t.place.toList[i]? = some (way t.mask (thash P w k) c')) →
      wpAny (model P w) A (setSearchFrom a (.ref x) (thash P w k) true f stand) Q E s := by
  obtain ⟨hh, hhe⟩ : ∃ hh, hh = thash P w k := ⟨_, rfl⟩
  rw [← hhe] at hN hB hout ⊢
  obtain ⟨o, ho, hex, hd⟩ := R.ob
  have hash_of : ∀ {i : Nat} {p : Addr × List Int}, L[i]? = some p → (es[i]?.map (·.1)).getD 0 = thash P w p.2 := fun hp => by rw [R.ent hp]; rfl
  intro f
  induction f with
  | zero => exact fun c _ _ _ hf => absurd hf (Nat.not_lt_zero _)
  | succ f ih =>
    intro c stand hst hc hf hre
    rw [setSearchFrom_succ]
    refine wpAny_bind (wpAny_setState_of ho hd R.fit ?_)
    dsimp only
    refine wp_if_neg R.stay ?_
    try refine wpAny_bind (wpAny_pure ?_)
    have G := go_spec t R.tab.ris R.tab.dm (fun i => (es[i]?.map (·.1)).getD 0) hh (10 * SetTable.turns t.mask) (n - c) (prb t.mask hh c) (nth_dummy _ _ _ rfl) (by omega)
      (fun q hq => by rw [prb_add]; exact hB (c + q) (by omega)) (by rw [prb_add, show c + (n - c) = n by omega]; exact hN)
    rcases G with ⟨q, i, hq, hi, hhi, hno, hp⟩ | ⟨hno, hp⟩
    · rw [prb_add, prb_add, prb_j] at hp
      rw [prb_add, prb_j] at hi
      have hp' : t.probe (fun i => (es[i]?.map (·.1)).getD 0) hh (stand.getD (t.probeStart hh)) = some (.candidate (way t.mask hh (c + q)) i (prb t.mask hh (c + (q + 1)))) := by
        rw [hst]
        exact hp
      rw [hp']
      dsimp only
      have hil : i < L.length := by
        have h1 := (List.getElem?_eq_some_iff.mp hi).1
        rw [Array.length_toList, R.psz] at h1
        exact h1
      obtain ⟨p, hpi⟩ : ∃ p, L[i]? = some p := ⟨_, List.getElem?_eq_getElem hil⟩
      have hpm : p ∈ L := List.mem_of_getElem? hpi
      have hsl : t.slot (way t.mask hh (c + q)) = .live i := slot_live R.tab.ris hi
      have go_on : wpAny (model P w) A (searchRest a (.ref x) hh true f es t (way t.mask hh (c + q)) i (prb t.mask hh (c + (q + 1)))) Q E s := by
        unfold searchRest
        rw [R.ent hpi]
        dsimp only
        refine wpAny_bind (wpAny_holding (wpAny_eqBool_tuple hu (R.tup p hpm) hx ?_))
        refine wpAny_bind (wpAny_setState_of ho hd R.fit ?_)
        dsimp only
        by_cases same : p.2 = k
        · refine wp_if_pos (by simp [same]) (wpAny_pure (hin ?_))
          exact List.mem_map.mpr ⟨p, hpm, same⟩
        · refine wp_if_neg (by simp [same]) ?_
          try refine wpAny_bind (wpAny_pure ?_)
          rw [sameMem]
          dsimp only
          simp only [if_true, hsl, R.ent hpi]
          refine wpAny_bind (wpAny_isSame_ref_self (wpAny_bind (wpAny_pure ?_)))
          simp only [if_true]
          refine wp_if_neg (by simp [same]) ?_
          refine ih (c + (q + 1)) _ rfl (by omega) (by omega) ?_
          intro i0 p0 h0 hk0
          obtain ⟨c', a1, a2, a3⟩ := hre i0 p0 h0 hk0
          refine ⟨c', ?_, a2, a3⟩
          have n1 : ¬ c' < c + q := fun z => by
            refine hno (c' - c) i0 (by omega) ?_ ?_
            · rw [prb_add, prb_j, show c + (c' - c) = c' by omega]
              exact a3
            · rw [hash_of h0, hk0, hhe]
          have n2 : c' ≠ c + q := fun z => by
            rw [z] at a3
            have e := slot_live R.tab.ris a3
            rw [hsl] at e
            cases e
            rw [hpi] at h0
            cases h0
            exact same hk0
          omega
      by_cases hl : t.led = true
      · refine wp_if_neg (by simp [hl]) ?_
        try refine wpAny_bind (wpAny_pure ?_)
        exact go_on
      · refine wp_if_pos (by simp [hl]) ?_
        refine wpAny_bind (seen_tup hx (fun y hy => ?_) ?_)
        · obtain ⟨e, he, rfl⟩ := List.mem_map.mp hy
          have he2 : e ∈ es.toList := by
            have : e ∈ es ∧ e.1 = hh := by simpa using he
            simpa using this.1
          rw [R.rows] at he2
          obtain ⟨p2, hp2, rfl⟩ := List.mem_map.mp he2
          exact ⟨p2.2, p2.1, rfl, R.tup p2 hp2⟩
        · refine wp_if_neg (by decide) ?_
          try refine wpAny_bind (wpAny_pure ?_)
          exact go_on
    · rw [prb_add, prb_j, show c + (n - c) = n by omega] at hp
      have hp' : t.probe (fun i => (es[i]?.map (·.1)).getD 0) hh (stand.getD (t.probeStart hh)) = some (.empty (way t.mask hh n) none) := by
        rw [hst]
        exact hp
      rw [hp']
      dsimp only
      refine wpAny_pure (hout fun hm => ?_)
      obtain ⟨p0, h0, hk0⟩ := List.mem_map.mp hm
      obtain ⟨i0, h00⟩ := List.getElem?_of_mem h0
      obtain ⟨c', a1, a2, a3⟩ := hre i0 p0 h00 hk0
      refine hno (c' - c) i0 (by omega) ?_ ?_
      · rw [prb_add, prb_j, show c + (c' - c) = c' by omega]
        exact a3
      · rw [hash_of h00, hk0, hhe]
theorem look_at (R : SetB P w s.heap a L es ep t) {x : Addr} {k : List Int} (hx : IsT P w s.heap k x) (hu : A.units < cLine) {Q : SetFound → Shared → Prop}
    (hin : k ∈ L.map (·.2) → Q (.there none) s)
    (hout : ∀ n, k ∉ L.map (·.2) → way t.mask (thash P w k) n ∉ t.place.toList → (∀ c, c < n → way t.mask (thash P w k) c ∈ t.place.toList) → Q (.free (way t.mask (thash P w k) n) false) s) :
    wpAny (model P w) A (setSearch a (.ref x) (thash P w k) true) Q E s := by
  have hroom := R.room
  obtain ⟨n, hn, hN, hB⟩ := R.tab.free (by rw [List.length_map]; omega) (thash P w k)
  have hbig : n < 100000 := by
    unfold SetTable.turns at hn
    rcases R.tab.msk with e | e | e | e | e <;> omega
  unfold setSearch
  refine look_from R hx hu hn hN hB hin (fun z => hout n z hN hB) 100000 0 none rfl (Nat.zero_le _) (by omega) ?_
  intro i p hp hk
  have hi : (L.map fun p => thash P w p.2)[i]? = some (thash P w k) := by rw [List.getElem?_map, hp, ← hk]; rfl
  have hil : i < t.place.toList.length := by
    rw [Array.length_toList, R.psz]
    exact (List.getElem?_eq_some_iff.mp hp).1
  obtain ⟨c, hc, e⟩ := R.tab.ahead hN hi (List.getElem?_eq_getElem hil)
  exact ⟨c, Nat.zero_le _, hc, by rw [e]; exact List.getElem?_eq_getElem hil⟩
/-- laid anew, greater -/
theorem relay_to {o : Obj} (ho : s.heap.get? a = some o) (hex : o.ExactSet) (hd : o.data = .set es ep t) (hrows : es.toList = rowsOf P w L) (hsz : t.place.size = L.length) (hdm : t.dummies = #[]) (hfl : L.length ≤ t.mask)
    (nd : (L.map (·.2)).Nodup) (tup : ∀ p ∈ L, IsT P w s.heap p.2 p.1) (pl : t.plain = true) (ld : w.params.followText "set-order" = true ∨ t.led = true) (few : L.length < 1200) {wanted m : Nat}
    (hw : SetTable.sizeAbove wanted = m + 1) (hm : Mk m) (hn : L.length * 5 < m * 3) {Q : Unit → Shared → Prop}
    (hQ : ∀ h' L' es' ep' t', Heap.SameBut a s.heap h' → SetB P w h' a L' es' ep' t' → L'.Perm L → Q () { s with heap := h' }) : wpAny (model P w) A (setRelay a wanted) Q E s := by
  have hsl : es.size = L.length := by
    have := congrArg List.length hrows
    simpa [rowsOf] using this
  have hfit : t.fits es.size = true := by
    unfold SetTable.fits SetTable.fill
    rw [hdm, hsz, hsl, Bool.and_eq_true, beq_iff_eq, decide_eq_true_eq]
    exact ⟨rfl, by show L.length + 0 ≤ t.mask; omega⟩
  have hm2 : m ≤ 2047 := by rcases hm with e | e | e | e | e <;> omega
  obtain ⟨t', order, e, hp, T, em, el, epl⟩ := anew_ok t (hs := es.map (·.1)) (wanted := wanted) (m := m) (by omega) hm (by rw [Array.size_map, hsl]; omega)
  rw [Array.size_map, hsl] at hp
  obtain ⟨L2, r1, r2, r3⟩ := order_rows L es order hrows hp
  rw [← r3] at T
  have hs2 : (order.filterMap (es[·]?)).size = es.size := by
    have := congrArg List.length r1
    rw [Array.length_toList] at this
    rw [this, hsl, ← r2.length_eq]
    simp [rowsOf]
  rw [setRelay_eq]
  refine wpAny_bind (wpAny_setState_of ho hd hfit ?_)
  dsimp only
  refine wp_if_neg (by rw [sizeLine_eq]; omega) ?_
  try refine wpAny_bind (wpAny_pure ?_)
  rw [e]
  dsimp only
  refine wpAny_bind ?_
  refine wp_if_neg (by rw [hs2]; simp) ?_
  try refine wpAny_bind (wpAny_pure ?_)
  refine wpAny_pure ?_
  dsimp only
  refine wpAny_storeSet_of ho hd ?_ (by rw [hs2, hsl, sizeLine_eq]; omega)
  have sb : Heap.SameBut a s.heap (s.heap.update a (Obj.putSet (order.filterMap (es[·]?)) t')) := Heap.SameBut.update ..
  refine hQ _ L2 (order.filterMap (fun i => es[i]?)) (ep + 1) t' sb ?_ r2
  exact ⟨⟨_, store_at ho hd, ⟨hex.1, hex.2.1, hex.2.2⟩, rfl⟩, r1, T, (r2.map (·.2)).nodup_iff.mpr nd, fun p hpm => isT_same (tup p (r2.mem_iff.mp hpm)) ho hd sb, by rw [epl]; exact pl, by rw [el]; exact ld, by rw [r2.length_eq, em]; exact hn, by rw [r2.length_eq]; exact few⟩
theorem sz5 : SetTable.sizeAbove (SetTable.grown 5) = 31 + 1 := by decide +kernel
theorem sz19 : SetTable.sizeAbove (SetTable.grown 19) = 127 + 1 := by decide +kernel
theorem sz77 : SetTable.sizeAbove (SetTable.grown 77) = 511 + 1 := by decide +kernel
theorem sz307 : SetTable.sizeAbove (SetTable.grown 307) = 2047 + 1 := by decide +kernel
/-- one added -/
theorem put_in (R : SetB P w s.heap a L es ep t) {x : Addr} {k : List Int} (hx : IsT P w s.heap k x) (hu : A.units < cLine) (hfew : L.length + 1 < 1200) {Q : Bool → Shared → Prop}
    (hQ : ∀ b h' L' es' ep' t', Heap.SameBut a s.heap h' → SetB P w h' a L' es' ep' t' → (k ∈ L.map (·.2) → L' = L) → (k ∉ L.map (·.2) → L'.Perm ((x, k) :: L)) → Q b { s with heap := h' }) :
    wpAny (model P w) A (setAddHashed a (.ref x) (thash P w k)) Q E s := by
  obtain ⟨o, ho, hex, hd⟩ := R.ob
  have hsl := R.esz
  have hroom := R.room
  unfold setAddHashed
  refine wpAny_holding ?_
  rw [show (100000 : Nat) = 99999 + 1 from rfl, setAddHashedIn_succ]
  refine wpAny_bind (wpAny_setState_of ho hd R.fit ?_)
  dsimp only
  refine wp_if_neg (by simp [byScan, Value.scannable]) ?_
  try refine wpAny_bind (wpAny_pure ?_)
  refine wpAny_bind (look_at R hx hu (fun hm => ?_) fun n hm hN hB => ?_)
  · dsimp only
    exact wpAny_pure (hQ false s.heap L es ep t (Heap.SameBut.refl a s.heap) R (fun _ => rfl) fun z => absurd hm z)
  dsimp only
  refine wpAny_bind (wpAny_setState_of ho hd R.fit ?_)
  dsimp only
  obtain ⟨j, hj⟩ : ∃ j, way t.mask (thash P w k) n = j := ⟨_, rfl⟩
  rw [hj] at hN ⊢
  obtain ⟨p, hpp⟩ : ∃ p, SetTable.below t.place j = p := ⟨_, rfl⟩
  obtain ⟨q1, q2, q3⟩ := R.tab.add (h := thash P w k) hpp ⟨n, hj, hB⟩ hN
  have f1 : (t.put j).2 = p := hpp
  have f2 : (t.put j).1.mask = t.mask := rfl
  have f3 : (t.put j).1.led = t.led := rfl
  have f4 : (t.put j).1.plain = true := R.plain
  have f5 : (t.put j).1.dummies = #[] := put_dm R.tab.dm j
  generalize t.put j = pt at q2 q3 f1 f2 f3 f4 f5 ⊢
  obtain ⟨t1, p1⟩ := pt
  dsimp only at q2 q3 f1 f2 f3 f4 f5 ⊢
  subst f1
  first
    | (refine wpAny_bind ?_; refine wp_if_pos f4 ?_; refine hashBy_tup hx ?_)
    | refine wp_if_pos f4 (wpAny_bind (hashBy_tup hx ?_))
  simp only [if_true]
  have hin : (SetTable.insertAt es p1 (thash P w k, Value.ref x)).toList = rowsOf P w (L.take p1 ++ (x, k) :: L.drop p1) := by
    rw [SetTable.toList_insertAt, rows_put, R.rows]
  have pm := put_perm L p1 (x, k)
  have hlen : (L.take p1 ++ (x, k) :: L.drop p1).length = L.length + 1 := pm.length_eq
  have q2' : Tb t1 ((L.take p1 ++ (x, k) :: L.drop p1).map fun p => thash P w p.2) := by
    rw [List.map_append, List.map_cons, List.map_take, List.map_drop]
    exact q2
  have nd1 : ((L.take p1 ++ (x, k) :: L.drop p1).map (·.2)).Nodup := (pm.map (·.2)).nodup_iff.mpr (List.nodup_cons.mpr ⟨hm, R.nd⟩)
  rw [List.length_map] at q1 q3
  generalize L.take p1 ++ (x, k) :: L.drop p1 = L1 at pm hlen q2' nd1 hin
  have hes : (SetTable.insertAt es p1 (thash P w k, Value.ref x)).size = L.length + 1 := by
    have := congrArg List.length hin
    rw [Array.length_toList] at this
    rw [this, ← hlen]
    simp [rowsOf]
  generalize SetTable.insertAt es p1 (thash P w k, Value.ref x) = es1 at hin hes ⊢
  refine wpAny_bind (wpAny_storeSet_of ho hd ?_ (by rw [hes, sizeLine_eq]; omega))
  have sb : Heap.SameBut a s.heap (s.heap.update a (Obj.putSet es1 t1)) := Heap.SameBut.update ..
  have ho1 := store_at (es' := es1) (t' := t1) ho hd
  generalize s.heap.update a (Obj.putSet es1 t1) = h1 at sb ho1 ⊢
  have tup1 : ∀ p ∈ L1, IsT P w h1 p.2 p.1 := by
    intro p hp
    rcases List.mem_cons.mp (pm.mem_iff.mp hp) with rfl | hp
    · exact isT_same hx ho hd sb
    · exact isT_same (R.tup p hp) ho hd sb
  have ld1 : w.params.followText "set-order" = true ∨ t1.led = true := by rw [f3]; exact R.led
  have full : t1.tooFull = decide ((L.length + 1) * 5 ≥ t.mask * 3) := by
    unfold SetTable.tooFull
    rw [q3, f2]
  by_cases hf : (L.length + 1) * 5 ≥ t.mask * 3
  · rw [decide_eq_true hf] at full
    first
      | (refine wpAny_bind ?_; refine wp_if_pos (by simp [full]) ?_)
      | (refine wp_if_pos (by simp [full]) ?_; refine wpAny_bind ?_)
    rw [hsl]
    have next : ∃ m, SetTable.sizeAbove (SetTable.grown (L.length + 1)) = m + 1 ∧ Mk m ∧ (L.length + 1) * 5 < m * 3 := by
      rcases R.tab.msk with e | e | e | e | e
      · rw [e] at hf hroom
        rw [show L.length + 1 = 5 by omega]
        exact ⟨31, sz5, .inr (.inl rfl), by decide⟩
      · rw [e] at hf hroom
        rw [show L.length + 1 = 19 by omega]
        exact ⟨127, sz19, .inr (.inr (.inl rfl)), by decide⟩
      · rw [e] at hf hroom
        rw [show L.length + 1 = 77 by omega]
        exact ⟨511, sz77, .inr (.inr (.inr (.inl rfl))), by decide⟩
      · rw [e] at hf hroom
        rw [show L.length + 1 = 307 by omega]
        exact ⟨2047, sz307, .inr (.inr (.inr (.inr rfl))), by decide⟩
      · omega
    obtain ⟨m, m1, m2, m3⟩ := next
    refine relay_to (s := { s with heap := h1 }) ho1 ⟨hex.1, hex.2.1, hex.2.2⟩ rfl hin (by rw [q2'.sz, List.length_map]) f5 (by rw [hlen, f2]; omega) nd1 tup1 f4 ld1 (by rw [hlen]; exact hfew) m1 m2 (by rw [hlen]; exact m3) ?_
    intro h2 L2 es2 ep2 t2 sb2 R2 pm2
    exact wpAny_pure (hQ true h2 L2 es2 ep2 t2 (sb.trans sb2) R2 (fun z => absurd z hm) fun _ => pm2.trans pm)
  · rw [decide_eq_false hf] at full
    first
      | refine wp_if_neg (by simp [full]) ?_
      | (refine wpAny_bind ?_; refine wp_if_neg (by simp [full]) ?_; refine wpAny_pure ?_)
    refine wpAny_pure (hQ true h1 L1 es1 (ep + 1) t1 sb ⟨⟨_, ho1, ⟨hex.1, hex.2.1, hex.2.2⟩, rfl⟩, hin, q2', nd1, tup1, f4, ld1, by rw [hlen, f2]; omega, by rw [hlen]; exact hfew⟩ (fun z => absurd z hm) fun _ => pm)
end
end Z


set_option maxRecDepth 100000
set_option maxHeartbeats 4000000
/-! S3: set(list of tuples), sorted(set). -/
namespace Z
open PySem PySem.Spec PyProof.Rows L2
section
variable {P : Program} {w : World} {A : Around} {E : Value → Shared → Prop} {s : Shared}
theorem SetB.keep {h h' : Heap} {a : Addr} {L : List (Addr × List Int)} {es : Array (Int × Value)} {ep : Nat} {t : SetTable} (R : SetB P w h a L es ep t) (ha : ∀ o, h.get? a = some o → h'.get? a = some o) (ht : ∀ p ∈ L, IsT P w h' p.2 p.1) : SetB P w h' a L es ep t :=
  ⟨R.ob.imp fun o x => ⟨ha o x.1, x.2⟩, R.rows, R.tab, R.nd, ht, R.plain, R.led, R.room, R.few⟩
theorem setB_new {h : Heap} {a : Addr} {b : Bool} (hb : b = !w.params.followText "set-order") (ho : h.get? a = some { cls := .type "set", dict := none, data := .set #[] 0 (.fresh 0 0 b) }) : SetB P w h a [] #[] 0 (.fresh 0 0 b) where
  ob := ⟨_, ho, ⟨rfl, rfl, rfl⟩, rfl⟩
  rows := rfl
  tab := ⟨List.Pairwise.nil, rfl, rfl, .inl rfl, (fun x hx => nomatch hx), (fun i h j hi => by simp at hi)⟩
  nd := List.nodup_nil
  tup := fun p hp => nomatch hp
  plain := rfl
  led := by
    show _ ∨ b = true
    rw [hb]
    cases w.params.followText "set-order" <;> simp
  room := show 0 * 5 < 7 * 3 by decide
  few := by decide
abbrev setO (b : Bool) : Obj := { cls := .type "set", dict := none, data := .set #[] 0 (.fresh 0 0 b) }
/-- the loop of set.update over a list of tuples -/
theorem upd_loop {I : Addr} {fp wr : List Addr} {G : Array GenState → Array GenState → Prop} {n : Nat} {Pv : Nat → Value → Prop} {St : Nat → Shared → Prop} {R : Result → Shared → Prop}
    (W : WalksS P w A.in1 I fp wr G n Pv St) (S : Addr) (hS1 : S ∉ fp) (ks : List (Addr × List Int)) (hn : n = ks.length) (few : ks.length < 1200) (hv : ∀ i v, Pv i v → ∃ p, ks[i]? = some p ∧ v = .ref p.1)
    (h0 : Heap) (hk : ∀ p ∈ ks, IsT P w h0 p.2 p.1) (hS0 : h0.get? S = none) (hw0 : ∀ b ∈ wr, h0.get? b = none) (hu : A.in1.units < cLine) (k : Nat) :
    ∀ (i : Nat) (s : Shared), n - i = k → i ≤ n → St i s → (∀ b o, h0.get? b = some o → s.heap.get? b = some o) → (∃ L es ep t, SetB P w s.heap S L es ep t ∧ Got ks i L) →
      (∀ s' L es ep t, Moved (S :: wr) G s s' → SetB P w s'.heap S L es ep t → Got ks n L → (∀ b o, h0.get? b = some o → s'.heap.get? b = some o) → R (.ok (.ret .none)) s') →
      codeAny (model P w) A (.builtin "set.update.loop" ⟨[.ref S, .ref I], []⟩) R s := by
  have notw : S ∉ wr := fun h => hS1 (W.sub _ h)
  have wider : ∀ b ∈ wr, b ∈ S :: wr := fun b h => .tail _ h
  have still : ∀ {s s' : Shared}, Moved wr G s s' → (∀ b o, h0.get? b = some o → s.heap.get? b = some o) → ∀ b o, h0.get? b = some o → s'.heap.get? b = some o :=
    fun hm z b o e => hm.heap b o (fun h => by rw [hw0 b h] at e; cases e) (z b o e)
  induction k with
  | zero =>
    rintro i s q1 q2 hst z ⟨L, es, ep, t, hS, g⟩ fin
    obtain rfl : i = n := by omega
    refine codeAny_builtin F.entry_set_update_loop ?_
    rw [Around.under_plainId F.plain_set_update_loop _]
    show wpAny _ A.in1 (pyNext (.ref I) >>= _) _ _ s
    refine wpAny_bind (W.done s _ _ hst fun s' hm => ?_)
    have z' := still hm z
    exact wpAny_pure (fin s' L es ep t (hm.mono wider) (hS.keep (fun o e => hm.heap S o notw e) fun p hp => isT_keep (hk p (List.mem_of_mem_take (g.sub p hp))) z') g z')
  | succ k ih =>
    rintro i s q1 q2 hst z ⟨L, es, ep, t, hS, g⟩ fin
    refine codeAny_builtin F.entry_set_update_loop ?_
    rw [Around.under_plainId F.plain_set_update_loop _]
    show wpAny _ A.in1 (pyNext (.ref I) >>= _) _ _ s
    refine wpAny_bind (W.item i s _ _ (show i < n by omega) hst fun v s' hP hst' hm => ?_)
    obtain ⟨p, hp, rfl⟩ := hv i v hP
    have z' := still hm z
    have hS' := hS.keep (h' := s'.heap) (fun o e => hm.heap S o notw e) fun q hq => isT_keep (hk q (List.mem_of_mem_take (g.sub q hq))) z'
    have hx : IsT P w s'.heap p.2 p.1 := isT_keep (hk p (List.mem_of_getElem? hp)) z'
    show wpAny _ A.in1 (holding [Value.ref p.1] (setAdd S (.ref p.1)) >>= _) _ _ s'
    refine wpAny_bind (wpAny_holding ?_)
    unfold setAdd
    refine wpAny_holding (wpAny_bind (wpAny_pyHash_tuple hu hx ?_))
    have hfew := g.len
    refine put_in (s := { s' with toks := s'.toks + (p.2.length + 1) }) hS' hx hu (by omega) fun b h' L' es' ep' t' sb hS2 c1 c2 => ?_
    have g' : Got ks (i + 1) L' := by
      by_cases c : p.2 ∈ L.map (·.2)
      · rw [c1 c]
        exact g.same hp c
      · exact g.more hp (c2 c)
    have neS : ∀ {c : Addr} {o : Obj}, h0.get? c = some o → c ≠ S := fun e y => by rw [y, hS0] at e; cases e
    have z2 : ∀ b o, h0.get? b = some o → h'.get? b = some o := fun b o e => (sb.2 b (neS e)).trans (z' b o e)
    refine wpAny_pure ⟨plainId_quiet F.plain_set_update_loop _, ih (i + 1) _ (by omega) (by omega) (W.frame _ s' _ _ hst' (Nat.le_add_right _ _) fun b hb o e => ?_) z2 ⟨L', es', ep', t', hS2, g'⟩ fun s2 L2 es2 ep2 t2 hm2 hS3 g2 z3 => ?_⟩
    · exact (sb.2 b (fun y => hS1 (y ▸ hb))).trans e
    · refine fin s2 L2 es2 ep2 t2 (Moved.trans W.gtrans ((hm.mono wider).then_heap (Nat.le_add_right _ _) fun b o hb e => ?_) hm2) hS3 g2 z3
      exact (sb.2 b (fun y => hb (y ▸ List.mem_cons_self))).trans e
set_option maxHeartbeats 8000000 in
/-- set(xs), xs a list of tuples of ints -/
theorem set_made {l : Addr} {items : Array Value} (ks : List (Addr × List Int)) {Q : Value → Shared → Prop} (hh : A.handled = none) (hl : s.heap.IsList l items) (hit : items.toList = ks.map fun p => Value.ref p.1)
    (hk : ∀ p ∈ ks, IsT P w s.heap p.2 p.1) (few : ks.length < 1200) (hu : A.units + 3 < cLine)
    (fin : ∀ (h' : Heap) (tk : Nat) L es ep t, SetB P w h' s.heap.objs.size L es ep t → Got ks ks.length L → (∀ b o, s.heap.get? b = some o → h'.get? b = some o) → Q (.ref s.heap.objs.size) { s with heap := h', toks := tk }) :
    wpAny (model P w) A (call (.type "set") [.ref l]) Q E s := by
  have hsz : items.size = ks.length := by
    have := congrArg List.length hit
    simpa using this
  obtain ⟨ro, hro⟩ : ∃ ro, ro = !w.params.followText "set-order" := ⟨_, rfl⟩
  obtain ⟨so, hso⟩ : ∃ so : Obj, so = { cls := .type "set", dict := none, data := .set #[] 0 (.fresh 0 0 ro) } := ⟨_, rfl⟩
  obtain ⟨_, _, hmro⟩ := F.called_set.mro
  have hmade := F.called_set.made
  have hsub := F.called_set.sub
  have g1 := F.called_set.notType
  have g2 := F.called_set.canCreate
  have g3 := F.typeCall_set_1 (.ref l)
  refine wpAny_call (codeAny_of_tree ?_)
  show wpAny _ _ (callAny (.type "set") _) _ _ _
  refine wpAny_pure ⟨Code.quiet_builtin _ (by decide +kernel), codeAny_builtin F.entry_type_call ?_⟩
  rw [Around.under_plain (weight_type_call_type "set" [.ref l] []) rfl]
  repeat (any_goals (first | assumption | wp_step))
  refine codeAny_mono (code_set_led1 (.ref l) (E := E) (Q₁ := fun v s1 => v = .ref s.heap.objs.size ∧ s1 = { s with heap := s.heap.push so }) ⟨rfl, by rw [hso, hro]⟩) fun r s1 hr => ?_
  cases r with
  | error e => exact hr
  | ok fl =>
    cases fl with
    | ret v =>
      obtain ⟨rfl, rfl⟩ := hr
      have hS : (s.heap.push so).get? s.heap.objs.size = some so := Heap.get?_push_size _ (by rw [hso]; rfl)
      have hT : Shared.TypeIs { s with heap := s.heap.push so } (.ref s.heap.objs.size) "set" := ⟨so, hS, by rw [hso]⟩
      have i1 := F.called_set.init.lookup
      have i2 := F.called_set.init.bind (.ref s.heap.objs.size)
      repeat (any_goals (first | assumption | wp_step))
      refine codeAny_mono (codeAny_call_builtin (R := wants (fun r s2 => r = .none ∧ ∃ h' tk L es ep t, s2 = { s with heap := h', toks := tk } ∧ SetB P w h' s.heap.objs.size L es ep t ∧ Got ks ks.length L ∧
          (∀ b o, s.heap.get? b = some o → h'.get? b = some o)) E) F.called_set.init.plain F.entry_set_init (check_set_init_1 hT ?_)) fun r2 s2 hr2 => ?_
      · obtain ⟨⟨c0, d0, data0, sl0⟩, hol, hcl, nl, hdl⟩ := hl
        simp only at hcl hdl
        subst hcl
        subst hdl
        have hol' : (s.heap.push so).get? l = some { cls := .type "list", dict := d0, data := .seq items nl, slots := sl0 } := Heap.get?_push_of_some _ hol
        have hl1 : (s.heap.push so).IsList l items := ⟨_, hol', rfl, nl, rfl⟩
        have k1 := F.sub_list_set
        have k2 := F.sub_list_frozenset
        have k3 : (Value.type "list" == Value.type "dict") = false := by decide
        subst hso
        unfold Builtin.«set.__init__» noKeywords Builtin.Frozenset.updateFrom
        generalize hPI : pyIter = PI
        wp_walk
        subst hPI
        refine wpAny_pyIter_list hl1 ?_
        refine wpAny_bind (wpAny_runValue ?_)
        have lt : l < s.heap.objs.size := Heap.lt_size hol
        have h3 : A.in1.in1.in1.handled = none := by simp [hh]
        have neI : l ≠ (s.heap.push (setO ro)).objs.size := by
          rw [Heap.size_push]
          exact Nat.ne_of_lt (Nat.lt_succ_of_lt lt)
        have notS : s.heap.objs.size ∉ [(s.heap.push (setO ro)).objs.size, l] := by
          rw [Heap.size_push]
          intro h
          rcases List.mem_cons.mp h with h | h
          · exact absurd h (Nat.ne_of_lt (Nat.lt_succ_self _))
          · exact absurd (List.mem_singleton.mp h) (Nat.ne_of_gt lt)
        have val : ∀ (i : Nat) (v : Value), items[i]? = some v → ∃ p, ks[i]? = some p ∧ v = .ref p.1 := by
          intro i v hv
          rw [← Array.getElem?_toList, hit, List.getElem?_map] at hv
          obtain ⟨p, e1, e2⟩ := Option.map_eq_some_iff.mp hv
          exact ⟨p, e1, e2.symm⟩
        have above : ∀ b, s.heap.objs.size ≤ b → s.heap.get? b = none := by
          intro b hb
          cases q : s.heap.get? b with
          | none => rfl
          | some o => exact absurd (Nat.lt_of_lt_of_le (Heap.lt_size q) hb) (Nat.lt_irrefl _)
        refine upd_loop ((Walks.list h3 _ l neI items).toS) s.heap.objs.size notS ks hsz few val s.heap hk (above _ (Nat.le_refl _)) (fun b hb => above b ?_) hu (items.size - 0) 0 _ rfl (Nat.zero_le _)
          ⟨⟨_, Heap.get?_push_size _ rfl, rfl, rfl⟩, (hl1.push _)⟩ ?old ⟨[], #[], 0, _, setB_new hro (?_ : _ = some _), Got.zero ks⟩ ?_
        case old => exact fun b o e => Heap.get?_push_of_some _ (Heap.get?_push_of_some _ e)
        · rw [List.mem_singleton.mp hb, Heap.size_push]
          exact Nat.le_succ _
        · exact Heap.get?_push_of_some _ hS
        · intro s' L es ep t hm hS' g' z
          obtain ⟨h', g2, d', tk', os'⟩ := s'
          obtain rfl : g2 = s.gens := hm.gens
          obtain rfl : d' = s.drawn := hm.drawn
          obtain rfl : os' = s.os := hm.os
          show wpAny _ _ _ _ _ _
          refine wpAny_pure ?_
          show wpAny _ _ (ret Value.none) _ _ _
          rw [hsz] at g'
          exact wpAny_pure ⟨rfl, h', tk', L, es, ep, t, rfl, hS', g', z⟩
      · cases r2 with
        | error e => exact hr2
        | ok fl2 =>
          cases fl2 with
          | ret v =>
            obtain ⟨rfl, h', tk, L, es, ep, t, rfl, hS', g', z⟩ := hr2
            repeat (any_goals (first | assumption | wp_step))
            exact fin _ _ _ _ _ _ hS' g' z
          | _ => exact hr2.elim
    | _ => exact hr.elim
end
end Z


set_option maxRecDepth 100000
set_option maxHeartbeats 4000000
/-! S4: sorted(set), as a rule of layer Z. -/
namespace Z
open PySem PySem.Spec PyProof.Rows L2
theorem perm_pull {α β : Type} {f : α → β} {vs ws : List β} (h : vs.Perm ws) : ∀ L : List α, ws = L.map f → ∃ L1 : List α, vs = L1.map f ∧ L1.Perm L := by
  induction h with
  | nil => exact fun L e => ⟨[], rfl, by rw [List.map_eq_nil_iff.mp e.symm]⟩
  | cons x _ ih =>
    intro L e
    cases L with
    | nil => cases e
    | cons a L =>
      obtain ⟨rfl, e2⟩ := List.cons.inj e
      obtain ⟨L1, rfl, p⟩ := ih L e2
      exact ⟨a :: L1, rfl, p.cons a⟩
  | swap x y l =>
    intro L e
    match L, e with
    | a :: b :: L, e =>
      obtain ⟨rfl, e2⟩ := List.cons.inj e
      obtain ⟨rfl, rfl⟩ := List.cons.inj e2
      exact ⟨b :: a :: L, rfl, List.Perm.swap a b L⟩
  | trans _ _ ih1 ih2 =>
    intro L e
    obtain ⟨L1, rfl, p1⟩ := ih2 L e
    obtain ⟨L2, rfl, p2⟩ := ih1 L1 rfl
    exact ⟨L2, rfl, p2.trans p1⟩
section
variable {P : Program} {w : World} {A : Around} {E : Value → Shared → Prop} {s : Shared}
/-- a tuple of ints, as data -/
def encT (p : Addr × List Int) : PyData := .tuple (p.2.map .int)
theorem reads_ints {h : Heap} {k : List Int} {vs : List Value} (x : ItemsAre (intKind P w) k vs) : ReadsAll h vs (k.map .int) [] := by
  induction x with
  | nil => exact .nil
  | cons h1 _ ih =>
    obtain ⟨t, rfl⟩ := Value.isInt_shape h1
    exact .cons (as := []) (.int _ t) ih
theorem reads_tup {h : Heap} {p : Addr × List Int} (x : IsT P w h p.2 p.1) : Reads h (.ref p.1) (encT p) [] := by
  obtain ⟨o, items, n, ho, hc, hd, hi⟩ := x
  exact .tuple ho hc hd (reads_ints hi)
theorem eachT {L : List (Addr × List Int)} : PySem.W.EachIs (fun v (p : Addr × List Int) => v = Value.ref p.1) (L.map fun p => Value.ref p.1) L := by
  induction L with
  | nil => exact .nil
  | cons p L ih => exact .cons rfl ih
theorem eachT_inv {out : List Value} {L : List (Addr × List Int)} (e : PySem.W.EachIs (fun v (p : Addr × List Int) => v = Value.ref p.1) out L) : out = L.map fun p => Value.ref p.1 := by
  induction e with
  | nil => rfl
  | cons h _ ih =>
    subst h
    rw [List.map_cons, ih]
def tupLe : Addr × List Int → Addr × List Int → Bool := PySem.W.dataLe false encT
/-- sorted(s) of a set of pairs -/
theorem set_sorted {a : Addr} {L : List (Addr × List Int)} {es : Array (Int × Value)} {ep : Nat} {t : SetTable} {Q : Value → Shared → Prop} (R : SetB P w s.heap a L es ep t) (hh : A.handled = none) (hu : A.units + 10 < cLine)
    (h2 : ∀ p ∈ L, ∃ x y : Int, p.2 = [x, y])
    (hQ : ∀ s' p (out : Array Value) (c : Nat) (L1 : List (Addr × List Int)), (∀ b o, s.heap.get? b = some o → s'.heap.get? b = some o) → s'.gens = s.gens → s'.os = s.os → s.heap.objs.size ≤ p →
      s'.heap.get? p = some (seqObj "list" out c) → L1.Perm L → out.toList = (L1.mergeSort tupLe).map (fun q => Value.ref q.1) → Q (.ref p) s') :
    wpAny (model P w) A (call (.builtin "sorted") [.ref a]) Q E s := by
  obtain ⟨o, ho, hex, hd⟩ := R.ob
  have hsz := R.esz
  have hfew := R.few
  refine Calls.call_function_entry kind_sorted plain_sorted entry_sorted (args_sorted1 _) ?_
  unfold Builtin.«sorted»
  refine wpAny_bind (m := checkCount "sorted" 1 1 _) (wpAny_pure (wpAny_bind (collect_set (A := A.in1) hh ⟨o, ho, hex.1, hd⟩ R.fit (by unfold scanBound; omega) R.tab.ris R.led fun s1 vs k1 hz g1 o1 pm => ?_)))
  have hes : es.toList.map (·.2) = L.map fun q => Value.ref q.1 := by
    rw [R.rows]
    unfold rowsOf
    rw [List.map_map]
    rfl
  rw [hes] at pm
  obtain ⟨L1, rfl, pL⟩ := perm_pull pm L rfl
  have hl1 : L1.length < 1200 := by rw [pL.length_eq]; exact hfew
  refine wpAny_bind (wpAny_newList ?_ (by rw [sizeLine_eq, List.length_map]; omega))
  have hoL : (s1.heap.push (seqObj "list" (L1.map fun q => Value.ref q.1).toArray 0)).get? s1.heap.objs.size = some (seqObj "list" (L1.map fun q => Value.ref q.1).toArray 0) := Heap.get?_push_size _ rfl
  have two : ∀ p ∈ L1, ∃ x y : Int, p.2 = [x, y] := fun p hp => h2 p (pL.mem_iff.mp hp)
  have er : PySem.W.EachIs (fun v p => ∃ as, Reads (s1.heap.push (seqObj "list" (L1.map fun q => Value.ref q.1).toArray 0)) v (encT p) as ∧ s1.heap.objs.size ∉ as) (L1.map fun q => Value.ref q.1) L1 := by
    have key : ∀ M : List (Addr × List Int), (∀ p ∈ M, p ∈ L1) → PySem.W.EachIs (fun v p => ∃ as, Reads (s1.heap.push (seqObj "list" (L1.map fun q => Value.ref q.1).toArray 0)) v (encT p) as ∧ s1.heap.objs.size ∉ as) (M.map fun q => Value.ref q.1) M := by
      intro M
      induction M with
      | nil => exact fun _ => .nil
      | cons p M ih =>
        intro hM
        refine .cons ⟨[], reads_tup (P := P) (w := w) ?_, List.not_mem_nil⟩ (ih fun q hq => hM q (List.mem_cons_of_mem _ hq))
        exact isT_keep (R.tup p (pL.mem_iff.mp (hM p List.mem_cons_self))) fun b u e => Heap.get?_push_of_some _ (k1 b u e)
    exact key L1 fun _ h => h
  have al : PySem.W.AllAlike (L1.map encT) := by
    intro d hd d' hd'
    obtain ⟨p, hp, rfl⟩ := List.mem_map.mp hd
    obtain ⟨q, hq, rfl⟩ := List.mem_map.mp hd'
    obtain ⟨x, y, e1⟩ := two p hp
    obtain ⟨x', y', e2⟩ := two q hq
    unfold encT
    rw [e1, e2]
    rfl
  have so : PySem.W.Sortable (L1.map encT) := by
    left
    intro d hd
    obtain ⟨p, hp, rfl⟩ := List.mem_map.mp hd
    obtain ⟨x, y, e1⟩ := two p hp
    unfold encT
    rw [e1]
    exact ⟨_, _, rfl⟩
  have dp : ∀ p, p ∈ L1 → A.in1.units + 1 + (encT p).depth < cLine := by
    intro p hp
    obtain ⟨x, y, e1⟩ := two p hp
    have : (encT p).depth = 1 := by
      unfold encT
      rw [e1]
      rfl
    rw [this]
    have : A.in1.units ≤ A.units + 1 := by simp
    omega
  refine wpAny_bind (wpAny_holding (PySem.W.list_sort_data (s := { s1 with heap := s1.heap.push (seqObj "list" (L1.map fun q => Value.ref q.1).toArray 0) }) (enc := encT) hoL eachT er al so (by rw [sizeLine_eq]; omega) dp fun out a1 a2 => ?_))
  obtain ⟨c, hc⟩ := sortedHeap_at (vs := L1.map fun q => Value.ref q.1) (out := out.toArray) hoL
  refine wpAny_pure ⟨_, rfl, hQ _ s1.heap.objs.size out.toArray c L1 (fun b u e => ?_) g1 o1 hz hc pL (by rw [eachT_inv a2]; rfl)⟩
  have q := k1 b u e
  have hlt := Heap.lt_size q
  exact (sortedHeap_old (Nat.ne_of_lt hlt) (by rw [size_push']; exact Nat.lt_succ_of_lt hlt)).trans (Heap.get?_push_of_some _ q)
end
end Z


set_option maxRecDepth 100000
set_option maxHeartbeats 4000000
/-! S5: rules of layer Z: tuple(list), sorted(set(pairs)), sorted(data), min(data). -/
namespace Z
open PySem PySem.Spec PyProof.Rows L2
/-! tuple(x) -/
def bTuple : List D → Option D
  | [.lst xs] => some (.tup xs)
  | _ => none
theorem r_tuple {K : PySem.W.Frag} : CROk K (fun xs H Q => ∃ p ys, xs = [.ref p] ∧ ((SqL K H p ys ∧ ∀ l, H l = none → Q (.ref l) (upd H l (.tup ys))) ∨ (SqT K H p ys ∧ Q (.ref p) H))) bTuple := by
  intro F H vs ds d Q s r ho q
  match ds, ho, r with
  | [.lst xs], ho, r =>
    cases ho
    obtain ⟨v, rfl, r0⟩ := r.one
    obtain ⟨p, ws, rfl, h2, rr⟩ := r0.lst_inv
    refine ⟨p, ws, rfl, .inl ⟨SqL.of h2, fun l nl => ?_⟩⟩
    have y : Ext F H (upd F l (.tup ws)) (upd H l (.tup ws)) := .alloc s nl
    refine q _ _ _ y (.tup upd_same (rr.mono y.keep)) fun z => ?_
    obtain ⟨v', e1, r1⟩ := z.one
    cases e1
    obtain ⟨p', ws', e2, h3, rr'⟩ := r1.lst_inv
    cases e2
    have h3' := s _ _ h3
    rw [h2] at h3'
    cases h3'
    exact .tup upd_same (rr'.mono y.fr)
/-! pairs -/
def encP (p : Int × Int) : D := .tup [.int p.1, .int p.2]
def asPs : List D → Option (List (Int × Int))
  | [] => some []
  | .tup [.int a, .int b] :: ds => (asPs ds).map ((a, b) :: ·)
  | _ => none
theorem asPs_inv : ∀ {ds : List D} {ps : List (Int × Int)}, asPs ds = some ps → ds = ps.map encP
  | [], ps, h => by
    cases h
    rfl
  | d :: ds, ps, h => by
    unfold asPs at h
    split at h
    · rename_i e
      cases e
    · rename_i a b ds' e
      obtain ⟨rfl, rfl⟩ := List.cons.inj e
      obtain ⟨qs, h1, rfl⟩ := Option.map_eq_some_iff.mp h
      rw [asPs_inv h1]
      rfl
    · cases h
theorem asPs_map (ps : List (Int × Int)) : asPs (ps.map encP) = some ps := by
  induction ps with
  | nil => rfl
  | cons p ps ih =>
    show (asPs (ps.map encP)).map ((p.1, p.2) :: ·) = _
    rw [ih]
    rfl
def plt (p q : Int × Int) : Prop := p.1 < q.1 ∨ (p.1 = q.1 ∧ p.2 < q.2)
def pLe (p q : Int × Int) : Bool := decide (p.1 < q.1 ∨ (p.1 = q.1 ∧ p.2 ≤ q.2))
/-- each once -/
def once : List (Int × Int) → List (Int × Int)
  | [] => []
  | p :: ps => if p ∈ ps then once ps else p :: once ps
theorem mem_once {x : Int × Int} : ∀ {ps : List (Int × Int)}, x ∈ once ps ↔ x ∈ ps
  | [] => Iff.rfl
  | p :: ps => by
    unfold once
    split
    · rename_i h
      rw [mem_once, List.mem_cons]
      constructor
      · exact .inr
      · rintro (rfl | h2)
        · exact h
        · exact h2
    · rw [List.mem_cons, List.mem_cons, mem_once]
theorem once_nodup : ∀ ps : List (Int × Int), (once ps).Nodup
  | [] => List.nodup_nil
  | p :: ps => by
    unfold once
    split
    · exact once_nodup ps
    · rename_i h
      exact List.nodup_cons.mpr ⟨fun z => h (mem_once.mp z), once_nodup ps⟩
def ssort (ps : List (Int × Int)) : List (Int × Int) := (once ps).mergeSort pLe
theorem pLe_anti {p q : Int × Int} (h1 : pLe p q = true) (h2 : pLe q p = true) : p = q := by
  have h1' := of_decide_eq_true h1
  have h2' := of_decide_eq_true h2
  exact Prod.ext (by omega) (by omega)
theorem pLe_trans (a b c : Int × Int) (h1 : pLe a b = true) (h2 : pLe b c = true) : pLe a c = true := by
  have h1' := of_decide_eq_true h1
  have h2' := of_decide_eq_true h2
  exact decide_eq_true (by omega)
theorem pLe_total (a b : Int × Int) : (pLe a b || pLe b a) = true := by
  rw [Bool.or_eq_true]
  by_cases h : a.1 < b.1 ∨ (a.1 = b.1 ∧ a.2 ≤ b.2)
  · exact .inl (decide_eq_true h)
  · exact .inr (decide_eq_true (by omega))
theorem sort_unique {l1 l2 : List (Int × Int)} (p : l1.Perm l2) : l1.mergeSort pLe = l2.mergeSort pLe := by
  refine List.Perm.eq_of_pairwise (le := fun a b => pLe a b = true) (fun a b _ _ h1 h2 => pLe_anti h1 h2) (List.pairwise_mergeSort pLe_trans pLe_total l1) (List.pairwise_mergeSort pLe_trans pLe_total l2) ?_
  exact (List.mergeSort_perm l1 pLe).trans (p.trans (List.mergeSort_perm l2 pLe).symm)
theorem ssort_pw (ps : List (Int × Int)) : (ssort ps).Pairwise plt := by
  have h1 : (ssort ps).Pairwise fun a b => pLe a b = true := List.pairwise_mergeSort pLe_trans pLe_total _
  have h2 : (ssort ps).Nodup := (List.mergeSort_perm (once ps) pLe).nodup_iff.mpr (once_nodup ps)
  refine List.Pairwise.imp₂ (fun a b x y => ?_) h1 h2
  have x' := of_decide_eq_true x
  unfold plt
  by_cases c : a.1 < b.1
  · exact .inl c
  · refine .inr ⟨by omega, ?_⟩
    by_cases d : a.2 = b.2
    · exact absurd (Prod.ext (by omega) d) y
    · omega
theorem mem_ssort {x : Int × Int} {ps : List (Int × Int)} : x ∈ ssort ps ↔ x ∈ ps := by
  unfold ssort
  rw [List.mem_mergeSort, mem_once]
/-! the rules of the kit's level -/
structure SetB0 (P : Program) (w : World) (h : Heap) (a : Addr) (L : List (Addr × List Int)) : Prop where
  ex : ∃ es ep t, (∃ o, h.get? a = some o ∧ o.ExactSet ∧ o.data = .set es ep t) ∧ es.toList = rowsOf P w L ∧ Tb t (L.map fun p => thash P w p.2) ∧ (L.map (·.2)).Nodup ∧ t.plain = true ∧ (w.params.followText "set-order" = true ∨ t.led = true) ∧ L.length * 5 < t.mask * 3 ∧ L.length < 1200
def SetBO (P : Program) (w : World) (a : Addr) (L : List (Addr × List Int)) : HO := .ext fun h => SetB0 P w h a L
section
variable {X : Cx}
theorem cr_setB (hc : X.calm = true) (hu : X.A.units + 64 < cLine) : CallR X (.type "set") (fun xs H Q => ∃ (l : Addr) (ks : List (Addr × List Int)), xs = [V.ref l] ∧ SqL X.K H l (ks.map fun p => V.ref p.1) ∧ (∀ p ∈ ks, SqT X.K H p.1 (p.2.map V.int)) ∧ ks.length < 1200 ∧
    ∀ a L, H a = none → (∀ p ∈ L, p ∈ ks) → (∀ p ∈ ks, p.2 ∈ L.map (·.2)) → (L.map (·.2)).Nodup → Q (.ref a) (upd H a (SetBO X.prog X.w a L))) := by
  intro pins s σ H xs us Q I r h
  obtain ⟨l, ks, rfl, hl, hk, hf, q⟩ := h
  rw [Vals.ref1 r]
  obtain ⟨its, rv, pl, hz⟩ := I.list hl
  refine set_made (P := X.prog) (w := X.w) ks (I.ok.hd hc) pl.isList (by simpa using refs_of_vals rv) (fun p hp => I.isT (hk p hp)) hf (by omega) fun h' tk L es ep t R g k => ?_
  have hn : H s.heap.objs.size = none := I.hok.fresh (Nat.le_refl _)
  have R0 : SetB0 X.prog X.w h' s.heap.objs.size L := ⟨es, ep, t, R.ob, R.rows, R.tab, R.nd, R.plain, R.led, R.room, R.few⟩
  have new : ObjOk X.prog X.w (upd H s.heap.objs.size (SetBO X.prog X.w s.heap.objs.size L)) h' s.heap.objs.size (SetBO X.prog X.w s.heap.objs.size L) := by
    refine ⟨R0, R.ob.imp fun o x => x.1, fun h1 h2 p k => ?_⟩
    obtain ⟨es', ep', t', ⟨o', ho', r'⟩, q'⟩ := SetB0.ex p
    exact ⟨es', ep', t', ⟨o', k o' ho', r'⟩, q'⟩
  exact ⟨.ref s.heap.objs.size, _, I.laid (t' := tk) k (Nat.le_refl _) new, rfl, q _ L hn (fun p hp => List.mem_of_mem_take (g.sub p hp)) (fun p hp => g.all p (by rw [List.take_length]; exact hp)) R.nd⟩
theorem cr_sortB (hc : X.calm = true) (hu : X.A.units + 64 < cLine) : CallR X (.builtin "sorted") (fun vs H Q => ∃ (a : Addr) (L : List (Addr × List Int)), vs = [V.ref a] ∧ H a = some (SetBO X.prog X.w a L) ∧ (∀ p ∈ L, SqT X.K H p.1 (p.2.map V.int)) ∧ (∀ p ∈ L, ∃ x y : Int, p.2 = [x, y]) ∧
    ∀ (L1 : List (Addr × List Int)) (p : Addr), L1.Perm L → H p = none → Q (.ref p) (upd H p (.lst ((L1.mergeSort tupLe).map fun q => V.ref q.1)))) := by
  intro pins s σ H vs us Q I r h
  obtain ⟨a, L, rfl, ha, hk, h2, q⟩ := h
  have R0 : SetB0 X.prog X.w s.heap a L := (I.hok a _ ha).1
  obtain ⟨es, ep, t, x1, x2, x3, x4, x5, x6, x7, x8⟩ := R0.ex
  have R : SetB X.prog X.w s.heap a L es ep t := ⟨x1, x2, x3, x4, fun p hp => I.isT (hk p hp), x5, x6, x7, x8⟩
  rw [Vals.ref1 r]
  refine set_sorted R (I.ok.hd hc) (by omega) h2 fun s' p out c L1 k g o hp hg pm hout => ?_
  have hlen : ((L1.mergeSort tupLe).map fun q => V.ref q.1).length ≤ sizeLine := by
    rw [List.length_map, List.length_mergeSort, pm.length_eq, sizeLine_eq]
    omega
  have hn : H p = none := I.hok.fresh hp
  have hv : Vals ((L1.mergeSort tupLe).map fun q => V.ref q.1) out.toList := by
    rw [hout]
    exact vals_of_refs _
  have J : Inv X pins σ (upd H p (.lst ((L1.mergeSort tupLe).map fun q => V.ref q.1))) { s with heap := s'.heap, gens := s'.gens, drawn := s'.drawn, toks := s'.toks } :=
    I.call (ch := []) (Un.laid k hp hn) (I.hok.laid k hp ⟨hlen, out.toList, c, hv, hg⟩) (by rw [g]; exact I.bare) (fun _ z => nomatch z)
  have e : s' = { s with heap := s'.heap, gens := s'.gens, drawn := s'.drawn, toks := s'.toks } := by
    cases s'
    cases s
    cases o
    rfl
  rw [e]
  exact ⟨.ref p, _, J, rfl, q L1 p pm hn⟩
end
end Z


set_option maxRecDepth 100000
set_option maxHeartbeats 4000000
/-! S6: sorted(set(pairs)) in layer Z. -/
namespace Z
open PySem PySem.Spec PyProof.Rows L2
def toP (q : Addr × List Int) : Int × Int := (q.2.getD 0 0, q.2.getD 1 0)
theorem tupLe_eq {a b : Addr × List Int} {x y x' y' : Int} (h1 : a.2 = [x, y]) (h2 : b.2 = [x', y']) : tupLe a b = pLe (toP a) (toP b) := by
  unfold tupLe
  rw [PySem.W.dataLe_eq]
  show (!PySem.W.dataLt (encT b) (encT a)) = _
  unfold encT toP
  rw [h1, h2]
  show (!PySem.W.dataLt (.tuple [.int x', .int y']) (.tuple [.int x, .int y])) = decide (x < x' ∨ (x = x' ∧ y ≤ y'))
  rw [PySem.W.dataLt_ii, ← decide_not]
  exact decide_eq_decide.mpr (by omega)
theorem pull_pairs {K : PySem.W.Frag} {F : Hp} : ∀ {ws : List V} {ps : List (Int × Int)}, RepL K F ws (ps.map encP) → ∃ ks : List (Addr × List Int), ws = ks.map (fun p => V.ref p.1) ∧ ks.map (·.2) = ps.map (fun p => [p.1, p.2]) ∧ ∀ p ∈ ks, F p.1 = some (.tup (p.2.map V.int))
  | _, [], .nil => ⟨[], rfl, rfl, fun _ h => nomatch h⟩
  | _, p :: ps, .cons h r => by
    obtain ⟨ks, rfl, e2, e3⟩ := pull_pairs r
    obtain ⟨a, vs, rfl, g1, rr⟩ := h.tup_inv
    obtain ⟨v, w, rfl, r1, r2⟩ := rr.two
    cases r1
    cases r2
    refine ⟨(a, [p.1, p.2]) :: ks, rfl, by rw [List.map_cons, List.map_cons, e2], fun q hq => ?_⟩
    rcases List.mem_cons.mp hq with rfl | hq
    · exact g1
    · exact e3 q hq
theorem rep_pairs {K : PySem.W.Frag} {F : Hp} : ∀ {L : List (Addr × List Int)}, (∀ q ∈ L, F q.1 = some (.tup (q.2.map V.int))) → (∀ q ∈ L, ∃ x y : Int, q.2 = [x, y]) → RepL K F (L.map fun q => V.ref q.1) ((L.map toP).map encP)
  | [], _, _ => .nil
  | q :: L, h1, h2 => by
    refine .cons ?_ (rep_pairs (fun p hp => h1 p (List.mem_cons_of_mem _ hp)) fun p hp => h2 p (List.mem_cons_of_mem _ hp))
    obtain ⟨x, y, e⟩ := h2 q List.mem_cons_self
    have g := h1 q List.mem_cons_self
    rw [e] at g
    unfold toP encP
    rw [e]
    exact .tup g (.cons (.int x) (.cons (.int y) .nil))
def kSS (k : EV → Option (List D)) : EV → Option (List D) := fun ev => match k ev with
  | some [.lst ds] => (asPs ds).bind fun ps => if ps.length < 1200 then some ((ssort ps).map encP) else none
  | _ => none
section
variable {X : Cx} {e : Expr} {k : EV → Option (List D)} {pos : Pos}
theorem f_ss {p p2 q2 : Pos} (hc : X.calm = true) (hu : X.A.units + 64 < cLine) (hg : Gl X "sorted") (hm : X.mg "sorted" = none) (hg2 : Gl X "set") (hm2 : X.mg "set" = none) (ha : AOk X [e] true k)
    (hv : bootBuiltins "sorted" = some (.builtin "sorted") := by first | rfl | kernel_rfl) (hv2 : bootBuiltins "set" = some (.type "set") := by first | rfl | kernel_rfl)
    (he : starEach [e] X.env = (false, eval e X.env) :: starEach [] X.env := by rfl) (he2 : starEach [.Call (.Name "set" p2) [e] [] q2] X.env = (false, eval (.Call (.Name "set" p2) [e] [] q2) X.env) :: starEach [] X.env := by rfl)
    (hpl : (backTo q2 (starEach [] X.env)).any (·.1) = false := by rfl) (hpl2 : (backTo pos (starEach [] X.env)).any (·.1) = false := by rfl) :
    FOk X (.Call (.Name "sorted" p) [.Call (.Name "set" p2) [e] [] q2] [] pos) (kSS k) := by
  obtain ⟨t, pa, ra⟩ := ha
  refine ⟨_, pe_callB (cr_sortB hc hu) hg hm hv (pa_cons (pe_callTy (cr_setB hc hu) hg2 hm2 hv2 pa (by decide) (by decide) he hpl) pa_nil) (by decide) (by decide) he2 hpl2, fun F0 H0 ev σ F H xs Q s he q => ?_⟩
  unfold kSS at he
  split at he
  · rename_i ds h1
    obtain ⟨ps, h2, h3⟩ := Option.bind_eq_some_iff.mp he
    obtain ⟨h4, rfl⟩ := of_ite h3
    obtain rfl := asPs_inv h2
    refine ra F0 H0 ev σ F H _ _ s h1 fun vs F1 H1 x1 r1 z1 => ?_
    have s1 := s.up x1
    obtain ⟨v, rfl, r0⟩ := (z1 rfl).one
    obtain ⟨l, ws, rfl, g1, rr⟩ := r0.lst_inv
    obtain ⟨ks, rfl, e2, e3⟩ := pull_pairs rr
    have hlen : ks.length = ps.length := by
      have := congrArg List.length e2
      simpa using this
    have shape : ∀ p ∈ ks, ∃ x y : Int, p.2 = [x, y] := by
      intro p hp
      have : p.2 ∈ ps.map (fun p => [p.1, p.2]) := by rw [← e2]; exact List.mem_map.mpr ⟨p, hp, rfl⟩
      obtain ⟨r, _, e⟩ := List.mem_map.mp this
      exact ⟨_, _, e.symm⟩
    refine ⟨l, ks, rfl, SqL.of (s1.sub _ _ g1), fun p hp => SqT.of (s1.sub _ _ (e3 p hp)), by omega, fun a L na q1 q2 q3 => ?_⟩
    have ne : ∀ {b : Addr} {o : HO}, H1 b = some o → b ≠ a := fun h => ne_of_none h na
    refine ⟨a, L, rfl, upd_same, fun p hp => SqT.of ?_, fun p hp => shape p (q1 p hp), fun L1 c pm nc => ?_⟩
    · have h := s1.sub _ _ (e3 p (q1 p hp))
      rw [upd_ne (ne h)]
      exact h
    · have hca : c ≠ a := fun z => by rw [z, upd_same] at nc; cases nc
      have nc1 : H1 c = none := by rw [upd_ne hca] at nc; exact nc
      have sub1 : Same F1 (upd H1 a (SetBO X.prog X.w a L)) := s1.sub.trans (same_upd na)
      have E2 : Ext F H F1 (upd (upd H1 a (SetBO X.prog X.w a L)) c (.lst ((L1.mergeSort tupLe).map fun q => V.ref q.1))) := x1.trans ((Ext.allocH s1.sub na).trans (.allocH sub1 nc))
      have in1 : ∀ r ∈ L1, r ∈ ks := fun r hr => q1 r (pm.mem_iff.mp hr)
      have hmap : (L1.mergeSort tupLe).map toP = ssort ps := by
        rw [List.map_mergeSort (s := pLe) (fun r hr r' hr' => by
          obtain ⟨x, y, e⟩ := shape r (in1 r hr)
          obtain ⟨x', y', e'⟩ := shape r' (in1 r' hr')
          exact tupLe_eq e e')]
        refine sort_unique ((List.perm_ext_iff_of_nodup ?_ (once_nodup ps)).mpr fun z => ?_)
        · have nd : (L1.map (·.2)).Nodup := (pm.map (·.2)).nodup_iff.mpr q3
          refine List.pairwise_map.mpr (List.Pairwise.imp_of_mem (fun {r r'} hr hr' hne e => ?_) (List.pairwise_map.mp nd))
          obtain ⟨x, y, e1⟩ := shape r (in1 r hr)
          obtain ⟨x', y', e2'⟩ := shape r' (in1 r' hr')
          unfold toP at e
          rw [e1, e2'] at e
          simp at e
          exact hne (by rw [e1, e2', e.1, e.2])
        · rw [mem_once, List.mem_map]
          constructor
          · rintro ⟨r, hr, rfl⟩
            have : r.2 ∈ ps.map (fun p => [p.1, p.2]) := by rw [← e2]; exact List.mem_map.mpr ⟨r, in1 r hr, rfl⟩
            obtain ⟨z, hz, e⟩ := List.mem_map.mp this
            unfold toP
            rw [← e]
            exact hz
          · intro hz
            have : [z.1, z.2] ∈ ks.map (·.2) := by rw [e2]; exact List.mem_map.mpr ⟨z, hz, rfl⟩
            obtain ⟨r, hr, e⟩ := List.mem_map.mp this
            have h5 := q2 r hr
            obtain ⟨r', hr', e'⟩ := List.mem_map.mp h5
            refine ⟨r', pm.mem_iff.mpr hr', ?_⟩
            unfold toP
            rw [e', e]
            rfl
      refine q c _ F1 _ E2 (x1.keep.free nc1) (s1.sub.free nc1) upd_same ?_
      rw [← hmap]
      exact rep_pairs (fun r hr => e3 r (in1 r (List.mem_mergeSort.mp hr))) fun r hr => shape r (in1 r (List.mem_mergeSort.mp hr))
  · cases he
end
end Z


set_option maxRecDepth 100000
set_option maxHeartbeats 4000000
/-! S7: sorted and min of data, in layer Z. -/
namespace Z
open PySem PySem.Spec PyProof.Rows L2
open Classical in
section
variable {X : Cx}
def leV : V × D → V × D → Bool := PySem.W.dataLe false fun b => b.2.pd
def leD : D → D → Bool := PySem.W.dataLe false D.pd
theorem eachV : ∀ {bs : List (V × D)} {us : List Value}, Vals (bs.map (·.1)) us → PySem.W.EachIs (fun u (b : V × D) => RelV b.1 u) us bs
  | [], _, .nil => .nil
  | _ :: _, _, .cons h r => .cons h (eachV r)
theorem eachV_inv {bs : List (V × D)} {us : List Value} (e : PySem.W.EachIs (fun u (b : V × D) => RelV b.1 u) us bs) : Vals (bs.map (·.1)) us := by
  induction e with
  | nil => exact .nil
  | cons h _ ih => exact .cons h ih
theorem eachV_reads {pins : List (Addr × Obj)} {σ : L2.St} {H : Hp} {s : Shared} (I : Inv X pins σ H s) {bs : List (V × D)} {us : List Value} (e : PySem.W.EachIs (fun u (b : V × D) => RelV b.1 u) us bs) :
    (∀ b ∈ bs, Dp X.K H b.1 b.2.pd) → PySem.W.EachIs (fun u (b : V × D) => ∃ as, Reads s.heap u b.2.pd as) us bs := by
  induction e with
  | nil => exact fun _ => .nil
  | cons h _ ih => exact fun hd => .cons ((hd _ List.mem_cons_self).reads I _ _ _ h) (ih fun b hb => hd b (List.mem_cons_of_mem _ hb))
theorem cr_sortD (hu : X.A.units + 100 < cLine) : CallR X (.builtin "sorted") (fun vs H Q => ∃ (a : Addr) (bs : List (V × D)), vs = [V.ref a] ∧ SqL X.K H a (bs.map (·.1)) ∧ (∀ b ∈ bs, Dp X.K H b.1 b.2.pd) ∧ PySem.W.AllAlike (bs.map fun b => b.2.pd) ∧ PySem.W.Sortable (bs.map fun b => b.2.pd) ∧
    (∀ b ∈ bs, b.2.pd.depth ≤ 64) ∧ ∀ p, H p = none → Q (.ref p) (upd H p (.lst ((bs.mergeSort leV).map (·.1))))) := by
  intro pins s σ H vs us Q I r h
  obtain ⟨a, bs, rfl, hl, hd, al, so, dp, q⟩ := h
  rw [Vals.ref1 r]
  obtain ⟨its, rv, pl, hz⟩ := I.list hl
  have e := eachV rv
  have hbs : bs.length ≤ sizeLine := by simpa using hz
  refine PySem.W.sorted_data (enc := fun b : V × D => b.2.pd) pl.isList e (eachV_reads I e hd) al so hbs (fun b hb => by have := dp b hb; omega) fun out ho eo => ?_
  obtain ⟨c, hc⟩ := sortedAll_at s.heap its (List.toArray out)
  have hp : s.heap.objs.size ≤ s.heap.objs.size + 1 := Nat.le_succ _
  have hn : H (s.heap.objs.size + 1) = none := I.hok.fresh hp
  have hv : Vals ((bs.mergeSort leV).map (·.1)) (List.toArray out).toList := eachV_inv eo
  have k : ∀ b o, s.heap.get? b = some o → (sortedAll s.heap its (List.toArray out)).get? b = some o := fun b o => sortedAll_old
  have J : Inv X pins σ (upd H (s.heap.objs.size + 1) (.lst ((bs.mergeSort leV).map (·.1)))) { s with heap := sortedAll s.heap its (List.toArray out), gens := s.gens, drawn := s.drawn, toks := s.toks } :=
    I.call (ch := []) (Un.laid k hp hn) (I.hok.laid k hp ⟨by rw [List.length_map, List.length_mergeSort]; exact hbs, (List.toArray out).toList, c, hv, hc⟩) I.bare (fun _ z => nomatch z)
  exact ⟨.ref (s.heap.objs.size + 1), _, J, rfl, q _ hn⟩
theorem dpAll_of : ∀ {bs : List (V × D)} {H : Hp}, (∀ b ∈ bs, Dp X.K H b.1 b.2.pd) → DpAll X.K H (bs.map (·.1)) (bs.map fun b => b.2.pd)
  | [], _, _ => .nil
  | b :: bs, _, h => .cons (h b List.mem_cons_self) (dpAll_of fun c hc => h c (List.mem_cons_of_mem _ hc))
theorem cr_minD (hc : X.calm = true) (hu : X.A.units + 100 < cLine) : CallR X (.builtin "min") (fun vs H Q => ∃ (a : Addr) (b0 : V × D) (bs : List (V × D)), vs = [V.ref a] ∧ SqL X.K H a ((b0 :: bs).map (·.1)) ∧ (∀ b ∈ b0 :: bs, Dp X.K H b.1 b.2.pd) ∧
    PySem.W.AlikeAll ((b0 :: bs).map fun b => b.2.pd) ∧ PyData.depthAll ((b0 :: bs).map fun b => b.2.pd) ≤ 64 ∧ ∀ b ∈ b0 :: bs, b.2.pd = PySem.W.minD b0.2.pd (bs.map fun b => b.2.pd) → Q b.1 H) := by
  intro pins s σ H vs us Q I r h
  obtain ⟨a, b0, bs, rfl, hl, hd, al, dp, q⟩ := h
  rw [Vals.ref1 r]
  obtain ⟨its, rv, pl, hz⟩ := I.list hl
  obtain ⟨as, rd⟩ := Dp.readsAll I _ _ _ (dpAll_of hd) rv
  refine PySem.W.min_list_data (vs := its.toArray) (I.ok.hd hc) pl.isList rd al (by simp only [List.map_cons] at dp ⊢; omega) fun i v h' tk bs' hv hr k => ?_
  have hv' : its[i]? = some v := by simpa using hv
  have e := eachV rv
  have at_i : ∀ {bs : List (V × D)} {us : List Value} {i : Nat} {u : Value}, PySem.W.EachIs (fun u (b : V × D) => RelV b.1 u) us bs → us[i]? = some u → ∃ b ∈ bs, RelV b.1 u := by
    intro bs us i u e
    induction e generalizing i with
    | nil => intro z; simp at z
    | cons h _ ih =>
      intro z
      cases i with
      | zero =>
        simp at z
        subst z
        exact ⟨_, List.mem_cons_self, h⟩
      | succ i =>
        obtain ⟨b, hb, hr⟩ := ih (by simpa using z)
        exact ⟨b, List.mem_cons_of_mem _ hb, hr⟩
  obtain ⟨b, hb, hrel⟩ := at_i e hv'
  have J : Inv X pins σ H { s with heap := h', toks := tk } := I.kept k
  obtain ⟨as2, hr2⟩ := (hd b hb).reads J _ _ _ hrel
  have hmem : PySem.W.minD b0.2.pd (bs.map fun b => b.2.pd) ∈ (b0 :: bs).map fun b => b.2.pd := by
    have key : ∀ (xs : List PyData) (x : PyData), PySem.W.minD x xs ∈ x :: xs := by
      intro xs
      induction xs with
      | nil => exact fun x => List.mem_cons_self
      | cons y ys ih =>
        intro x
        have := ih (if PySem.W.dataLt y x then y else x)
        show PySem.W.minD (if PySem.W.dataLt y x then y else x) ys ∈ x :: y :: ys
        rcases List.mem_cons.mp this with h | h
        · rw [h]
          split
          · exact List.mem_cons_of_mem _ List.mem_cons_self
          · exact List.mem_cons_self
        · exact List.mem_cons_of_mem _ (List.mem_cons_of_mem _ h)
    exact key _ _
  have eq : b.2.pd = PySem.W.minD b0.2.pd (bs.map fun b => b.2.pd) :=
    PySem.W.alike_unique _ _ _ _ _ (al.1 _ (List.mem_map.mpr ⟨b, hb, rfl⟩) _ hmem) hr2 hr
  exact ⟨b.1, H, J, hrel, q b hb eq⟩
/-! the rules -/
noncomputable def kSort (k : EV → Option (List D)) : EV → Option (List D) := fun ev => match k ev with
  | some [.lst ds] => if PySem.W.AllAlike (ds.map D.pd) ∧ PySem.W.Sortable (ds.map D.pd) ∧ ∀ d ∈ ds, d.pd.depth ≤ 64 then some (ds.mergeSort leD) else none
  | _ => none
theorem RepL.zip {K : PySem.W.Frag} {F : Hp} : ∀ {vs : List V} {ds : List D}, RepL K F vs ds → ∃ bs : List (V × D), vs = bs.map (·.1) ∧ ds = bs.map (·.2) ∧ ∀ b ∈ bs, Rep K F b.1 b.2
  | _, _, .nil => ⟨[], rfl, rfl, fun _ h => nomatch h⟩
  | v :: _, d :: _, .cons h r => by
    obtain ⟨bs, rfl, rfl, hb⟩ := RepL.zip r
    refine ⟨(v, d) :: bs, rfl, rfl, fun b hb' => ?_⟩
    rcases List.mem_cons.mp hb' with rfl | z
    · exact h
    · exact hb b z
theorem RepL.ofB {K : PySem.W.Frag} {F : Hp} : ∀ {bs : List (V × D)}, (∀ b ∈ bs, Rep K F b.1 b.2) → RepL K F (bs.map (·.1)) (bs.map (·.2))
  | [], _ => .nil
  | b :: bs, h => .cons (h b List.mem_cons_self) (RepL.ofB fun c hc => h c (List.mem_cons_of_mem _ hc))
theorem f_sorted {e : Expr} {k : EV → Option (List D)} {pos p : Pos} (hu : X.A.units + 100 < cLine) (hg : Gl X "sorted") (hm : X.mg "sorted" = none) (ha : AOk X [e] true k)
    (hv : bootBuiltins "sorted" = some (.builtin "sorted") := by first | rfl | kernel_rfl)
    (he : starEach [e] X.env = (false, eval e X.env) :: starEach [] X.env := by rfl) (hpl : (backTo pos (starEach [] X.env)).any (·.1) = false := by rfl) :
    FOk X (.Call (.Name "sorted" p) [e] [] pos) (kSort k) := by
  obtain ⟨t, pa, ra⟩ := ha
  refine ⟨_, pe_callB (cr_sortD hu) hg hm hv pa (by decide) (by decide) he hpl, fun F0 H0 ev σ F H xs Q s he q => ?_⟩
  unfold kSort at he
  split at he
  · rename_i ds h1
    obtain ⟨⟨h2, h3, h4⟩, rfl⟩ := of_ite he
    refine ra F0 H0 ev σ F H _ _ s h1 fun vs F1 H1 x1 r1 z1 => ?_
    have s1 := s.up x1
    obtain ⟨v, rfl, r0⟩ := (z1 rfl).one
    obtain ⟨l, ws, rfl, g1, rr⟩ := r0.lst_inv
    obtain ⟨bs, rfl, rfl, hb⟩ := RepL.zip rr
    rw [List.map_map] at h2 h3
    refine ⟨l, bs, rfl, SqL.of (s1.sub _ _ g1), fun b hm => ((hb b hm).mono s1.sub).dp, h2, h3, fun b hm => h4 _ (List.mem_map.mpr ⟨b, hm, rfl⟩), fun c nc => ?_⟩
    refine q c _ F1 _ (x1.trans (.allocH s1.sub nc)) (x1.keep.free nc) (s1.sub.free nc) upd_same ?_
    rw [← List.map_mergeSort (r := leV) (s := leD) (f := (·.2)) (l := bs) fun a _ b _ => rfl]
    exact RepL.ofB fun b hm => hb b (List.mem_mergeSort.mp hm)
  · cases he
mutual
def ofPd : PyData → D
  | .none => .non
  | .bool b => .bl b
  | .int i => .int i
  | .str x => .str x
  | .list xs => .lst (ofPdL xs)
  | .tuple xs => .tup (ofPdL xs)
  | .dict _ => .non
def ofPdL : List PyData → List D
  | [] => []
  | x :: xs => ofPd x :: ofPdL xs
end
/-- the least item of a list -/
noncomputable def bMinD : List D → Option D
  | [.lst (d :: ds)] => if PySem.W.AlikeAll ((d :: ds).map D.pd) ∧ PyData.depthAll ((d :: ds).map D.pd) ≤ 64 ∧ ∀ x ∈ d :: ds, ofPd x.pd = x then some (ofPd (PySem.W.minD d.pd (ds.map D.pd))) else none
  | _ => none
theorem r_minD {K : PySem.W.Frag} : CROk K (fun vs H Q => ∃ (a : Addr) (b0 : V × D) (bs : List (V × D)), vs = [V.ref a] ∧ SqL K H a ((b0 :: bs).map (·.1)) ∧ (∀ b ∈ b0 :: bs, Dp K H b.1 b.2.pd) ∧
    PySem.W.AlikeAll ((b0 :: bs).map fun b => b.2.pd) ∧ PyData.depthAll ((b0 :: bs).map fun b => b.2.pd) ≤ 64 ∧ ∀ b ∈ b0 :: bs, b.2.pd = PySem.W.minD b0.2.pd (bs.map fun b => b.2.pd) → Q b.1 H) bMinD := by
  intro F H vs ds d Q s r ho q
  unfold bMinD at ho
  split at ho
  · rename_i d0 ds0
    obtain ⟨⟨h1, h2, h3⟩, rfl⟩ := of_ite ho
    obtain ⟨v, rfl, r0⟩ := r.one
    obtain ⟨l, ws, rfl, g1, rr⟩ := r0.lst_inv
    obtain ⟨bs, rfl, e2, hb⟩ := RepL.zip rr
    cases bs with
    | nil => cases e2
    | cons b0 bs =>
      obtain ⟨rfl, rfl⟩ := List.cons.inj e2
      have em : (b0.2 :: bs.map (·.2)).map D.pd = (b0 :: bs).map fun b => b.2.pd := by simp
      have em2 : (bs.map (·.2)).map D.pd = bs.map fun b => b.2.pd := by simp
      rw [em] at h1 h2
      rw [em2] at q
      refine ⟨l, b0, bs, rfl, SqL.of g1, fun b hm => (hb b hm).dp, h1, h2, fun b hm e => ?_⟩
      have hmem : b.2 ∈ b0.2 :: bs.map (·.2) := by
        have : b.2 ∈ (b0 :: bs).map (·.2) := List.mem_map.mpr ⟨b, hm, rfl⟩
        simpa using this
      have e3 : ofPd (PySem.W.minD b0.2.pd (bs.map fun b => b.2.pd)) = b.2 := by
        rw [← e]
        exact h3 _ hmem
      rw [e3] at q
      refine q b.1 F H (.refl s) (hb b hm) fun z => ?_
      obtain ⟨v', e4, r4⟩ := z.one
      cases e4
      obtain ⟨l', ws', e5, g5, rr5⟩ := r4.lst_inv
      cases e5
      have g6 := s _ _ g5
      rw [g1] at g6
      cases g6
      obtain ⟨i, hi⟩ := List.getElem?_of_mem hm
      obtain ⟨d', e7, r7⟩ := rr5.getV (i := i) (v := b.1) (by rw [List.getElem?_map, hi]; rfl)
      have e8 : (b0.2 :: bs.map (·.2))[i]? = some b.2 := by
        have : ((b0 :: bs).map (·.2))[i]? = some b.2 := by rw [List.getElem?_map, hi]; rfl
        simpa using this
      rw [e8] at e7
      cases e7
      exact r7
  · cases ho
theorem units64 {A : Around} {k : Nat} (hr : Room k A) : A.units + 64 < cLine := by
  have := units100 hr
  omega
end
end Z


set_option maxRecDepth 100000
set_option maxHeartbeats 4000000
namespace K63
open PySem PySem.Spec PyProof.Rows L2 Z
def topS (i : Nat) : Stmt := PySem.Challenge.pw_waysflooded_k63_main_what_holds_of_ways.main.body.getD i (.Pass ⟨0, 0, 0, 0⟩)
structure Txt (K : PySem.W.Frag) (mg : Str → Option Value) : Prop where
  d_check_links : DefAt K mg "check_links" "check_links" (topS 10)
  d_is_span : DefAt K mg "is_span" "is_span" (topS 14)
  d_check_router : DefAt K mg "check_router" "check_router" (topS 15)
  d_hops_of : DefAt K mg "hops_of" "hops_of" (topS 17)
  d_unbeaten : DefAt K mg "unbeaten" "unbeaten" (topS 18)
  d__law_draws : DefAt K mg "_law_draws" "_law_draws" (topS 29)
  d__law_mix : DefAt K mg "_law_mix" "_law_mix" (topS 30)
  d__law_costs : DefAt K mg "_law_costs" "_law_costs" (topS 34)
  d_check_net : DefAt K mg "check_net" "check_net" (topS 16)
  d_next_front : DefAt K mg "next_front" "next_front" (topS 19)
  d_walk_by : DefAt K mg "walk_by" "walk_by" (topS 25)
  d__law_net : DefAt K mg "_law_net" "_law_net" (topS 31)
  d__law_minutes : DefAt K mg "_law_minutes" "_law_minutes" (topS 32)
  d_find_fronts : DefAt K mg "find_fronts" "find_fronts" (topS 20)
  d_are_fronts : DefAt K mg "are_fronts" "are_fronts" (topS 22)
  d_check_ends : DefAt K mg "check_ends" "check_ends" (topS 24)
  d__law_doubled : DefAt K mg "_law_doubled" "_law_doubled" (topS 33)
  d_fronts : DefAt K mg "fronts" "fronts" (topS 21)
  d_cheapest : DefAt K mg "cheapest" "cheapest" (topS 26)
  d_limits : DefAt K mg "limits" "limits" (topS 27)
  d_law : DefAt K mg "law" "law" (topS 35)
  c_MOST_COST : IntAt mg "MOST_COST" 1000
  c_MOST_LINKS : IntAt mg "MOST_LINKS" 40
  c_MOST_MINUTES : IntAt mg "MOST_MINUTES" 1000
  c_MOST_PAIRS : IntAt mg "MOST_PAIRS" 300
  c_MOST_ROUTERS : IntAt mg "MOST_ROUTERS" 16
  n_abs : mg "abs" = none
  n_all : mg "all" = none
  n_enumerate : mg "enumerate" = none
  n_int : mg "int" = none
  n_len : mg "len" = none
  n_max : mg "max" = none
  n_min : mg "min" = none
  n_range : mg "range" = none
  n_repr : mg "repr" = none
  n_set : mg "set" = none
  n_sorted : mg "sorted" = none
  n_tuple : mg "tuple" = none
/-! ### check_links -/
abbrev st_check_links : Stmt := topS 10
theorem sc_check_links : FnScope ["routers", "links", "k", "one", "two", "there", "back"] ["routers", "links"] (defScope st_check_links) := ⟨rfl, rfl, rfl, by decide +kernel, rfl, by decide +kernel, by decide +kernel⟩
noncomputable def check_links_b1 : EV → Option Fl :=
(sSeq (sIf (tOrZ (tOf (c2 oGe (cVar 2) (cC (.int 40)))) (tOrZ (tNotZ (tOf (cCh (cC (.int 0)) (chLink oLe (cVar 3) (chLast oLt (cVar 0)))))) (tOrZ (tNotZ (tOf (cCh (cC (.int 0)) (chLink oLe (cVar 4) (chLast oLt (cVar 0)))))) (tOf (c2 oEq (cVar 3) (cVar 4))))))
sNo
sNx)
(sIf (tOrZ (tNotZ (tOf (cCh (cC (.int 1)) (chLink oLe (cVar 5) (chLast oLe (cC (.int 1000))))))) (tNotZ (tOf (cCh (cC (.int 1)) (chLink oLe (cVar 6) (chLast oLe (cC (.int 1000))))))))
sNo
sNx))
noncomputable def check_links_s1 : EV → Option Fl :=
(sFor (iEn (aCons (cVar 1) aNil)) (mTup (mCons (mName 2) (mCons (mTup (mCons (mName 3) (mCons (mName 4) (mCons (mName 5) (mCons (mName 6) mNil))))) mNil)))
check_links_b1)
noncomputable def body_check_links : EV → Option Fl :=
check_links_s1
noncomputable def m_check_links : List D → Option D := runFn 2 5 body_check_links
theorem ok_check_links {P : Program} {w : World} {K : PySem.W.Frag} {mg : Str → Option Value} {base : Heap} (T : Txt K mg) : FnAt P w K mg base "check_links" 1 2 m_check_links := by
  refine fn_at (N := ["routers", "links", "k", "one", "two", "there", "back"]) (ps := ["routers", "links"]) T.d_check_links sc_check_links rfl rfl (fun _ _ _ _ _ _ us hl => match us, hl with | [_, _], _ => rfl) fun f cdv A outer s H E hr => ?_
  exact (b_one (s_for PassesOwn.never rfl (i_enum (by rfl) T.n_enumerate (a_cons (fa := true) (fb := true) (e_var (pv 1)) a_nil)) (g_tup rfl (gs_cons (g_name (pg_name sc_check_links.nd rfl (Or.inl rfl))) (gs_cons (g_tup rfl (gs_cons (g_name (pg_name sc_check_links.nd rfl (Or.inl rfl))) (gs_cons (g_name (pg_name sc_check_links.nd rfl (Or.inl rfl))) (gs_cons (g_name (pg_name sc_check_links.nd rfl (Or.inl rfl))) (gs_cons (g_name (pg_name sc_check_links.nd rfl (Or.inl rfl))) gs_nil))))) gs_nil)))
(b_cons (s_if (t_w (w_or (t_cmp op_ge r_ge (e_var (pv 2)) (e_gc T.c_MOST_LINKS (by rfl))) (w_or (t_not (t_chn e_int (th_link op_le r_le (e_var (pv 3)) (th_last op_lt r_lt (e_var (pv 0)))))) (w_or (t_not (t_chn e_int (th_link op_le r_le (e_var (pv 4)) (th_last op_lt r_lt (e_var (pv 0)))))) (w_or1 (t_cmp (op_eqD hr.units) r_eq (e_var (pv 3)) (e_var (pv 4))))))))
(b_one s_never)
b_nil)
(b_one (s_if (t_w (w_or (t_not (t_chn e_int (th_link op_le r_le (e_var (pv 5)) (th_last op_le r_le (e_gc T.c_MOST_COST (by rfl)))))) (w_or1 (t_not (t_chn e_int (th_link op_le r_le (e_var (pv 6)) (th_last op_le r_le (e_gc T.c_MOST_COST (by rfl)))))))))
(b_one s_never)
b_nil)))))
/-! ### is_span -/
abbrev st_is_span : Stmt := topS 14
theorem sc_is_span : FnScope ["told", "one"] ["told"] (defScope st_is_span) := ⟨rfl, rfl, rfl, by decide +kernel, rfl, by decide +kernel, by decide +kernel⟩
noncomputable def is_span_e1 : EV → Option D :=
(cCh (cC (.int 0)) (chLink oLe (cVar 1) (chLast oLe (cC (.int 1000)))))
noncomputable def is_span_s1 : EV → Option Fl :=
(sRet (cAnd (c2 oEq (cCB bLen (aCons (cVar 0) aNil)) (cC (.int 2))) (cCB bAll (aCons (cLst (kComp (iTuple (cVar 0)) (mName 1) (fun _ => some true) is_span_e1 [1])) aNil))))
noncomputable def body_is_span : EV → Option Fl :=
is_span_s1
noncomputable def m_is_span : List D → Option D := runFn 1 1 body_is_span
theorem ok_is_span {P : Program} {w : World} {K : PySem.W.Frag} {mg : Str → Option Value} {base : Heap} (T : Txt K mg) : FnAt P w K mg base "is_span" 1 1 m_is_span := by
  refine fn_at (N := ["told", "one"]) (ps := ["told"]) T.d_is_span sc_is_span rfl rfl (fun _ _ _ _ _ _ us hl => match us, hl with | [_], _ => rfl) fun f cdv A outer s H E hr => ?_
  exact (b_one (s_ret (e_and (fa := true) (fb := true) (e_cmp (fa := true) (fb := true) (op_eqD hr.units) r_eq (e_cb call_len_seq cr_len (by rfl) T.n_len boot_len (a_cons (fa := true) (fb := true) (e_var (pv 0)) a_nil)) e_int) (e_one (e_cb (cr_all rfl) r_all (by rfl) T.n_all boot_all (a_cons (fa := true) (fb := true) (e_f (f_lc (own := [("one", 1)]) rfl sc_is_span.nd (i_tup (e_var (pv 0))) (by kernel_rfl) (gB fun _ _ _ _ _ => (g_name (pg_name sc_is_span.nd rfl (Or.inl rfl)))) (tsB fun _ _ _ _ _ => ts_nil) (eB fun _ _ _ _ _ => (e_chn e_int (ch_link op_le r_le (e_var (pv 1)) (ch_last op_le r_le (e_gc T.c_MOST_MINUTES (by rfl)))))))) a_nil))))))
/-! ### check_router -/
abbrev st_check_router : Stmt := topS 15
theorem sc_check_router : FnScope ["routers", "router"] ["routers", "router"] (defScope st_check_router) := ⟨rfl, rfl, rfl, by decide +kernel, rfl, by decide +kernel, by decide +kernel⟩
noncomputable def check_router_s1 : EV → Option Fl :=
(sIf (tNotZ (tOf (cCh (cC (.int 0)) (chLink oLe (cVar 1) (chLast oLt (cVar 0))))))
sNo
sNx)
noncomputable def body_check_router : EV → Option Fl :=
check_router_s1
noncomputable def m_check_router : List D → Option D := runFn 2 0 body_check_router
theorem ok_check_router {P : Program} {w : World} {K : PySem.W.Frag} {mg : Str → Option Value} {base : Heap} (T : Txt K mg) : FnAt P w K mg base "check_router" 1 2 m_check_router := by
  refine fn_at (N := ["routers", "router"]) (ps := ["routers", "router"]) T.d_check_router sc_check_router rfl rfl (fun _ _ _ _ _ _ us hl => match us, hl with | [_, _], _ => rfl) fun f cdv A outer s H E hr => ?_
  exact (b_one (s_if (t_not (t_chn e_int (th_link op_le r_le (e_var (pv 1)) (th_last op_lt r_lt (e_var (pv 0))))))
(b_one s_never)
b_nil))
/-! ### hops_of -/
abbrev st_hops_of : Stmt := topS 17
theorem sc_hops_of : FnScope ["links", "minutes", "router", "found", "k", "one", "two", "there", "back"] ["links", "minutes", "router"] (defScope st_hops_of) := ⟨rfl, rfl, rfl, by decide +kernel, rfl, by decide +kernel, by decide +kernel⟩
noncomputable def hops_of_s1 : EV → Option Fl :=
(sSetL 3 (lO (kList aNil)))
noncomputable def hops_of_b1 : EV → Option Fl :=
(sSeq (sIf (tOf (c2 oEq (cVar 5) (cVar 2)))
(sApp 3 (cTup (aCons (cTup (aCons (cVar 4) (aCons (cC (.int 0)) aNil))) (aCons (cVar 6) (aCons (cVar 7) (aCons (c2 oIx (c2 oIx (cVar 1) (cVar 4)) (cC (.int 0))) aNil))))))
sNx)
(sIf (tOf (c2 oEq (cVar 6) (cVar 2)))
(sApp 3 (cTup (aCons (cTup (aCons (cVar 4) (aCons (cC (.int 1)) aNil))) (aCons (cVar 5) (aCons (cVar 8) (aCons (c2 oIx (c2 oIx (cVar 1) (cVar 4)) (cC (.int 1))) aNil))))))
sNx))
noncomputable def hops_of_s2 : EV → Option Fl :=
(sFor (iEn (aCons (cVar 0) aNil)) (mTup (mCons (mName 4) (mCons (mTup (mCons (mName 5) (mCons (mName 6) (mCons (mName 7) (mCons (mName 8) mNil))))) mNil)))
hops_of_b1)
noncomputable def hops_of_s3 : EV → Option Fl :=
(sFrz 3 (sRet (cVar 3)))
noncomputable def body_hops_of : EV → Option Fl :=
(sSeq hops_of_s1
(sSeq hops_of_s2
hops_of_s3))
noncomputable def m_hops_of : List D → Option D := runFn 3 6 body_hops_of
theorem ok_hops_of {P : Program} {w : World} {K : PySem.W.Frag} {mg : Str → Option Value} {base : Heap} (T : Txt K mg) : FnAt P w K mg base "hops_of" 1 3 m_hops_of := by
  refine fn_at (N := ["links", "minutes", "router", "found", "k", "one", "two", "there", "back"]) (ps := ["links", "minutes", "router"]) T.d_hops_of sc_hops_of rfl rfl (fun _ _ _ _ _ _ us hl => match us, hl with | [_, _, _], _ => rfl) fun f cdv A outer s H E hr => ?_
  exact (b_cons (s_set sc_hops_of.nd rfl (Or.inl rfl) (r_f (f_lst a_nil)))
(b_cons (s_for PassesOwn.never rfl (i_enum (by rfl) T.n_enumerate (a_cons (fa := true) (fb := true) (e_var (pv 0)) a_nil)) (g_tup rfl (gs_cons (g_name (pg_name sc_hops_of.nd rfl (Or.inl rfl))) (gs_cons (g_tup rfl (gs_cons (g_name (pg_name sc_hops_of.nd rfl (Or.inl rfl))) (gs_cons (g_name (pg_name sc_hops_of.nd rfl (Or.inl rfl))) (gs_cons (g_name (pg_name sc_hops_of.nd rfl (Or.inl rfl))) (gs_cons (g_name (pg_name sc_hops_of.nd rfl (Or.inl rfl))) gs_nil))))) gs_nil)))
(b_cons (s_if (t_cmp (op_eqD hr.units) r_eq (e_var (pv 5)) (e_var (pv 2)))
(b_one (s_app (pv 3) (e_tup (a_cons (fa := true) (fb := true) (e_tup (a_cons (fa := true) (fb := true) (e_var (pv 4)) (a_cons (fa := true) (fb := true) e_int a_nil))) (a_cons (fa := true) (fb := true) (e_var (pv 6)) (a_cons (fa := true) (fb := true) (e_var (pv 7)) (a_cons (fa := true) (fb := true) (e_ix (fa := true) (fb := true) (e_ix (fa := true) (fb := true) (e_var (pv 1)) (e_var (pv 4))) e_int) a_nil)))))))
b_nil)
(b_one (s_if (t_cmp (op_eqD hr.units) r_eq (e_var (pv 6)) (e_var (pv 2)))
(b_one (s_app (pv 3) (e_tup (a_cons (fa := true) (fb := true) (e_tup (a_cons (fa := true) (fb := true) (e_var (pv 4)) (a_cons (fa := true) (fb := true) e_int a_nil))) (a_cons (fa := true) (fb := true) (e_var (pv 5)) (a_cons (fa := true) (fb := true) (e_var (pv 8)) (a_cons (fa := true) (fb := true) (e_ix (fa := true) (fb := true) (e_ix (fa := true) (fb := true) (e_var (pv 1)) (e_var (pv 4))) e_int) a_nil)))))))
b_nil))))
(b_one (s_frz 3 (s_ret (e_var (pv 3)))))))
/-! ### unbeaten -/
abbrev st_unbeaten : Stmt := topS 18
theorem sc_unbeaten : FnScope ["pairs", "found", "cost", "time"] ["pairs"] (defScope st_unbeaten) := ⟨rfl, rfl, rfl, by decide +kernel, rfl, by decide +kernel, by decide +kernel⟩
noncomputable def unbeaten_s1 : EV → Option Fl :=
(sSetL 1 (lO (kList aNil)))
noncomputable def unbeaten_b1 : EV → Option Fl :=
(sIf (tOrZ (tOf (c2 oEq (cFlat (cCB bLen (aCons (cOwn 1) aNil))) (cC (.int 0)))) (tOf (c2 oLt (cVar 3) (c2 oIx (cIxo 1 (c1 oNeg (cC (.int 1)))) (cC (.int 1))))))
(sApp 1 (cTup (aCons (cVar 2) (aCons (cVar 3) aNil))))
sNx)
noncomputable def unbeaten_s2 : EV → Option Fl :=
(sFor (iLst (cLst (kSS (aCons (cVar 0) aNil)))) (mTup (mCons (mName 2) (mCons (mName 3) mNil)))
unbeaten_b1)
noncomputable def unbeaten_s3 : EV → Option Fl :=
(sFrz 1 (sRet (cVar 1)))
noncomputable def body_unbeaten : EV → Option Fl :=
(sSeq unbeaten_s1
(sSeq unbeaten_s2
unbeaten_s3))
noncomputable def m_unbeaten : List D → Option D := runFn 1 3 body_unbeaten
theorem ok_unbeaten {P : Program} {w : World} {K : PySem.W.Frag} {mg : Str → Option Value} {base : Heap} (T : Txt K mg) : FnAt P w K mg base "unbeaten" 1 1 m_unbeaten := by
  refine fn_at (N := ["pairs", "found", "cost", "time"]) (ps := ["pairs"]) T.d_unbeaten sc_unbeaten rfl rfl (fun _ _ _ _ _ _ us hl => match us, hl with | [_], _ => rfl) fun f cdv A outer s H E hr => ?_
  exact (b_cons (s_set sc_unbeaten.nd rfl (Or.inl rfl) (r_f (f_lst a_nil)))
(b_cons (s_for PassesOwn.never rfl (i_list (e_f (f_ss rfl (units64 hr) (by rfl) T.n_sorted (by rfl) T.n_set (a_cons (fa := true) (fb := true) (e_var (pv 0)) a_nil)))) (g_tup rfl (gs_cons (g_name (pg_name sc_unbeaten.nd rfl (Or.inl rfl))) (gs_cons (g_name (pg_name sc_unbeaten.nd rfl (Or.inl rfl))) gs_nil)))
(b_one (s_if (t_w (w_or (t_cmp (op_eqD hr.units) r_eq (e_flat (e_cb call_len_seq cr_len (by rfl) T.n_len boot_len (a_cons (fa := false) (fb := true) (e_own (pv 1)) a_nil))) e_int) (w_or1 (t_cmp op_lt r_lt (e_var (pv 3)) (e_ix (fa := true) (fb := true) (e_ixo (pv 1) (e_neg e_int)) e_int)))))
(b_one (s_app (pv 1) (e_tup (a_cons (fa := true) (fb := true) (e_var (pv 2)) (a_cons (fa := true) (fb := true) (e_var (pv 3)) a_nil)))))
b_nil)))
(b_one (s_frz 1 (s_ret (e_var (pv 1)))))))
/-! ### _law_draws -/
abbrev st__law_draws : Stmt := topS 29
theorem sc__law_draws : FnScope ["script", "draws", "k", "rest", "turn", "stirred"] ["script"] (defScope st__law_draws) := ⟨rfl, rfl, rfl, by decide +kernel, rfl, by decide +kernel, by decide +kernel⟩
noncomputable def _law_draws_s1 : EV → Option Fl :=
(sSetL 1 (lO (kList aNil)))
noncomputable def _law_draws_b1 : EV → Option Fl :=
(sIf (tOf (c2 oGt (cVar 3) (cC (.int 0))))
(sSeq (sApp 1 (c2 oMod (cCB bInt (aCons (cVar 3) aNil)) (cC (.int 65536))))
(sSetL 3 (lF (c2 oDiv (cVar 3) (cC (.int 65536))))))
sNx)
noncomputable def _law_draws_b2 : EV → Option Fl :=
(sSeq (sSetL 3 (lF (cCB bAbs (aCons (c2 oIx (cVar 0) (cVar 2)) aNil))))
(sIf (tOf (c2 oGe (cVar 3) (c2 oPow (cC (.int 10)) (cC (.int 18)))))
(sFor (iR1 (aCons (cC (.int 60)) aNil)) (mName 4)
_law_draws_b1)
(sSeq (sSetL 5 (lF (c2 oMod (cCB bInt (aCons (c2 oAdd (c2 oMul (cVar 3) (cC (.int 48271))) (c2 oMul (c2 oAdd (cVar 2) (cC (.int 1))) (cC (.int 69621)))) aNil)) (cC (.int 2147483647)))))
(sSeq (sSetL 5 (lF (c2 oMod (cCB bInt (aCons (c2 oAdd (c2 oAdd (c2 oMul (cVar 5) (cC (.int 16807))) (c2 oMul (cC (.int 11)) (cVar 2))) (cC (.int 5))) aNil)) (cC (.int 2147483629)))))
(sSeq (sApp 1 (c2 oMod (cCB bInt (aCons (cVar 5) aNil)) (cC (.int 65536))))
(sApp 1 (c2 oMod (cCB bInt (aCons (c2 oDiv (cVar 5) (cC (.int 65536))) aNil)) (cC (.int 32768)))))))))
noncomputable def _law_draws_s2 : EV → Option Fl :=
(sFor (iR1 (aCons (cCB bMin (aCons (cC (.int 63)) (aCons (cCB bLen (aCons (cVar 0) aNil)) aNil))) aNil)) (mName 2)
_law_draws_b2)
noncomputable def _law_draws_s3 : EV → Option Fl :=
(sFrz 1 (sRet (cVar 1)))
noncomputable def body__law_draws : EV → Option Fl :=
(sSeq _law_draws_s1
(sSeq _law_draws_s2
_law_draws_s3))
noncomputable def m__law_draws : List D → Option D := runFn 1 5 body__law_draws
theorem ok__law_draws {P : Program} {w : World} {K : PySem.W.Frag} {mg : Str → Option Value} {base : Heap} (T : Txt K mg) : FnAt P w K mg base "_law_draws" 1 1 m__law_draws := by
  refine fn_at (N := ["script", "draws", "k", "rest", "turn", "stirred"]) (ps := ["script"]) T.d__law_draws sc__law_draws rfl rfl (fun _ _ _ _ _ _ us hl => match us, hl with | [_], _ => rfl) fun f cdv A outer s H E hr => ?_
  exact (b_cons (s_set sc__law_draws.nd rfl (Or.inl rfl) (r_f (f_lst a_nil)))
(b_cons (s_for PassesOwn.never rfl (i_range1 (by rfl) T.n_range (a_cons (fa := true) (fb := true) (e_cb (call_min2 rfl) cr_min2 (by rfl) T.n_min boot_min (a_cons (fa := true) (fb := true) e_int (a_cons (fa := true) (fb := true) (e_cb call_len_seq cr_len (by rfl) T.n_len boot_len (a_cons (fa := true) (fb := true) (e_var (pv 0)) a_nil)) a_nil))) a_nil)) (g_name (pg_name sc__law_draws.nd rfl (Or.inl rfl)))
(b_cons (s_set sc__law_draws.nd rfl (Or.inl rfl) (r_e (e_cb call_abs cr_abs (by rfl) T.n_abs boot_abs (a_cons (fa := true) (fb := true) (e_ix (fa := true) (fb := true) (e_var (pv 0)) (e_var (pv 2))) a_nil))))
(b_one (s_if (t_cmp op_ge r_ge (e_var (pv 3)) (e_op (fa := true) (fb := true) op_pow r_pow e_int e_int))
(b_one (s_for PassesOwn.never rfl (i_range1 (by rfl) T.n_range (a_cons (fa := true) (fb := true) e_int a_nil)) (g_name (pg_name sc__law_draws.nd rfl (Or.inl rfl)))
(b_one (s_if (t_cmp op_gt r_gt (e_var (pv 3)) e_int)
(b_cons (s_app (pv 1) (e_op (fa := true) (fb := true) op_mod r_mod (e_cty call_int1 cr_int (by rfl) T.n_int PyProof.Rows.boot_int (a_cons (fa := true) (fb := true) (e_var (pv 3)) a_nil)) e_int))
(b_one (s_set sc__law_draws.nd rfl (Or.inl rfl) (r_e (e_op (fa := true) (fb := true) op_fdiv r_div (e_var (pv 3)) e_int)))))
b_nil))))
(b_cons (s_set sc__law_draws.nd rfl (Or.inl rfl) (r_e (e_op (fa := true) (fb := true) op_mod r_mod (e_cty call_int1 cr_int (by rfl) T.n_int PyProof.Rows.boot_int (a_cons (fa := true) (fb := true) (e_op (fa := true) (fb := true) op_add r_add (e_op (fa := true) (fb := true) op_mul r_mul (e_var (pv 3)) e_int) (e_op (fa := true) (fb := true) op_mul r_mul (e_op (fa := true) (fb := true) op_add r_add (e_var (pv 2)) e_int) e_int)) a_nil)) e_int)))
(b_cons (s_set sc__law_draws.nd rfl (Or.inl rfl) (r_e (e_op (fa := true) (fb := true) op_mod r_mod (e_cty call_int1 cr_int (by rfl) T.n_int PyProof.Rows.boot_int (a_cons (fa := true) (fb := true) (e_op (fa := true) (fb := true) op_add r_add (e_op (fa := true) (fb := true) op_add r_add (e_op (fa := true) (fb := true) op_mul r_mul (e_var (pv 5)) e_int) (e_op (fa := true) (fb := true) op_mul r_mul e_int (e_var (pv 2)))) e_int) a_nil)) e_int)))
(b_cons (s_app (pv 1) (e_op (fa := true) (fb := true) op_mod r_mod (e_cty call_int1 cr_int (by rfl) T.n_int PyProof.Rows.boot_int (a_cons (fa := true) (fb := true) (e_var (pv 5)) a_nil)) e_int))
(b_one (s_app (pv 1) (e_op (fa := true) (fb := true) op_mod r_mod (e_cty call_int1 cr_int (by rfl) T.n_int PyProof.Rows.boot_int (a_cons (fa := true) (fb := true) (e_op (fa := true) (fb := true) op_fdiv r_div (e_var (pv 5)) e_int) a_nil)) e_int))))))))))
(b_one (s_frz 1 (s_ret (e_var (pv 1)))))))
/-! ### _law_mix -/
abbrev st__law_mix : Stmt := topS 30
theorem sc__law_mix : FnScope ["draws", "k", "many", "cell"] ["draws", "k", "many"] (defScope st__law_mix) := ⟨rfl, rfl, rfl, by decide +kernel, rfl, by decide +kernel, by decide +kernel⟩
noncomputable def _law_mix_s1 : EV → Option Fl :=
(sSetL 3 (lF (cC (.int 0))))
noncomputable def _law_mix_s2 : EV → Option Fl :=
(sIf (tOf (c2 oGt (cCB bLen (aCons (cVar 0) aNil)) (cC (.int 0))))
(sSetL 3 (lF (c2 oIx (cVar 0) (c2 oMod (cCB bInt (aCons (cVar 1) aNil)) (cCB bLen (aCons (cVar 0) aNil))))))
sNx)
noncomputable def _law_mix_s3 : EV → Option Fl :=
(sIf (tOf (c2 oLt (cVar 1) (cCB bLen (aCons (cVar 0) aNil))))
(sRet (c2 oMod (cCB bInt (aCons (cVar 3) aNil)) (cVar 2)))
sNx)
noncomputable def _law_mix_s4 : EV → Option Fl :=
(sRet (c2 oMod (cCB bInt (aCons (c2 oDiv (cCB bInt (aCons (c2 oAdd (c2 oMul (cVar 3) (cC (.int 7919))) (c2 oMul (cVar 1) (cC (.int 104729)))) aNil)) (cC (.int 3))) aNil)) (cVar 2)))
noncomputable def body__law_mix : EV → Option Fl :=
(sSeq _law_mix_s1
(sSeq _law_mix_s2
(sSeq _law_mix_s3
_law_mix_s4)))
noncomputable def m__law_mix : List D → Option D := runFn 3 1 body__law_mix
theorem ok__law_mix {P : Program} {w : World} {K : PySem.W.Frag} {mg : Str → Option Value} {base : Heap} (T : Txt K mg) : FnAt P w K mg base "_law_mix" 1 3 m__law_mix := by
  refine fn_at (N := ["draws", "k", "many", "cell"]) (ps := ["draws", "k", "many"]) T.d__law_mix sc__law_mix rfl rfl (fun _ _ _ _ _ _ us hl => match us, hl with | [_, _, _], _ => rfl) fun f cdv A outer s H E hr => ?_
  exact (b_cons (s_set sc__law_mix.nd rfl (Or.inl rfl) (r_e e_int))
(b_cons (s_if (t_cmp op_gt r_gt (e_cb call_len_seq cr_len (by rfl) T.n_len boot_len (a_cons (fa := true) (fb := true) (e_var (pv 0)) a_nil)) e_int)
(b_one (s_set sc__law_mix.nd rfl (Or.inl rfl) (r_e (e_ix (fa := true) (fb := true) (e_var (pv 0)) (e_op (fa := true) (fb := true) op_mod r_mod (e_cty call_int1 cr_int (by rfl) T.n_int PyProof.Rows.boot_int (a_cons (fa := true) (fb := true) (e_var (pv 1)) a_nil)) (e_cb call_len_seq cr_len (by rfl) T.n_len boot_len (a_cons (fa := true) (fb := true) (e_var (pv 0)) a_nil)))))))
b_nil)
(b_cons (s_if (t_cmp op_lt r_lt (e_var (pv 1)) (e_cb call_len_seq cr_len (by rfl) T.n_len boot_len (a_cons (fa := true) (fb := true) (e_var (pv 0)) a_nil)))
(b_one (s_ret (e_op (fa := true) (fb := true) op_mod r_mod (e_cty call_int1 cr_int (by rfl) T.n_int PyProof.Rows.boot_int (a_cons (fa := true) (fb := true) (e_var (pv 3)) a_nil)) (e_var (pv 2)))))
b_nil)
(b_one (s_ret (e_op (fa := true) (fb := true) op_mod r_mod (e_cty call_int1 cr_int (by rfl) T.n_int PyProof.Rows.boot_int (a_cons (fa := true) (fb := true) (e_op (fa := true) (fb := true) op_fdiv r_div (e_cty call_int1 cr_int (by rfl) T.n_int PyProof.Rows.boot_int (a_cons (fa := true) (fb := true) (e_op (fa := true) (fb := true) op_add r_add (e_op (fa := true) (fb := true) op_mul r_mul (e_var (pv 3)) e_int) (e_op (fa := true) (fb := true) op_mul r_mul (e_var (pv 1)) e_int)) a_nil)) e_int) a_nil)) (e_var (pv 2))))))))
/-! ### _law_costs -/
abbrev st__law_costs : Stmt := topS 34
theorem sc__law_costs : FnScope ["many", "links", "goal", "found", "turn", "one", "two", "there", "back", "start", "end", "cost", "router"] ["many", "links", "goal"] (defScope st__law_costs) := ⟨rfl, rfl, rfl, by decide +kernel, rfl, by decide +kernel, by decide +kernel⟩
noncomputable def _law_costs_e1 : EV → Option D :=
(c2 oIx (cLst (kList (aCons (cC .non) (aCons (cC (.int 0)) aNil)))) (cCB bInt (aCons (c2 oEq (cVar 12) (cVar 2)) aNil)))
noncomputable def _law_costs_s1 : EV → Option Fl :=
(sSetL 3 (lO (kComp (iR1 (aCons (cVar 0) aNil)) (mName 12) (fun _ => some true) _law_costs_e1 [12])))
noncomputable def _law_costs_b1 : EV → Option Fl :=
(sIf (tAndZ (tOf (c2 oIsNot (cIxo 3 (cVar 10)) (cC .non))) (tOrZ (tOf (c2 oIs (cIxo 3 (cVar 9)) (cC .non))) (tOf (c2 oGt (cIxo 3 (cVar 9)) (c2 oAdd (cIxo 3 (cVar 10)) (cVar 11))))))
(sSub 3 (cVar 9) (c2 oAdd (cIxo 3 (cVar 10)) (cVar 11)))
sNx)
noncomputable def _law_costs_b2 : EV → Option Fl :=
(sFor (iLst (cLst (kList (aCons (cTup (aCons (cVar 5) (aCons (cVar 6) (aCons (cVar 7) aNil)))) (aCons (cTup (aCons (cVar 6) (aCons (cVar 5) (aCons (cVar 8) aNil)))) aNil))))) (mTup (mCons (mName 9) (mCons (mName 10) (mCons (mName 11) mNil))))
_law_costs_b1)
noncomputable def _law_costs_b3 : EV → Option Fl :=
(sFor (iLst (cVar 1)) (mTup (mCons (mName 5) (mCons (mName 6) (mCons (mName 7) (mCons (mName 8) mNil)))))
_law_costs_b2)
noncomputable def _law_costs_s2 : EV → Option Fl :=
(sFor (iR1 (aCons (cVar 0) aNil)) (mName 4)
_law_costs_b3)
noncomputable def _law_costs_s3 : EV → Option Fl :=
(sFrz 3 (sRet (cVar 3)))
noncomputable def body__law_costs : EV → Option Fl :=
(sSeq _law_costs_s1
(sSeq _law_costs_s2
_law_costs_s3))
noncomputable def m__law_costs : List D → Option D := runFn 3 10 body__law_costs
theorem ok__law_costs {P : Program} {w : World} {K : PySem.W.Frag} {mg : Str → Option Value} {base : Heap} (T : Txt K mg) : FnAt P w K mg base "_law_costs" 1 3 m__law_costs := by
  refine fn_at (N := ["many", "links", "goal", "found", "turn", "one", "two", "there", "back", "start", "end", "cost", "router"]) (ps := ["many", "links", "goal"]) T.d__law_costs sc__law_costs rfl rfl (fun _ _ _ _ _ _ us hl => match us, hl with | [_, _, _], _ => rfl) fun f cdv A outer s H E hr => ?_
  exact (b_cons (s_setLc (own := [("router", 12)]) rfl sc__law_costs.nd rfl rfl (sw_true rfl rfl rfl (by decide +kernel)) (i_range1 (by rfl) T.n_range (a_cons (fa := true) (fb := true) (e_var (pv 0)) a_nil)) (by kernel_rfl) (gB fun _ _ _ _ _ => (g_name (pg_name sc__law_costs.nd rfl (Or.inl rfl)))) (tsB fun _ _ _ _ _ => ts_nil) (eB fun _ _ _ _ _ => (e_ix (fa := true) (fb := true) (e_f (f_lst (a_cons (fa := true) (fb := true) e_non (a_cons (fa := true) (fb := true) e_int a_nil)))) (e_cty call_int1 cr_int (by rfl) T.n_int PyProof.Rows.boot_int (a_cons (fa := true) (fb := true) (e_cmp (fa := true) (fb := true) (op_eqD hr.units) r_eq (e_var (pv 12)) (e_var (pv 2))) a_nil)))) (hl := lc_own))
(b_cons (s_for PassesOwn.never rfl (i_range1 (by rfl) T.n_range (a_cons (fa := true) (fb := true) (e_var (pv 0)) a_nil)) (g_name (pg_name sc__law_costs.nd rfl (Or.inl rfl)))
(b_one (s_for PassesOwn.never rfl (i_list (e_var (pv 1))) (g_tup rfl (gs_cons (g_name (pg_name sc__law_costs.nd rfl (Or.inl rfl))) (gs_cons (g_name (pg_name sc__law_costs.nd rfl (Or.inl rfl))) (gs_cons (g_name (pg_name sc__law_costs.nd rfl (Or.inl rfl))) (gs_cons (g_name (pg_name sc__law_costs.nd rfl (Or.inl rfl))) gs_nil)))))
(b_one (s_for PassesOwn.never rfl (i_list (e_f (f_lst (a_cons (fa := true) (fb := true) (e_tup (a_cons (fa := true) (fb := true) (e_var (pv 5)) (a_cons (fa := true) (fb := true) (e_var (pv 6)) (a_cons (fa := true) (fb := true) (e_var (pv 7)) a_nil)))) (a_cons (fa := true) (fb := true) (e_tup (a_cons (fa := true) (fb := true) (e_var (pv 6)) (a_cons (fa := true) (fb := true) (e_var (pv 5)) (a_cons (fa := true) (fb := true) (e_var (pv 8)) a_nil)))) a_nil))))) (g_tup rfl (gs_cons (g_name (pg_name sc__law_costs.nd rfl (Or.inl rfl))) (gs_cons (g_name (pg_name sc__law_costs.nd rfl (Or.inl rfl))) (gs_cons (g_name (pg_name sc__law_costs.nd rfl (Or.inl rfl))) gs_nil))))
(b_one (s_if (t_w (w_and (t_cmp op_isnot r_isnot (e_ixo (pv 3) (e_var (pv 10))) e_non) (w_and1 (t_w (w_or (t_cmp op_isN r_is (e_ixo (pv 3) (e_var (pv 9))) e_non) (w_or1 (t_cmp op_gt r_gt (e_ixo (pv 3) (e_var (pv 9))) (e_op (fa := true) (fb := true) op_add r_add (e_ixo (pv 3) (e_var (pv 10))) (e_var (pv 11))))))))))
(b_one (s_sub (pv 3) (e_var (pv 9)) (e_op (fa := true) (fb := true) op_add r_add (e_ixo (pv 3) (e_var (pv 10))) (e_var (pv 11)))))
b_nil)))))))
(b_one (s_frz 3 (s_ret (e_var (pv 3)))))))
/-! ### check_net -/
abbrev st_check_net : Stmt := topS 16
theorem sc_check_net : FnScope ["routers", "links", "minutes", "k", "told"] ["routers", "links", "minutes"] (defScope st_check_net) := ⟨rfl, rfl, rfl, by decide +kernel, rfl, by decide +kernel, by decide +kernel⟩
noncomputable def check_net_s1 : EV → Option Fl :=
(sIf (tNotZ (tOf (cCh (cC (.int 1)) (chLink oLe (cVar 0) (chLast oLe (cC (.int 16)))))))
sNo
sNx)
noncomputable def check_net_s2 : EV → Option Fl :=
(sDrop (cCB m_check_links (aCons (cVar 0) (aCons (cVar 1) aNil))))
noncomputable def check_net_b1 : EV → Option Fl :=
(sIf (tNotZ (tTru (cCB m_is_span (aCons (cVar 4) aNil))))
sNo
sNx)
noncomputable def check_net_s3 : EV → Option Fl :=
(sFor (iEn (aCons (cLst (kSl (cVar 2) pNo (pAt (cCB bLen (aCons (cVar 1) aNil))))) aNil)) (mTup (mCons (mName 3) (mCons (mName 4) mNil)))
check_net_b1)
noncomputable def check_net_s4 : EV → Option Fl :=
(sIf (tOf (c2 oNe (cCB bLen (aCons (cVar 2) aNil)) (cCB bLen (aCons (cVar 1) aNil))))
sNo
sNx)
noncomputable def body_check_net : EV → Option Fl :=
(sSeq check_net_s1
(sSeq check_net_s2
(sSeq check_net_s3
check_net_s4)))
noncomputable def m_check_net : List D → Option D := runFn 3 2 body_check_net
theorem ok_check_net {P : Program} {w : World} {K : PySem.W.Frag} {mg : Str → Option Value} {base : Heap} (T : Txt K mg) : FnAt P w K mg base "check_net" 2 3 m_check_net := by
  refine fn_at (N := ["routers", "links", "minutes", "k", "told"]) (ps := ["routers", "links", "minutes"]) T.d_check_net sc_check_net rfl rfl (fun _ _ _ _ _ _ us hl => match us, hl with | [_, _, _], _ => rfl) fun f cdv A outer s H E hr => ?_
  exact (b_cons (s_if (t_not (t_chn e_int (th_link op_le r_le (e_var (pv 0)) (th_last op_le r_le (e_gc T.c_MOST_ROUTERS (by rfl))))))
(b_one s_never)
b_nil)
(b_cons (s_expr (e_fn (ok_check_links T) hr (by decide) (by rfl) (a_cons (fa := true) (fb := true) (e_var (pv 0)) (a_cons (fa := true) (fb := true) (e_var (pv 1)) a_nil)) rfl (aCons_len (aCons_len (fun _ _ h => aNil_len h)))))
(b_cons (s_for PassesOwn.never rfl (i_enum (by rfl) T.n_enumerate (a_cons (fa := true) (fb := true) (e_f (f_sl (e_var (pv 2)) p_no (p_at (e_cb call_len_seq cr_len (by rfl) T.n_len boot_len (a_cons (fa := true) (fb := true) (e_var (pv 1)) a_nil))))) a_nil)) (g_tup rfl (gs_cons (g_name (pg_name sc_check_net.nd rfl (Or.inl rfl))) (gs_cons (g_name (pg_name sc_check_net.nd rfl (Or.inl rfl))) gs_nil)))
(b_one (s_if (t_not (t_tru (e_fn (ok_is_span T) hr (by decide) (by rfl) (a_cons (fa := true) (fb := true) (e_var (pv 4)) a_nil) rfl (aCons_len (fun _ _ h => aNil_len h)))))
(b_one s_never)
b_nil)))
(b_one (s_if (t_cmp (op_neD hr.units) r_ne (e_cb call_len_seq cr_len (by rfl) T.n_len boot_len (a_cons (fa := true) (fb := true) (e_var (pv 2)) a_nil)) (e_cb call_len_seq cr_len (by rfl) T.n_len boot_len (a_cons (fa := true) (fb := true) (e_var (pv 1)) a_nil)))
(b_one s_never)
b_nil)))))
/-! ### next_front -/
abbrev st_next_front : Stmt := topS 19
theorem sc_next_front : FnScope ["links", "minutes", "router", "told", "found", "_", "other", "cost", "time", "more", "late"] ["links", "minutes", "router", "told"] (defScope st_next_front) := ⟨rfl, rfl, rfl, by decide +kernel, rfl, by decide +kernel, by decide +kernel⟩
noncomputable def next_front_s1 : EV → Option Fl :=
(sSetL 4 (lO (kList aNil)))
noncomputable def next_front_e1 : EV → Option D :=
(cTup (aCons (c2 oAdd (cVar 7) (cVar 9)) (aCons (c2 oAdd (cVar 8) (cVar 10)) aNil)))
noncomputable def next_front_b1 : EV → Option Fl :=
(sExt 4 (cLst (kComp (iLst (c2 oIx (cVar 3) (cVar 6))) (mTup (mCons (mName 9) (mCons (mName 10) mNil))) (fun _ => some true) next_front_e1 [9, 10])))
noncomputable def next_front_s2 : EV → Option Fl :=
(sFor (iLst (cCB m_hops_of (aCons (cVar 0) (aCons (cVar 1) (aCons (cVar 2) aNil))))) (mTup (mCons (mName 5) (mCons (mName 6) (mCons (mName 7) (mCons (mName 8) mNil)))))
next_front_b1)
noncomputable def next_front_s3 : EV → Option Fl :=
(sFrz 4 (sRet (cCB m_unbeaten (aCons (cVar 4) aNil))))
noncomputable def body_next_front : EV → Option Fl :=
(sSeq next_front_s1
(sSeq next_front_s2
next_front_s3))
noncomputable def m_next_front : List D → Option D := runFn 4 7 body_next_front
theorem ok_next_front {P : Program} {w : World} {K : PySem.W.Frag} {mg : Str → Option Value} {base : Heap} (T : Txt K mg) : FnAt P w K mg base "next_front" 2 4 m_next_front := by
  refine fn_at (N := ["links", "minutes", "router", "told", "found", "_", "other", "cost", "time", "more", "late"]) (ps := ["links", "minutes", "router", "told"]) T.d_next_front sc_next_front rfl rfl (fun _ _ _ _ _ _ us hl => match us, hl with | [_, _, _, _], _ => rfl) fun f cdv A outer s H E hr => ?_
  exact (b_cons (s_set sc_next_front.nd rfl (Or.inl rfl) (r_f (f_lst a_nil)))
(b_cons (s_for PassesOwn.never rfl (i_list (e_fn (ok_hops_of T) hr (by decide) (by rfl) (a_cons (fa := true) (fb := true) (e_var (pv 0)) (a_cons (fa := true) (fb := true) (e_var (pv 1)) (a_cons (fa := true) (fb := true) (e_var (pv 2)) a_nil))) rfl (aCons_len (aCons_len (aCons_len (fun _ _ h => aNil_len h)))))) (g_tup rfl (gs_cons (g_name (pg_name sc_next_front.nd rfl (Or.inl rfl))) (gs_cons (g_name (pg_name sc_next_front.nd rfl (Or.inl rfl))) (gs_cons (g_name (pg_name sc_next_front.nd rfl (Or.inr rfl))) (gs_cons (g_name (pg_name sc_next_front.nd rfl (Or.inr rfl))) gs_nil)))))
(b_one (s_ext (pv 4) (e_f (f_lc (own := [("more", 9), ("late", 10)]) rfl sc_next_front.nd (i_list (e_ix (fa := true) (fb := true) (e_var (pv 3)) (e_var (pv 6)))) (by kernel_rfl) (gB fun _ _ _ _ _ => (g_tup rfl (gs_cons (g_name (pg_name sc_next_front.nd rfl (Or.inl rfl))) (gs_cons (g_name (pg_name sc_next_front.nd rfl (Or.inl rfl))) gs_nil)))) (tsB fun _ _ _ _ _ => ts_nil) (eB fun _ _ _ _ _ => (e_tup (a_cons (fa := true) (fb := true) (e_op (fa := true) (fb := true) op_add r_add (e_var (pv 7)) (e_var (pv 9))) (a_cons (fa := true) (fb := true) (e_op (fa := true) (fb := true) op_add r_add (e_var (pv 8)) (e_var (pv 10))) a_nil)))))))))
(b_one (s_frz 4 (s_ret (e_fn (ok_unbeaten T) hr (by decide) (by rfl) (a_cons (fa := true) (fb := true) (e_var (pv 4)) a_nil) rfl (aCons_len (fun _ _ h => aNil_len h))))))))
/-! ### walk_by -/
abbrev st_walk_by : Stmt := topS 25
theorem sc_walk_by : FnScope ["links", "minutes", "told", "start", "goal", "pair", "found", "here", "left", "rows", "hop", "other", "cost", "time"] ["links", "minutes", "told", "start", "goal", "pair"] (defScope st_walk_by) := ⟨rfl, rfl, rfl, by decide +kernel, rfl, by decide +kernel, by decide +kernel⟩
noncomputable def walk_by_s1 : EV → Option Fl :=
(sPar3 6 7 8 (lO (kList aNil)) (lF (cVar 3)) (lF (cVar 5)))
noncomputable def walk_by_b1 : EV → Option Fl :=
(sIf (tOf (c2 oIn (cTup (aCons (c2 oSub (c2 oIx (cVar 8) (cC (.int 0))) (cVar 12)) (aCons (c2 oSub (c2 oIx (cVar 8) (cC (.int 1))) (cVar 13)) aNil))) (c2 oIx (cVar 2) (cVar 11))))
(sApp 9 (cTup (aCons (cVar 10) (aCons (cVar 11) (aCons (cTup (aCons (c2 oSub (c2 oIx (cVar 8) (cC (.int 0))) (cVar 12)) (aCons (c2 oSub (c2 oIx (cVar 8) (cC (.int 1))) (cVar 13)) aNil))) aNil)))))
sNx)
noncomputable def walk_by_b2 : EV → Option Fl :=
(sSeq (sSetL 9 (lO (kList aNil)))
(sSeq (sFor (iLst (cCB m_hops_of (aCons (cVar 0) (aCons (cVar 1) (aCons (cVar 7) aNil))))) (mTup (mCons (mName 10) (mCons (mName 11) (mCons (mName 12) (mCons (mName 13) mNil)))))
walk_by_b1)
(sSeq (sFrz 9 (sAsg (cCB bMinD (aCons (cVar 9) aNil)) (mTup (mCons (mName 10) (mCons (mName 7) (mCons (mName 8) mNil))))))
(sApp 6 (cVar 10)))))
noncomputable def walk_by_t1 : EV → Option Bool :=
(tOf (c2 oNe (cVar 7) (cVar 4)))
noncomputable def walk_by_s2 : EV → Option Fl :=
(sWhile walk_by_t1
walk_by_b2)
noncomputable def walk_by_s3 : EV → Option Fl :=
(sFrz 6 (sRet (cVar 6)))
noncomputable def body_walk_by : EV → Option Fl :=
(sSeq walk_by_s1
(sSeq walk_by_s2
walk_by_s3))
noncomputable def m_walk_by : List D → Option D := runFn 6 8 body_walk_by
theorem ok_walk_by {P : Program} {w : World} {K : PySem.W.Frag} {mg : Str → Option Value} {base : Heap} (T : Txt K mg) : FnAt P w K mg base "walk_by" 2 6 m_walk_by := by
  refine fn_at (N := ["links", "minutes", "told", "start", "goal", "pair", "found", "here", "left", "rows", "hop", "other", "cost", "time"]) (ps := ["links", "minutes", "told", "start", "goal", "pair"]) T.d_walk_by sc_walk_by rfl rfl (fun _ _ _ _ _ _ us hl => match us, hl with | [_, _, _, _, _, _], _ => rfl) fun f cdv A outer s H E hr => ?_
  exact (b_cons (s_par3 rfl sc_walk_by.nd rfl rfl rfl (by decide) (by decide) (by decide) (r_f (f_lst a_nil)) (r_e (e_var (pv 3))) (r_e (e_var (pv 5))) (fun _ pa => ps_par3 rfl sc_walk_by.nd rfl rfl rfl (by decide) (by decide) (by decide) rfl rfl rfl pa (by rfl)))
(b_cons (s_whl PassesOwn.never (t_cmp (op_neD hr.units) r_ne (e_var (pv 7)) (e_var (pv 4)))
(b_cons (s_set sc_walk_by.nd rfl (Or.inl rfl) (r_f (f_lst a_nil)))
(b_cons (s_for PassesOwn.never rfl (i_list (e_fn (ok_hops_of T) hr (by decide) (by rfl) (a_cons (fa := true) (fb := true) (e_var (pv 0)) (a_cons (fa := true) (fb := true) (e_var (pv 1)) (a_cons (fa := true) (fb := true) (e_var (pv 7)) a_nil))) rfl (aCons_len (aCons_len (aCons_len (fun _ _ h => aNil_len h)))))) (g_tup rfl (gs_cons (g_name (pg_name sc_walk_by.nd rfl (Or.inl rfl))) (gs_cons (g_name (pg_name sc_walk_by.nd rfl (Or.inl rfl))) (gs_cons (g_name (pg_name sc_walk_by.nd rfl (Or.inl rfl))) (gs_cons (g_name (pg_name sc_walk_by.nd rfl (Or.inl rfl))) gs_nil)))))
(b_one (s_if (t_cmp (op_inD (units65 hr)) r_in (e_tup (a_cons (fa := true) (fb := true) (e_op (fa := true) (fb := true) op_sub r_sub (e_ix (fa := true) (fb := true) (e_var (pv 8)) e_int) (e_var (pv 12))) (a_cons (fa := true) (fb := true) (e_op (fa := true) (fb := true) op_sub r_sub (e_ix (fa := true) (fb := true) (e_var (pv 8)) e_int) (e_var (pv 13))) a_nil))) (e_ix (fa := true) (fb := true) (e_var (pv 2)) (e_var (pv 11))))
(b_one (s_app (pv 9) (e_tup (a_cons (fa := true) (fb := true) (e_var (pv 10)) (a_cons (fa := true) (fb := true) (e_var (pv 11)) (a_cons (fa := true) (fb := true) (e_tup (a_cons (fa := true) (fb := true) (e_op (fa := true) (fb := true) op_sub r_sub (e_ix (fa := true) (fb := true) (e_var (pv 8)) e_int) (e_var (pv 12))) (a_cons (fa := true) (fb := true) (e_op (fa := true) (fb := true) op_sub r_sub (e_ix (fa := true) (fb := true) (e_var (pv 8)) e_int) (e_var (pv 13))) a_nil))) a_nil))))))
b_nil)))
(b_cons (s_frz 9 (s_asg (e_cb (cr_minD rfl (units100 hr)) r_minD (by rfl) T.n_min boot_min (a_cons (fa := true) (fb := true) (e_var (pv 9)) a_nil)) (g_tup rfl (gs_cons (g_name (pg_name sc_walk_by.nd rfl (Or.inl rfl))) (gs_cons (g_name (pg_name sc_walk_by.nd rfl (Or.inl rfl))) (gs_cons (g_name (pg_name sc_walk_by.nd rfl (Or.inl rfl))) gs_nil))))))
(b_one (s_app (pv 6) (e_var (pv 10))))))))
(b_one (s_frz 6 (s_ret (e_var (pv 6)))))))
/-! ### _law_net -/
abbrev st__law_net : Stmt := topS 31
theorem sc__law_net : FnScope ["draws", "k", "many", "found", "own", "pair", "t", "one"] ["draws", "k"] (defScope st__law_net) := ⟨rfl, rfl, rfl, by decide +kernel, rfl, by decide +kernel, by decide +kernel⟩
noncomputable def _law_net_s1 : EV → Option Fl :=
(sPar 2 3 (lF (c2 oAdd (cC (.int 2)) (cCB m__law_mix (aCons (cVar 0) (aCons (cVar 1) (aCons (cC (.int 5)) aNil)))))) (lO (kList aNil)))
noncomputable def _law_net_b1 : EV → Option Fl :=
(sSeq (sSetL 5 (lF (c2 oIx (cLst (kList (aCons (cTup (aCons (c2 oSub (cVar 4) (cC (.int 1))) (aCons (cVar 4) aNil))) (aCons (cTup (aCons (cVar 4) (aCons (c2 oSub (cVar 4) (cC (.int 1))) aNil))) aNil)))) (cCB m__law_mix (aCons (cVar 0) (aCons (c2 oAdd (cVar 1) (cVar 4)) (aCons (cC (.int 2)) aNil)))))))
(sApp 3 (cTup (aCons (c2 oIx (cVar 5) (cC (.int 0))) (aCons (c2 oIx (cVar 5) (cC (.int 1))) (aCons (cC (.int 1)) (aCons (cC (.int 1)) aNil)))))))
noncomputable def _law_net_s2 : EV → Option Fl :=
(sFor (iR2 (aCons (cC (.int 1)) (aCons (cVar 2) aNil))) (mName 4)
_law_net_b1)
noncomputable def _law_net_b2 : EV → Option Fl :=
(sSeq (sSetL 7 (lF (cCB m__law_mix (aCons (cVar 0) (aCons (c2 oAdd (c2 oAdd (cVar 1) (cC (.int 21))) (c2 oMul (cC (.int 3)) (cVar 6))) (aCons (cVar 2) aNil))))))
(sApp 3 (cTup (aCons (cVar 7) (aCons (c2 oMod (cCB bInt (aCons (c2 oAdd (c2 oAdd (cVar 7) (cC (.int 1))) (cCB m__law_mix (aCons (cVar 0) (aCons (c2 oAdd (c2 oAdd (cVar 1) (cC (.int 22))) (c2 oMul (cC (.int 3)) (cVar 6))) (aCons (c2 oSub (cVar 2) (cC (.int 1))) aNil))))) aNil)) (cVar 2)) (aCons (cC (.int 1)) (aCons (cC (.int 1)) aNil)))))))
noncomputable def _law_net_s3 : EV → Option Fl :=
(sFor (iR1 (aCons (cCB m__law_mix (aCons (cVar 0) (aCons (c2 oAdd (cVar 1) (cC (.int 20))) (aCons (cC (.int 4)) aNil)))) aNil)) (mName 6)
_law_net_b2)
noncomputable def _law_net_s4 : EV → Option Fl :=
(sFrz 3 (sRet (cTup (aCons (cVar 2) (aCons (cVar 3) aNil)))))
noncomputable def body__law_net : EV → Option Fl :=
(sSeq _law_net_s1
(sSeq _law_net_s2
(sSeq _law_net_s3
_law_net_s4)))
noncomputable def m__law_net : List D → Option D := runFn 2 6 body__law_net
theorem ok__law_net {P : Program} {w : World} {K : PySem.W.Frag} {mg : Str → Option Value} {base : Heap} (T : Txt K mg) : FnAt P w K mg base "_law_net" 2 2 m__law_net := by
  refine fn_at (N := ["draws", "k", "many", "found", "own", "pair", "t", "one"]) (ps := ["draws", "k"]) T.d__law_net sc__law_net rfl rfl (fun _ _ _ _ _ _ us hl => match us, hl with | [_, _], _ => rfl) fun f cdv A outer s H E hr => ?_
  exact (b_cons (s_par rfl sc__law_net.nd rfl rfl (by decide) rfl rfl (r_e (e_op (fa := true) (fb := true) op_add r_add e_int (e_fn (ok__law_mix T) hr (by decide) (by rfl) (a_cons (fa := true) (fb := true) (e_var (pv 0)) (a_cons (fa := true) (fb := true) (e_var (pv 1)) (a_cons (fa := true) (fb := true) e_int a_nil))) rfl (aCons_len (aCons_len (aCons_len (fun _ _ h => aNil_len h))))))) (r_f (f_lst a_nil)) (by rfl))
(b_cons (s_for PassesOwn.never rfl (i_range2 (by rfl) T.n_range (a_cons (fa := true) (fb := true) e_int (a_cons (fa := true) (fb := true) (e_var (pv 2)) a_nil))) (g_name (pg_name sc__law_net.nd rfl (Or.inl rfl)))
(b_cons (s_set sc__law_net.nd rfl (Or.inl rfl) (r_e (e_ix (fa := true) (fb := true) (e_f (f_lst (a_cons (fa := true) (fb := true) (e_tup (a_cons (fa := true) (fb := true) (e_op (fa := true) (fb := true) op_sub r_sub (e_var (pv 4)) e_int) (a_cons (fa := true) (fb := true) (e_var (pv 4)) a_nil))) (a_cons (fa := true) (fb := true) (e_tup (a_cons (fa := true) (fb := true) (e_var (pv 4)) (a_cons (fa := true) (fb := true) (e_op (fa := true) (fb := true) op_sub r_sub (e_var (pv 4)) e_int) a_nil))) a_nil)))) (e_fn (ok__law_mix T) hr (by decide) (by rfl) (a_cons (fa := true) (fb := true) (e_var (pv 0)) (a_cons (fa := true) (fb := true) (e_op (fa := true) (fb := true) op_add r_add (e_var (pv 1)) (e_var (pv 4))) (a_cons (fa := true) (fb := true) e_int a_nil))) rfl (aCons_len (aCons_len (aCons_len (fun _ _ h => aNil_len h))))))))
(b_one (s_app (pv 3) (e_tup (a_cons (fa := true) (fb := true) (e_ix (fa := true) (fb := true) (e_var (pv 5)) e_int) (a_cons (fa := true) (fb := true) (e_ix (fa := true) (fb := true) (e_var (pv 5)) e_int) (a_cons (fa := true) (fb := true) e_int (a_cons (fa := true) (fb := true) e_int a_nil)))))))))
(b_cons (s_for PassesOwn.never rfl (i_range1 (by rfl) T.n_range (a_cons (fa := true) (fb := true) (e_fn (ok__law_mix T) hr (by decide) (by rfl) (a_cons (fa := true) (fb := true) (e_var (pv 0)) (a_cons (fa := true) (fb := true) (e_op (fa := true) (fb := true) op_add r_add (e_var (pv 1)) e_int) (a_cons (fa := true) (fb := true) e_int a_nil))) rfl (aCons_len (aCons_len (aCons_len (fun _ _ h => aNil_len h))))) a_nil)) (g_name (pg_name sc__law_net.nd rfl (Or.inl rfl)))
(b_cons (s_set sc__law_net.nd rfl (Or.inl rfl) (r_e (e_fn (ok__law_mix T) hr (by decide) (by rfl) (a_cons (fa := true) (fb := true) (e_var (pv 0)) (a_cons (fa := true) (fb := true) (e_op (fa := true) (fb := true) op_add r_add (e_op (fa := true) (fb := true) op_add r_add (e_var (pv 1)) e_int) (e_op (fa := true) (fb := true) op_mul r_mul e_int (e_var (pv 6)))) (a_cons (fa := true) (fb := true) (e_var (pv 2)) a_nil))) rfl (aCons_len (aCons_len (aCons_len (fun _ _ h => aNil_len h)))))))
(b_one (s_app (pv 3) (e_tup (a_cons (fa := true) (fb := true) (e_var (pv 7)) (a_cons (fa := true) (fb := true) (e_op (fa := true) (fb := true) op_mod r_mod (e_cty call_int1 cr_int (by rfl) T.n_int PyProof.Rows.boot_int (a_cons (fa := true) (fb := true) (e_op (fa := true) (fb := true) op_add r_add (e_op (fa := true) (fb := true) op_add r_add (e_var (pv 7)) e_int) (e_fn (ok__law_mix T) hr (by decide) (by rfl) (a_cons (fa := true) (fb := true) (e_var (pv 0)) (a_cons (fa := true) (fb := true) (e_op (fa := true) (fb := true) op_add r_add (e_op (fa := true) (fb := true) op_add r_add (e_var (pv 1)) e_int) (e_op (fa := true) (fb := true) op_mul r_mul e_int (e_var (pv 6)))) (a_cons (fa := true) (fb := true) (e_op (fa := true) (fb := true) op_sub r_sub (e_var (pv 2)) e_int) a_nil))) rfl (aCons_len (aCons_len (aCons_len (fun _ _ h => aNil_len h)))))) a_nil)) (e_var (pv 2))) (a_cons (fa := true) (fb := true) e_int (a_cons (fa := true) (fb := true) e_int a_nil)))))))))
(b_one (s_frz 3 (s_ret (e_tup (a_cons (fa := true) (fb := true) (e_var (pv 2)) (a_cons (fa := true) (fb := true) (e_var (pv 3)) a_nil)))))))))
/-! ### _law_minutes -/
abbrev st__law_minutes : Stmt := topS 32
theorem sc__law_minutes : FnScope ["draws", "k", "links", "found", "plan", "t", "far", "row", "end"] ["draws", "k", "links"] (defScope st__law_minutes) := ⟨rfl, rfl, rfl, by decide +kernel, rfl, by decide +kernel, by decide +kernel⟩
noncomputable def _law_minutes_s1 : EV → Option Fl :=
(sPar 3 4 (lO (kList aNil)) (lF (cCB m__law_mix (aCons (cVar 0) (aCons (cVar 1) (aCons (cC (.int 2)) aNil))))))
noncomputable def _law_minutes_e1 : EV → Option D :=
(c2 oAdd (cCB bMax (aCons (cC (.int 0)) (aCons (c2 oSub (cC (.int 40)) (c2 oMul (cC (.int 4)) (c2 oIx (c2 oIx (cVar 2) (cVar 5)) (c2 oAdd (cC (.int 2)) (cVar 8))))) aNil))) (c2 oMul (c2 oIx (cVar 7) (cVar 8)) (cCB bInt (aCons (c2 oLt (cVar 6) (cC (.int 13))) aNil))))
noncomputable def _law_minutes_b1 : EV → Option Fl :=
(sSeq (sSetL 6 (lF (c2 oIx (cLst (kList (aCons (cC (.int 3)) (aCons (cC (.int 12)) (aCons (cC (.int 1001)) aNil))))) (cCB m__law_mix (aCons (cVar 0) (aCons (c2 oAdd (cVar 1) (cC (.int 1))) (aCons (cC (.int 3)) aNil)))))))
(sSeq (sSetL 7 (lF (cLst (kList (aCons (cCB m__law_mix (aCons (cVar 0) (aCons (c2 oAdd (c2 oAdd (cVar 1) (cC (.int 2))) (c2 oMul (cC (.int 2)) (cVar 5))) (aCons (cVar 6) aNil)))) (aCons (c2 oIx (cLst (kList (aCons (cCB m__law_mix (aCons (cVar 0) (aCons (c2 oAdd (c2 oAdd (cVar 1) (cC (.int 3))) (c2 oMul (cC (.int 2)) (cVar 5))) (aCons (cVar 6) aNil)))) (aCons (cC (.int 0)) aNil)))) (cCB bInt (aCons (c2 oEq (cCB m__law_mix (aCons (cVar 0) (aCons (c2 oAdd (c2 oAdd (cVar 1) (cC (.int 60))) (cVar 5)) (aCons (cC (.int 6)) aNil)))) (cC (.int 0))) aNil))) aNil))))))
(sSeq (sIf (tOf (c2 oEq (cVar 4) (cC (.int 1))))
(sSetL 7 (lF (cLst (kComp (iR1 (aCons (cC (.int 2)) aNil)) (mName 8) (fun _ => some true) _law_minutes_e1 [8]))))
sNx)
(sApp 3 (cCB bTuple (aCons (cVar 7) aNil))))))
noncomputable def _law_minutes_s2 : EV → Option Fl :=
(sFor (iR1 (aCons (cCB bLen (aCons (cVar 2) aNil)) aNil)) (mName 5)
_law_minutes_b1)
noncomputable def _law_minutes_s3 : EV → Option Fl :=
(sFrz 3 (sRet (cVar 3)))
noncomputable def body__law_minutes : EV → Option Fl :=
(sSeq _law_minutes_s1
(sSeq _law_minutes_s2
_law_minutes_s3))
noncomputable def m__law_minutes : List D → Option D := runFn 3 6 body__law_minutes
theorem ok__law_minutes {P : Program} {w : World} {K : PySem.W.Frag} {mg : Str → Option Value} {base : Heap} (T : Txt K mg) : FnAt P w K mg base "_law_minutes" 2 3 m__law_minutes := by
  refine fn_at (N := ["draws", "k", "links", "found", "plan", "t", "far", "row", "end"]) (ps := ["draws", "k", "links"]) T.d__law_minutes sc__law_minutes rfl rfl (fun _ _ _ _ _ _ us hl => match us, hl with | [_, _, _], _ => rfl) fun f cdv A outer s H E hr => ?_
  exact (b_cons (s_par rfl sc__law_minutes.nd rfl rfl (by decide) rfl rfl (r_f (f_lst a_nil)) (r_e (e_fn (ok__law_mix T) hr (by decide) (by rfl) (a_cons (fa := true) (fb := true) (e_var (pv 0)) (a_cons (fa := true) (fb := true) (e_var (pv 1)) (a_cons (fa := true) (fb := true) e_int a_nil))) rfl (aCons_len (aCons_len (aCons_len (fun _ _ h => aNil_len h)))))) (by rfl))
(b_cons (s_for PassesOwn.never rfl (i_range1 (by rfl) T.n_range (a_cons (fa := true) (fb := true) (e_cb call_len_seq cr_len (by rfl) T.n_len boot_len (a_cons (fa := true) (fb := true) (e_var (pv 2)) a_nil)) a_nil)) (g_name (pg_name sc__law_minutes.nd rfl (Or.inr rfl)))
(b_cons (s_set sc__law_minutes.nd rfl (Or.inr rfl) (r_e (e_ix (fa := true) (fb := true) (e_f (f_lst (a_cons (fa := true) (fb := true) e_int (a_cons (fa := true) (fb := true) e_int (a_cons (fa := true) (fb := true) e_int a_nil))))) (e_fn (ok__law_mix T) hr (by decide) (by rfl) (a_cons (fa := true) (fb := true) (e_var (pv 0)) (a_cons (fa := true) (fb := true) (e_op (fa := true) (fb := true) op_add r_add (e_var (pv 1)) e_int) (a_cons (fa := true) (fb := true) e_int a_nil))) rfl (aCons_len (aCons_len (aCons_len (fun _ _ h => aNil_len h))))))))
(b_cons (s_set sc__law_minutes.nd rfl (Or.inr rfl) (r_e (e_f (f_lst (a_cons (fa := true) (fb := true) (e_fn (ok__law_mix T) hr (by decide) (by rfl) (a_cons (fa := true) (fb := true) (e_var (pv 0)) (a_cons (fa := true) (fb := true) (e_op (fa := true) (fb := true) op_add r_add (e_op (fa := true) (fb := true) op_add r_add (e_var (pv 1)) e_int) (e_op (fa := true) (fb := true) op_mul r_mul e_int (e_var (pv 5)))) (a_cons (fa := true) (fb := true) (e_var (pv 6)) a_nil))) rfl (aCons_len (aCons_len (aCons_len (fun _ _ h => aNil_len h))))) (a_cons (fa := true) (fb := true) (e_ix (fa := true) (fb := true) (e_f (f_lst (a_cons (fa := true) (fb := true) (e_fn (ok__law_mix T) hr (by decide) (by rfl) (a_cons (fa := true) (fb := true) (e_var (pv 0)) (a_cons (fa := true) (fb := true) (e_op (fa := true) (fb := true) op_add r_add (e_op (fa := true) (fb := true) op_add r_add (e_var (pv 1)) e_int) (e_op (fa := true) (fb := true) op_mul r_mul e_int (e_var (pv 5)))) (a_cons (fa := true) (fb := true) (e_var (pv 6)) a_nil))) rfl (aCons_len (aCons_len (aCons_len (fun _ _ h => aNil_len h))))) (a_cons (fa := true) (fb := true) e_int a_nil)))) (e_cty call_int1 cr_int (by rfl) T.n_int PyProof.Rows.boot_int (a_cons (fa := true) (fb := true) (e_cmp (fa := true) (fb := true) (op_eqD hr.units) r_eq (e_fn (ok__law_mix T) hr (by decide) (by rfl) (a_cons (fa := true) (fb := true) (e_var (pv 0)) (a_cons (fa := true) (fb := true) (e_op (fa := true) (fb := true) op_add r_add (e_op (fa := true) (fb := true) op_add r_add (e_var (pv 1)) e_int) (e_var (pv 5))) (a_cons (fa := true) (fb := true) e_int a_nil))) rfl (aCons_len (aCons_len (aCons_len (fun _ _ h => aNil_len h))))) e_int) a_nil))) a_nil))))))
(b_cons (s_if (t_cmp (op_eqD hr.units) r_eq (e_var (pv 4)) e_int)
(b_one (s_set sc__law_minutes.nd rfl (Or.inr rfl) (r_e (e_f (f_lc (own := [("end", 8)]) rfl sc__law_minutes.nd (i_range1 (by rfl) T.n_range (a_cons (fa := true) (fb := true) e_int a_nil)) (by kernel_rfl) (gB fun _ _ _ _ _ => (g_name (pg_name sc__law_minutes.nd rfl (Or.inl rfl)))) (tsB fun _ _ _ _ _ => ts_nil) (eB fun _ _ _ _ _ => (e_op (fa := true) (fb := true) op_add r_add (e_cb (call_max2 rfl) cr_max2 (by rfl) T.n_max boot_max (a_cons (fa := true) (fb := true) e_int (a_cons (fa := true) (fb := true) (e_op (fa := true) (fb := true) op_sub r_sub e_int (e_op (fa := true) (fb := true) op_mul r_mul e_int (e_ix (fa := true) (fb := true) (e_ix (fa := true) (fb := true) (e_var (pv 2)) (e_var (pv 5))) (e_op (fa := true) (fb := true) op_add r_add e_int (e_var (pv 8)))))) a_nil))) (e_op (fa := true) (fb := true) op_mul r_mul (e_ix (fa := true) (fb := true) (e_var (pv 7)) (e_var (pv 8))) (e_cty call_int1 cr_int (by rfl) T.n_int PyProof.Rows.boot_int (a_cons (fa := true) (fb := true) (e_cmp (fa := true) (fb := true) op_lt r_lt (e_var (pv 6)) e_int) a_nil))))))))))
b_nil)
(b_one (s_app (pv 3) (e_cty call_tuple_of r_tuple (by rfl) T.n_tuple (by first | rfl | kernel_rfl) (a_cons (fa := true) (fb := true) (e_var (pv 7)) a_nil))))))))
(b_one (s_frz 3 (s_ret (e_var (pv 3)))))))
/-! ### find_fronts -/
abbrev st_find_fronts : Stmt := topS 20
theorem sc_find_fronts : FnScope ["routers", "links", "minutes", "goal", "told", "_", "rows", "router"] ["routers", "links", "minutes", "goal"] (defScope st_find_fronts) := ⟨rfl, rfl, rfl, by decide +kernel, rfl, by decide +kernel, by decide +kernel⟩
noncomputable def find_fronts_e1 : EV → Option D :=
(cIf (tOf (c2 oEq (cVar 7) (cVar 3))) (cLst (kList (aCons (cTup (aCons (cC (.int 0)) (aCons (cC (.int 0)) aNil))) aNil))) (cLst (kList aNil)))
noncomputable def find_fronts_s1 : EV → Option Fl :=
(sSetL 4 (lF (cLst (kComp (iR1 (aCons (cVar 0) aNil)) (mName 7) (fun _ => some true) find_fronts_e1 [7]))))
noncomputable def find_fronts_e2 : EV → Option D :=
(cCB m_next_front (aCons (cVar 1) (aCons (cVar 2) (aCons (cVar 7) (aCons (cVar 4) aNil)))))
noncomputable def find_fronts_e3 : EV → Option D :=
(cIf (tOf (c2 oEq (cVar 7) (cVar 3))) (c2 oIx (cVar 4) (cVar 3)) (c2 oIx (cVar 6) (cVar 7)))
noncomputable def find_fronts_b1 : EV → Option Fl :=
(sSeq (sSetL 6 (lF (cLst (kComp (iR1 (aCons (cVar 0) aNil)) (mName 7) (fun _ => some true) find_fronts_e2 [7]))))
(sSetL 4 (lF (cLst (kComp (iR1 (aCons (cVar 0) aNil)) (mName 7) (fun _ => some true) find_fronts_e3 [7])))))
noncomputable def find_fronts_s2 : EV → Option Fl :=
(sFor (iR1 (aCons (cVar 0) aNil)) (mName 5)
find_fronts_b1)
noncomputable def find_fronts_b2 : EV → Option Fl :=
(sIf (tOf (c2 oGt (cCB bLen (aCons (c2 oIx (cVar 4) (cVar 7)) aNil)) (cC (.int 300))))
sNo
sNx)
noncomputable def find_fronts_s3 : EV → Option Fl :=
(sFor (iR1 (aCons (cVar 0) aNil)) (mName 7)
find_fronts_b2)
noncomputable def find_fronts_s4 : EV → Option Fl :=
(sRet (cVar 4))
noncomputable def body_find_fronts : EV → Option Fl :=
(sSeq find_fronts_s1
(sSeq find_fronts_s2
(sSeq find_fronts_s3
find_fronts_s4)))
noncomputable def m_find_fronts : List D → Option D := runFn 4 4 body_find_fronts
theorem ok_find_fronts {P : Program} {w : World} {K : PySem.W.Frag} {mg : Str → Option Value} {base : Heap} (T : Txt K mg) : FnAt P w K mg base "find_fronts" 3 4 m_find_fronts := by
  refine fn_at (N := ["routers", "links", "minutes", "goal", "told", "_", "rows", "router"]) (ps := ["routers", "links", "minutes", "goal"]) T.d_find_fronts sc_find_fronts rfl rfl (fun _ _ _ _ _ _ us hl => match us, hl with | [_, _, _, _], _ => rfl) fun f cdv A outer s H E hr => ?_
  exact (b_cons (s_set sc_find_fronts.nd rfl (Or.inr rfl) (r_e (e_f (f_lc (own := [("router", 7)]) rfl sc_find_fronts.nd (i_range1 (by rfl) T.n_range (a_cons (fa := true) (fb := true) (e_var (pv 0)) a_nil)) (by kernel_rfl) (gB fun _ _ _ _ _ => (g_name (pg_name sc_find_fronts.nd rfl (Or.inl rfl)))) (tsB fun _ _ _ _ _ => ts_nil) (eB fun _ _ _ _ _ => (e_if (fa := true) (fb := true) (t_cmp (op_eqD hr.units) r_eq (e_var (pv 7)) (e_var (pv 3))) (e_f (f_lst (a_cons (fa := true) (fb := true) (e_tup (a_cons (fa := true) (fb := true) e_int (a_cons (fa := true) (fb := true) e_int a_nil))) a_nil))) (e_f (f_lst a_nil))))))))
(b_cons (s_for PassesOwn.never rfl (i_range1 (by rfl) T.n_range (a_cons (fa := true) (fb := true) (e_var (pv 0)) a_nil)) (g_name (pg_name sc_find_fronts.nd rfl (Or.inl rfl)))
(b_cons (s_set sc_find_fronts.nd rfl (Or.inr rfl) (r_e (e_f (f_lc (own := [("router", 7)]) rfl sc_find_fronts.nd (i_range1 (by rfl) T.n_range (a_cons (fa := true) (fb := true) (e_var (pv 0)) a_nil)) (by kernel_rfl) (gB fun _ _ _ _ _ => (g_name (pg_name sc_find_fronts.nd rfl (Or.inl rfl)))) (tsB fun _ _ _ _ _ => ts_nil) (eB fun _ _ _ _ _ => (e_fn (ok_next_front T) hr (by decide) (by rfl) (a_cons (fa := true) (fb := true) (e_var (pv 1)) (a_cons (fa := true) (fb := true) (e_var (pv 2)) (a_cons (fa := true) (fb := true) (e_var (pv 7)) (a_cons (fa := true) (fb := true) (e_var (pv 4)) a_nil)))) rfl (aCons_len (aCons_len (aCons_len (aCons_len (fun _ _ h => aNil_len h)))))))))))
(b_one (s_set sc_find_fronts.nd rfl (Or.inr rfl) (r_e (e_f (f_lc (own := [("router", 7)]) rfl sc_find_fronts.nd (i_range1 (by rfl) T.n_range (a_cons (fa := true) (fb := true) (e_var (pv 0)) a_nil)) (by kernel_rfl) (gB fun _ _ _ _ _ => (g_name (pg_name sc_find_fronts.nd rfl (Or.inl rfl)))) (tsB fun _ _ _ _ _ => ts_nil) (eB fun _ _ _ _ _ => (e_if (fa := true) (fb := true) (t_cmp (op_eqD hr.units) r_eq (e_var (pv 7)) (e_var (pv 3))) (e_ix (fa := true) (fb := true) (e_var (pv 4)) (e_var (pv 3))) (e_ix (fa := true) (fb := true) (e_var (pv 6)) (e_var (pv 7))))))))))))
(b_cons (s_for PassesOwn.never rfl (i_range1 (by rfl) T.n_range (a_cons (fa := true) (fb := true) (e_var (pv 0)) a_nil)) (g_name (pg_name sc_find_fronts.nd rfl (Or.inl rfl)))
(b_one (s_if (t_cmp op_gt r_gt (e_cb call_len_seq cr_len (by rfl) T.n_len boot_len (a_cons (fa := true) (fb := true) (e_ix (fa := true) (fb := true) (e_var (pv 4)) (e_var (pv 7))) a_nil)) (e_gc T.c_MOST_PAIRS (by rfl)))
(b_one s_never)
b_nil)))
(b_one (s_ret (e_var (pv 4)))))))
/-! ### are_fronts -/
abbrev st_are_fronts : Stmt := topS 22
theorem sc_are_fronts : FnScope ["routers", "links", "minutes", "goal", "told", "others", "router"] ["routers", "links", "minutes", "goal", "told"] (defScope st_are_fronts) := ⟨rfl, rfl, rfl, by decide +kernel, rfl, by decide +kernel, by decide +kernel⟩
noncomputable def are_fronts_s1 : EV → Option Fl :=
(sDrop (cCB m_check_net (aCons (cVar 0) (aCons (cVar 1) (aCons (cVar 2) aNil)))))
noncomputable def are_fronts_s2 : EV → Option Fl :=
(sDrop (cCB m_check_router (aCons (cVar 0) (aCons (cVar 3) aNil))))
noncomputable def are_fronts_s3 : EV → Option Fl :=
(sIf (tOrZ (tOf (c2 oNe (cCB bLen (aCons (cVar 4) aNil)) (cVar 0))) (tOf (c2 oNe (c2 oIx (cVar 4) (cVar 3)) (cLst (kList (aCons (cTup (aCons (cC (.int 0)) (aCons (cC (.int 0)) aNil))) aNil))))))
(sRet (cC (.bl false)))
sNx)
noncomputable def are_fronts_e1 : EV → Option D :=
(cVar 6)
noncomputable def are_fronts_q1 : EV → Option Bool :=
(tOf (c2 oNe (cVar 6) (cVar 3)))
noncomputable def are_fronts_s4 : EV → Option Fl :=
(sSetL 5 (lF (cLst (kComp (iR1 (aCons (cVar 0) aNil)) (mName 6) are_fronts_q1 are_fronts_e1 [6]))))
noncomputable def are_fronts_e2 : EV → Option D :=
(c2 oEq (c2 oIx (cVar 4) (cVar 6)) (cCB m_next_front (aCons (cVar 1) (aCons (cVar 2) (aCons (cVar 6) (aCons (cVar 4) aNil))))))
noncomputable def are_fronts_s5 : EV → Option Fl :=
(sRet (cCB bAll (aCons (cLst (kComp (iLst (cVar 5)) (mName 6) (fun _ => some true) are_fronts_e2 [6])) aNil)))
noncomputable def body_are_fronts : EV → Option Fl :=
(sSeq are_fronts_s1
(sSeq are_fronts_s2
(sSeq are_fronts_s3
(sSeq are_fronts_s4
are_fronts_s5))))
noncomputable def m_are_fronts : List D → Option D := runFn 5 2 body_are_fronts
theorem ok_are_fronts {P : Program} {w : World} {K : PySem.W.Frag} {mg : Str → Option Value} {base : Heap} (T : Txt K mg) : FnAt P w K mg base "are_fronts" 3 5 m_are_fronts := by
  refine fn_at (N := ["routers", "links", "minutes", "goal", "told", "others", "router"]) (ps := ["routers", "links", "minutes", "goal", "told"]) T.d_are_fronts sc_are_fronts rfl rfl (fun _ _ _ _ _ _ us hl => match us, hl with | [_, _, _, _, _], _ => rfl) fun f cdv A outer s H E hr => ?_
  exact (b_cons (s_expr (e_fn (ok_check_net T) hr (by decide) (by rfl) (a_cons (fa := true) (fb := true) (e_var (pv 0)) (a_cons (fa := true) (fb := true) (e_var (pv 1)) (a_cons (fa := true) (fb := true) (e_var (pv 2)) a_nil))) rfl (aCons_len (aCons_len (aCons_len (fun _ _ h => aNil_len h))))))
(b_cons (s_expr (e_fn (ok_check_router T) hr (by decide) (by rfl) (a_cons (fa := true) (fb := true) (e_var (pv 0)) (a_cons (fa := true) (fb := true) (e_var (pv 3)) a_nil)) rfl (aCons_len (aCons_len (fun _ _ h => aNil_len h)))))
(b_cons (s_if (t_w (w_or (t_cmp (op_neD hr.units) r_ne (e_cb call_len_seq cr_len (by rfl) T.n_len boot_len (a_cons (fa := true) (fb := true) (e_var (pv 4)) a_nil)) (e_var (pv 0))) (w_or1 (t_cmp (op_neD hr.units) r_ne (e_ix (fa := true) (fb := true) (e_var (pv 4)) (e_var (pv 3))) (e_f (f_lst (a_cons (fa := true) (fb := true) (e_tup (a_cons (fa := true) (fb := true) e_int (a_cons (fa := true) (fb := true) e_int a_nil))) a_nil)))))))
(b_one (s_ret e_bl))
b_nil)
(b_cons (s_setLc (own := [("router", 6)]) rfl sc_are_fronts.nd rfl rfl (sw_true rfl rfl rfl (by decide +kernel)) (i_range1 (by rfl) T.n_range (a_cons (fa := true) (fb := true) (e_var (pv 0)) a_nil)) (by kernel_rfl) (gB fun _ _ _ _ _ => (g_name (pg_name sc_are_fronts.nd rfl (Or.inl rfl)))) (tsB fun _ _ _ _ _ => (ts_one (t_cmp (op_neD hr.units) r_ne (e_var (pv 6)) (e_var (pv 3))))) (eB fun _ _ _ _ _ => (e_var (pv 6))) (hl := lc_fro))
(b_one (s_ret (e_cb (cr_all rfl) r_all (by rfl) T.n_all boot_all (a_cons (fa := true) (fb := true) (e_f (f_lc (own := [("router", 6)]) rfl sc_are_fronts.nd (i_list (e_var (pv 5))) (by kernel_rfl) (gB fun _ _ _ _ _ => (g_name (pg_name sc_are_fronts.nd rfl (Or.inl rfl)))) (tsB fun _ _ _ _ _ => ts_nil) (eB fun _ _ _ _ _ => (e_cmp (fa := true) (fb := true) (op_eqD hr.units) r_eq (e_ix (fa := true) (fb := true) (e_var (pv 4)) (e_var (pv 6))) (e_fn (ok_next_front T) hr (by decide) (by rfl) (a_cons (fa := true) (fb := true) (e_var (pv 1)) (a_cons (fa := true) (fb := true) (e_var (pv 2)) (a_cons (fa := true) (fb := true) (e_var (pv 6)) (a_cons (fa := true) (fb := true) (e_var (pv 4)) a_nil)))) rfl (aCons_len (aCons_len (aCons_len (aCons_len (fun _ _ h => aNil_len h)))))))))) a_nil))))))))
/-! ### check_ends -/
abbrev st_check_ends : Stmt := topS 24
theorem sc_check_ends : FnScope ["routers", "links", "minutes", "start", "goal"] ["routers", "links", "minutes", "start", "goal"] (defScope st_check_ends) := ⟨rfl, rfl, rfl, by decide +kernel, rfl, by decide +kernel, by decide +kernel⟩
noncomputable def check_ends_s1 : EV → Option Fl :=
(sDrop (cCB m_check_net (aCons (cVar 0) (aCons (cVar 1) (aCons (cVar 2) aNil)))))
noncomputable def check_ends_s2 : EV → Option Fl :=
(sDrop (cCB m_check_router (aCons (cVar 0) (aCons (cVar 3) aNil))))
noncomputable def check_ends_s3 : EV → Option Fl :=
(sDrop (cCB m_check_router (aCons (cVar 0) (aCons (cVar 4) aNil))))
noncomputable def body_check_ends : EV → Option Fl :=
(sSeq check_ends_s1
(sSeq check_ends_s2
check_ends_s3))
noncomputable def m_check_ends : List D → Option D := runFn 5 0 body_check_ends
theorem ok_check_ends {P : Program} {w : World} {K : PySem.W.Frag} {mg : Str → Option Value} {base : Heap} (T : Txt K mg) : FnAt P w K mg base "check_ends" 3 5 m_check_ends := by
  refine fn_at (N := ["routers", "links", "minutes", "start", "goal"]) (ps := ["routers", "links", "minutes", "start", "goal"]) T.d_check_ends sc_check_ends rfl rfl (fun _ _ _ _ _ _ us hl => match us, hl with | [_, _, _, _, _], _ => rfl) fun f cdv A outer s H E hr => ?_
  exact (b_cons (s_expr (e_fn (ok_check_net T) hr (by decide) (by rfl) (a_cons (fa := true) (fb := true) (e_var (pv 0)) (a_cons (fa := true) (fb := true) (e_var (pv 1)) (a_cons (fa := true) (fb := true) (e_var (pv 2)) a_nil))) rfl (aCons_len (aCons_len (aCons_len (fun _ _ h => aNil_len h))))))
(b_cons (s_expr (e_fn (ok_check_router T) hr (by decide) (by rfl) (a_cons (fa := true) (fb := true) (e_var (pv 0)) (a_cons (fa := true) (fb := true) (e_var (pv 3)) a_nil)) rfl (aCons_len (aCons_len (fun _ _ h => aNil_len h)))))
(b_one (s_expr (e_fn (ok_check_router T) hr (by decide) (by rfl) (a_cons (fa := true) (fb := true) (e_var (pv 0)) (a_cons (fa := true) (fb := true) (e_var (pv 4)) a_nil)) rfl (aCons_len (aCons_len (fun _ _ h => aNil_len h))))))))
/-! ### _law_doubled -/
abbrev st__law_doubled : Stmt := topS 33
theorem sc__law_doubled : FnScope ["draws", "k", "many", "links", "t", "one", "two", "there", "back", "more"] ["draws", "k"] (defScope st__law_doubled) := ⟨rfl, rfl, rfl, by decide +kernel, rfl, by decide +kernel, by decide +kernel⟩
noncomputable def _law_doubled_s1 : EV → Option Fl :=
(sAsg (cCB m__law_net (aCons (cVar 0) (aCons (cVar 1) aNil))) (mTup (mCons (mName 2) (mCons (mName 3) mNil))))
noncomputable def _law_doubled_b1 : EV → Option Fl :=
(sSeq (sAsg (c2 oIx (cVar 3) (cCB m__law_mix (aCons (cVar 0) (aCons (c2 oAdd (c2 oAdd (cVar 1) (cC (.int 81))) (c2 oMul (cC (.int 3)) (cVar 4))) (aCons (cCB bLen (aCons (cVar 3) aNil)) aNil))))) (mTup (mCons (mName 5) (mCons (mName 6) (mCons (mName 7) (mCons (mName 8) mNil))))))
(sSeq (sSetL 9 (lF (c2 oAdd (cC (.int 1)) (cCB m__law_mix (aCons (cVar 0) (aCons (c2 oAdd (c2 oAdd (cVar 1) (cC (.int 82))) (c2 oMul (cC (.int 3)) (cVar 4))) (aCons (cC (.int 9)) aNil)))))))
(sSetL 3 (lF (cLst (kCat (cVar 3) (cLst (kList (aCons (cTup (aCons (cVar 5) (aCons (cVar 6) (aCons (c2 oAdd (cC (.int 1)) (c2 oMod (cCB bInt (aCons (c2 oAdd (cVar 7) (cVar 9)) aNil)) (cC (.int 10)))) (aCons (c2 oAdd (cC (.int 1)) (c2 oMod (cCB bInt (aCons (c2 oAdd (cVar 8) (cVar 9)) aNil)) (cC (.int 10)))) aNil))))) aNil)))))))))
noncomputable def _law_doubled_s2 : EV → Option Fl :=
(sFor (iR1 (aCons (c2 oMul (cCB m__law_mix (aCons (cVar 0) (aCons (c2 oAdd (cVar 1) (cC (.int 80))) (aCons (cC (.int 7)) aNil)))) (cCB bInt (aCons (cAnd (c2 oNe (cVar 3) (cLst (kList aNil))) (c2 oLt (cCB bLen (aCons (cVar 3) aNil)) (cC (.int 12)))) aNil))) aNil)) (mName 4)
_law_doubled_b1)
noncomputable def _law_doubled_s3 : EV → Option Fl :=
(sRet (cTup (aCons (cVar 2) (aCons (cVar 3) aNil))))
noncomputable def body__law_doubled : EV → Option Fl :=
(sSeq _law_doubled_s1
(sSeq _law_doubled_s2
_law_doubled_s3))
noncomputable def m__law_doubled : List D → Option D := runFn 2 8 body__law_doubled
theorem ok__law_doubled {P : Program} {w : World} {K : PySem.W.Frag} {mg : Str → Option Value} {base : Heap} (T : Txt K mg) : FnAt P w K mg base "_law_doubled" 3 2 m__law_doubled := by
  refine fn_at (N := ["draws", "k", "many", "links", "t", "one", "two", "there", "back", "more"]) (ps := ["draws", "k"]) T.d__law_doubled sc__law_doubled rfl rfl (fun _ _ _ _ _ _ us hl => match us, hl with | [_, _], _ => rfl) fun f cdv A outer s H E hr => ?_
  exact (b_cons (s_asg (e_fn (ok__law_net T) hr (by decide) (by rfl) (a_cons (fa := true) (fb := true) (e_var (pv 0)) (a_cons (fa := true) (fb := true) (e_var (pv 1)) a_nil)) rfl (aCons_len (aCons_len (fun _ _ h => aNil_len h)))) (g_tup rfl (gs_cons (g_name (pg_name sc__law_doubled.nd rfl (Or.inl rfl))) (gs_cons (g_name (pg_name sc__law_doubled.nd rfl (Or.inl rfl))) gs_nil))))
(b_cons (s_for PassesOwn.never rfl (i_range1 (by rfl) T.n_range (a_cons (fa := true) (fb := true) (e_op (fa := true) (fb := true) op_mul r_mul (e_fn (ok__law_mix T) hr (by decide) (by rfl) (a_cons (fa := true) (fb := true) (e_var (pv 0)) (a_cons (fa := true) (fb := true) (e_op (fa := true) (fb := true) op_add r_add (e_var (pv 1)) e_int) (a_cons (fa := true) (fb := true) e_int a_nil))) rfl (aCons_len (aCons_len (aCons_len (fun _ _ h => aNil_len h))))) (e_cty call_int1 cr_int (by rfl) T.n_int PyProof.Rows.boot_int (a_cons (fa := true) (fb := true) (e_and (fa := true) (fb := true) (e_cmp (fa := true) (fb := true) (op_neD hr.units) r_ne (e_var (pv 3)) (e_f (f_lst a_nil))) (e_one (e_cmp (fa := true) (fb := true) op_lt r_lt (e_cb call_len_seq cr_len (by rfl) T.n_len boot_len (a_cons (fa := true) (fb := true) (e_var (pv 3)) a_nil)) e_int))) a_nil))) a_nil)) (g_name (pg_name sc__law_doubled.nd rfl (Or.inl rfl)))
(b_cons (s_asg (e_ix (fa := true) (fb := true) (e_var (pv 3)) (e_fn (ok__law_mix T) hr (by decide) (by rfl) (a_cons (fa := true) (fb := true) (e_var (pv 0)) (a_cons (fa := true) (fb := true) (e_op (fa := true) (fb := true) op_add r_add (e_op (fa := true) (fb := true) op_add r_add (e_var (pv 1)) e_int) (e_op (fa := true) (fb := true) op_mul r_mul e_int (e_var (pv 4)))) (a_cons (fa := true) (fb := true) (e_cb call_len_seq cr_len (by rfl) T.n_len boot_len (a_cons (fa := true) (fb := true) (e_var (pv 3)) a_nil)) a_nil))) rfl (aCons_len (aCons_len (aCons_len (fun _ _ h => aNil_len h)))))) (g_tup rfl (gs_cons (g_name (pg_name sc__law_doubled.nd rfl (Or.inl rfl))) (gs_cons (g_name (pg_name sc__law_doubled.nd rfl (Or.inl rfl))) (gs_cons (g_name (pg_name sc__law_doubled.nd rfl (Or.inl rfl))) (gs_cons (g_name (pg_name sc__law_doubled.nd rfl (Or.inl rfl))) gs_nil))))))
(b_cons (s_set sc__law_doubled.nd rfl (Or.inl rfl) (r_e (e_op (fa := true) (fb := true) op_add r_add e_int (e_fn (ok__law_mix T) hr (by decide) (by rfl) (a_cons (fa := true) (fb := true) (e_var (pv 0)) (a_cons (fa := true) (fb := true) (e_op (fa := true) (fb := true) op_add r_add (e_op (fa := true) (fb := true) op_add r_add (e_var (pv 1)) e_int) (e_op (fa := true) (fb := true) op_mul r_mul e_int (e_var (pv 4)))) (a_cons (fa := true) (fb := true) e_int a_nil))) rfl (aCons_len (aCons_len (aCons_len (fun _ _ h => aNil_len h))))))))
(b_one (s_set sc__law_doubled.nd rfl (Or.inl rfl) (r_e (e_f (f_cat (e_var (pv 3)) (e_f (f_lst (a_cons (fa := true) (fb := true) (e_tup (a_cons (fa := true) (fb := true) (e_var (pv 5)) (a_cons (fa := true) (fb := true) (e_var (pv 6)) (a_cons (fa := true) (fb := true) (e_op (fa := true) (fb := true) op_add r_add e_int (e_op (fa := true) (fb := true) op_mod r_mod (e_cty call_int1 cr_int (by rfl) T.n_int PyProof.Rows.boot_int (a_cons (fa := true) (fb := true) (e_op (fa := true) (fb := true) op_add r_add (e_var (pv 7)) (e_var (pv 9))) a_nil)) e_int)) (a_cons (fa := true) (fb := true) (e_op (fa := true) (fb := true) op_add r_add e_int (e_op (fa := true) (fb := true) op_mod r_mod (e_cty call_int1 cr_int (by rfl) T.n_int PyProof.Rows.boot_int (a_cons (fa := true) (fb := true) (e_op (fa := true) (fb := true) op_add r_add (e_var (pv 8)) (e_var (pv 9))) a_nil)) e_int)) a_nil))))) a_nil)))))))))))
(b_one (s_ret (e_tup (a_cons (fa := true) (fb := true) (e_var (pv 2)) (a_cons (fa := true) (fb := true) (e_var (pv 3)) a_nil)))))))
/-! ### fronts -/
abbrev st_fronts : Stmt := topS 21
theorem sc_fronts : FnScope ["routers", "links", "minutes", "goal"] ["routers", "links", "minutes", "goal"] (defScope st_fronts) := ⟨rfl, rfl, rfl, by decide +kernel, rfl, by decide +kernel, by decide +kernel⟩
noncomputable def fronts_s1 : EV → Option Fl :=
(sDrop (cCB m_check_net (aCons (cVar 0) (aCons (cVar 1) (aCons (cVar 2) aNil)))))
noncomputable def fronts_s2 : EV → Option Fl :=
(sDrop (cCB m_check_router (aCons (cVar 0) (aCons (cVar 3) aNil))))
noncomputable def fronts_s3 : EV → Option Fl :=
(sRet (cCB m_find_fronts (aCons (cVar 0) (aCons (cVar 1) (aCons (cVar 2) (aCons (cVar 3) aNil))))))
noncomputable def body_fronts : EV → Option Fl :=
(sSeq fronts_s1
(sSeq fronts_s2
fronts_s3))
noncomputable def m_fronts : List D → Option D := runFn 4 0 body_fronts
theorem ok_fronts {P : Program} {w : World} {K : PySem.W.Frag} {mg : Str → Option Value} {base : Heap} (T : Txt K mg) : FnAt P w K mg base "fronts" 4 4 m_fronts := by
  refine fn_at (N := ["routers", "links", "minutes", "goal"]) (ps := ["routers", "links", "minutes", "goal"]) T.d_fronts sc_fronts rfl rfl (fun _ _ _ _ _ _ us hl => match us, hl with | [_, _, _, _], _ => rfl) fun f cdv A outer s H E hr => ?_
  exact (b_cons (s_expr (e_fn (ok_check_net T) hr (by decide) (by rfl) (a_cons (fa := true) (fb := true) (e_var (pv 0)) (a_cons (fa := true) (fb := true) (e_var (pv 1)) (a_cons (fa := true) (fb := true) (e_var (pv 2)) a_nil))) rfl (aCons_len (aCons_len (aCons_len (fun _ _ h => aNil_len h))))))
(b_cons (s_expr (e_fn (ok_check_router T) hr (by decide) (by rfl) (a_cons (fa := true) (fb := true) (e_var (pv 0)) (a_cons (fa := true) (fb := true) (e_var (pv 3)) a_nil)) rfl (aCons_len (aCons_len (fun _ _ h => aNil_len h)))))
(b_one (s_ret (e_fn (ok_find_fronts T) hr (by decide) (by rfl) (a_cons (fa := true) (fb := true) (e_var (pv 0)) (a_cons (fa := true) (fb := true) (e_var (pv 1)) (a_cons (fa := true) (fb := true) (e_var (pv 2)) (a_cons (fa := true) (fb := true) (e_var (pv 3)) a_nil)))) rfl (aCons_len (aCons_len (aCons_len (aCons_len (fun _ _ h => aNil_len h))))))))))
/-! ### cheapest -/
abbrev st_cheapest : Stmt := topS 26
theorem sc_cheapest : FnScope ["routers", "links", "minutes", "start", "goal", "limit", "told", "good", "pair"] ["routers", "links", "minutes", "start", "goal", "limit"] (defScope st_cheapest) := ⟨rfl, rfl, rfl, by decide +kernel, rfl, by decide +kernel, by decide +kernel⟩
noncomputable def cheapest_s1 : EV → Option Fl :=
(sDrop (cCB m_check_ends (aCons (cVar 0) (aCons (cVar 1) (aCons (cVar 2) (aCons (cVar 3) (aCons (cVar 4) aNil)))))))
noncomputable def cheapest_s2 : EV → Option Fl :=
(sIf (tOf (c2 oLt (cVar 5) (cC (.int 0))))
sNo
sNx)
noncomputable def cheapest_s3 : EV → Option Fl :=
(sSetL 6 (lF (cCB m_find_fronts (aCons (cVar 0) (aCons (cVar 1) (aCons (cVar 2) (aCons (cVar 4) aNil)))))))
noncomputable def cheapest_e1 : EV → Option D :=
(cVar 8)
noncomputable def cheapest_q1 : EV → Option Bool :=
(tOf (c2 oLe (c2 oIx (cVar 8) (cC (.int 1))) (cVar 5)))
noncomputable def cheapest_s4 : EV → Option Fl :=
(sSetL 7 (lF (cLst (kComp (iLst (c2 oIx (cVar 6) (cVar 3))) (mName 8) cheapest_q1 cheapest_e1 [8]))))
noncomputable def cheapest_s5 : EV → Option Fl :=
(sIf (tOf (c2 oEq (cCB bLen (aCons (cVar 7) aNil)) (cC (.int 0))))
(sRet (cC .non))
sNx)
noncomputable def cheapest_s6 : EV → Option Fl :=
(sRet (cTup (aCons (c2 oIx (cVar 7) (cC (.int 0))) (aCons (cCB m_walk_by (aCons (cVar 1) (aCons (cVar 2) (aCons (cVar 6) (aCons (cVar 3) (aCons (cVar 4) (aCons (c2 oIx (cVar 7) (cC (.int 0))) aNil))))))) aNil))))
noncomputable def body_cheapest : EV → Option Fl :=
(sSeq cheapest_s1
(sSeq cheapest_s2
(sSeq cheapest_s3
(sSeq cheapest_s4
(sSeq cheapest_s5
cheapest_s6)))))
noncomputable def m_cheapest : List D → Option D := runFn 6 3 body_cheapest
theorem ok_cheapest {P : Program} {w : World} {K : PySem.W.Frag} {mg : Str → Option Value} {base : Heap} (T : Txt K mg) : FnAt P w K mg base "cheapest" 4 6 m_cheapest := by
  refine fn_at (N := ["routers", "links", "minutes", "start", "goal", "limit", "told", "good", "pair"]) (ps := ["routers", "links", "minutes", "start", "goal", "limit"]) T.d_cheapest sc_cheapest rfl rfl (fun _ _ _ _ _ _ us hl => match us, hl with | [_, _, _, _, _, _], _ => rfl) fun f cdv A outer s H E hr => ?_
  exact (b_cons (s_expr (e_fn (ok_check_ends T) hr (by decide) (by rfl) (a_cons (fa := true) (fb := true) (e_var (pv 0)) (a_cons (fa := true) (fb := true) (e_var (pv 1)) (a_cons (fa := true) (fb := true) (e_var (pv 2)) (a_cons (fa := true) (fb := true) (e_var (pv 3)) (a_cons (fa := true) (fb := true) (e_var (pv 4)) a_nil))))) rfl (aCons_len (aCons_len (aCons_len (aCons_len (aCons_len (fun _ _ h => aNil_len h))))))))
(b_cons (s_if (t_cmp op_lt r_lt (e_var (pv 5)) e_int)
(b_one s_never)
b_nil)
(b_cons (s_set sc_cheapest.nd rfl (Or.inl rfl) (r_e (e_fn (ok_find_fronts T) hr (by decide) (by rfl) (a_cons (fa := true) (fb := true) (e_var (pv 0)) (a_cons (fa := true) (fb := true) (e_var (pv 1)) (a_cons (fa := true) (fb := true) (e_var (pv 2)) (a_cons (fa := true) (fb := true) (e_var (pv 4)) a_nil)))) rfl (aCons_len (aCons_len (aCons_len (aCons_len (fun _ _ h => aNil_len h))))))))
(b_cons (s_setLc (own := [("pair", 8)]) rfl sc_cheapest.nd rfl rfl (sw_true rfl rfl rfl (by decide +kernel)) (i_list (e_ix (fa := true) (fb := true) (e_var (pv 6)) (e_var (pv 3)))) (by kernel_rfl) (gB fun _ _ _ _ _ => (g_name (pg_name sc_cheapest.nd rfl (Or.inl rfl)))) (tsB fun _ _ _ _ _ => (ts_one (t_cmp op_le r_le (e_ix (fa := true) (fb := true) (e_var (pv 8)) e_int) (e_var (pv 5))))) (eB fun _ _ _ _ _ => (e_var (pv 8))) (hl := lc_fro))
(b_cons (s_if (t_cmp (op_eqD hr.units) r_eq (e_cb call_len_seq cr_len (by rfl) T.n_len boot_len (a_cons (fa := true) (fb := true) (e_var (pv 7)) a_nil)) e_int)
(b_one (s_ret e_non))
b_nil)
(b_one (s_ret (e_tup (a_cons (fa := true) (fb := true) (e_ix (fa := true) (fb := true) (e_var (pv 7)) e_int) (a_cons (fa := true) (fb := true) (e_fn (ok_walk_by T) hr (by decide) (by rfl) (a_cons (fa := true) (fb := true) (e_var (pv 1)) (a_cons (fa := true) (fb := true) (e_var (pv 2)) (a_cons (fa := true) (fb := true) (e_var (pv 6)) (a_cons (fa := true) (fb := true) (e_var (pv 3)) (a_cons (fa := true) (fb := true) (e_var (pv 4)) (a_cons (fa := true) (fb := true) (e_ix (fa := true) (fb := true) (e_var (pv 7)) e_int) a_nil)))))) rfl (aCons_len (aCons_len (aCons_len (aCons_len (aCons_len (aCons_len (fun _ _ h => aNil_len h)))))))) a_nil))))))))))
/-! ### limits -/
abbrev st_limits : Stmt := topS 27
theorem sc_limits : FnScope ["routers", "links", "minutes", "start", "goal", "told", "cost", "time"] ["routers", "links", "minutes", "start", "goal"] (defScope st_limits) := ⟨rfl, rfl, rfl, by decide +kernel, rfl, by decide +kernel, by decide +kernel⟩
noncomputable def limits_s1 : EV → Option Fl :=
(sDrop (cCB m_check_ends (aCons (cVar 0) (aCons (cVar 1) (aCons (cVar 2) (aCons (cVar 3) (aCons (cVar 4) aNil)))))))
noncomputable def limits_s2 : EV → Option Fl :=
(sSetL 5 (lF (cCB m_find_fronts (aCons (cVar 0) (aCons (cVar 1) (aCons (cVar 2) (aCons (cVar 4) aNil)))))))
noncomputable def limits_e1 : EV → Option D :=
(cTup (aCons (cVar 7) (aCons (cVar 6) aNil)))
noncomputable def limits_s3 : EV → Option Fl :=
(sRet (cLst (kSort (aCons (cLst (kComp (iLst (c2 oIx (cVar 5) (cVar 3))) (mTup (mCons (mName 6) (mCons (mName 7) mNil))) (fun _ => some true) limits_e1 [6, 7])) aNil))))
noncomputable def body_limits : EV → Option Fl :=
(sSeq limits_s1
(sSeq limits_s2
limits_s3))
noncomputable def m_limits : List D → Option D := runFn 5 3 body_limits
theorem ok_limits {P : Program} {w : World} {K : PySem.W.Frag} {mg : Str → Option Value} {base : Heap} (T : Txt K mg) : FnAt P w K mg base "limits" 4 5 m_limits := by
  refine fn_at (N := ["routers", "links", "minutes", "start", "goal", "told", "cost", "time"]) (ps := ["routers", "links", "minutes", "start", "goal"]) T.d_limits sc_limits rfl rfl (fun _ _ _ _ _ _ us hl => match us, hl with | [_, _, _, _, _], _ => rfl) fun f cdv A outer s H E hr => ?_
  exact (b_cons (s_expr (e_fn (ok_check_ends T) hr (by decide) (by rfl) (a_cons (fa := true) (fb := true) (e_var (pv 0)) (a_cons (fa := true) (fb := true) (e_var (pv 1)) (a_cons (fa := true) (fb := true) (e_var (pv 2)) (a_cons (fa := true) (fb := true) (e_var (pv 3)) (a_cons (fa := true) (fb := true) (e_var (pv 4)) a_nil))))) rfl (aCons_len (aCons_len (aCons_len (aCons_len (aCons_len (fun _ _ h => aNil_len h))))))))
(b_cons (s_set sc_limits.nd rfl (Or.inl rfl) (r_e (e_fn (ok_find_fronts T) hr (by decide) (by rfl) (a_cons (fa := true) (fb := true) (e_var (pv 0)) (a_cons (fa := true) (fb := true) (e_var (pv 1)) (a_cons (fa := true) (fb := true) (e_var (pv 2)) (a_cons (fa := true) (fb := true) (e_var (pv 4)) a_nil)))) rfl (aCons_len (aCons_len (aCons_len (aCons_len (fun _ _ h => aNil_len h))))))))
(b_one (s_ret (e_f (f_sorted (units100 hr) (by rfl) T.n_sorted (a_cons (fa := true) (fb := true) (e_f (f_lc (own := [("cost", 6), ("time", 7)]) rfl sc_limits.nd (i_list (e_ix (fa := true) (fb := true) (e_var (pv 5)) (e_var (pv 3)))) (by kernel_rfl) (gB fun _ _ _ _ _ => (g_tup rfl (gs_cons (g_name (pg_name sc_limits.nd rfl (Or.inl rfl))) (gs_cons (g_name (pg_name sc_limits.nd rfl (Or.inl rfl))) gs_nil)))) (tsB fun _ _ _ _ _ => ts_nil) (eB fun _ _ _ _ _ => (e_tup (a_cons (fa := true) (fb := true) (e_var (pv 7)) (a_cons (fa := true) (fb := true) (e_var (pv 6)) a_nil)))))) a_nil)))))))
/-! ### law -/
abbrev st_law : Stmt := topS 35
theorem sc_law : FnScope ["script", "draws", "many", "links", "minutes", "goal", "told", "costs", "start", "before", "time", "cost", "pair", "hops", "here", "left", "j", "link", "end", "fork", "late", "rows", "limit"] ["script"] (defScope st_law) := ⟨rfl, rfl, rfl, by decide +kernel, rfl, by decide +kernel, by decide +kernel⟩
noncomputable def law_s1 : EV → Option Fl :=
(sSetL 1 (lF (cCB m__law_draws (aCons (cVar 0) aNil))))
noncomputable def law_s2 : EV → Option Fl :=
(sAsg (cCB m__law_doubled (aCons (cVar 1) (aCons (cC (.int 10)) aNil))) (mTup (mCons (mName 2) (mCons (mName 3) mNil))))
noncomputable def law_s3 : EV → Option Fl :=
(sPar 4 5 (lF (cCB m__law_minutes (aCons (cVar 1) (aCons (cC (.int 100)) (aCons (cVar 3) aNil))))) (lF (cCB m__law_mix (aCons (cVar 1) (aCons (cC (.int 1)) (aCons (cVar 2) aNil))))))
noncomputable def law_s4 : EV → Option Fl :=
(sPar 6 7 (lF (cCB m_fronts (aCons (cVar 2) (aCons (cVar 3) (aCons (cVar 4) (aCons (cVar 5) aNil)))))) (lF (cCB m__law_costs (aCons (cVar 2) (aCons (cVar 3) (aCons (cVar 5) aNil))))))
noncomputable def law_s5 : EV → Option Fl :=
(sIf (tOf (c2 oIsNot (cCB m_are_fronts (aCons (cVar 2) (aCons (cVar 3) (aCons (cVar 4) (aCons (cVar 5) (aCons (cVar 6) aNil)))))) (cC (.bl true))))
(sRet (cC (.bl false)))
sNx)
noncomputable def law_b1 : EV → Option Fl :=
(sSeq (sAsg (c2 oIx (cVar 13) (cVar 16)) (mTup (mCons (mName 17) (mCons (mName 18) mNil))))
(sSeq (sIf (tOrZ (tOf (c2 oNe (c2 oIx (c2 oIx (cVar 3) (cVar 17)) (cVar 18)) (cVar 14))) (tOf (c2 oNotIn (cVar 15) (c2 oIx (cVar 6) (cVar 14)))))
(sRet (cC (.bl false)))
sNx)
(sSeq (sPar 14 15 (lF (c2 oIx (c2 oIx (cVar 3) (cVar 17)) (c2 oSub (cC (.int 1)) (cVar 18)))) (lF (cTup (aCons (c2 oSub (c2 oIx (cVar 15) (cC (.int 0))) (c2 oIx (c2 oIx (cVar 3) (cVar 17)) (c2 oAdd (cC (.int 2)) (cVar 18)))) (aCons (c2 oSub (c2 oIx (cVar 15) (cC (.int 1))) (c2 oIx (c2 oIx (cVar 4) (cVar 17)) (cVar 18))) aNil)))))
(sIf (tOf (c2 oNe (cCB m_cheapest (aCons (cVar 2) (aCons (cVar 3) (aCons (cVar 4) (aCons (cVar 14) (aCons (cVar 5) (aCons (c2 oIx (cVar 15) (cC (.int 1))) aNil))))))) (cTup (aCons (cVar 15) (aCons (cLst (kSl (cVar 13) (pAt (c2 oAdd (cVar 16) (cC (.int 1)))) pNo)) aNil)))))
(sRet (cC (.bl false)))
sNx))))
noncomputable def law_b2 : EV → Option Fl :=
(sSeq (sAsg (cCB m_cheapest (aCons (cVar 2) (aCons (cVar 3) (aCons (cVar 4) (aCons (cVar 8) (aCons (cVar 5) (aCons (cVar 10) aNil))))))) (mTup (mCons (mName 12) (mCons (mName 13) mNil))))
(sSeq (sIf (tOrZ (tOf (c2 oNe (cVar 12) (cTup (aCons (cVar 11) (aCons (cVar 10) aNil))))) (tAndZ (tOf (c2 oIsNot (cVar 9) (cC .non))) (tNotZ (tOf (c2 oLt (cVar 11) (cVar 9))))))
(sRet (cC (.bl false)))
sNx)
(sSeq (sIf (tOf (c2 oGt (c2 oIx (c2 oIx (cCB m_cheapest (aCons (cVar 2) (aCons (cVar 3) (aCons (cVar 4) (aCons (cVar 8) (aCons (cVar 5) (aCons (c2 oAdd (cVar 10) (cCB m__law_mix (aCons (cVar 1) (aCons (c2 oAdd (cC (.int 300)) (cVar 8)) (aCons (cC (.int 3)) aNil))))) aNil))))))) (cC (.int 0))) (cC (.int 0))) (cVar 11)))
(sRet (cC (.bl false)))
sNx)
(sSeq (sPar3 14 15 9 (lF (cVar 8)) (lF (cVar 12)) (lF (cVar 11)))
(sSeq (sFor (iR1 (aCons (cCB bLen (aCons (cVar 13) aNil)) aNil)) (mName 16)
law_b1)
(sIf (tOrZ (tOf (c2 oNe (cVar 14) (cVar 5))) (tOf (c2 oNe (cVar 15) (cTup (aCons (cC (.int 0)) (aCons (cC (.int 0)) aNil))))))
(sRet (cC (.bl false)))
sNx))))))
noncomputable def law_b3 : EV → Option Fl :=
(sSeq (sIf (tOrZ (tOf (c2 oNe (c2 oEq (c2 oIx (cVar 6) (cVar 8)) (cLst (kList aNil))) (c2 oIs (c2 oIx (cVar 7) (cVar 8)) (cC .non)))) (tAndZ (tOf (c2 oNe (c2 oIx (cVar 6) (cVar 8)) (cLst (kList aNil)))) (tOf (c2 oNe (c2 oIx (c2 oIx (c2 oIx (cVar 6) (cVar 8)) (cC (.int 0))) (cC (.int 0))) (c2 oIx (cVar 7) (cVar 8))))))
(sRet (cC (.bl false)))
sNx)
(sSeq (sSetL 9 (lF (cC .non)))
(sFor (iLst (cCB m_limits (aCons (cVar 2) (aCons (cVar 3) (aCons (cVar 4) (aCons (cVar 8) (aCons (cVar 5) aNil))))))) (mTup (mCons (mName 10) (mCons (mName 11) mNil)))
law_b2)))
noncomputable def law_s6 : EV → Option Fl :=
(sFor (iR1 (aCons (cVar 2) aNil)) (mName 8)
law_b3)
noncomputable def law_s7 : EV → Option Fl :=
(sAsg (cTup (aCons (cLst (kList (aCons (cTup (aCons (cC (.int 0)) (aCons (cC (.int 1)) (aCons (cC (.int 1)) (aCons (cC (.int 1)) aNil))))) (aCons (cTup (aCons (cC (.int 0)) (aCons (cC (.int 1)) (aCons (cC (.int 3)) (aCons (cC (.int 3)) aNil))))) (aCons (cTup (aCons (cC (.int 1)) (aCons (cC (.int 2)) (aCons (cC (.int 1)) (aCons (cC (.int 1)) aNil))))) (aCons (cTup (aCons (cC (.int 1)) (aCons (cC (.int 2)) (aCons (cC (.int 4)) (aCons (cC (.int 4)) aNil))))) aNil)))))) (aCons (cLst (kList (aCons (cTup (aCons (cC (.int 9)) (aCons (cC (.int 9)) aNil))) (aCons (cTup (aCons (cC (.int 2)) (aCons (cC (.int 2)) aNil))) (aCons (cTup (aCons (cC (.int 9)) (aCons (cC (.int 9)) aNil))) (aCons (cTup (aCons (cC (.int 1)) (aCons (cC (.int 1)) aNil))) aNil)))))) aNil))) (mTup (mCons (mName 19) (mCons (mName 20) mNil))))
noncomputable def law_e1 : EV → Option D :=
(cCB m_cheapest (aCons (cC (.int 3)) (aCons (cVar 19) (aCons (cVar 20) (aCons (cC (.int 0)) (aCons (cC (.int 2)) (aCons (cVar 22) aNil)))))))
noncomputable def law_s8 : EV → Option Fl :=
(sSetL 21 (lF (cLst (kComp (iLst (cLst (kList (aCons (cC (.int 18)) (aCons (cC (.int 11)) (aCons (cC (.int 10)) (aCons (cC (.int 3)) (aCons (cC (.int 2)) aNil)))))))) (mName 22) (fun _ => some true) law_e1 [22]))))
noncomputable def law_s9 : EV → Option Fl :=
(sRet (c2 oEq (cCB bRepr (aCons (cVar 21) aNil)) (cCB bRepr (aCons (cLst (kList (aCons (cTup (aCons (cTup (aCons (cC (.int 2)) (aCons (cC (.int 18)) aNil))) (aCons (cLst (kList (aCons (cTup (aCons (cC (.int 0)) (aCons (cC (.int 0)) aNil))) (aCons (cTup (aCons (cC (.int 2)) (aCons (cC (.int 0)) aNil))) aNil)))) aNil))) (aCons (cTup (aCons (cTup (aCons (cC (.int 4)) (aCons (cC (.int 11)) aNil))) (aCons (cLst (kList (aCons (cTup (aCons (cC (.int 1)) (aCons (cC (.int 0)) aNil))) (aCons (cTup (aCons (cC (.int 2)) (aCons (cC (.int 0)) aNil))) aNil)))) aNil))) (aCons (cTup (aCons (cTup (aCons (cC (.int 5)) (aCons (cC (.int 10)) aNil))) (aCons (cLst (kList (aCons (cTup (aCons (cC (.int 0)) (aCons (cC (.int 0)) aNil))) (aCons (cTup (aCons (cC (.int 3)) (aCons (cC (.int 0)) aNil))) aNil)))) aNil))) (aCons (cTup (aCons (cTup (aCons (cC (.int 7)) (aCons (cC (.int 3)) aNil))) (aCons (cLst (kList (aCons (cTup (aCons (cC (.int 1)) (aCons (cC (.int 0)) aNil))) (aCons (cTup (aCons (cC (.int 3)) (aCons (cC (.int 0)) aNil))) aNil)))) aNil))) (aCons (cC .non) aNil))))))) aNil))))
noncomputable def body_law : EV → Option Fl :=
(sSeq law_s1
(sSeq law_s2
(sSeq law_s3
(sSeq law_s4
(sSeq law_s5
(sSeq law_s6
(sSeq law_s7
(sSeq law_s8
law_s9))))))))
noncomputable def m_law : List D → Option D := runFn 1 22 body_law
theorem ok_law {P : Program} {w : World} {K : PySem.W.Frag} {mg : Str → Option Value} {base : Heap} (T : Txt K mg) {f : Addr} {fd : FuncData} (F : Fun K "law" "law" st_law f fd) : FnG P w K mg base 5 f fd ["script"] (FSp K 1 m_law) := by
  refine law_ok (N := ["script", "draws", "many", "links", "minutes", "goal", "told", "costs", "start", "before", "time", "cost", "pair", "hops", "here", "left", "j", "link", "end", "fork", "late", "rows", "limit"]) F sc_law rfl fun cdv A outer s H E hr hgd => ?_
  exact (b_cons (s_set sc_law.nd rfl (Or.inl rfl) (r_e (e_fn (ok__law_draws T) hr (by decide) (by rfl) (a_cons (fa := true) (fb := true) (e_var (pv 0)) a_nil) rfl (aCons_len (fun _ _ h => aNil_len h)))))
(b_cons (s_asg (e_fn (ok__law_doubled T) hr (by decide) (by rfl) (a_cons (fa := true) (fb := true) (e_var (pv 1)) (a_cons (fa := true) (fb := true) e_int a_nil)) rfl (aCons_len (aCons_len (fun _ _ h => aNil_len h)))) (g_tup rfl (gs_cons (g_name (pg_name sc_law.nd rfl (Or.inl rfl))) (gs_cons (g_name (pg_name sc_law.nd rfl (Or.inl rfl))) gs_nil))))
(b_cons (s_par rfl sc_law.nd rfl rfl (by decide) rfl rfl (r_e (e_fn (ok__law_minutes T) hr (by decide) (by rfl) (a_cons (fa := true) (fb := true) (e_var (pv 1)) (a_cons (fa := true) (fb := true) e_int (a_cons (fa := true) (fb := true) (e_var (pv 3)) a_nil))) rfl (aCons_len (aCons_len (aCons_len (fun _ _ h => aNil_len h)))))) (r_e (e_fn (ok__law_mix T) hr (by decide) (by rfl) (a_cons (fa := true) (fb := true) (e_var (pv 1)) (a_cons (fa := true) (fb := true) e_int (a_cons (fa := true) (fb := true) (e_var (pv 2)) a_nil))) rfl (aCons_len (aCons_len (aCons_len (fun _ _ h => aNil_len h)))))) (by rfl))
(b_cons (s_par rfl sc_law.nd rfl rfl (by decide) rfl rfl (r_e (e_fn (ok_fronts T) hr (by decide) (by rfl) (a_cons (fa := true) (fb := true) (e_var (pv 2)) (a_cons (fa := true) (fb := true) (e_var (pv 3)) (a_cons (fa := true) (fb := true) (e_var (pv 4)) (a_cons (fa := true) (fb := true) (e_var (pv 5)) a_nil)))) rfl (aCons_len (aCons_len (aCons_len (aCons_len (fun _ _ h => aNil_len h))))))) (r_e (e_fn (ok__law_costs T) hr (by decide) (by rfl) (a_cons (fa := true) (fb := true) (e_var (pv 2)) (a_cons (fa := true) (fb := true) (e_var (pv 3)) (a_cons (fa := true) (fb := true) (e_var (pv 5)) a_nil))) rfl (aCons_len (aCons_len (aCons_len (fun _ _ h => aNil_len h)))))) (by rfl))
(b_cons (s_if (t_cmp op_isnot r_isnot (e_fn (ok_are_fronts T) hr (by decide) (by rfl) (a_cons (fa := true) (fb := true) (e_var (pv 2)) (a_cons (fa := true) (fb := true) (e_var (pv 3)) (a_cons (fa := true) (fb := true) (e_var (pv 4)) (a_cons (fa := true) (fb := true) (e_var (pv 5)) (a_cons (fa := true) (fb := true) (e_var (pv 6)) a_nil))))) rfl (aCons_len (aCons_len (aCons_len (aCons_len (aCons_len (fun _ _ h => aNil_len h))))))) e_bl)
(b_one (s_ret e_bl))
b_nil)
(b_cons (s_for PassesOwn.never rfl (i_range1 (by rfl) T.n_range (a_cons (fa := true) (fb := true) (e_var (pv 2)) a_nil)) (g_name (pg_name sc_law.nd rfl (Or.inl rfl)))
(b_cons (s_if (t_w (w_or (t_cmp (op_neD hr.units) r_ne (e_cmp (fa := true) (fb := true) (op_eqD hr.units) r_eq (e_ix (fa := true) (fb := true) (e_var (pv 6)) (e_var (pv 8))) (e_f (f_lst a_nil))) (e_cmp (fa := true) (fb := true) op_isN r_is (e_ix (fa := true) (fb := true) (e_var (pv 7)) (e_var (pv 8))) e_non)) (w_or1 (t_w (w_and (t_cmp (op_neD hr.units) r_ne (e_ix (fa := true) (fb := true) (e_var (pv 6)) (e_var (pv 8))) (e_f (f_lst a_nil))) (w_and1 (t_cmp (op_neD hr.units) r_ne (e_ix (fa := true) (fb := true) (e_ix (fa := true) (fb := true) (e_ix (fa := true) (fb := true) (e_var (pv 6)) (e_var (pv 8))) e_int) e_int) (e_ix (fa := true) (fb := true) (e_var (pv 7)) (e_var (pv 8))))))))))
(b_one (s_ret e_bl))
b_nil)
(b_cons (s_set sc_law.nd rfl (Or.inl rfl) (r_e e_non))
(b_one (s_for PassesOwn.never rfl (i_list (e_fn (ok_limits T) hr (by decide) (by rfl) (a_cons (fa := true) (fb := true) (e_var (pv 2)) (a_cons (fa := true) (fb := true) (e_var (pv 3)) (a_cons (fa := true) (fb := true) (e_var (pv 4)) (a_cons (fa := true) (fb := true) (e_var (pv 8)) (a_cons (fa := true) (fb := true) (e_var (pv 5)) a_nil))))) rfl (aCons_len (aCons_len (aCons_len (aCons_len (aCons_len (fun _ _ h => aNil_len h)))))))) (g_tup rfl (gs_cons (g_name (pg_name sc_law.nd rfl (Or.inl rfl))) (gs_cons (g_name (pg_name sc_law.nd rfl (Or.inl rfl))) gs_nil)))
(b_cons (s_asg (e_fn (ok_cheapest T) hr (by decide) (by rfl) (a_cons (fa := true) (fb := true) (e_var (pv 2)) (a_cons (fa := true) (fb := true) (e_var (pv 3)) (a_cons (fa := true) (fb := true) (e_var (pv 4)) (a_cons (fa := true) (fb := true) (e_var (pv 8)) (a_cons (fa := true) (fb := true) (e_var (pv 5)) (a_cons (fa := true) (fb := true) (e_var (pv 10)) a_nil)))))) rfl (aCons_len (aCons_len (aCons_len (aCons_len (aCons_len (aCons_len (fun _ _ h => aNil_len h)))))))) (g_tup rfl (gs_cons (g_name (pg_name sc_law.nd rfl (Or.inl rfl))) (gs_cons (g_name (pg_name sc_law.nd rfl (Or.inl rfl))) gs_nil))))
(b_cons (s_if (t_w (w_or (t_cmp (op_neD hr.units) r_ne (e_var (pv 12)) (e_tup (a_cons (fa := true) (fb := true) (e_var (pv 11)) (a_cons (fa := true) (fb := true) (e_var (pv 10)) a_nil)))) (w_or1 (t_w (w_and (t_cmp op_isnot r_isnot (e_var (pv 9)) e_non) (w_and1 (t_not (t_cmp op_lt r_lt (e_var (pv 11)) (e_var (pv 9))))))))))
(b_one (s_ret e_bl))
b_nil)
(b_cons (s_if (t_cmp op_gt r_gt (e_ix (fa := true) (fb := true) (e_ix (fa := true) (fb := true) (e_fn (ok_cheapest T) hr (by decide) (by rfl) (a_cons (fa := true) (fb := true) (e_var (pv 2)) (a_cons (fa := true) (fb := true) (e_var (pv 3)) (a_cons (fa := true) (fb := true) (e_var (pv 4)) (a_cons (fa := true) (fb := true) (e_var (pv 8)) (a_cons (fa := true) (fb := true) (e_var (pv 5)) (a_cons (fa := true) (fb := true) (e_op (fa := true) (fb := true) op_add r_add (e_var (pv 10)) (e_fn (ok__law_mix T) hr (by decide) (by rfl) (a_cons (fa := true) (fb := true) (e_var (pv 1)) (a_cons (fa := true) (fb := true) (e_op (fa := true) (fb := true) op_add r_add e_int (e_var (pv 8))) (a_cons (fa := true) (fb := true) e_int a_nil))) rfl (aCons_len (aCons_len (aCons_len (fun _ _ h => aNil_len h)))))) a_nil)))))) rfl (aCons_len (aCons_len (aCons_len (aCons_len (aCons_len (aCons_len (fun _ _ h => aNil_len h)))))))) e_int) e_int) (e_var (pv 11)))
(b_one (s_ret e_bl))
b_nil)
(b_cons (s_par3 rfl sc_law.nd rfl rfl rfl (by decide) (by decide) (by decide) (r_e (e_var (pv 8))) (r_e (e_var (pv 12))) (r_e (e_var (pv 11))) (fun _ pa => ps_par3 rfl sc_law.nd rfl rfl rfl (by decide) (by decide) (by decide) rfl rfl rfl pa (by rfl)))
(b_cons (s_for PassesOwn.never rfl (i_range1 (by rfl) T.n_range (a_cons (fa := true) (fb := true) (e_cb call_len_seq cr_len (by rfl) T.n_len boot_len (a_cons (fa := true) (fb := true) (e_var (pv 13)) a_nil)) a_nil)) (g_name (pg_name sc_law.nd rfl (Or.inl rfl)))
(b_cons (s_asg (e_ix (fa := true) (fb := true) (e_var (pv 13)) (e_var (pv 16))) (g_tup rfl (gs_cons (g_name (pg_name sc_law.nd rfl (Or.inl rfl))) (gs_cons (g_name (pg_name sc_law.nd rfl (Or.inl rfl))) gs_nil))))
(b_cons (s_if (t_w (w_or (t_cmp (op_neD hr.units) r_ne (e_ix (fa := true) (fb := true) (e_ix (fa := true) (fb := true) (e_var (pv 3)) (e_var (pv 17))) (e_var (pv 18))) (e_var (pv 14))) (w_or1 (t_cmp (op_notInD (units65 hr)) r_notin (e_var (pv 15)) (e_ix (fa := true) (fb := true) (e_var (pv 6)) (e_var (pv 14)))))))
(b_one (s_ret e_bl))
b_nil)
(b_cons (s_par rfl sc_law.nd rfl rfl (by decide) rfl rfl (r_e (e_ix (fa := true) (fb := true) (e_ix (fa := true) (fb := true) (e_var (pv 3)) (e_var (pv 17))) (e_op (fa := true) (fb := true) op_sub r_sub e_int (e_var (pv 18))))) (r_e (e_tup (a_cons (fa := true) (fb := true) (e_op (fa := true) (fb := true) op_sub r_sub (e_ix (fa := true) (fb := true) (e_var (pv 15)) e_int) (e_ix (fa := true) (fb := true) (e_ix (fa := true) (fb := true) (e_var (pv 3)) (e_var (pv 17))) (e_op (fa := true) (fb := true) op_add r_add e_int (e_var (pv 18))))) (a_cons (fa := true) (fb := true) (e_op (fa := true) (fb := true) op_sub r_sub (e_ix (fa := true) (fb := true) (e_var (pv 15)) e_int) (e_ix (fa := true) (fb := true) (e_ix (fa := true) (fb := true) (e_var (pv 4)) (e_var (pv 17))) (e_var (pv 18)))) a_nil)))) (by rfl))
(b_one (s_if (t_cmp (op_neD hr.units) r_ne (e_fn (ok_cheapest T) hr (by decide) (by rfl) (a_cons (fa := true) (fb := true) (e_var (pv 2)) (a_cons (fa := true) (fb := true) (e_var (pv 3)) (a_cons (fa := true) (fb := true) (e_var (pv 4)) (a_cons (fa := true) (fb := true) (e_var (pv 14)) (a_cons (fa := true) (fb := true) (e_var (pv 5)) (a_cons (fa := true) (fb := true) (e_ix (fa := true) (fb := true) (e_var (pv 15)) e_int) a_nil)))))) rfl (aCons_len (aCons_len (aCons_len (aCons_len (aCons_len (aCons_len (fun _ _ h => aNil_len h)))))))) (e_tup (a_cons (fa := true) (fb := true) (e_var (pv 15)) (a_cons (fa := true) (fb := true) (e_f (f_sl (e_var (pv 13)) (p_at (e_op (fa := true) (fb := true) op_add r_add (e_var (pv 16)) e_int)) p_no)) a_nil))))
(b_one (s_ret e_bl))
b_nil))))))
(b_one (s_if (t_w (w_or (t_cmp (op_neD hr.units) r_ne (e_var (pv 14)) (e_var (pv 5))) (w_or1 (t_cmp (op_neD hr.units) r_ne (e_var (pv 15)) (e_tup (a_cons (fa := true) (fb := true) e_int (a_cons (fa := true) (fb := true) e_int a_nil)))))))
(b_one (s_ret e_bl))
b_nil))))))))))))
(b_cons (s_asg (e_tup (a_cons (fa := true) (fb := true) (e_f (f_lst (a_cons (fa := true) (fb := true) (e_tup (a_cons (fa := true) (fb := true) e_int (a_cons (fa := true) (fb := true) e_int (a_cons (fa := true) (fb := true) e_int (a_cons (fa := true) (fb := true) e_int a_nil))))) (a_cons (fa := true) (fb := true) (e_tup (a_cons (fa := true) (fb := true) e_int (a_cons (fa := true) (fb := true) e_int (a_cons (fa := true) (fb := true) e_int (a_cons (fa := true) (fb := true) e_int a_nil))))) (a_cons (fa := true) (fb := true) (e_tup (a_cons (fa := true) (fb := true) e_int (a_cons (fa := true) (fb := true) e_int (a_cons (fa := true) (fb := true) e_int (a_cons (fa := true) (fb := true) e_int a_nil))))) (a_cons (fa := true) (fb := true) (e_tup (a_cons (fa := true) (fb := true) e_int (a_cons (fa := true) (fb := true) e_int (a_cons (fa := true) (fb := true) e_int (a_cons (fa := true) (fb := true) e_int a_nil))))) a_nil)))))) (a_cons (fa := true) (fb := true) (e_f (f_lst (a_cons (fa := true) (fb := true) (e_tup (a_cons (fa := true) (fb := true) e_int (a_cons (fa := true) (fb := true) e_int a_nil))) (a_cons (fa := true) (fb := true) (e_tup (a_cons (fa := true) (fb := true) e_int (a_cons (fa := true) (fb := true) e_int a_nil))) (a_cons (fa := true) (fb := true) (e_tup (a_cons (fa := true) (fb := true) e_int (a_cons (fa := true) (fb := true) e_int a_nil))) (a_cons (fa := true) (fb := true) (e_tup (a_cons (fa := true) (fb := true) e_int (a_cons (fa := true) (fb := true) e_int a_nil))) a_nil)))))) a_nil))) (g_tup rfl (gs_cons (g_name (pg_name sc_law.nd rfl (Or.inr rfl))) (gs_cons (g_name (pg_name sc_law.nd rfl (Or.inr rfl))) gs_nil))))
(b_cons (s_setLc (own := [("limit", 22)]) rfl sc_law.nd rfl rfl (sw_true rfl rfl rfl (by decide +kernel)) (i_list (e_f (f_lst (a_cons (fa := true) (fb := true) e_int (a_cons (fa := true) (fb := true) e_int (a_cons (fa := true) (fb := true) e_int (a_cons (fa := true) (fb := true) e_int (a_cons (fa := true) (fb := true) e_int a_nil)))))))) (by kernel_rfl) (gB fun _ _ _ _ _ => (g_name (pg_name sc_law.nd rfl (Or.inl rfl)))) (tsB fun _ _ _ _ _ => ts_nil) (eB fun _ _ _ _ _ => (e_fn (ok_cheapest T) hr (by decide) (by rfl) (a_cons (fa := true) (fb := true) e_int (a_cons (fa := true) (fb := true) (e_var (pv 19)) (a_cons (fa := true) (fb := true) (e_var (pv 20)) (a_cons (fa := true) (fb := true) e_int (a_cons (fa := true) (fb := true) e_int (a_cons (fa := true) (fb := true) (e_var (pv 22)) a_nil)))))) rfl (aCons_len (aCons_len (aCons_len (aCons_len (aCons_len (aCons_len (fun _ _ h => aNil_len h))))))))) (hl := lc_fro))
(b_one (s_ret (e_cmp (fa := true) (fb := true) (op_eqD hr.units) r_eq (e_cb (call_reprD (units100 hr) hgd) r_repr (by rfl) T.n_repr boot_repr (a_cons (fa := true) (fb := true) (e_var (pv 21)) a_nil)) (e_cb (call_reprD (units100 hr) hgd) r_repr (by rfl) T.n_repr boot_repr (a_cons (fa := true) (fb := true) (e_f (f_lst (a_cons (fa := true) (fb := true) (e_tup (a_cons (fa := true) (fb := true) (e_tup (a_cons (fa := true) (fb := true) e_int (a_cons (fa := true) (fb := true) e_int a_nil))) (a_cons (fa := true) (fb := true) (e_f (f_lst (a_cons (fa := true) (fb := true) (e_tup (a_cons (fa := true) (fb := true) e_int (a_cons (fa := true) (fb := true) e_int a_nil))) (a_cons (fa := true) (fb := true) (e_tup (a_cons (fa := true) (fb := true) e_int (a_cons (fa := true) (fb := true) e_int a_nil))) a_nil)))) a_nil))) (a_cons (fa := true) (fb := true) (e_tup (a_cons (fa := true) (fb := true) (e_tup (a_cons (fa := true) (fb := true) e_int (a_cons (fa := true) (fb := true) e_int a_nil))) (a_cons (fa := true) (fb := true) (e_f (f_lst (a_cons (fa := true) (fb := true) (e_tup (a_cons (fa := true) (fb := true) e_int (a_cons (fa := true) (fb := true) e_int a_nil))) (a_cons (fa := true) (fb := true) (e_tup (a_cons (fa := true) (fb := true) e_int (a_cons (fa := true) (fb := true) e_int a_nil))) a_nil)))) a_nil))) (a_cons (fa := true) (fb := true) (e_tup (a_cons (fa := true) (fb := true) (e_tup (a_cons (fa := true) (fb := true) e_int (a_cons (fa := true) (fb := true) e_int a_nil))) (a_cons (fa := true) (fb := true) (e_f (f_lst (a_cons (fa := true) (fb := true) (e_tup (a_cons (fa := true) (fb := true) e_int (a_cons (fa := true) (fb := true) e_int a_nil))) (a_cons (fa := true) (fb := true) (e_tup (a_cons (fa := true) (fb := true) e_int (a_cons (fa := true) (fb := true) e_int a_nil))) a_nil)))) a_nil))) (a_cons (fa := true) (fb := true) (e_tup (a_cons (fa := true) (fb := true) (e_tup (a_cons (fa := true) (fb := true) e_int (a_cons (fa := true) (fb := true) e_int a_nil))) (a_cons (fa := true) (fb := true) (e_f (f_lst (a_cons (fa := true) (fb := true) (e_tup (a_cons (fa := true) (fb := true) e_int (a_cons (fa := true) (fb := true) e_int a_nil))) (a_cons (fa := true) (fb := true) (e_tup (a_cons (fa := true) (fb := true) e_int (a_cons (fa := true) (fb := true) e_int a_nil))) a_nil)))) a_nil))) (a_cons (fa := true) (fb := true) e_non a_nil))))))) a_nil)))))))))))))
theorem law_end {l : PySem.W.OpenLaw} {w : World} {K : PySem.W.Frag} {h : Heap} {mg : Str → Option Value} {fa : Addr} (X : K.In h) (G : h.Ns mainGlobals mg) (hfa : mg "law" = some (.ref fa))
    (d_check_links : DefAt K mg "check_links" "check_links" (topS 10))
    (d_is_span : DefAt K mg "is_span" "is_span" (topS 14))
    (d_check_router : DefAt K mg "check_router" "check_router" (topS 15))
    (d_hops_of : DefAt K mg "hops_of" "hops_of" (topS 17))
    (d_unbeaten : DefAt K mg "unbeaten" "unbeaten" (topS 18))
    (d__law_draws : DefAt K mg "_law_draws" "_law_draws" (topS 29))
    (d__law_mix : DefAt K mg "_law_mix" "_law_mix" (topS 30))
    (d__law_costs : DefAt K mg "_law_costs" "_law_costs" (topS 34))
    (d_check_net : DefAt K mg "check_net" "check_net" (topS 16))
    (d_next_front : DefAt K mg "next_front" "next_front" (topS 19))
    (d_walk_by : DefAt K mg "walk_by" "walk_by" (topS 25))
    (d__law_net : DefAt K mg "_law_net" "_law_net" (topS 31))
    (d__law_minutes : DefAt K mg "_law_minutes" "_law_minutes" (topS 32))
    (d_find_fronts : DefAt K mg "find_fronts" "find_fronts" (topS 20))
    (d_are_fronts : DefAt K mg "are_fronts" "are_fronts" (topS 22))
    (d_check_ends : DefAt K mg "check_ends" "check_ends" (topS 24))
    (d__law_doubled : DefAt K mg "_law_doubled" "_law_doubled" (topS 33))
    (d_fronts : DefAt K mg "fronts" "fronts" (topS 21))
    (d_cheapest : DefAt K mg "cheapest" "cheapest" (topS 26))
    (d_limits : DefAt K mg "limits" "limits" (topS 27))
    (d_law : DefAt K mg "law" "law" (topS 35))
    (c_MOST_COST : IntAt mg "MOST_COST" 1000)
    (c_MOST_LINKS : IntAt mg "MOST_LINKS" 40)
    (c_MOST_MINUTES : IntAt mg "MOST_MINUTES" 1000)
    (c_MOST_PAIRS : IntAt mg "MOST_PAIRS" 300)
    (c_MOST_ROUTERS : IntAt mg "MOST_ROUTERS" 16)
    (n_abs : mg "abs" = none)
    (n_all : mg "all" = none)
    (n_enumerate : mg "enumerate" = none)
    (n_int : mg "int" = none)
    (n_len : mg "len" = none)
    (n_max : mg "max" = none)
    (n_min : mg "min" = none)
    (n_range : mg "range" = none)
    (n_repr : mg "repr" = none)
    (n_set : mg "set" = none)
    (n_sorted : mg "sorted" = none)
    (n_tuple : mg "tuple" = none) :
    ∃ fd : FuncData, (∀ (s : Shared) (u : Value), BindsTo s fd ⟨[u], []⟩ [("script", u)]) ∧ ∀ base : Heap, K.In base → base.Ns mainGlobals mg → FnG l.prog w K mg base 5 fa fd ["script"] (FSp K 1 m_law) := by
  have T : Txt K mg := ⟨d_check_links, d_is_span, d_check_router, d_hops_of, d_unbeaten, d__law_draws, d__law_mix, d__law_costs, d_check_net, d_next_front, d_walk_by, d__law_net, d__law_minutes, d_find_fronts, d_are_fronts, d_check_ends, d__law_doubled, d_fronts, d_cheapest, d_limits, d_law, c_MOST_COST, c_MOST_LINKS, c_MOST_MINUTES, c_MOST_PAIRS, c_MOST_ROUTERS, n_abs, n_all, n_enumerate, n_int, n_len, n_max, n_min, n_range, n_repr, n_set, n_sorted, n_tuple⟩
  obtain ⟨f, fd, h1, F⟩ := d_law
  rw [hfa] at h1
  cases h1
  refine ⟨fd, ?_, fun base _ _ => ok_law T F⟩
  obtain ⟨oc, od, kV, doc, pm, an, cdv, ct, osl, rfl, lk, hcd⟩ := F.ex
  exact fun s u => .of_eq rfl
end K63


set_option maxRecDepth 100000
set_option maxHeartbeats 4000000
/-! ZS: what the readings come to, step by step; loops over typed lists; typed data. -/
namespace Z
open PySem PySem.Spec PyProof.Rows L2
/-! what comes first is looked at first: nothing stands under a binder -/
def q1 {α β : Type} (f : α → β) : Option α → Option β
  | some x => some (f x)
  | none => none
def qb {α β : Type} (f : α → Option β) : Option α → Option β
  | some x => f x
  | none => none
def q2 (op : D → D → Option D) : Option D → Option D → Option D
  | some x, some y => op x y
  | _, _ => none
def qIf {β : Type} (f g : EV → Option β) (ev : EV) : Option Bool → Option β
  | some true => f ev
  | some false => g ev
  | none => none
def qOr2 (x : D) (g : EV → Option D) (ev : EV) : Option Bool → Option D
  | some true => some x
  | some false => g ev
  | none => none
def qAnd2 (x : D) (g : EV → Option D) (ev : EV) : Option Bool → Option D
  | some true => g ev
  | some false => some x
  | none => none
def qOr (g : EV → Option D) (ev : EV) : Option D → Option D
  | some x => qOr2 x g ev x.tru
  | none => none
def qAnd (g : EV → Option D) (ev : EV) : Option D → Option D
  | some x => qAnd2 x g ev x.tru
  | none => none
def qFlat : Option D → Option D
  | some d => if d.flat then some d else none
  | none => none
def qCh (l : D → EV → Option D) (ev : EV) : Option D → Option D
  | some x => l x ev
  | none => none
def qLast (op : D → D → Option D) (x : D) : Option D → Option D
  | some y => (match op x y with
    | some (.bl k) => some (.bl k)
    | _ => none)
  | none => none
def qLink2 (r : D → EV → Option D) (y : D) (ev : EV) : Option D → Option D
  | some (.bl true) => r y ev
  | some (.bl false) => some (.bl false)
  | _ => none
def qLink (op : D → D → Option D) (r : D → EV → Option D) (x : D) (ev : EV) : Option D → Option D
  | some y => qLink2 r y ev (op x y)
  | none => none
def qIxo : Option L → Option D → Option D
  | some (.own xs), some (.int k) => atI xs k
  | _, _ => none
def qCons : Option D → Option (List D) → Option (List D)
  | some x, some xs => some (x :: xs)
  | _, _ => none
def qTup : Option (List D) → Option D
  | some ds => if ds.length ≤ 1000 then some (.tup ds) else none
  | none => none
def qKl : Option (List D) → Option (List D)
  | some ds => if ds.length ≤ 1000 then some ds else none
  | none => none
def qAt : Option D → Option (Option Int)
  | some (.int i) => some (some i)
  | _ => none
def qSl : Option D → Option (Option Int) → Option (Option Int) → Option (List D)
  | some (.lst xs), some a, some b => some (cutD xs a b)
  | _, _, _ => none
def qSlo : Option L → Option (Option Int) → Option (Option Int) → Option (List D)
  | some (.own xs), some a, some b => some (cutD xs a b)
  | _, _, _ => none
def qSlT : Option D → Option (Option Int) → Option (Option Int) → Option D
  | some (.tup xs), some a, some b => if ¬ (HT.sIx xs.length 0 a = 0 ∧ HT.sIx xs.length xs.length b = xs.length) then some (.tup (cutD xs a b)) else none
  | _, _, _ => none
def qRev : Option D → Option (List D)
  | some (.lst xs) => some xs.reverse
  | _ => none
def qRevo : Option L → Option (List D)
  | some (.own xs) => some xs.reverse
  | _ => none
def qCat : Option D → Option D → Option (List D)
  | some (.lst xs), some (.lst ys) => if xs.length + ys.length ≤ 16777216 then some (xs ++ ys) else none
  | _, _ => none
def qRep : Option D → Option D → Option (List D)
  | some (.lst xs), some (.int n) => if -(2 ^ 63) ≤ n ∧ n < 2 ^ 63 ∧ xs.length * n.toNat ≤ 16777216 then some (List.replicate n.toNat xs).flatten else none
  | _, _ => none
def qOf : Option (List D) → Option (List D)
  | some [.lst xs] => some xs
  | some [.tup xs] => some xs
  | _ => none
def qL : Option D → Option (List D)
  | some (.lst xs) => some xs
  | _ => none
def qT : Option D → Option (List D)
  | some (.tup xs) => some xs
  | _ => none
def qO : Option L → Option (List D)
  | some (.own xs) => some xs
  | _ => none
def qR1 : Option (List D) → Option (List D)
  | some [.int j] => if -4611686018427387904 ≤ j ∧ j < 4611686018427387904 then some (rangeD 0 j) else none
  | _ => none
def qR2 : Option (List D) → Option (List D)
  | some [.int i, .int j] => if -4611686018427387904 ≤ i ∧ i < 4611686018427387904 ∧ -4611686018427387904 ≤ j ∧ j < 4611686018427387904 then some (rangeD i j) else none
  | _ => none
def qEn : Option (List D) → Option (List D)
  | some [.lst xs] => some (enumD xs)
  | _ => none
def qZp : Option (List D) → Option (List D)
  | some [.lst xs, .lst ys] => some (zipD xs ys)
  | _ => none
def qV : Option L → Option D
  | some (.fro d) => some d
  | _ => none
def qW : Option L → Option D
  | some (.own xs) => some (.lst xs)
  | _ => none
def qSet (i : Nat) (ev : EV) : Option L → Option Fl
  | some l => some (.nx (ev.set i l))
  | none => none
def qPar (i j : Nat) (ev : EV) : Option L → Option L → Option Fl
  | some l, some m => some (.nx ((ev.set i l).set j m))
  | _, _ => none
def qPar3 (i j o : Nat) (ev : EV) : Option L → Option L → Option L → Option Fl
  | some l, some m, some n => some (.nx (((ev.set i l).set j m).set o n))
  | _, _, _ => none
def qNx : Option EV → Option Fl
  | some e => some (.nx e)
  | none => none
def qAsg (mm : D → EV → Option EV) (ev : EV) : Option D → Option Fl
  | some d => qNx (mm d ev)
  | none => none
def qMs (ms : List D → EV → Option EV) (ds : List D) : Option EV → Option EV
  | some ev => ms ds ev
  | none => none
def qApp (i : Nat) (ev : EV) : Option L → Option D → Option Fl
  | some (.own xs), some d => if xs.length < 16777216 then some (.nx (ev.set i (.own (xs ++ [d])))) else none
  | _, _ => none
def qExt (i : Nat) (ev : EV) : Option L → Option D → Option Fl
  | some (.own xs), some (.lst ys) => if xs.length + ys.length ≤ 16777216 then some (.nx (ev.set i (.own (xs ++ ys)))) else none
  | _, _ => none
def qSub2 (i : Nat) (ev : EV) (xs : List D) (d : D) : Option Nat → Option Fl
  | some j => some (.nx (ev.set i (.own (xs.set j d))))
  | none => none
def qSub (i : Nat) (ev : EV) : Option L → Option D → Option D → Option Fl
  | some (.own xs), some (.int n), some d => qSub2 i ev xs d (ixN xs.length n)
  | _, _, _ => none
def qFor (mm : D → EV → Option EV) (u : EV → Option Fl) (ev : EV) : Option (List D) → Option Fl
  | some ds => forGo mm u ds ev
  | none => none
def qSeq (v : EV → Option Fl) : Option Fl → Option Fl
  | some (.nx e) => v e
  | some (.rt d) => some (.rt d)
  | some (.bk e) => some (.bk e)
  | some (.ct e) => some (.ct e)
  | none => none
def qFrz (i : Nat) (ev : EV) : Option L → EV
  | some (.own xs) => ev.set i (.fro (.lst xs))
  | _ => ev
section
variable {α β : Type} {f : α → β} {fb : α → Option β} {x : α} {d y z : D} {ds es : List D} {ev : EV} {i j o k : Nat} {a b : Int} {op : D → D → Option D} {u v : EV → Option β} {g : EV → Option D} {l m n : L} {c : Bool} {r : D → EV → Option D}
@[simp] theorem q1_s : q1 f (some x) = some (f x) := .trans rfl rfl
@[simp] theorem qb_s : qb fb (some x) = fb x := .trans rfl rfl
@[simp] theorem q2_s : q2 op (some y) (some z) = op y z := .trans rfl rfl
@[simp] theorem qIf_t : qIf u v ev (some true) = u ev := .trans rfl rfl
@[simp] theorem qIf_f : qIf u v ev (some false) = v ev := .trans rfl rfl
theorem qIf_b : qIf u v ev (some c) = if c then u ev else v ev := by cases c <;> rfl
@[simp] theorem qOr2_t : qOr2 y g ev (some true) = some y := .trans rfl rfl
@[simp] theorem qOr2_f : qOr2 y g ev (some false) = g ev := .trans rfl rfl
@[simp] theorem qAnd2_t : qAnd2 y g ev (some true) = g ev := .trans rfl rfl
@[simp] theorem qAnd2_f : qAnd2 y g ev (some false) = some y := .trans rfl rfl
@[simp] theorem qOr_s : qOr g ev (some y) = qOr2 y g ev y.tru := .trans rfl rfl
@[simp] theorem qAnd_s : qAnd g ev (some y) = qAnd2 y g ev y.tru := .trans rfl rfl
@[simp] theorem qFlat_s : qFlat (some y) = if y.flat then some y else none := .trans rfl rfl
@[simp] theorem qCh_s : qCh r ev (some y) = r y ev := .trans rfl rfl
@[simp] theorem qLast_s : qLast op z (some y) = (match op z y with | some (.bl k) => some (.bl k) | _ => none) := .trans rfl rfl
@[simp] theorem qLink_s : qLink op r z ev (some y) = qLink2 r y ev (op z y) := .trans rfl rfl
@[simp] theorem qLink2_t : qLink2 r y ev (some (.bl true)) = r y ev := .trans rfl rfl
@[simp] theorem qLink2_f : qLink2 r y ev (some (.bl false)) = some (.bl false) := .trans rfl rfl
theorem qLink2_b : qLink2 r y ev (some (.bl c)) = if c then r y ev else some (.bl false) := by cases c <;> rfl
@[simp] theorem qIxo_s : qIxo (some (.own ds)) (some (.int a)) = atI ds a := .trans rfl rfl
@[simp] theorem qCons_s : qCons (some y) (some ds) = some (y :: ds) := .trans rfl rfl
@[simp] theorem qTup_s : qTup (some ds) = if ds.length ≤ 1000 then some (.tup ds) else none := .trans rfl rfl
@[simp] theorem qKl_s : qKl (some ds) = if ds.length ≤ 1000 then some ds else none := .trans rfl rfl
@[simp] theorem qAt_s : qAt (some (.int a)) = some (some a) := .trans rfl rfl
@[simp] theorem qSl_s {p q : Option Int} : qSl (some (.lst ds)) (some p) (some q) = some (cutD ds p q) := .trans rfl rfl
@[simp] theorem qSlo_s {p q : Option Int} : qSlo (some (.own ds)) (some p) (some q) = some (cutD ds p q) := .trans rfl rfl
@[simp] theorem qSlT_s {p q : Option Int} : qSlT (some (.tup ds)) (some p) (some q) = if ¬ (HT.sIx ds.length 0 p = 0 ∧ HT.sIx ds.length ds.length q = ds.length) then some (.tup (cutD ds p q)) else none := .trans rfl rfl
@[simp] theorem qRev_s : qRev (some (.lst ds)) = some ds.reverse := .trans rfl rfl
@[simp] theorem qRevo_s : qRevo (some (.own ds)) = some ds.reverse := .trans rfl rfl
@[simp] theorem qCat_s : qCat (some (.lst ds)) (some (.lst es)) = if ds.length + es.length ≤ 16777216 then some (ds ++ es) else none := .trans rfl rfl
@[simp] theorem qRep_s : qRep (some (.lst ds)) (some (.int a)) = if -(2 ^ 63) ≤ a ∧ a < 2 ^ 63 ∧ ds.length * a.toNat ≤ 16777216 then some (List.replicate a.toNat ds).flatten else none := .trans rfl rfl
@[simp] theorem qOf_l : qOf (some [.lst ds]) = some ds := .trans rfl rfl
@[simp] theorem qOf_t : qOf (some [.tup ds]) = some ds := .trans rfl rfl
@[simp] theorem qL_s : qL (some (.lst ds)) = some ds := .trans rfl rfl
@[simp] theorem qT_s : qT (some (.tup ds)) = some ds := .trans rfl rfl
@[simp] theorem qO_s : qO (some (.own ds)) = some ds := .trans rfl rfl
@[simp] theorem qR1_s : qR1 (some [.int a]) = if -4611686018427387904 ≤ a ∧ a < 4611686018427387904 then some (rangeD 0 a) else none := .trans rfl rfl
@[simp] theorem qR2_s : qR2 (some [.int a, .int b]) = if -4611686018427387904 ≤ a ∧ a < 4611686018427387904 ∧ -4611686018427387904 ≤ b ∧ b < 4611686018427387904 then some (rangeD a b) else none := .trans rfl rfl
@[simp] theorem qEn_s : qEn (some [.lst ds]) = some (enumD ds) := .trans rfl rfl
@[simp] theorem qZp_s : qZp (some [.lst ds, .lst es]) = some (zipD ds es) := .trans rfl rfl
@[simp] theorem qV_s : qV (some (.fro y)) = some y := .trans rfl rfl
@[simp] theorem qW_s : qW (some (.own ds)) = some (.lst ds) := .trans rfl rfl
@[simp] theorem qSet_s : qSet i ev (some l) = some (.nx (ev.set i l)) := .trans rfl rfl
@[simp] theorem qPar_s : qPar i j ev (some l) (some m) = some (.nx ((ev.set i l).set j m)) := .trans rfl rfl
@[simp] theorem qPar3_s : qPar3 i j o ev (some l) (some m) (some n) = some (.nx (((ev.set i l).set j m).set o n)) := .trans rfl rfl
@[simp] theorem qNx_s : qNx (some ev) = some (.nx ev) := .trans rfl rfl
@[simp] theorem qAsg_s {mm : D → EV → Option EV} : qAsg mm ev (some y) = qNx (mm y ev) := .trans rfl rfl
@[simp] theorem qMs_s {ms : List D → EV → Option EV} : qMs ms ds (some ev) = ms ds ev := .trans rfl rfl
@[simp] theorem qApp_s : qApp i ev (some (.own ds)) (some y) = if ds.length < 16777216 then some (.nx (ev.set i (.own (ds ++ [y])))) else none := .trans rfl rfl
@[simp] theorem qExt_s : qExt i ev (some (.own ds)) (some (.lst es)) = if ds.length + es.length ≤ 16777216 then some (.nx (ev.set i (.own (ds ++ es)))) else none := .trans rfl rfl
@[simp] theorem qSub_s : qSub i ev (some (.own ds)) (some (.int a)) (some y) = qSub2 i ev ds y (ixN ds.length a) := .trans rfl rfl
@[simp] theorem qSub2_s : qSub2 i ev ds y (some j) = some (.nx (ev.set i (.own (ds.set j y)))) := .trans rfl rfl
@[simp] theorem qFor_s {mm : D → EV → Option EV} {w : EV → Option Fl} : qFor mm w ev (some ds) = forGo mm w ds ev := .trans rfl rfl
@[simp] theorem qSeq_n {w : EV → Option Fl} : qSeq w (some (.nx ev)) = w ev := .trans rfl rfl
@[simp] theorem qSeq_r {w : EV → Option Fl} : qSeq w (some (.rt y)) = some (.rt y) := .trans rfl rfl
@[simp] theorem qSeq_b {w : EV → Option Fl} : qSeq w (some (.bk ev)) = some (.bk ev) := .trans rfl rfl
@[simp] theorem qSeq_c {w : EV → Option Fl} : qSeq w (some (.ct ev)) = some (.ct ev) := .trans rfl rfl
@[simp] theorem qFrz_o : qFrz i ev (some (.own ds)) = ev.set i (.fro (.lst ds)) := .trans rfl rfl
@[simp] theorem qFrz_f : qFrz i ev (some (.fro y)) = ev := .trans rfl rfl
end
section
variable {ev : EV} {i j o n m : Nat} {f g h : EV → Option D} {p q : EV → Option Bool} {u v : EV → Option Fl} {k : EV → Option (List D)} {op : D → D → Option D}
@[simp] theorem v_var : cVar i ev = qV ev[i]? := by
  unfold cVar qV
  split <;> simp_all
@[simp] theorem v_own : cOwn i ev = qW ev[i]? := by
  unfold cOwn qW
  split <;> simp_all
@[simp] theorem v_c {d : D} : cC d ev = some d := .trans rfl rfl
@[simp] theorem v_c2 : c2 op f g ev = q2 op (f ev) (g ev) := by
  unfold c2 q2
  cases f ev <;> cases g ev <;> rfl
@[simp] theorem v_c1 {op : D → Option D} : c1 op f ev = qb op (f ev) := by
  unfold c1 qb
  cases f ev <;> rfl
@[simp] theorem v_flat : cFlat f ev = qFlat (f ev) := by
  unfold cFlat qFlat
  cases f ev <;> rfl
@[simp] theorem v_or : cOr f g ev = qOr g ev (f ev) := by
  unfold cOr qOr
  cases f ev with
  | none => rfl
  | some x =>
    show x.tru.bind _ = qOr2 x g ev x.tru
    rcases x.tru with _ | _ | _ <;> rfl
@[simp] theorem v_and : cAnd f g ev = qAnd g ev (f ev) := by
  unfold cAnd qAnd
  cases f ev with
  | none => rfl
  | some x =>
    show x.tru.bind _ = qAnd2 x g ev x.tru
    rcases x.tru with _ | _ | _ <;> rfl
@[simp] theorem v_tand : tAndZ p q ev = qIf q (fun _ => some false) ev (p ev) := by
  unfold tAndZ
  rcases p ev with _ | _ | _ <;> rfl
@[simp] theorem v_tor : tOrZ p q ev = qIf (fun _ => some true) q ev (p ev) := by
  unfold tOrZ
  rcases p ev with _ | _ | _ <;> rfl
@[simp] theorem v_tnot : tNotZ p ev = q1 not (p ev) := by
  unfold tNotZ
  rcases p ev with _ | _ | _ <;> rfl
@[simp] theorem v_ttru : tTru f ev = qb D.tru (f ev) := by
  unfold tTru
  cases f ev <;> rfl
@[simp] theorem v_tof : tOf f ev = asB (f ev) := .trans rfl rfl
@[simp] theorem v_asB {b : Bool} : asB (some (.bl b)) = some b := .trans rfl rfl
@[simp] theorem v_if : cIf p f g ev = qIf f g ev (p ev) := by
  unfold cIf
  rcases p ev with _ | _ | _ <;> rfl
@[simp] theorem v_ch {l : D → EV → Option D} : cCh f l ev = qCh l ev (f ev) := by
  unfold cCh
  cases f ev <;> rfl
@[simp] theorem v_chlast {x : D} : chLast op g x ev = qLast op x (g ev) := by
  unfold chLast
  cases g ev <;> rfl
@[simp] theorem v_chlink {x : D} {r : D → EV → Option D} : chLink op g r x ev = qLink op r x ev (g ev) := by
  unfold chLink qLink
  cases g ev with
  | none => rfl
  | some y =>
    show (match op x y with | some (.bl true) => r y ev | some (.bl false) => some (.bl false) | _ => none) = qLink2 r y ev (op x y)
    unfold qLink2
    split <;> simp_all
@[simp] theorem v_ixo : cIxo i g ev = qIxo ev[i]? (g ev) := by
  unfold cIxo qIxo
  split <;> simp_all
@[simp] theorem v_anil : aNil ev = some [] := .trans rfl rfl
@[simp] theorem v_acons : aCons f k ev = qCons (f ev) (k ev) := by
  unfold aCons
  cases f ev <;> cases k ev <;> rfl
@[simp] theorem v_tup : cTup k ev = qTup (k ev) := by
  unfold cTup
  cases k ev <;> rfl
@[simp] theorem v_lst : cLst k ev = q1 D.lst (k ev) := by
  unfold cLst
  cases k ev <;> rfl
@[simp] theorem v_klist : kList k ev = qKl (k ev) := by
  unfold kList
  cases k ev <;> rfl
@[simp] theorem v_pno : pNo ev = some none := .trans rfl rfl
@[simp] theorem v_pat : pAt f ev = qAt (f ev) := by
  unfold pAt qAt
  split <;> simp_all
@[simp] theorem v_ksl {l r : EV → Option (Option Int)} : kSl f l r ev = qSl (f ev) (l ev) (r ev) := by
  unfold kSl qSl
  rcases f ev with _ | _ | _ | _ | _ | _ | _ | _ <;> cases l ev <;> cases r ev <;> rfl
@[simp] theorem v_kslo {l r : EV → Option (Option Int)} : kSlo i l r ev = qSlo ev[i]? (l ev) (r ev) := by
  unfold kSlo qSlo
  rcases ev[i]? with _ | _ | _ | _ <;> cases l ev <;> cases r ev <;> rfl
@[simp] theorem v_slT {l r : EV → Option (Option Int)} : cSlT f l r ev = qSlT (f ev) (l ev) (r ev) := by
  unfold cSlT qSlT
  rcases f ev with _ | _ | _ | _ | _ | _ | _ | _ <;> cases l ev <;> cases r ev <;> rfl
@[simp] theorem v_krev : kRev f ev = qRev (f ev) := by
  unfold kRev qRev
  split <;> simp_all
@[simp] theorem v_krevo : kRevo i ev = qRevo ev[i]? := by
  unfold kRevo qRevo
  split <;> simp_all
@[simp] theorem v_kcat : kCat f g ev = qCat (f ev) (g ev) := by
  unfold kCat qCat
  split <;> simp_all
@[simp] theorem v_krep : kRep f g ev = qRep (f ev) (g ev) := by
  unfold kRep qRep
  split <;> simp_all
@[simp] theorem v_cb {b : List D → Option D} : cCB b k ev = qb b (k ev) := by
  unfold cCB
  cases k ev <;> rfl
@[simp] theorem v_kof : kOf k ev = qOf (k ev) := by
  unfold kOf qOf
  split <;> simp_all
@[simp] theorem v_ilst : iLst f ev = qL (f ev) := by
  unfold iLst qL
  split <;> simp_all
@[simp] theorem v_ituple : iTuple f ev = qT (f ev) := by
  unfold iTuple qT
  split <;> simp_all
@[simp] theorem v_iown : iOwn i ev = qO ev[i]? := by
  unfold iOwn qO
  split <;> simp_all
@[simp] theorem v_ir1 : iR1 k ev = qR1 (k ev) := by
  unfold iR1 qR1
  split <;> simp_all
@[simp] theorem v_ir2 : iR2 k ev = qR2 (k ev) := by
  unfold iR2 qR2
  split <;> simp_all
@[simp] theorem v_ien : iEn k ev = qEn (k ev) := by
  unfold iEn qEn
  split <;> simp_all
@[simp] theorem v_izp : iZp k ev = qZp (k ev) := by
  unfold iZp qZp
  split <;> simp_all
@[simp] theorem v_mname {d : D} : mName i d ev = some (ev.set i (.fro d)) := .trans rfl rfl
@[simp] theorem v_mnil : mNil [] ev = some ev := .trans rfl rfl
@[simp] theorem v_mcons {mm : D → EV → Option EV} {ms : List D → EV → Option EV} {d : D} {ds : List D} : mCons mm ms (d :: ds) ev = qMs ms ds (mm d ev) := by
  show (mm d ev).bind _ = _
  cases mm d ev <;> rfl
@[simp] theorem v_mtup {ms : List D → EV → Option EV} {ds : List D} : mTup ms (.tup ds) ev = ms ds ev := .trans rfl rfl
@[simp] theorem v_lf : lF f ev = q1 L.fro (f ev) := by
  unfold lF
  cases f ev <;> rfl
@[simp] theorem v_lo : lO k ev = q1 L.own (k ev) := by
  unfold lO
  cases k ev <;> rfl
@[simp] theorem v_setl {l : EV → Option L} : sSetL i l ev = qSet i ev (l ev) := by
  unfold sSetL
  cases l ev <;> rfl
@[simp] theorem v_par {a b : EV → Option L} : sPar i j a b ev = qPar i j ev (a ev) (b ev) := by
  unfold sPar
  cases a ev <;> cases b ev <;> rfl
@[simp] theorem v_par3 {a b c : EV → Option L} : sPar3 i j o a b c ev = qPar3 i j o ev (a ev) (b ev) (c ev) := by
  unfold sPar3
  cases a ev <;> cases b ev <;> cases c ev <;> rfl
@[simp] theorem v_asg {mm : D → EV → Option EV} : sAsg f mm ev = qAsg mm ev (f ev) := by
  unfold sAsg
  cases f ev with
  | none => rfl
  | some d =>
    show (mm d ev).map Fl.nx = qNx (mm d ev)
    cases mm d ev <;> rfl
@[simp] theorem v_app : sApp i f ev = qApp i ev ev[i]? (f ev) := by
  unfold sApp qApp
  rcases ev[i]? with _ | _ | _ | xs
  · rfl
  · rfl
  · rfl
  · cases f ev with
    | none =>
      show (if xs.length < 16777216 then none else none) = none
      split <;> rfl
    | some d => rfl
@[simp] theorem v_ext : sExt i f ev = qExt i ev ev[i]? (f ev) := by
  unfold sExt qExt
  split <;> simp_all
@[simp] theorem v_sub : sSub i g f ev = qSub i ev ev[i]? (g ev) (f ev) := by
  unfold sSub qSub
  split
  · rename_i xs n d h1 h2 h3
    first
      | rw [h1, h2, h3]
      | skip
    show (ixN xs.length n).map _ = qSub2 i ev xs d (ixN xs.length n)
    cases ixN xs.length n <;> rfl
  · simp_all
@[simp] theorem v_drop : sDrop f ev = q1 (fun _ => Fl.nx ev) (f ev) := by
  unfold sDrop
  cases f ev <;> rfl
@[simp] theorem v_sif : sIf p u v ev = qIf u v ev (p ev) := by
  unfold sIf
  rcases p ev with _ | _ | _ <;> rfl
@[simp] theorem v_for {fi : EV → Option (List D)} {mm : D → EV → Option EV} : sFor fi mm u ev = qFor mm u ev (fi ev) := by
  unfold sFor
  cases fi ev <;> rfl
@[simp] theorem v_nx : sNx ev = some (.nx ev) := .trans rfl rfl
@[simp] theorem v_bk : sBk ev = some (.bk ev) := .trans rfl rfl
@[simp] theorem v_ct : sCt ev = some (.ct ev) := .trans rfl rfl
@[simp] theorem v_ret : sRet f ev = q1 Fl.rt (f ev) := by
  unfold sRet
  cases f ev <;> rfl
@[simp] theorem v_frz : sFrz i u ev = u (evFrz ev i) := .trans rfl rfl
@[simp] theorem v_evfrz : evFrz ev i = qFrz i ev ev[i]? := by
  unfold evFrz qFrz
  split <;> simp_all
@[simp] theorem v_wnil : evWipe ev [] = ev := .trans rfl rfl
@[simp] theorem v_wcons {vs : List Nat} : evWipe ev (i :: vs) = (evWipe ev vs).set i .un := .trans rfl rfl
/-- a block: its first statement is known -/
theorem seq_nx {e : EV} (h : u ev = some (.nx e)) : sSeq u v ev = v e := by
  unfold sSeq
  rw [h]
  rfl
theorem seq_rt {d : D} (h : u ev = some (.rt d)) : sSeq u v ev = some (.rt d) := by
  unfold sSeq
  rw [h]
  rfl
@[simp] theorem v_seq : sSeq u v ev = qSeq v (u ev) := by
  unfold sSeq
  rcases u ev with _ | _ | _ | _ | _ <;> rfl
/-! ops -/
@[simp] theorem v_add {a b : Int} : oAdd (.int a) (.int b) = some (.int (a + b)) := .trans rfl rfl
@[simp] theorem v_osub {a b : Int} : oSub (.int a) (.int b) = some (.int (a - b)) := .trans rfl rfl
@[simp] theorem v_mul {a b : Int} : oMul (.int a) (.int b) = if (-(2 ^ 64) < a ∧ a < 2 ^ 64) ∨ (-(2 ^ 64) < b ∧ b < 2 ^ 64) then some (.int (a * b)) else none := .trans rfl rfl
@[simp] theorem v_div {a b : Int} : oDiv (.int a) (.int b) = if 0 < b ∧ b < 1073741824 then some (.int (a / b)) else none := .trans rfl rfl
@[simp] theorem v_mod {a b : Int} : oMod (.int a) (.int b) = if 0 < b then some (.int (a % b)) else none := .trans rfl rfl
theorem pow18i : (10 : Int) ^ (18 : Int).toNat = 1000000000000000000 := by decide +kernel
theorem pow18 : ∃ b : Int, oPow (.int 10) (.int 18) = some (.int b) ∧ b < 4611686018427387904 := by
  refine ⟨(10 : Int) ^ (18 : Int).toNat, ?_, by rw [pow18i]; decide⟩
  show (if (0 : Int) ≤ 18 ∧ (18 : Int) ≤ 1000000 ∧ (10 : Int).natAbs < 2 ^ 64 then some (D.int ((10 : Int) ^ (18 : Int).toNat)) else none) = _
  rw [if_pos ⟨by decide, by decide, by decide⟩]
@[simp] theorem v_lt {a b : Int} : oLt (.int a) (.int b) = some (.bl (decide (a < b))) := .trans rfl rfl
@[simp] theorem v_le {a b : Int} : oLe (.int a) (.int b) = some (.bl (decide (a ≤ b))) := .trans rfl rfl
@[simp] theorem v_gt {a b : Int} : oGt (.int a) (.int b) = some (.bl (decide (b < a))) := .trans rfl rfl
@[simp] theorem v_ge {a b : Int} : oGe (.int a) (.int b) = some (.bl (decide (b ≤ a))) := .trans rfl rfl
@[simp] theorem v_neg {a : Int} : oNeg (.int a) = some (.int (-a)) := .trans rfl rfl
@[simp] theorem v_is {d : D} : oIs d .non = some (.bl d.isNon) := by cases d <;> rfl
@[simp] theorem v_isnot {d : D} : oIsNot d .non = some (.bl (!d.isNon)) := by cases d <;> rfl
@[simp] theorem v_isnotb {a b : Bool} : oIsNot (.bl a) (.bl b) = some (.bl (!decide (a = b))) := .trans rfl rfl
@[simp] theorem v_isNon : D.isNon .non = true := .trans rfl rfl
@[simp] theorem v_isNonI {a : Int} : D.isNon (.int a) = false := .trans rfl rfl
@[simp] theorem v_isNonL {xs : List D} : D.isNon (.lst xs) = false := .trans rfl rfl
@[simp] theorem v_isNonT {xs : List D} : D.isNon (.tup xs) = false := .trans rfl rfl
@[simp] theorem v_isNonB {b : Bool} : D.isNon (.bl b) = false := .trans rfl rfl
@[simp] theorem v_tru0 : D.tru .non = some false := .trans rfl rfl
@[simp] theorem v_truB {b : Bool} : D.tru (.bl b) = some b := .trans rfl rfl
@[simp] theorem v_truI {a : Int} : D.tru (.int a) = some (a != 0) := .trans rfl rfl
@[simp] theorem v_truL {xs : List D} : D.tru (.lst xs) = some (!xs.isEmpty) := .trans rfl rfl
@[simp] theorem v_truT {xs : List D} : D.tru (.tup xs) = some (!xs.isEmpty) := .trans rfl rfl
@[simp] theorem v_flat0 : D.flat .non = true := .trans rfl rfl
@[simp] theorem v_flatB {b : Bool} : D.flat (.bl b) = true := .trans rfl rfl
@[simp] theorem v_flatI {a : Int} : D.flat (.int a) = true := .trans rfl rfl
@[simp] theorem v_flatS {a : Str} : D.flat (.str a) = true := .trans rfl rfl
@[simp] theorem v_not {d : D} : oNot d = q1 (fun k => D.bl (!k)) d.tru := by
  unfold oNot
  cases d.tru <;> rfl
@[simp] theorem v_ixl {xs : List D} {a : Int} : oIx (.lst xs) (.int a) = atI xs a := .trans rfl rfl
@[simp] theorem v_ixt {xs : List D} {a : Int} : oIx (.tup xs) (.int a) = atI xs a := .trans rfl rfl
@[simp] theorem v_ixs {xs : List Int} {a : Int} : oIx (.scr xs) (.int a) = (atI xs a).map .int := .trans rfl rfl
@[simp] theorem v_blen {xs : List D} : bLen [.lst xs] = some (.int xs.length) := .trans rfl rfl
@[simp] theorem v_blent {xs : List D} : bLen [.tup xs] = some (.int xs.length) := .trans rfl rfl
@[simp] theorem v_blens {xs : List Int} : bLen [.scr xs] = some (.int xs.length) := .trans rfl rfl
@[simp] theorem v_bint {a : Int} : bInt [.int a] = some (.int a) := .trans rfl rfl
@[simp] theorem v_bintb {b : Bool} : bInt [.bl b] = some (.int (if b then 1 else 0)) := .trans rfl rfl
@[simp] theorem v_babs {a : Int} : bAbs [.int a] = some (.int (if a < 0 then -a else a)) := .trans rfl rfl
@[simp] theorem v_bmax {a b : Int} : bMax [.int a, .int b] = some (.int (if b > a then b else a)) := .trans rfl rfl
@[simp] theorem v_bmin {a b : Int} : bMin [.int a, .int b] = some (.int (if b < a then b else a)) := .trans rfl rfl
@[simp] theorem v_ball {xs : List D} : bAll [.lst xs] = q1 (fun bs => D.bl (bs.all id)) (asBs xs) := by
  show (asBs xs).map _ = _
  cases asBs xs <;> rfl
@[simp] theorem v_bany {xs : List D} : bAny [.lst xs] = q1 (fun bs => D.bl (bs.any id)) (asBs xs) := by
  show (asBs xs).map _ = _
  cases asBs xs <;> rfl
@[simp] theorem v_bsum {xs : List D} : bSum [.lst xs] = q1 (fun bs => D.int bs.sum) (asIs xs) := by
  show (asIs xs).map _ = _
  cases asIs xs <;> rfl
theorem asBs_map {α : Type} (f : α → Bool) : ∀ xs : List α, asBs (xs.map fun x => D.bl (f x)) = some (xs.map f)
  | [] => rfl
  | x :: xs => by
    show (asBs (xs.map fun x => D.bl (f x))).map (f x :: ·) = _
    rw [asBs_map f xs]
    rfl
theorem asIs_map {α : Type} (f : α → Int) : ∀ xs : List α, asIs (xs.map fun x => D.int (f x)) = some (xs.map f)
  | [] => rfl
  | x :: xs => by
    show (asIs (xs.map fun x => D.int (f x))).map (f x :: ·) = _
    rw [asIs_map f xs]
    rfl
/-! items by place -/
theorem atI_n {α : Type} {xs : List α} {j : Nat} : atI xs (j : Int) = xs[j]? := by
  unfold atI ixN
  by_cases h : j < xs.length
  · rw [if_pos (by omega), if_pos (by omega)]
    rfl
  · rw [if_pos (by omega), if_neg (by omega)]
    simp only [Option.bind_none]
    exact (List.getElem?_eq_none (by omega)).symm
@[simp] theorem atI_0 {α : Type} {x : α} {xs : List α} : atI (x :: xs) 0 = some x := atI_n (j := 0)
@[simp] theorem atI_1 {α : Type} {x y : α} {xs : List α} : atI (x :: y :: xs) 1 = some y := atI_n (j := 1)
@[simp] theorem atI_2 {α : Type} {x y z : α} {xs : List α} : atI (x :: y :: z :: xs) 2 = some z := atI_n (j := 2)
@[simp] theorem atI_3 {α : Type} {x y z a : α} {xs : List α} : atI (x :: y :: z :: a :: xs) 3 = some a := atI_n (j := 3)
@[simp] theorem atI_4 {α : Type} {x y z a b : α} {xs : List α} : atI (x :: y :: z :: a :: b :: xs) 4 = some b := atI_n (j := 4)
theorem atI_back {α : Type} {xs : List α} (h : xs ≠ []) : atI xs (-1) = xs.getLast? := by
  have hl : 0 < xs.length := List.length_pos_iff.mpr h
  unfold atI ixN
  rw [if_neg (by decide), if_pos (by omega), List.getLast?_eq_getElem?]
  show xs[(-1 + (xs.length : Int)).toNat]? = _
  congr 1
  omega
theorem ixN_n {n j : Nat} (h : j < n) : ixN n (j : Int) = some j := by
  unfold ixN
  rw [if_pos (by omega), if_pos (by omega)]
  rfl
theorem cut_to {α : Type} {xs : List α} {k : Nat} : cutD xs none (some (k : Int)) = xs.take k := by
  unfold cutD
  rw [HT.sIx_none, HT.sIx_nat, List.drop_zero, Nat.sub_zero, ← List.take_eq_take_min]
theorem cut_from {α : Type} {xs : List α} {k : Nat} : cutD xs (some (k : Int)) none = xs.drop k := by
  unfold cutD
  rw [HT.sIx_none, HT.sIx_nat]
  by_cases h : k ≤ xs.length
  · rw [Nat.min_eq_left h, List.take_of_length_le (by rw [List.length_drop]; omega)]
  · rw [Nat.min_eq_right (by omega), Nat.sub_self, List.take_zero, List.drop_eq_nil_of_le (by omega)]
/-! ranges -/
theorem rangeD_n (n : Nat) : rangeD 0 (n : Int) = (List.range n).map fun k : Nat => D.int (k : Int) := by
  unfold rangeD
  rw [Int.sub_zero, Int.toNat_natCast]
  apply List.map_congr_left
  intro k _
  rw [Int.zero_add]
theorem rangeD_eq (j : Int) : rangeD 0 j = (List.range j.toNat).map fun k : Nat => D.int (k : Int) := by
  unfold rangeD
  rw [Int.sub_zero]
  apply List.map_congr_left
  intro k _
  rw [Int.zero_add]
/-! comprehensions -/
theorem compGo_map {α : Type} {enc : α → D} {F : D → Option (Option D)} {r : α → D} : ∀ {xs : List α}, (∀ x ∈ xs, F (enc x) = some (some (r x))) → compGo F (xs.map enc) = some (xs.map r)
  | [], _ => rfl
  | x :: xs, h => by
    show (F (enc x)).bind _ = _
    rw [h x List.mem_cons_self, Option.bind_some, compGo_map (r := r) fun y hy => h y (List.mem_cons_of_mem _ hy)]
    rfl
theorem compGo_filter {α : Type} {enc : α → D} {F : D → Option (Option D)} {r : α → D} {P : α → Bool} : ∀ {xs : List α}, (∀ x ∈ xs, F (enc x) = some (if P x then some (r x) else none)) → compGo F (xs.map enc) = some ((xs.filter P).map r)
  | [], _ => rfl
  | x :: xs, h => by
    show (F (enc x)).bind _ = _
    rw [h x List.mem_cons_self, Option.bind_some, compGo_filter (r := r) (P := P) fun y hy => h y (List.mem_cons_of_mem _ hy), List.filter_cons]
    cases P x <;> rfl
theorem v_comp {fi : EV → Option (List D)} {mm : D → EV → Option EV} {vs : List Nat} {ds : List D} (h : fi ev = some ds) (hl : ds.length ≤ 16777216) :
    kComp fi mm p f vs ev = compGo (fun d => (mm d (evWipe ev vs)).bind fun ev' => (p ev').bind fun b => if b then (f ev').map some else some none) ds := by
  unfold kComp
  rw [h, Option.bind_some, if_pos hl]
def qC2 (f : EV → Option D) (e : EV) : Option Bool → Option (Option D)
  | some true => q1 some (f e)
  | some false => some none
  | none => none
def qC1 (p : EV → Option Bool) (f : EV → Option D) : Option EV → Option (Option D)
  | some e => qC2 f e (p e)
  | none => none
@[simp] theorem qC2_t {e : EV} : qC2 f e (some true) = q1 some (f e) := .trans rfl rfl
@[simp] theorem qC2_f {e : EV} : qC2 f e (some false) = some none := .trans rfl rfl
theorem qC2_b {e : EV} {b : Bool} : qC2 f e (some b) = if b then q1 some (f e) else some none := by cases b <;> rfl
@[simp] theorem qC1_s {e : EV} : qC1 p f (some e) = qC2 f e (p e) := .trans rfl rfl
theorem comp_map {α : Type} {enc : α → D} {r : α → D} {fi : EV → Option (List D)} {mm : D → EV → Option EV} {vs : List Nat} {xs : List α} (h : fi ev = some (xs.map enc)) (hl : xs.length ≤ 16777216)
    (hx : ∀ x ∈ xs, qC1 p f (mm (enc x) (evWipe ev vs)) = some (some (r x))) : kComp fi mm p f vs ev = some (xs.map r) := by
  rw [v_comp h (by rw [List.length_map]; exact hl)]
  refine compGo_map fun x hm => Eq.trans ?_ (hx x hm)
  rcases mm (enc x) (evWipe ev vs) with _ | e
  · rfl
  · show (p e).bind _ = qC2 f e (p e)
    rcases p e with _ | _ | _
    · rfl
    · rfl
    · show (f e).map some = q1 some (f e)
      cases f e <;> rfl
theorem comp_filter {α : Type} {enc : α → D} {r : α → D} {P : α → Bool} {fi : EV → Option (List D)} {mm : D → EV → Option EV} {vs : List Nat} {xs : List α} (h : fi ev = some (xs.map enc)) (hl : xs.length ≤ 16777216)
    (hx : ∀ x ∈ xs, qC1 p f (mm (enc x) (evWipe ev vs)) = some (if P x then some (r x) else none)) : kComp fi mm p f vs ev = some ((xs.filter P).map r) := by
  rw [v_comp h (by rw [List.length_map]; exact hl)]
  refine compGo_filter fun x hm => Eq.trans ?_ (hx x hm)
  rcases mm (enc x) (evWipe ev vs) with _ | e
  · rfl
  · show (p e).bind _ = qC2 f e (p e)
    rcases p e with _ | _ | _
    · rfl
    · rfl
    · show (f e).map some = q1 some (f e)
      cases f e <;> rfl
/-! loops -/
theorem for_nil {mm : D → EV → Option EV} : forGo mm u [] ev = some (.nx ev) := rfl
theorem for_cons {mm : D → EV → Option EV} {d : D} {ds : List D} : forGo mm u (d :: ds) ev = (mm d ev).bind fun e1 => (u e1).bind fun r => (match r with
    | .nx e => forGo mm u ds e
    | .ct e => forGo mm u ds e
    | .bk e => some (.nx e)
    | .rt d => some (.rt d)) := rfl
/-- a for that goes on to its end: R by what has been taken -/
theorem for_run {α : Type} {enc : α → D} {mm : D → EV → Option EV} (R : List α → EV → Prop) : ∀ {xs pre : List α} {ev : EV}, R pre ev →
    (∀ (pre' : List α) (a : α) (post : List α) (ev' : EV), pre' ++ a :: post = pre ++ xs → R pre' ev' → ∃ e1 e2, mm (enc a) ev' = some e1 ∧ (u e1 = some (.nx e2) ∨ u e1 = some (.ct e2)) ∧ R (pre' ++ [a]) e2) →
    ∃ ev', forGo mm u (xs.map enc) ev = some (.nx ev') ∧ R (pre ++ xs) ev'
  | [], pre, ev, h0, _ => ⟨ev, rfl, by rw [List.append_nil]; exact h0⟩
  | x :: xs, pre, ev, h0, hs => by
    obtain ⟨e1, e2, h1, h2, h3⟩ := hs pre x xs ev rfl h0
    obtain ⟨ev', h4, h5⟩ := for_run R (xs := xs) (pre := pre ++ [x]) h3 fun pre' a post ev' e r => hs pre' a post ev' (by rw [e, List.append_assoc]; rfl) r
    refine ⟨ev', ?_, by rw [List.append_assoc] at h5; exact h5⟩
    rw [List.map_cons, for_cons, h1, Option.bind_some]
    rcases h2 with h2 | h2 <;> rw [h2, Option.bind_some] <;> exact h4
theorem for_run0 {α : Type} {enc : α → D} {mm : D → EV → Option EV} (R : List α → EV → Prop) {xs : List α} {ev : EV} (h0 : R [] ev)
    (hs : ∀ (pre : List α) (a : α) (post : List α) (ev' : EV), pre ++ a :: post = xs → R pre ev' → ∃ e1 e2, mm (enc a) ev' = some e1 ∧ (u e1 = some (.nx e2) ∨ u e1 = some (.ct e2)) ∧ R (pre ++ [a]) e2) :
    ∃ ev', forGo mm u (xs.map enc) ev = some (.nx ev') ∧ R xs ev' := for_run R h0 hs
/-- .. with more behind -/
theorem for_more {α : Type} {enc : α → D} {mm : D → EV → Option EV} (R : List α → EV → Prop) : ∀ {xs pre : List α} {ev : EV}, R pre ev →
    (∀ (pre' : List α) (a : α) (post : List α) (ev' : EV), pre' ++ a :: post = pre ++ xs → R pre' ev' → ∃ e1 e2, mm (enc a) ev' = some e1 ∧ (u e1 = some (.nx e2) ∨ u e1 = some (.ct e2)) ∧ R (pre' ++ [a]) e2) →
    ∃ ev', (∀ ys, forGo mm u (xs.map enc ++ ys) ev = forGo mm u ys ev') ∧ R (pre ++ xs) ev'
  | [], pre, ev, h0, _ => ⟨ev, fun _ => rfl, by rw [List.append_nil]; exact h0⟩
  | x :: xs, pre, ev, h0, hs => by
    obtain ⟨e1, e2, h1, h2, h3⟩ := hs pre x xs ev rfl h0
    obtain ⟨ev', h4, h5⟩ := for_more R (xs := xs) (pre := pre ++ [x]) h3 fun pre' a post ev' e r => hs pre' a post ev' (by rw [e, List.append_assoc]; rfl) r
    refine ⟨ev', fun ys => ?_, by rw [List.append_assoc] at h5; exact h5⟩
    rw [List.map_cons, List.cons_append, for_cons, h1, Option.bind_some]
    rcases h2 with h2 | h2 <;> rw [h2, Option.bind_some] <;> exact h4 ys
/-- a for that returns at an item -/
theorem for_ret {α : Type} {enc : α → D} {mm : D → EV → Option EV} (R : List α → EV → Prop) {xs post : List α} {a : α} {ev : EV} {d : D} (h0 : R [] ev)
    (hs : ∀ (pre' : List α) (b : α) (post' : List α) (ev' : EV), pre' ++ b :: post' = xs → R pre' ev' → ∃ e1 e2, mm (enc b) ev' = some e1 ∧ (u e1 = some (.nx e2) ∨ u e1 = some (.ct e2)) ∧ R (pre' ++ [b]) e2)
    (hr : ∀ ev', R xs ev' → ∃ e1, mm (enc a) ev' = some e1 ∧ u e1 = some (.rt d)) : forGo mm u ((xs ++ a :: post).map enc) ev = some (.rt d) := by
  obtain ⟨ev', h1, h2⟩ := for_more (enc := enc) (mm := mm) (u := u) R (xs := xs) (pre := []) h0 hs
  obtain ⟨e1, h3, h4⟩ := hr ev' h2
  rw [List.map_append, h1, List.map_cons, for_cons, h3, Option.bind_some, h4]
  rfl
/-- a while by a measure -/
theorem while_run {t : EV → Option Bool} (R : EV → Prop) (μ : EV → Nat) (hs : ∀ ev, R ev → (t ev = some false) ∨ (t ev = some true ∧ ∃ e, (u ev = some (.nx e) ∨ u ev = some (.ct e)) ∧ R e ∧ μ e < μ ev)) :
    ∀ {ev : EV}, R ev → ∃ e, sWhile t u ev = some (.nx e) ∧ R e ∧ t e = some false := by
  have go : ∀ (n : Nat) (ev : EV), R ev → μ ev < n → ∃ e, whileGo t u n ev = some (.nx e) ∧ R e ∧ t e = some false := by
    intro n
    induction n with
    | zero => exact fun ev _ h => absurd h (Nat.not_lt_zero _)
    | succ n ih =>
      intro ev h0 hn
      unfold whileGo
      rcases hs ev h0 with ht | ⟨ht, e, hu, hr, hm⟩
      · exact ⟨ev, by rw [ht]; rfl, h0, ht⟩
      · obtain ⟨e', h1, h2, h3⟩ := ih e hr (by omega)
        refine ⟨e', ?_, h2, h3⟩
        rw [ht, Option.bind_some, if_pos rfl]
        rcases hu with hu | hu <;> rw [hu, Option.bind_some] <;> exact h1
  intro ev h0
  obtain ⟨e, h1, h2, h3⟩ := go (μ ev + 1) ev h0 (Nat.lt_succ_self _)
  exact ⟨e, sWhile_of h1, h2, h3⟩
theorem run_fn {n m : Nat} {ds : List D} {d : D} (hn : ds.length = n) (h : u (evStart ds m) = some (.rt d)) : runFn n m u ds = some d := by
  unfold runFn
  rw [if_pos hn, h]
theorem run_fnN {n m : Nat} {ds : List D} {e : EV} (hn : ds.length = n) (h : u (evStart ds m) = some (.nx e)) : runFn n m u ds = some .non := by
  unfold runFn
  rw [if_pos hn, h]
@[simp] theorem v_start {ds : List D} {m : Nat} : evStart ds m = ds.map .fro ++ List.replicate m .un := .trans rfl rfl
end

/-! ### typed data -/
/-- none or an int -/
def encO : Option Int → D
  | none => .non
  | some i => .int i
@[simp] theorem encO_none : encO none = .non := .trans rfl rfl
@[simp] theorem encO_some {i : Int} : encO (some i) = .int i := .trans rfl rfl
theorem isNon_encO (o : Option Int) : (encO o).isNon = o.isNone := by cases o <;> rfl
structure EE {α : Type} [DecidableEq α] (n : Nat) (enc : α → D) : Prop where
  lay : ∀ a, (enc a).pd.canLay0 = true
  dep : ∀ a, (enc a).pd.depth ≤ n
  eqv : ∀ a b, PyData.eqv (enc a).pd (enc b).pd = decide (a = b)
theorem EE.shaped {α : Type} [DecidableEq α] {n : Nat} {enc : α → D} (e : EE n enc) (hn : n ≤ 64) (a : α) : SeqAt.shaped (enc a).pd = true := by
  unfold SeqAt.shaped
  rw [e.lay a, Bool.true_and]
  exact decide_eq_true (Nat.le_trans (e.dep a) hn)
theorem EE.eqD {α : Type} [DecidableEq α] {n : Nat} {enc : α → D} (e : EE n enc) (hn : n ≤ 64) (a b : α) : eqD (enc a) (enc b) = some (decide (a = b)) := by
  unfold Z.eqD
  rw [if_pos ⟨e.shaped hn a, e.shaped hn b⟩, e.eqv]
theorem EE.oEq {α : Type} [DecidableEq α] {n : Nat} {enc : α → D} (e : EE n enc) (hn : n ≤ 64) (a b : α) : oEq (enc a) (enc b) = some (.bl (decide (a = b))) := by
  unfold Z.oEq
  rw [e.eqD hn]
  rfl
theorem EE.oNe {α : Type} [DecidableEq α] {n : Nat} {enc : α → D} (e : EE n enc) (hn : n ≤ 64) (a b : α) : oNe (enc a) (enc b) = some (.bl (!decide (a = b))) := by
  unfold Z.oNe
  rw [e.eqD hn]
  rfl
theorem EE.int : EE 0 D.int := ⟨fun _ => rfl, fun _ => Nat.le_refl _, fun a b => by
  show (a == b) = decide (a = b)
  rw [Bool.beq_eq_decide_eq]⟩
theorem EE.bl : EE 0 D.bl := ⟨fun _ => rfl, fun _ => Nat.le_refl _, fun a b => by
  show (a == b) = decide (a = b)
  rw [Bool.beq_eq_decide_eq]⟩
theorem EE.opt : EE 0 encO := ⟨fun a => by cases a <;> rfl, fun a => by cases a <;> exact Nat.le_refl _, fun a b => by
  cases a <;> cases b
  · rfl
  · rfl
  · rfl
  · rename_i a b
    show (a == b) = decide (some a = some b)
    rw [Bool.beq_eq_decide_eq]
    simp⟩
theorem EE.list {α : Type} [DecidableEq α] {n : Nat} {enc : α → D} (e : EE n enc) : EE (n + 1) (fun xs : List α => D.lst (xs.map enc)) := by
  refine ⟨fun xs => ?_, fun xs => ?_, fun xs => ?_⟩
  · show PyData.canLayAll0 (D.pdL (xs.map enc)) = true
    induction xs with
    | nil => rfl
    | cons x xs ih =>
      show ((enc x).pd.canLay0 && PyData.canLayAll0 (D.pdL (xs.map enc))) = true
      rw [e.lay, ih]
      rfl
  · show PyData.depthAll (D.pdL (xs.map enc)) + 1 ≤ n + 1
    apply Nat.succ_le_succ
    induction xs with
    | nil => exact Nat.zero_le _
    | cons x xs ih =>
      show max (enc x).pd.depth (PyData.depthAll (D.pdL (xs.map enc))) ≤ n
      exact Nat.max_le.mpr ⟨e.dep x, ih⟩
  · induction xs with
    | nil =>
      intro ys
      cases ys with
      | nil => rfl
      | cons y ys => rfl
    | cons x xs ih =>
      intro ys
      cases ys with
      | nil => rfl
      | cons y ys =>
        show (PyData.eqv (enc x).pd (enc y).pd && PyData.eqvAll (D.pdL (xs.map enc)) (D.pdL (ys.map enc))) = _
        have ih' : PyData.eqvAll (D.pdL (xs.map enc)) (D.pdL (ys.map enc)) = decide (xs = ys) := ih ys
        rw [e.eqv, ih', ← Bool.decide_and]
        congr 1
        rw [List.cons.injEq]
theorem EE.tup2 {α β : Type} [DecidableEq α] [DecidableEq β] {n m : Nat} {enc : α → D} {enc' : β → D} (e : EE n enc) (e' : EE m enc') : EE (max n m + 1) (fun p : α × β => D.tup [enc p.1, enc' p.2]) := by
  refine ⟨fun p => ?_, fun p => ?_, fun p q => ?_⟩
  · show ((enc p.1).pd.canLay0 && ((enc' p.2).pd.canLay0 && true)) = true
    rw [e.lay, e'.lay]
    rfl
  · show max (enc p.1).pd.depth (max (enc' p.2).pd.depth 0) + 1 ≤ max n m + 1
    have h1 := e.dep p.1
    have h2 := e'.dep p.2
    omega
  · show (PyData.eqv (enc p.1).pd (enc q.1).pd && (PyData.eqv (enc' p.2).pd (enc' q.2).pd && true)) = _
    rw [e.eqv, e'.eqv, Bool.and_true, ← Bool.decide_and]
    congr 1
    rw [Prod.ext_iff]
theorem pdL_map {α : Type} {enc : α → D} : ∀ xs : List α, D.pdL (xs.map enc) = xs.map fun x => (enc x).pd
  | [] => rfl
  | x :: xs => by
    show (enc x).pd :: D.pdL (xs.map enc) = _
    rw [pdL_map xs]
    rfl
theorem EE.index {α : Type} [DecidableEq α] {n : Nat} {enc : α → D} (e : EE n enc) (hn : n ≤ 63) (xs : List α) (y : α) : oIndex (.lst (xs.map enc)) (enc y) = (xs.findIdx? fun x => decide (x = y)).map fun j => D.int (j : Nat) := by
  have h1 := e.list.shaped (by omega) xs
  have h2 := e.shaped (by omega) y
  have h1' : SeqAt.shaped (.list (D.pdL (xs.map enc))) = true := h1
  unfold oIndex
  simp only
  rw [if_pos ⟨h1', h2⟩, pdL_map, List.findIdx?_map]
  congr 2
  funext x
  exact e.eqv x y
theorem EE.mem {α : Type} [DecidableEq α] {n : Nat} {enc : α → D} (e : EE n enc) (hn : n ≤ 63) (xs : List α) (y : α) : memD (enc y) (xs.map enc) = some (decide (y ∈ xs)) := by
  have h1 := e.list.shaped (by omega) xs
  have h2 := e.shaped (by omega) y
  have h1' : SeqAt.shaped (.list (D.pdL (xs.map enc))) = true := h1
  unfold memD
  rw [if_pos ⟨h2, h1'⟩, pdL_map]
  congr 1
  rw [List.any_map, Bool.eq_iff_iff, List.any_eq_true, decide_eq_true_iff]
  constructor
  · rintro ⟨x, hx, h⟩
    have h' : PyData.eqv (enc x).pd (enc y).pd = true := h
    rw [e.eqv] at h'
    rw [← of_decide_eq_true h']
    exact hx
  · intro h
    refine ⟨y, h, ?_⟩
    show PyData.eqv (enc y).pd (enc y).pd = true
    rw [e.eqv]
    exact decide_eq_true rfl
@[simp] theorem oEq_int {a b : Int} : oEq (.int a) (.int b) = some (.bl (decide (a = b))) := EE.int.oEq (by decide) a b
@[simp] theorem oNe_int {a b : Int} : oNe (.int a) (.int b) = some (.bl (!decide (a = b))) := EE.int.oNe (by decide) a b
@[simp] theorem oEq_bl {a b : Bool} : oEq (.bl a) (.bl b) = some (.bl (decide (a = b))) := EE.bl.oEq (by decide) a b
@[simp] theorem oNe_bl {a b : Bool} : oNe (.bl a) (.bl b) = some (.bl (!decide (a = b))) := EE.bl.oNe (by decide) a b
@[simp] theorem oEq_opt {a b : Option Int} : oEq (encO a) (encO b) = some (.bl (decide (a = b))) := EE.opt.oEq (by decide) a b
@[simp] theorem oNe_opt {a b : Option Int} : oNe (encO a) (encO b) = some (.bl (!decide (a = b))) := EE.opt.oNe (by decide) a b
end Z


set_option maxRecDepth 100000
set_option maxHeartbeats 4000000
namespace K63
open PySem PySem.Spec PyProof.Rows L2 Z
/-! ### draws -/
def mix (dr : List Int) (k many : Int) : Int :=
  if k < (dr.length : Int) then (dr.getD (k % (dr.length : Int)).toNat 0) % many
  else (((if 0 < dr.length then dr.getD (k % (dr.length : Int)).toNat 0 else 0) * 7919 + k * 104729) / 3) % many
theorem mix_nonneg {dr : List Int} {k many : Int} (hm : 0 < many) : 0 ≤ mix dr k many := by
  unfold mix
  split <;> exact Int.emod_nonneg _ (by omega)
theorem mix_lt {dr : List Int} {k many : Int} (hm : 0 < many) : mix dr k many < many := by
  unfold mix
  split <;> exact Int.emod_lt_of_pos _ hm
theorem atI_draw {dr : List Int} {k : Int} (h : 0 < dr.length) : atI (dr.map D.int) (k % (dr.length : Int)) = some (.int (dr.getD (k % (dr.length : Int)).toNat 0)) := by
  have h1 : 0 ≤ k % (dr.length : Int) := Int.emod_nonneg _ (by omega)
  have h2 : k % (dr.length : Int) < dr.length := Int.emod_lt_of_pos _ (by omega)
  obtain ⟨j, hj⟩ := Int.eq_ofNat_of_zero_le h1
  rw [hj] at h2 ⊢
  have h3 : j < dr.length := by omega
  rw [atI_n, List.getElem?_map, List.getElem?_eq_getElem h3, Int.toNat_natCast, List.getD_eq_getElem?_getD, List.getElem?_eq_getElem h3]
  rfl
theorem mix_eq {dr : List Int} {k many : Int} (hm : 0 < many) : m__law_mix [.lst (dr.map .int), .int k, .int many] = some (.int (mix dr k many)) := by
  refine run_fn rfl ?_
  simp [body__law_mix, _law_mix_s1, _law_mix_s2, _law_mix_s3, _law_mix_s4, hm]
  by_cases h : 0 < dr.length
  · simp [h, atI_draw h]
    by_cases hk : k < dr.length <;> simp [hk, hm, mix, h]
  · have h0 : dr.length = 0 := by omega
    simp [h0]
    by_cases hk : k < 0
    · simp [hk, hm, mix, h0]
    · simp [hk, hm, mix, h0]
theorem map_snoc (acc : List Int) (i : Int) : acc.map D.int ++ [D.int i] = (acc ++ [i]).map D.int := by simp
/-- the place of an item in a range -/
theorem range_at {n : Nat} {pre post : List Nat} {a : Nat} (h : pre ++ a :: post = List.range n) : a = pre.length ∧ pre.length < n := by
  have hl := congrArg List.length h
  simp at hl
  have e1 : (List.range n)[pre.length]? = some a := by rw [← h]; simp
  rw [List.getElem?_range (by omega)] at e1
  cases e1
  exact ⟨rfl, by omega⟩
theorem r60 : rangeD 0 60 = (List.range 60).map fun k : Nat => D.int (k : Int) := rangeD_n 60
/-- one cell's digits -/
theorem digits_ok {s0 s2 s4 s5 : L} {x : Int} {acc : List Int} (ha : acc.length ≤ 4000) : ∃ (acc2 : List Int) (i3 : Int) (i4 : L), acc2.length ≤ acc.length + 60 ∧
    forGo (mName 4) _law_draws_b1 ((List.range 60).map fun k : Nat => D.int (k : Int)) [s0, .own (acc.map .int), s2, .fro (.int x), s4, s5] = some (.nx [s0, .own (acc2.map .int), s2, .fro (.int i3), i4, s5]) := by
  obtain ⟨ev2, g1, acc2, i3, i4, rfl, g3⟩ := for_run0 (u := _law_draws_b1) (mm := mName 4) (enc := fun k : Nat => D.int (k : Int)) (xs := List.range 60)
    (ev := [s0, .own (acc.map .int), s2, .fro (.int x), s4, s5])
    (fun p2 ev => ∃ (acc2 : List Int) (i3 : Int) (i4 : L), ev = [s0, .own (acc2.map .int), s2, .fro (.int i3), i4, s5] ∧ acc2.length ≤ acc.length + p2.length)
    ⟨acc, _, s4, rfl, Nat.le_refl _⟩ (by
      intro p2 b post2 ev2 he2 hR2
      obtain ⟨acc2, i3, i4, rfl, hl2⟩ := hR2
      obtain ⟨_, hp2⟩ := range_at he2
      have hlen : acc2.length < 16777216 := by omega
      by_cases hp : 0 < i3
      · refine ⟨_, [s0, .own ((acc2 ++ [i3 % 65536]).map .int), s2, .fro (.int (i3 / 65536)), .fro (.int b), s5], rfl, .inl ?_, _, _, _, rfl, ?_⟩
        · simp [_law_draws_b1, hp, hlen]
        · simp
          omega
      · refine ⟨_, [s0, .own (acc2.map .int), s2, .fro (.int i3), .fro (.int b), s5], rfl, .inl ?_, acc2, i3, _, rfl, ?_⟩
        · simp [_law_draws_b1, hp]
        · simp
          omega)
  exact ⟨acc2, i3, i4, by simpa using g3, g1⟩
theorem st_a {s0 s1 s2 s4 s5 : L} {y p a : Int} (h : (y * 48271 + (p + 1) * 69621) % 2147483647 = a) :
    (sSetL 5 (lF (c2 oMod (cCB bInt (aCons (c2 oAdd (c2 oMul (cVar 3) (cC (.int 48271))) (c2 oMul (c2 oAdd (cVar 2) (cC (.int 1))) (cC (.int 69621)))) aNil)) (cC (.int 2147483647))))) [s0, s1, .fro (.int p), .fro (.int y), s4, s5] = some (.nx [s0, s1, .fro (.int p), .fro (.int y), s4, .fro (.int a)]) := by
  simp [h]
theorem st_b {s0 s1 s2 s4 s5 : L} {y p a c : Int} (h : (a * 16807 + 11 * p + 5) % 2147483629 = c) :
    (sSetL 5 (lF (c2 oMod (cCB bInt (aCons (c2 oAdd (c2 oAdd (c2 oMul (cVar 5) (cC (.int 16807))) (c2 oMul (cC (.int 11)) (cVar 2))) (cC (.int 5))) aNil)) (cC (.int 2147483629))))) [s0, s1, .fro (.int p), .fro (.int y), s4, .fro (.int a)] = some (.nx [s0, s1, .fro (.int p), .fro (.int y), s4, .fro (.int c)]) := by
  simp [h]
theorem st_c {s0 s1 s2 s3 s4 s5 : L} {a : Int} {acc : List Int} (hl : acc.length < 16777216) :
    (sApp 1 (c2 oMod (cCB bInt (aCons (cVar 5) aNil)) (cC (.int 65536)))) [s0, .own (acc.map .int), s2, s3, s4, .fro (.int a)] = some (.nx [s0, .own ((acc ++ [a % 65536]).map .int), s2, s3, s4, .fro (.int a)]) := by
  simp [hl]
theorem st_d {s0 s1 s2 s3 s4 s5 : L} {a : Int} {acc : List Int} (hl : acc.length < 16777216) :
    (sApp 1 (c2 oMod (cCB bInt (aCons (c2 oDiv (cVar 5) (cC (.int 65536))) aNil)) (cC (.int 32768)))) [s0, .own (acc.map .int), s2, s3, s4, .fro (.int a)] = some (.nx [s0, .own ((acc ++ [a / 65536 % 32768]).map .int), s2, s3, s4, .fro (.int a)]) := by
  simp [hl]
theorem st_e {ns : List Int} {p : Nat} {x y : Int} {s1 s3 s4 s5 : L} (hx : atI ns (p : Int) = some x) (hy : (if x < 0 then -x else x) = y) :
    (sSetL 3 (lF (cCB bAbs (aCons (c2 oIx (cVar 0) (cVar 2)) aNil)))) [.fro (.scr ns), s1, .fro (.int p), s3, s4, s5] = some (.nx [.fro (.scr ns), s1, .fro (.int p), .fro (.int y), s4, s5]) := by
  simp [hx, hy]
theorem st_f {s0 s1 s2 s4 s5 : L} {y b : Int} (hp : oPow (.int 10) (.int 18) = some (.int b)) : (tOf (c2 oGe (cVar 3) (c2 oPow (cC (.int 10)) (cC (.int 18))))) [s0, s1, s2, .fro (.int y), s4, s5] = some (decide (b ≤ y)) := by
  simp [hp]
theorem cell_small {ns : List Int} {p : Nat} {x y b : Int} {acc : List Int} {j2 j3 j4 j5 : L} (hp : oPow (.int 10) (.int 18) = some (.int b)) (hx : atI ns (p : Int) = some x) (hy : (if x < 0 then -x else x) = y) (h0 : y < b) (ha : acc.length ≤ 4000) :
    ∃ a b c : Int, _law_draws_b2 [.fro (.scr ns), .own (acc.map .int), .fro (.int p), j3, j4, j5] = some (.nx [.fro (.scr ns), .own ((acc ++ [a] ++ [b]).map .int), .fro (.int p), .fro (.int y), j4, .fro (.int c)]) := by
  have hl : acc.length < 16777216 := by omega
  obtain ⟨a1, h1⟩ : ∃ a1, (y * 48271 + ((p : Int) + 1) * 69621) % 2147483647 = a1 := ⟨_, rfl⟩
  obtain ⟨a2, h2⟩ : ∃ a2, (a1 * 16807 + 11 * (p : Int) + 5) % 2147483629 = a2 := ⟨_, rfl⟩
  refine ⟨a2 % 65536, a2 / 65536 % 32768, a2, ?_⟩
  have hl2 : (acc ++ [a2 % 65536]).length < 16777216 := by
    rw [List.length_append]
    show acc.length + 1 < _
    omega
  unfold _law_draws_b2
  rw [seq_nx (st_e hx hy), v_sif, st_f hp, decide_eq_false (by omega), qIf_f, seq_nx (st_a h1), seq_nx (st_b h2), seq_nx (st_c hl), st_d hl2]
  all_goals exact j4
theorem cell_big {ns : List Int} {p : Nat} {x y b : Int} {acc : List Int} {j2 j3 j4 j5 : L} (hp : oPow (.int 10) (.int 18) = some (.int b)) (hx : atI ns (p : Int) = some x) (hy : (if x < 0 then -x else x) = y) (h0 : b ≤ y) (ha : acc.length ≤ 4000) :
    ∃ (acc2 : List Int) (i3 : Int) (i4 : L), acc2.length ≤ acc.length + 60 ∧ _law_draws_b2 [.fro (.scr ns), .own (acc.map .int), .fro (.int p), j3, j4, j5] = some (.nx [.fro (.scr ns), .own (acc2.map .int), .fro (.int p), .fro (.int i3), i4, j5]) := by
  obtain ⟨acc2, i3, i4, g3, g1⟩ := digits_ok (s0 := .fro (.scr ns)) (s2 := .fro (.int p)) (s4 := j4) (s5 := j5) (x := y) (acc := acc) ha
  refine ⟨acc2, i3, i4, g3, ?_⟩
  simp only [_law_draws_b2]
  simp [hx, hy, hp, h0, r60, g1]
theorem draws_ok (ns : List Int) (hn : ns.length ≤ 63) : ∃ dr : List Int, m__law_draws [.scr ns] = some (.lst (dr.map .int)) := by
  obtain ⟨b, hp, hb⟩ := pow18
  obtain ⟨ev', h1, acc, j2, j3, j4, j5, rfl, h3⟩ := for_run0 (u := _law_draws_b2) (mm := mName 2) (enc := fun k : Nat => D.int (k : Int)) (xs := List.range ns.length)
    (ev := [.fro (.scr ns), .own [], .un, .un, .un, .un])
    (fun pre ev => ∃ (acc : List Int) (j2 j3 j4 j5 : L), ev = [.fro (.scr ns), .own (acc.map .int), j2, j3, j4, j5] ∧ acc.length ≤ 60 * pre.length)
    ⟨[], .un, .un, .un, .un, rfl, Nat.le_refl _⟩ (by
      intro pre a post ev he hR
      obtain ⟨acc, j2, j3, j4, j5, rfl, hl⟩ := hR
      obtain ⟨rfl, hlt⟩ := range_at he
      have hx : atI ns ((pre.length : Nat) : Int) = some ns[pre.length] := by rw [atI_n, List.getElem?_eq_getElem hlt]
      generalize ns[pre.length] = x at hx
      obtain ⟨y, hy⟩ : ∃ y, (if x < 0 then -x else x) = y := ⟨_, rfl⟩
      by_cases h : b ≤ y
      · obtain ⟨acc2, i3, i4, g3, g1⟩ := cell_big (j2 := j2) (j3 := j3) (j4 := j4) (j5 := j5) (acc := acc) hp hx hy h (by omega)
        refine ⟨_, _, rfl, .inl g1, acc2, _, _, _, _, rfl, ?_⟩
        rw [List.length_append]
        show acc2.length ≤ 60 * (pre.length + 1)
        omega
      · obtain ⟨c1, c2, c3, g1⟩ := cell_small (j2 := j2) (j3 := j3) (j4 := j4) (j5 := j5) (acc := acc) hp hx hy (by omega) (by omega)
        refine ⟨_, _, rfl, .inl g1, acc ++ [c1] ++ [c2], _, _, _, _, rfl, ?_⟩
        simp only [List.length_append, List.length_singleton]
        omega)
  refine ⟨acc, run_fn rfl ?_⟩
  have hm : bMin [.int 63, .int (ns.length : Int)] = some (.int (ns.length : Int)) := by
    rw [v_bmin]
    congr 2
    split <;> omega
  have hb : (ns.length : Int) < 4611686018427387904 := by omega
  have hb' : -4611686018427387904 ≤ (ns.length : Int) := by omega
  simp [-v_bmin, body__law_draws, _law_draws_s1, _law_draws_s2, _law_draws_s3, hm, hb, hb', rangeD_n, h1]
end K63


set_option maxRecDepth 100000
set_option maxHeartbeats 4000000
namespace K63
open PySem PySem.Spec PyProof.Rows L2 Z
/-! ### links with their minutes -/
structure Ln where
  one : Nat
  two : Nat
  there : Int
  back : Int
  m0 : Int
  m1 : Int
deriving DecidableEq
def encL (l : Ln) : D := .tup [.int l.one, .int l.two, .int l.there, .int l.back]
def encM (l : Ln) : D := .tup [.int l.m0, .int l.m1]
structure GoodL (n : Nat) (l : Ln) : Prop where
  one : l.one < n
  two : l.two < n
  ne : l.one ≠ l.two
  t1 : 1 ≤ l.there
  t2 : l.there ≤ 10
  b1 : 1 ≤ l.back
  b2 : l.back ≤ 10
  m0 : 0 ≤ l.m0
  m1 : 0 ≤ l.m1
  n0 : l.m0 ≤ 1000
  n1 : l.m1 ≤ 1000
structure Hop where
  k : Nat
  e : Nat
  to : Nat
  cost : Int
  time : Int
deriving DecidableEq
def encH (h : Hop) : D := .tup [.tup [.int h.k, .int h.e], .int h.to, .int h.cost, .int h.time]
def hopsAt (r : Nat) (p : Ln × Nat) : List Hop := (if p.1.one = r then [⟨p.2, 0, p.1.two, p.1.there, p.1.m0⟩] else []) ++ (if p.1.two = r then [⟨p.2, 1, p.1.one, p.1.back, p.1.m1⟩] else [])
def hopsOf (net : List Ln) (r : Nat) : List Hop := net.zipIdx.flatMap (hopsAt r)
theorem eqT {a b : Int} (h : a = b) : oEq (.int a) (.int b) = some (.bl true) := by rw [oEq_int, decide_eq_true h]
theorem eqF {a b : Int} (h : a ≠ b) : oEq (.int a) (.int b) = some (.bl false) := by rw [oEq_int, decide_eq_false h]
theorem en_links (net : List Ln) : enumD (net.map encL) = net.zipIdx.map fun p : Ln × Nat => D.tup [.int (p.2 : Nat), encL p.1] := by
  unfold enumD
  rw [List.zipIdx_map, List.map_map]
  rfl
theorem hops_turn {net : List Ln} {r : Nat} {acc : List Hop} {p : Ln × Nat} (hp : p ∈ net.zipIdx) (ha : acc.length < 16777000) :
    hops_of_b1 [.fro (.lst (net.map encL)), .fro (.lst (net.map encM)), .fro (.int r), .own (acc.map encH), .fro (.int (p.2 : Nat)), .fro (.int p.1.one), .fro (.int p.1.two), .fro (.int p.1.there), .fro (.int p.1.back)]
      = some (.nx [.fro (.lst (net.map encL)), .fro (.lst (net.map encM)), .fro (.int r), .own ((acc ++ hopsAt r p).map encH), .fro (.int (p.2 : Nat)), .fro (.int p.1.one), .fro (.int p.1.two), .fro (.int p.1.there), .fro (.int p.1.back)]) := by
  obtain ⟨l, k⟩ := p
  have hk := (List.mem_zipIdx' hp).2
  have hlt : k < net.length := (List.mem_zipIdx' hp).1
  have hat : atI (net.map encM) (k : Int) = some (D.tup [.int l.m0, .int l.m1]) := by
    rw [atI_n, List.getElem?_map, List.getElem?_eq_getElem hlt, ← hk]
    rfl
  have g1 : acc.length < 16777216 := by omega
  have g2 : acc.length + 1 < 16777216 := by omega
  unfold hopsAt
  dsimp only
  by_cases h1 : l.one = r
  · have e1 : oEq (.int (l.one : Int)) (.int (r : Int)) = some (.bl true) := eqT (by omega)
    by_cases h2 : l.two = r
    · have e2 : oEq (.int (l.two : Int)) (.int (r : Int)) = some (.bl true) := eqT (by omega)
      rw [if_pos h1, if_pos h2]
      simp [-oEq_int, hops_of_b1, e1, e2, hat, g1, g2, encH]
    · have e2 : oEq (.int (l.two : Int)) (.int (r : Int)) = some (.bl false) := eqF (by omega)
      rw [if_pos h1, if_neg h2]
      simp [-oEq_int, hops_of_b1, e1, e2, hat, g1, g2, encH]
  · have e1 : oEq (.int (l.one : Int)) (.int (r : Int)) = some (.bl false) := eqF (by omega)
    by_cases h2 : l.two = r
    · have e2 : oEq (.int (l.two : Int)) (.int (r : Int)) = some (.bl true) := eqT (by omega)
      rw [if_neg h1, if_pos h2]
      simp [-oEq_int, hops_of_b1, e1, e2, hat, g1, g2, encH]
    · have e2 : oEq (.int (l.two : Int)) (.int (r : Int)) = some (.bl false) := eqF (by omega)
      rw [if_neg h1, if_neg h2]
      simp [-oEq_int, hops_of_b1, e1, e2, hat, g1, g2, encH]
theorem hopsAt_len (r : Nat) (p : Ln × Nat) : (hopsAt r p).length ≤ 2 := by
  unfold hopsAt
  rw [List.length_append]
  split <;> split <;> simp
theorem flat_len {α β : Type} {f : α → List β} {k : Nat} (h : ∀ x, (f x).length ≤ k) : ∀ xs : List α, (xs.flatMap f).length ≤ k * xs.length
  | [] => Nat.le_refl _
  | x :: xs => by
    rw [List.flatMap_cons, List.length_append, List.length_cons]
    have := flat_len h xs
    have := h x
    rw [Nat.mul_add, Nat.mul_one]
    omega
theorem m_hops {net : List Ln} {r : Nat} (hn : net.length ≤ 1000) : m_hops_of [.lst (net.map encL), .lst (net.map encM), .int r] = some (.lst ((hopsOf net r).map encH)) := by
  obtain ⟨ev', h1, j4, j5, j6, j7, j8, rfl⟩ := for_run0 (u := hops_of_b1) (mm := mTup (mCons (mName 4) (mCons (mTup (mCons (mName 5) (mCons (mName 6) (mCons (mName 7) (mCons (mName 8) mNil))))) mNil)))
    (enc := fun p : Ln × Nat => D.tup [.int (p.2 : Nat), encL p.1]) (xs := net.zipIdx)
    (ev := [.fro (.lst (net.map encL)), .fro (.lst (net.map encM)), .fro (.int r), .own [], .un, .un, .un, .un, .un])
    (fun pre ev => ∃ (j4 j5 j6 j7 j8 : L), ev = [.fro (.lst (net.map encL)), .fro (.lst (net.map encM)), .fro (.int r), .own ((pre.flatMap (hopsAt r)).map encH), j4, j5, j6, j7, j8])
    ⟨.un, .un, .un, .un, .un, rfl⟩ (by
      intro pre p post ev he hR
      obtain ⟨j4, j5, j6, j7, j8, rfl⟩ := hR
      have hpl : pre.length < net.length := by
        have := congrArg List.length he
        simp at this
        omega
      have hlen := flat_len (hopsAt_len r) pre
      have hpm : p ∈ net.zipIdx := by rw [← he]; simp
      have ht := hops_turn (net := net) (r := r) (acc := pre.flatMap (hopsAt r)) (p := p) hpm (by omega)
      refine ⟨_, _, ?_, .inl ht, .fro (.int (p.2 : Nat)), .fro (.int p.1.one), .fro (.int p.1.two), .fro (.int p.1.there), .fro (.int p.1.back), ?_⟩
      · simp [encL]
      · rw [List.flatMap_append]
        simp)
  refine run_fn rfl ?_
  simp [body_hops_of, hops_of_s1, hops_of_s2, hops_of_s3, en_links, h1, hopsOf]
end K63


set_option maxRecDepth 100000
set_option maxHeartbeats 4000000
namespace K63
open PySem PySem.Spec PyProof.Rows L2 Z
abbrev Fr := List (Int × Int)
def ubStep (acc : Fr) (p : Int × Int) : Fr := match acc.getLast? with
  | none => acc ++ [p]
  | some q => if p.2 < q.2 then acc ++ [p] else acc
def unb (ps : Fr) : Fr := (ssort ps).foldl ubStep []
theorem ubStep_len (acc : Fr) (p : Int × Int) : (ubStep acc p).length ≤ acc.length + 1 := by
  unfold ubStep
  split
  · simp
  · split
    · simp
    · omega
theorem ubFold_len : ∀ (s acc : Fr), (s.foldl ubStep acc).length ≤ acc.length + s.length
  | [], acc => Nat.le_refl _
  | p :: s, acc => by
    rw [List.foldl_cons, List.length_cons]
    have h1 := ubFold_len s (ubStep acc p)
    have h2 := ubStep_len acc p
    omega
theorem once_len : ∀ ps : Fr, (once ps).length ≤ ps.length
  | [] => Nat.le_refl _
  | p :: ps => by
    unfold once
    have := once_len ps
    split
    · rw [List.length_cons]
      omega
    · rw [List.length_cons, List.length_cons]
      omega
theorem ssort_len (ps : Fr) : (ssort ps).length ≤ ps.length := by
  unfold ssort
  rw [List.length_mergeSort]
  exact once_len ps
theorem unb_turn {s0 : L} {acc : Fr} {p : Int × Int} (ha : acc.length < 16777216) :
    unbeaten_b1 [s0, .own (acc.map encP), .fro (.int p.1), .fro (.int p.2)] = some (.nx [s0, .own ((ubStep acc p).map encP), .fro (.int p.1), .fro (.int p.2)]) := by
  unfold ubStep
  rcases List.eq_nil_or_concat acc with rfl | ⟨a, q, rfl⟩
  · simp [unbeaten_b1, encP]
  · rw [List.concat_eq_append] at ha ⊢
    have hx : atI ((a ++ [q]).map encP) (-1) = some (D.tup [.int q.1, .int q.2]) := by
      rw [atI_back (by simp), List.getLast?_map, List.getLast?_concat]
      rfl
    have hl : oEq (.int (((a ++ [q]).length : Nat) : Int)) (.int 0) = some (.bl false) := eqF (by simp; omega)
    rw [List.getLast?_concat]
    generalize a ++ [q] = b at ha hx hl ⊢
    by_cases h : p.2 < q.2
    · simp [-oEq_int, unbeaten_b1, hl, hx, h, ha, encP]
    · simp [-oEq_int, unbeaten_b1, hl, hx, h]
theorem m_unb {ps : Fr} (h : ps.length < 1200) : m_unbeaten [.lst (ps.map encP)] = some (.lst ((unb ps).map encP)) := by
  have hk : kSS (aCons (cVar 0) aNil) [.fro (.lst (ps.map encP)), .own [], .un, .un] = some ((ssort ps).map encP) := by
    unfold kSS
    have : aCons (cVar 0) aNil [L.fro (.lst (ps.map encP)), .own [], .un, .un] = some [D.lst (ps.map encP)] := by simp
    rw [this]
    show (asPs (ps.map encP)).bind _ = _
    rw [asPs_map, Option.bind_some, if_pos h]
  obtain ⟨ev', h1, j2, j3, rfl⟩ := for_run0 (u := unbeaten_b1) (mm := mTup (mCons (mName 2) (mCons (mName 3) mNil))) (enc := encP) (xs := ssort ps)
    (ev := [.fro (.lst (ps.map encP)), .own [], .un, .un])
    (fun pre ev => ∃ (j2 j3 : L), ev = [.fro (.lst (ps.map encP)), .own ((pre.foldl ubStep []).map encP), j2, j3])
    ⟨.un, .un, rfl⟩ (by
      intro pre p post ev he hR
      obtain ⟨j2, j3, rfl⟩ := hR
      have hpl := congrArg List.length he
      have hsl := ssort_len ps
      have hfl := ubFold_len pre []
      have ht := unb_turn (s0 := .fro (.lst (ps.map encP))) (acc := pre.foldl ubStep []) (p := p) (by simp at hpl hfl; omega)
      refine ⟨_, _, ?_, .inl ht, .fro (.int p.1), .fro (.int p.2), ?_⟩
      · simp [encP]
      · rw [List.foldl_append]
        rfl)
  refine run_fn rfl ?_
  unfold unb
  simp [body_unbeaten, unbeaten_s1, unbeaten_s2, unbeaten_s3, hk, h1]
/-! fronts of all routers -/
def encF (F : List Fr) : D := .lst (F.map fun U => D.lst (U.map encP))
def shift (h : Hop) (p : Int × Int) : Int × Int := (h.cost + p.1, h.time + p.2)
def cands (told : List Fr) (hs : List Hop) : Fr := hs.flatMap fun h => (told.getD h.to []).map (shift h)
theorem cands_app (told : List Fr) (a b : List Hop) : cands told (a ++ b) = cands told a ++ cands told b := List.flatMap_append
theorem cands_one (told : List Fr) (h : Hop) : cands told [h] = (told.getD h.to []).map (shift h) := by
  unfold cands
  simp
def cand (net : List Ln) (told : List Fr) (r : Nat) : Fr := cands told (hopsOf net r)
theorem mem_hops {net : List Ln} {r : Nat} {h : Hop} : h ∈ hopsOf net r ↔ ∃ p ∈ net.zipIdx, h ∈ hopsAt r p := by
  unfold hopsOf
  rw [List.mem_flatMap]
theorem hop_to {n : Nat} {net : List Ln} (hg : ∀ l ∈ net, GoodL n l) {r : Nat} {h : Hop} (hh : h ∈ hopsOf net r) : h.to < n ∧ h.to ≠ r ∧ 1 ≤ h.cost ∧ h.cost ≤ 10 ∧ 0 ≤ h.time := by
  obtain ⟨⟨l, k⟩, h1, h2⟩ := mem_hops.mp hh
  have g := hg l (List.fst_mem_of_mem_zipIdx h1)
  have g1 := g.one
  have g2 := g.two
  have g3 := g.ne
  unfold hopsAt at h2
  rcases List.mem_append.mp h2 with z | z
  · split at z
    · rename_i e
      obtain rfl := List.mem_singleton.mp z
      dsimp only at e
      exact ⟨g2, fun y => g3 (e.trans y.symm), g.t1, g.t2, g.m0⟩
    · cases z
  · split at z
    · rename_i e
      obtain rfl := List.mem_singleton.mp z
      dsimp only at e
      exact ⟨g1, fun y => g3 (y.trans e.symm), g.b1, g.b2, g.m1⟩
    · cases z
theorem told_at {told : List Fr} {j : Nat} (h : j < told.length) : atI (told.map fun U => D.lst (U.map encP)) (j : Int) = some (D.lst ((told.getD j []).map encP)) := by
  rw [atI_n, List.getElem?_map, List.getD_eq_getElem?_getD, List.getElem?_eq_getElem h]
  rfl
theorem next_turn {told : List Fr} {h : Hop} {acc : Fr} {s0 s1 s2 : L} (ht : h.to < told.length) (hsz : acc.length + (told.getD h.to []).length < 1200) :
    next_front_b1 [s0, s1, s2, .fro (encF told), .own (acc.map encP), .fro (.tup [.int h.k, .int h.e]), .fro (.int h.to), .fro (.int h.cost), .fro (.int h.time), .un, .un]
      = some (.nx [s0, s1, s2, .fro (encF told), .own ((acc ++ cands told [h]).map encP), .fro (.tup [.int h.k, .int h.e]), .fro (.int h.to), .fro (.int h.cost), .fro (.int h.time), .un, .un]) := by
  have hat := told_at ht
  rw [cands_one]
  generalize told.getD h.to [] = U at hat hsz ⊢
  have hk : kComp (iLst (c2 oIx (cVar 3) (cVar 6))) (mTup (mCons (mName 9) (mCons (mName 10) mNil))) (fun _ => some true) next_front_e1 [9, 10]
      [s0, s1, s2, .fro (encF told), .own (acc.map encP), .fro (.tup [.int h.k, .int h.e]), .fro (.int h.to), .fro (.int h.cost), .fro (.int h.time), .un, .un] = some ((U.map (shift h)).map encP) := by
    rw [comp_map (enc := encP) (r := fun p => encP (shift h p)) (xs := U)]
    · rw [List.map_map]
      rfl
    · unfold encF
      simp [hat]
    · omega
    · intro p _
      simp [next_front_e1, encP, shift]
  have hsz2 : acc.length + (U.map (shift h)).length ≤ 16777216 := by
    rw [List.length_map]
    omega
  generalize U.map (shift h) = W at hk hsz2 ⊢
  unfold encF at hk ⊢
  simp [next_front_b1, hk, hsz2]
theorem m_next {n : Nat} {net : List Ln} {told : List Fr} {r : Nat} (hg : ∀ l ∈ net, GoodL n l) (hn : net.length ≤ 1000) (ht : told.length = n) (hc : (cand net told r).length < 1200) :
    m_next_front [.lst (net.map encL), .lst (net.map encM), .int r, encF told] = some (.lst ((unb (cand net told r)).map encP)) := by
  obtain ⟨ev', h1, j5, j6, j7, j8, rfl⟩ := for_run0 (u := next_front_b1) (mm := mTup (mCons (mName 5) (mCons (mName 6) (mCons (mName 7) (mCons (mName 8) mNil))))) (enc := encH) (xs := hopsOf net r)
    (ev := [.fro (.lst (net.map encL)), .fro (.lst (net.map encM)), .fro (.int r), .fro (encF told), .own [], .un, .un, .un, .un, .un, .un])
    (fun pre ev => ∃ (j5 j6 j7 j8 : L), ev = [.fro (.lst (net.map encL)), .fro (.lst (net.map encM)), .fro (.int r), .fro (encF told), .own ((cands told pre).map encP), j5, j6, j7, j8, .un, .un])
    ⟨.un, .un, .un, .un, rfl⟩ (by
      intro pre h post ev he hR
      obtain ⟨j5, j6, j7, j8, rfl⟩ := hR
      have hmem : h ∈ hopsOf net r := by rw [← he]; simp
      obtain ⟨q1, q2, q3, q4, q5⟩ := hop_to hg hmem
      have hsz : (cands told pre).length + (told.getD h.to []).length < 1200 := by
        have e : cand net told r = cands told pre ++ (cands told [h] ++ cands told post) := by
          unfold cand
          rw [← he, ← cands_app, ← cands_app]
          rfl
        rw [e, cands_one] at hc
        simp only [List.length_append, List.length_map] at hc
        omega
      have hturn := next_turn (told := told) (h := h) (acc := cands told pre) (s0 := .fro (.lst (net.map encL))) (s1 := .fro (.lst (net.map encM))) (s2 := .fro (.int r)) (by omega) hsz
      refine ⟨_, _, ?_, .inl hturn, .fro (.tup [.int h.k, .int h.e]), .fro (.int h.to), .fro (.int h.cost), .fro (.int h.time), by rw [cands_app]⟩
      simp [encH])
  refine run_fn rfl ?_
  have hu := m_unb hc
  have hh := m_hops (net := net) (r := r) hn
  unfold cand at hu ⊢
  simp [body_next_front, next_front_s1, next_front_s2, next_front_s3, hh, h1, hu]
end K63


set_option maxRecDepth 100000
set_option maxHeartbeats 4000000
namespace K63
open PySem PySem.Spec PyProof.Rows L2 Z
def tell0 (n g : Nat) : List Fr := (List.range n).map fun r => if r = g then [(0, 0)] else []
def tellS (net : List Ln) (n g : Nat) (told : List Fr) : List Fr := (List.range n).map fun r => if r = g then told.getD g [] else unb (cand net told r)
def tellK (net : List Ln) (n g : Nat) : Nat → List Fr
  | 0 => tell0 n g
  | k + 1 => tellS net n g (tellK net n g k)
theorem tellK_len {net : List Ln} {n g : Nat} : ∀ k, (tellK net n g k).length = n
  | 0 => by simp [tellK, tell0]
  | k + 1 => by simp [tellK, tellS]
abbrev encFr (U : Fr) : D := .lst (U.map encP)
theorem rng {n : Nat} (h : n ≤ 16) : -4611686018427387904 ≤ (n : Int) ∧ (n : Int) < 4611686018427387904 := by omega
theorem find_e1 {n g : Nat} {ev : EV} (h16 : n ≤ 16) (h0 : ev[0]? = some (.fro (.int n))) (h3 : ev[3]? = some (.fro (.int g))) (h7 : 7 < ev.length) :
    kComp (iR1 (aCons (cVar 0) aNil)) (mName 7) (fun _ => some true) find_fronts_e1 [7] ev = some ((tell0 n g).map encFr) := by
  rw [comp_map (enc := fun x : Nat => D.int (x : Int)) (r := fun r : Nat => encFr (if r = g then [(0, 0)] else [])) (xs := List.range n)]
  · unfold tell0
    rw [List.map_map]
    rfl
  · have := rng h16
    simp [h0, this, rangeD_n]
  · rw [List.length_range]
    omega
  · intro r _
    have g1 : (List.set (List.set ev 7 L.un) 7 (.fro (.int r)))[3]? = some (.fro (.int g)) := by rw [List.getElem?_set_ne (by decide), List.getElem?_set_ne (by decide), h3]
    have g3 : (List.set (List.set ev 7 L.un) 7 (.fro (.int r)))[7]? = some (.fro (.int r)) := by rw [List.getElem?_set_self (by rw [List.length_set]; exact h7)]
    show qC1 (fun _ => some true) find_fronts_e1 (some (List.set (List.set ev 7 L.un) 7 (.fro (.int r)))) = _
    generalize List.set (List.set ev 7 L.un) 7 (.fro (.int r)) = ev2 at g1 g3 ⊢
    by_cases h : r = g
    · have e : oEq (.int (r : Int)) (.int (g : Int)) = some (.bl true) := eqT (by omega)
      rw [if_pos h]
      simp [-oEq_int, find_fronts_e1, g1, g3, e, encP]
    · have e : oEq (.int (r : Int)) (.int (g : Int)) = some (.bl false) := eqF (by omega)
      rw [if_neg h]
      simp [-oEq_int, find_fronts_e1, g1, g3, e]
theorem find_turn {n g : Nat} {net : List Ln} {told : List Fr} {j5 j6 j7 : L} (h16 : n ≤ 16) (hg : ∀ l ∈ net, GoodL n l) (hgn : g < n) (hn : net.length ≤ 1000) (ht : told.length = n) (hc : ∀ r, r < n → (cand net told r).length < 1200) :
    ∃ i6 : L, find_fronts_b1 [.fro (.int n), .fro (.lst (net.map encL)), .fro (.lst (net.map encM)), .fro (.int g), .fro (encF told), j5, j6, j7] = some (.nx [.fro (.int n), .fro (.lst (net.map encL)), .fro (.lst (net.map encM)), .fro (.int g), .fro (encF (tellS net n g told)), j5, i6, j7]) := by
  obtain ⟨rows, hrows⟩ : ∃ rows, rows = (List.range n).map fun r => unb (cand net told r) := ⟨_, rfl⟩
  have k1 : kComp (iR1 (aCons (cVar 0) aNil)) (mName 7) (fun _ => some true) find_fronts_e2 [7] [.fro (.int n), .fro (.lst (net.map encL)), .fro (.lst (net.map encM)), .fro (.int g), .fro (encF told), j5, j6, j7] = some (rows.map encFr) := by
    rw [comp_map (enc := fun x : Nat => D.int (x : Int)) (r := fun r : Nat => encFr (unb (cand net told r))) (xs := List.range n)]
    · rw [hrows, List.map_map]
      rfl
    · have := rng h16
      simp [this, rangeD_n]
    · rw [List.length_range]
      omega
    · intro r hr
      have := m_next hg hn ht (hc r (List.mem_range.mp hr))
      simp [find_fronts_e2, this]
  have k2 : kComp (iR1 (aCons (cVar 0) aNil)) (mName 7) (fun _ => some true) find_fronts_e3 [7] [.fro (.int n), .fro (.lst (net.map encL)), .fro (.lst (net.map encM)), .fro (.int g), .fro (encF told), j5, .fro (.lst (rows.map encFr)), j7] = some ((tellS net n g told).map encFr) := by
    rw [comp_map (enc := fun x : Nat => D.int (x : Int)) (r := fun r : Nat => encFr (if r = g then told.getD g [] else unb (cand net told r))) (xs := List.range n)]
    · unfold tellS
      rw [List.map_map]
      rfl
    · have := rng h16
      simp [this, rangeD_n]
    · rw [List.length_range]
      omega
    · intro r hr
      have hr' := List.mem_range.mp hr
      have a1 := told_at (told := told) (j := g) (by omega)
      have a2 : atI (rows.map encFr) (r : Int) = some (encFr (unb (cand net told r))) := by
        rw [hrows, atI_n, List.map_map, List.getElem?_map, List.getElem?_range hr']
        rfl
      by_cases h : r = g
      · have e : oEq (.int (r : Int)) (.int (g : Int)) = some (.bl true) := eqT (by omega)
        rw [if_pos h]
        unfold encF
        simp [-oEq_int, find_fronts_e3, e, a1]
      · have e : oEq (.int (r : Int)) (.int (g : Int)) = some (.bl false) := eqF (by omega)
        rw [if_neg h]
        simp [-oEq_int, find_fronts_e3, e, a2]
  refine ⟨.fro (.lst (rows.map encFr)), ?_⟩
  have e2 : encF (tellS net n g told) = .lst ((tellS net n g told).map encFr) := rfl
  rw [e2]
  generalize rows.map encFr = R at k1 k2 ⊢
  generalize (tellS net n g told).map encFr = R2 at k2 ⊢
  generalize encF told = T at k1 k2 ⊢
  simp [find_fronts_b1, k1, k2]
theorem m_find {n g : Nat} {net : List Ln} (h16 : n ≤ 16) (hg : ∀ l ∈ net, GoodL n l) (hgn : g < n) (hn : net.length ≤ 1000) (hc : ∀ k r, k < n → r < n → (cand net (tellK net n g k) r).length < 1200) (hl : ∀ r, r < n → ((tellK net n g n).getD r []).length ≤ 300) :
    m_find_fronts [.int n, .lst (net.map encL), .lst (net.map encM), .int g] = some (encF (tellK net n g n)) := by
  have k0 := find_e1 (n := n) (g := g) (ev := [.fro (.int n), .fro (.lst (net.map encL)), .fro (.lst (net.map encM)), .fro (.int g), .un, .un, .un, .un]) h16 rfl rfl (show 7 < 8 by decide)
  obtain ⟨ev', h1, j5, j6, rfl⟩ := for_run0 (u := find_fronts_b1) (mm := mName 5) (enc := fun k : Nat => D.int (k : Int)) (xs := List.range n)
    (ev := [.fro (.int n), .fro (.lst (net.map encL)), .fro (.lst (net.map encM)), .fro (.int g), .fro (encF (tell0 n g)), .un, .un, .un])
    (fun pre ev => ∃ (j5 j6 : L), ev = [.fro (.int n), .fro (.lst (net.map encL)), .fro (.lst (net.map encM)), .fro (.int g), .fro (encF (tellK net n g pre.length)), j5, j6, .un])
    ⟨.un, .un, rfl⟩ (by
      intro pre a post ev he hR
      obtain ⟨j5, j6, rfl⟩ := hR
      obtain ⟨rfl, hlt⟩ := range_at he
      obtain ⟨i6, ht⟩ := find_turn (told := tellK net n g pre.length) (j5 := .fro (.int pre.length)) (j6 := j6) (j7 := .un) h16 hg hgn hn (tellK_len _) (fun r hr => hc _ r hlt hr)
      exact ⟨_, _, rfl, .inl ht, _, _, by rw [List.length_append]; rfl⟩)
  rw [List.length_range] at h1
  obtain ⟨ev', h2, j7, rfl⟩ := for_run0 (u := find_fronts_b2) (mm := mName 7) (enc := fun k : Nat => D.int (k : Int)) (xs := List.range n)
    (ev := [.fro (.int n), .fro (.lst (net.map encL)), .fro (.lst (net.map encM)), .fro (.int g), .fro (encF (tellK net n g n)), j5, j6, .un])
    (fun pre ev => ∃ (j7 : L), ev = [.fro (.int n), .fro (.lst (net.map encL)), .fro (.lst (net.map encM)), .fro (.int g), .fro (encF (tellK net n g n)), j5, j6, j7])
    ⟨.un, rfl⟩ (by
      intro pre a post ev he hR
      obtain ⟨j7, rfl⟩ := hR
      obtain ⟨rfl, hlt⟩ := range_at he
      have hat := told_at (told := tellK net n g n) (j := pre.length) (by rw [tellK_len]; exact hlt)
      have hle := hl pre.length hlt
      have hgt : oGt (.int ((((tellK net n g n).getD pre.length []).length : Nat) : Int)) (.int 300) = some (.bl false) := by
        rw [v_gt, decide_eq_false (by omega)]
      generalize (tellK net n g n).getD pre.length [] = U at hat hgt
      refine ⟨_, _, rfl, .inl ?_, .fro (.int pre.length), rfl⟩
      unfold encF
      simp [-v_gt, find_fronts_b2, hat, hgt])
  refine run_fn rfl ?_
  have := rng h16
  have k0' : encF (tell0 n g) = .lst ((tell0 n g).map encFr) := rfl
  rw [k0'] at h1
  generalize (tell0 n g).map encFr = T0 at k0 h1
  generalize encF (tellK net n g n) = T at h1 h2 ⊢
  simp [body_find_fronts, find_fronts_s1, find_fronts_s2, find_fronts_s3, find_fronts_s4, k0, this, rangeD_n, h1, h2]
end K63


set_option maxRecDepth 100000
set_option maxHeartbeats 4000000
namespace K63
open PySem PySem.Spec PyProof.Rows L2 Z
theorem m_check_router_ok {n r : Nat} (h : r < n) : m_check_router [.int n, .int r] = some .non := by
  refine run_fnN (e := [.fro (.int n), .fro (.int r)]) rfl ?_
  simp [body_check_router, check_router_s1, h]
theorem m_check_links_ok {n : Nat} {net : List Ln} (hg : ∀ l ∈ net, GoodL n l) (hn : net.length ≤ 40) : m_check_links [.int n, .lst (net.map encL)] = some .non := by
  obtain ⟨ev', h3, j2, j3, j4, j5, j6, rfl⟩ := for_run0 (u := check_links_b1) (mm := mTup (mCons (mName 2) (mCons (mTup (mCons (mName 3) (mCons (mName 4) (mCons (mName 5) (mCons (mName 6) mNil))))) mNil)))
    (enc := fun p : Ln × Nat => D.tup [.int (p.2 : Nat), encL p.1]) (xs := net.zipIdx)
    (ev := [.fro (.int n), .fro (.lst (net.map encL)), .un, .un, .un, .un, .un])
    (fun pre ev => ∃ (j2 j3 j4 j5 j6 : L), ev = [.fro (.int n), .fro (.lst (net.map encL)), j2, j3, j4, j5, j6])
    ⟨.un, .un, .un, .un, .un, rfl⟩ (by
      intro pre a post ev he hR
      obtain ⟨j2, j3, j4, j5, j6, rfl⟩ := hR
      obtain ⟨l, i⟩ := a
      have hm : (l, i) ∈ net.zipIdx := by rw [← he]; simp
      have hi : i < 40 := by
        have := List.snd_lt_of_mem_zipIdx hm
        omega
      have g := hg l (List.fst_mem_of_mem_zipIdx hm)
      have g1 := g.one
      have g2 := g.two
      have g3 : oEq (.int (l.one : Int)) (.int (l.two : Int)) = some (.bl false) := eqF (by have := g.ne; omega)
      have g4 := g.t1
      have g5 : l.there ≤ 1000 := by have := g.t2; omega
      have g6 := g.b1
      have g7 : l.back ≤ 1000 := by have := g.b2; omega
      have hi' : oGe (.int (i : Int)) (.int 40) = some (.bl false) := by
        rw [v_ge, decide_eq_false (by omega)]
      refine ⟨[.fro (.int n), .fro (.lst (net.map encL)), .fro (.int i), .fro (.int l.one), .fro (.int l.two), .fro (.int l.there), .fro (.int l.back)], _, by simp [encL], .inl ?_, .fro (.int i), .fro (.int l.one), .fro (.int l.two), .fro (.int l.there), .fro (.int l.back), rfl⟩
      simp [-v_ge, -oEq_int, check_links_b1, hi', g1, g2, g3, g4, g5, g6, g7])
  refine run_fnN (e := [.fro (.int n), .fro (.lst (net.map encL)), j2, j3, j4, j5, j6]) rfl ?_
  simp [body_check_links, check_links_s1, en_links, h3]
theorem m_is_span_ok {n : Nat} {l : Ln} (g : GoodL n l) : m_is_span [encM l] = some (.bl true) := by
  have g1 := g.m0
  have g2 := g.n0
  have g3 := g.m1
  have g4 := g.n1
  have hk : kComp (iTuple (cVar 0)) (mName 1) (fun _ => some true) is_span_e1 [1] [.fro (encM l), .un] = some [.bl true, .bl true] := by
    rw [comp_map (enc := D.int) (r := fun _ => D.bl true) (xs := [l.m0, l.m1])]
    · rfl
    · simp [encM]
    · show 2 ≤ 16777216
      decide
    · intro x hx
      have hx' : 0 ≤ x ∧ x ≤ 1000 := by
        rcases List.mem_cons.mp hx with rfl | e
        · exact ⟨g1, g2⟩
        · rw [List.mem_singleton.mp e]
          exact ⟨g3, g4⟩
      simp [is_span_e1, hx'.1, hx'.2]
  refine run_fn rfl ?_
  unfold encM at hk ⊢
  simp [body_is_span, is_span_s1, hk, asBs]
theorem m_check_net_ok {n : Nat} {net : List Ln} (h1 : 1 ≤ n) (h16 : n ≤ 16) (hg : ∀ l ∈ net, GoodL n l) (hn : net.length ≤ 40) : m_check_net [.int n, .lst (net.map encL), .lst (net.map encM)] = some .non := by
  have hcut : Z.cutD (net.map encM) none (some ((net.length : Nat) : Int)) = net.map encM := by
    rw [cut_to, List.take_of_length_le (by rw [List.length_map]; exact Nat.le_refl _)]
  have hen : enumD (net.map encM) = net.zipIdx.map fun p : Ln × Nat => D.tup [.int (p.2 : Nat), encM p.1] := by
    unfold enumD
    rw [List.zipIdx_map, List.map_map]
    rfl
  obtain ⟨ev', h3, j3, j4, rfl⟩ := for_run0 (u := check_net_b1) (mm := mTup (mCons (mName 3) (mCons (mName 4) mNil))) (enc := fun p : Ln × Nat => D.tup [.int (p.2 : Nat), encM p.1]) (xs := net.zipIdx)
    (ev := [.fro (.int n), .fro (.lst (net.map encL)), .fro (.lst (net.map encM)), .un, .un])
    (fun pre ev => ∃ (j3 j4 : L), ev = [.fro (.int n), .fro (.lst (net.map encL)), .fro (.lst (net.map encM)), j3, j4])
    ⟨.un, .un, rfl⟩ (by
      intro pre a post ev he hR
      obtain ⟨j3, j4, rfl⟩ := hR
      obtain ⟨l, i⟩ := a
      have hm : (l, i) ∈ net.zipIdx := by rw [← he]; simp
      have hs := m_is_span_ok (hg l (List.fst_mem_of_mem_zipIdx hm))
      refine ⟨[.fro (.int n), .fro (.lst (net.map encL)), .fro (.lst (net.map encM)), .fro (.int i), .fro (encM l)], _, by simp, .inl ?_, .fro (.int i), .fro (encM l), rfl⟩
      simp [check_net_b1, hs])
  refine run_fnN (e := [.fro (.int n), .fro (.lst (net.map encL)), .fro (.lst (net.map encM)), j3, j4]) rfl ?_
  have g1 : (1 : Int) ≤ n := by omega
  have g2 : (n : Int) ≤ 16 := by omega
  have g3 : oNe (.int (net.length : Int)) (.int (net.length : Int)) = some (.bl false) := by rw [oNe_int, decide_eq_true rfl]; rfl
  simp [-oNe_int, body_check_net, check_net_s1, check_net_s2, check_net_s3, check_net_s4, m_check_links_ok hg hn, g1, g2, hcut, hen, h3, g3]
theorem m_check_ends_ok {n a b : Nat} {net : List Ln} (h1 : 1 ≤ n) (h16 : n ≤ 16) (hg : ∀ l ∈ net, GoodL n l) (hn : net.length ≤ 40) (ha : a < n) (hb : b < n) : m_check_ends [.int n, .lst (net.map encL), .lst (net.map encM), .int a, .int b] = some .non := by
  refine run_fnN (e := [.fro (.int n), .fro (.lst (net.map encL)), .fro (.lst (net.map encM)), .fro (.int a), .fro (.int b)]) rfl ?_
  simp [body_check_ends, check_ends_s1, check_ends_s2, check_ends_s3, m_check_net_ok h1 h16 hg hn, m_check_router_ok ha, m_check_router_ok hb]
/-- what holds of a net and a goal -/
structure Nx (n g : Nat) (net : List Ln) : Prop where
  h1 : 1 ≤ n
  h16 : n ≤ 16
  hg : ∀ l ∈ net, GoodL n l
  hn : net.length ≤ 40
  hgn : g < n
  hc : ∀ k r, k ≤ n → r < n → (cand net (tellK net n g k) r).length < 1200
  hl : ∀ r, r < n → ((tellK net n g n).getD r []).length ≤ 300
def told (net : List Ln) (n g : Nat) : List Fr := tellK net n g n
section
variable {n g : Nat} {net : List Ln}
theorem m_find' (N : Nx n g net) : m_find_fronts [.int n, .lst (net.map encL), .lst (net.map encM), .int g] = some (encF (told net n g)) :=
  m_find N.h16 N.hg N.hgn (by have := N.hn; omega) (fun k r hk hr => N.hc k r (Nat.le_of_lt hk) hr) N.hl
theorem m_fronts_eq (N : Nx n g net) : m_fronts [.int n, .lst (net.map encL), .lst (net.map encM), .int g] = some (encF (told net n g)) := by
  refine run_fn rfl ?_
  simp [body_fronts, fronts_s1, fronts_s2, fronts_s3, m_check_net_ok N.h1 N.h16 N.hg N.hn, m_check_router_ok N.hgn, m_find' N]
theorem EE.pair : EE 1 encP := EE.int.tup2 EE.int
theorem EE.fr : EE 2 encFr := EE.pair.list
theorem m_are_eq (N : Nx n g net) (h0 : (told net n g).getD g [] = [(0, 0)]) (hfix : ∀ r, r < n → r ≠ g → (told net n g).getD r [] = unb (cand net (told net n g) r)) : m_are_fronts [.int n, .lst (net.map encL), .lst (net.map encM), .int g, encF (told net n g)] = some (.bl true) := by
  have hlen : (told net n g).length = n := tellK_len n
  have hat : ∀ r, r < n → atI ((told net n g).map encFr) (r : Int) = some (encFr ((told net n g).getD r [])) := fun r hr => told_at (by rw [hlen]; exact hr)
  have k1 : kComp (iR1 (aCons (cVar 0) aNil)) (mName 6) are_fronts_q1 are_fronts_e1 [6] [.fro (.int n), .fro (.lst (net.map encL)), .fro (.lst (net.map encM)), .fro (.int g), .fro (encF (told net n g)), .un, .un]
      = some (((List.range n).filter fun r => decide (r ≠ g)).map fun r : Nat => D.int (r : Int)) := by
    rw [comp_filter (enc := fun x : Nat => D.int (x : Int)) (r := fun r : Nat => D.int (r : Int)) (P := fun r => decide (r ≠ g)) (xs := List.range n)]
    · have := rng N.h16
      simp [this, rangeD_n]
    · rw [List.length_range]
      have := N.h16
      omega
    · intro r _
      by_cases h : r = g
      · have e : oNe (.int (r : Int)) (.int (g : Int)) = some (.bl false) := by rw [oNe_int, decide_eq_true (by omega)]; rfl
        simp [-oNe_int, are_fronts_q1, are_fronts_e1, e, h]
        simpa [h] using e
      · have e : oNe (.int (r : Int)) (.int (g : Int)) = some (.bl true) := by rw [oNe_int, decide_eq_false (by omega)]; rfl
        simp [-oNe_int, are_fronts_q1, are_fronts_e1, e, h]
  have h00 : oNe (encFr [(0, 0)]) (.lst [.tup [.int 0, .int 0]]) = some (.bl false) := EE.fr.oNe (by decide) [(0, 0)] [(0, 0)]
  have hnn : oNe (.int (n : Int)) (.int (n : Int)) = some (.bl false) := by rw [oNe_int, decide_eq_true rfl]; rfl
  have hg0 := hat g N.hgn
  rw [h0] at hg0
  have k2 : ∀ j6 : L, kComp (iLst (cVar 5)) (mName 6) (fun _ => some true) are_fronts_e2 [6] [.fro (.int n), .fro (.lst (net.map encL)), .fro (.lst (net.map encM)), .fro (.int g), .fro (encF (told net n g)), .fro (.lst (((List.range n).filter fun r => decide (r ≠ g)).map fun r : Nat => D.int (r : Int))), j6]
      = some (((List.range n).filter fun r => decide (r ≠ g)).map fun _ => D.bl true) := by
    intro j6
    rw [comp_map (enc := fun x : Nat => D.int (x : Int)) (r := fun _ : Nat => D.bl true) (xs := (List.range n).filter fun r => decide (r ≠ g))]
    · simp
    · have h1 := List.length_filter_le (fun r => decide (r ≠ g)) (List.range n)
      rw [List.length_range] at h1
      have := N.h16
      omega
    · intro r hr
      obtain ⟨hr1, hr2⟩ := List.mem_filter.mp hr
      have hrn := List.mem_range.mp hr1
      have hrg : r ≠ g := of_decide_eq_true hr2
      have a1 := hat r hrn
      have a2 := m_next (told := told net n g) (r := r) N.hg (by have := N.hn; omega) hlen (N.hc n r (Nat.le_refl _) hrn)
      have a3 : oEq (encFr ((told net n g).getD r [])) (.lst ((unb (cand net (told net n g) r)).map encP)) = some (.bl true) := by
        rw [← hfix r hrn hrg]
        have := EE.fr.oEq (by decide) ((told net n g).getD r []) ((told net n g).getD r [])
        rw [decide_eq_true rfl] at this
        exact this
      generalize (unb (cand net (told net n g) r)).map encP = U at a2 a3
      generalize encFr ((told net n g).getD r []) = U2 at a1 a3
      have a4 : encF (told net n g) = .lst ((told net n g).map encFr) := rfl
      rw [a4] at a2 ⊢
      generalize (told net n g).map encFr = T at a1 a2 ⊢
      simp [are_fronts_e2, a1, a2, a3]
  have k3 := asBs_map (fun _ : Nat => true) ((List.range n).filter fun r => decide (r ≠ g))
  have k4 : (((List.range n).filter fun r => decide (r ≠ g)).map fun _ => true).all id = true := by
    rw [List.all_eq_true]
    intro b hb
    obtain ⟨_, _, rfl⟩ := List.mem_map.mp hb
    rfl
  have hl2 : bLen [encF (told net n g)] = some (.int n) := by
    show some (D.int (((told net n g).map encFr).length : Nat)) = _
    rw [List.length_map, hlen]
  have a4 : encF (told net n g) = .lst ((told net n g).map encFr) := rfl
  refine run_fn rfl ?_
  have k2' := k2 .un
  rw [a4] at k1 k2' hl2 ⊢
  generalize (told net n g).map encFr = T at k1 k2' hl2 hg0 ⊢
  generalize ((List.range n).filter fun r => decide (r ≠ g)) = os at k1 k2' k3 k4
  generalize encFr [(0, 0)] = U0 at hg0 h00
  simp [-oNe_int, -v_blen, body_are_fronts, are_fronts_s1, are_fronts_s2, are_fronts_s3, are_fronts_s4, are_fronts_s5, m_check_net_ok N.h1 N.h16 N.hg N.hn, m_check_router_ok N.hgn, hl2, hnn, hg0, h00, k1, k2', k3]
end
end K63


set_option maxRecDepth 100000
set_option maxHeartbeats 4000000
namespace K63
open PySem PySem.Spec PyProof.Rows L2 Z
section
variable {n g : Nat} {net : List Ln}
/-! ### limits, walks -/
def swp (p : Int × Int) : Int × Int := (p.2, p.1)
theorem leD_pair (p q : Int × Int) : leD (encP p) (encP q) = pLe p q := by
  unfold leD
  rw [PySem.W.dataLe_eq]
  show (!PySem.W.dataLt (.tuple [.int q.1, .int q.2]) (.tuple [.int p.1, .int p.2])) = _
  rw [PySem.W.dataLt_ii, ← decide_not]
  exact decide_eq_decide.mpr (by omega)
theorem sort_pairs (ps : Fr) : (ps.map encP).mergeSort leD = (ps.mergeSort pLe).map encP :=
  (List.map_mergeSort (r := pLe) (s := leD) (f := encP) (l := ps) fun a _ b _ => (leD_pair a b).symm).symm
theorem alike_pairs (ps : Fr) : PySem.W.AllAlike ((ps.map encP).map D.pd) := by
  intro d hd d' hd'
  obtain ⟨e, he, rfl⟩ := List.mem_map.mp hd
  obtain ⟨e', he', rfl⟩ := List.mem_map.mp hd'
  obtain ⟨p, _, rfl⟩ := List.mem_map.mp he
  obtain ⟨q, _, rfl⟩ := List.mem_map.mp he'
  rfl
theorem sortable_pairs (ps : Fr) : PySem.W.Sortable ((ps.map encP).map D.pd) := by
  left
  intro d hd
  obtain ⟨e, he, rfl⟩ := List.mem_map.mp hd
  obtain ⟨p, _, rfl⟩ := List.mem_map.mp he
  exact ⟨_, _, rfl⟩
theorem depth_pairs (ps : Fr) : ∀ d ∈ ps.map encP, d.pd.depth ≤ 64 := by
  intro d hd
  obtain ⟨p, _, rfl⟩ := List.mem_map.mp hd
  show max 0 (max 0 0) + 1 ≤ 64
  decide
theorem m_limits_eq (N : Nx n g net) {s : Nat} (hs : s < n) : m_limits [.int n, .lst (net.map encL), .lst (net.map encM), .int s, .int g] = some (.lst (((((told net n g).getD s []).map swp).mergeSort pLe).map encP)) := by
  have hat := told_at (told := told net n g) (j := s) (by unfold told; rw [tellK_len]; exact hs)
  have hl := N.hc n s (Nat.le_refl _) hs
  have hlen : ((told net n g).getD s []).length ≤ 300 := N.hl s hs
  have k1 : kComp (iLst (c2 oIx (cVar 5) (cVar 3))) (mTup (mCons (mName 6) (mCons (mName 7) mNil))) (fun _ => some true) limits_e1 [6, 7] [.fro (.int n), .fro (.lst (net.map encL)), .fro (.lst (net.map encM)), .fro (.int s), .fro (.int g), .fro (encF (told net n g)), .un, .un]
      = some ((((told net n g).getD s []).map swp).map encP) := by
    rw [comp_map (enc := encP) (r := fun p => encP (swp p)) (xs := (told net n g).getD s [])]
    · rw [List.map_map]
      rfl
    · unfold encF
      simp [hat]
    · omega
    · intro p _
      simp [limits_e1, encP, swp]
  generalize ((told net n g).getD s []).map swp = ps at k1 ⊢
  have k2 : kSort (aCons (cLst (kComp (iLst (c2 oIx (cVar 5) (cVar 3))) (mTup (mCons (mName 6) (mCons (mName 7) mNil))) (fun _ => some true) limits_e1 [6, 7])) aNil) [.fro (.int n), .fro (.lst (net.map encL)), .fro (.lst (net.map encM)), .fro (.int s), .fro (.int g), .fro (encF (told net n g)), .un, .un] = some ((ps.mergeSort pLe).map encP) := by
    have : aCons (cLst (kComp (iLst (c2 oIx (cVar 5) (cVar 3))) (mTup (mCons (mName 6) (mCons (mName 7) mNil))) (fun _ => some true) limits_e1 [6, 7])) aNil [L.fro (.int n), .fro (.lst (net.map encL)), .fro (.lst (net.map encM)), .fro (.int s), .fro (.int g), .fro (encF (told net n g)), .un, .un] = some [D.lst (ps.map encP)] := by
      simp [k1]
    unfold kSort
    rw [this]
    rw [← sort_pairs]
    exact if_pos ⟨alike_pairs ps, sortable_pairs ps, depth_pairs ps⟩
  refine run_fn rfl ?_
  have hf := m_find' N
  generalize encF (told net n g) = T at k2 hf
  simp [body_limits, limits_s1, limits_s2, limits_s3, m_check_ends_ok N.h1 N.h16 N.hg N.hn hs N.hgn, hf, k2]
/-! walk_by -/
/-- the hops by which a pair at a router can be gone on -/
def good (T : List Fr) (left : Int × Int) (h : Hop) : Bool := decide ((left.1 - h.cost, left.2 - h.time) ∈ T.getD h.to [])
def rest (left : Int × Int) (h : Hop) : Int × Int := (left.1 - h.cost, left.2 - h.time)
def encR (left : Int × Int) (h : Hop) : D := .tup [.tup [.int h.k, .int h.e], .int h.to, encP (rest left h)]
theorem walk_turn {T : List Fr} {left : Int × Int} {h : Hop} {acc : List Hop} {s0 s1 s3 s4 s5 s6 s7 : L} (ht : h.to < T.length) (ha : acc.length < 16777216) :
    walk_by_b1 [s0, s1, .fro (encF T), s3, s4, s5, s6, s7, .fro (encP left), .own (acc.map (encR left)), .fro (.tup [.int h.k, .int h.e]), .fro (.int h.to), .fro (.int h.cost), .fro (.int h.time)]
      = some (.nx [s0, s1, .fro (encF T), s3, s4, s5, s6, s7, .fro (encP left), .own ((if good T left h then acc ++ [h] else acc).map (encR left)), .fro (.tup [.int h.k, .int h.e]), .fro (.int h.to), .fro (.int h.cost), .fro (.int h.time)]) := by
  have hat := told_at ht
  have hm := EE.pair.mem (by decide) (T.getD h.to []) (rest left h)
  have hin : oIn (.tup [.int (left.1 - h.cost), .int (left.2 - h.time)]) (.lst ((T.getD h.to []).map encP)) = some (.bl (good T left h)) := by
    show (memD (encP (rest left h)) ((T.getD h.to []).map encP)).map D.bl = _
    rw [hm]
    exact congrArg (fun b => some (D.bl b)) (decide_eq_decide.mpr Iff.rfl)
  generalize good T left h = b at hin ⊢
  generalize T.getD h.to [] = U at hat hin
  unfold encF
  cases b with
  | true =>
    rw [if_pos rfl]
    simp [walk_by_b1, encP, hat, hin, ha, encR, rest]
  | false =>
    simp [walk_by_b1, encP, hat, hin]
end
end K63


set_option maxRecDepth 100000
set_option maxHeartbeats 4000000
namespace K63
open PySem PySem.Spec PyProof.Rows L2 Z
section
variable {n g : Nat} {net : List Ln}
def goods (net : List Ln) (T : List Fr) (left : Int × Int) (r : Nat) : List Hop := (hopsOf net r).filter (good T left)
def Wk (net : List Ln) (T : List Fr) (g : Nat) : Nat → (Int × Int) → List Hop → Prop
  | r, _, [] => r = g
  | r, left, h :: w => r ≠ g ∧ (∃ hs, goods net T left r = h :: hs) ∧ Wk net T g h.to (rest left h) w
def encI (h : Hop) : D := .tup [.int h.k, .int h.e]
def hlt (a b : Hop) : Prop := a.k < b.k ∨ (a.k = b.k ∧ a.e < b.e)
theorem hopsAt_pw (r : Nat) (p : Ln × Nat) : (hopsAt r p).Pairwise hlt := by
  unfold hopsAt
  split <;> split <;> simp [hlt]
theorem hops_from (r : Nat) : ∀ (net : List Ln) (i : Nat), ((net.zipIdx i).flatMap (hopsAt r)).Pairwise hlt ∧ ∀ h ∈ (net.zipIdx i).flatMap (hopsAt r), i ≤ h.k
  | [], i => ⟨List.Pairwise.nil, fun h hh => nomatch hh⟩
  | l :: net, i => by
    obtain ⟨h1, h2⟩ := hops_from r net (i + 1)
    rw [List.zipIdx_cons, List.flatMap_cons]
    have at_k : ∀ h ∈ hopsAt r (l, i), h.k = i := by
      intro h hh
      unfold hopsAt at hh
      rcases List.mem_append.mp hh with z | z
      · split at z
        · rw [List.mem_singleton.mp z]
        · cases z
      · split at z
        · rw [List.mem_singleton.mp z]
        · cases z
    refine ⟨List.pairwise_append.mpr ⟨hopsAt_pw r _, h1, fun a ha b hb => ?_⟩, fun h hh => ?_⟩
    · have e1 := at_k a ha
      have e2 := h2 b hb
      left
      omega
    · rcases List.mem_append.mp hh with z | z
      · have := at_k h z
        omega
      · have := h2 h z
        omega
theorem hops_pw (net : List Ln) (r : Nat) : (hopsOf net r).Pairwise hlt := (hops_from r net 0).1
/-! the least of the rows is the first -/
theorem row_pd (left : Int × Int) (h : Hop) : (encR left h).pd = .tuple [.tuple [.int h.k, .int h.e], .int h.to, .tuple [.int (rest left h).1, .int (rest left h).2]] := rfl
theorem row_lt (left : Int × Int) {a b : Hop} (h : hlt a b) : PySem.W.dataLt (encR left b).pd (encR left a).pd = false := by
  rw [row_pd, row_pd, PySem.W.dataLt_tuple, PySem.W.dataLt_cons (by rfl)]
  unfold hlt at h
  have e : PyData.eqv (.tuple [.int (b.k : Int), .int (b.e : Int)]) (.tuple [.int (a.k : Int), .int (a.e : Int)]) = false := by
    show ((b.k : Int) == (a.k : Int) && ((b.e : Int) == (a.e : Int) && true)) = false
    rw [Bool.and_true, Bool.and_eq_false_iff]
    by_cases c : a.k < b.k
    · left
      exact beq_eq_false_iff_ne.mpr (by omega)
    · right
      exact beq_eq_false_iff_ne.mpr (by omega)
  rw [e, if_neg Bool.false_ne_true, PySem.W.dataLt_ii]
  exact decide_eq_false (by omega)
theorem minD_first {x : PyData} : ∀ {xs : List PyData}, (∀ y ∈ xs, PySem.W.dataLt y x = false) → PySem.W.minD x xs = x
  | [], _ => rfl
  | y :: ys, h => by
    show PySem.W.minD (if PySem.W.dataLt y x then y else x) ys = x
    rw [h y List.mem_cons_self, if_neg Bool.false_ne_true]
    exact minD_first fun z hz => h z (List.mem_cons_of_mem _ hz)
theorem depthAll_le {m : Nat} : ∀ {xs : List PyData}, (∀ x ∈ xs, x.depth ≤ m) → PyData.depthAll xs ≤ m
  | [], _ => Nat.zero_le _
  | x :: xs, h => by
    show max x.depth (PyData.depthAll xs) ≤ m
    exact Nat.max_le.mpr ⟨h x List.mem_cons_self, depthAll_le fun y hy => h y (List.mem_cons_of_mem _ hy)⟩
theorem min_rows {left : Int × Int} {h : Hop} {hs : List Hop} (pw : (h :: hs).Pairwise hlt) : bMinD [.lst ((h :: hs).map (encR left))] = some (encR left h) := by
  have c1 : PySem.W.AlikeAll (((h :: hs).map (encR left)).map D.pd) := by
    constructor
    · intro d hd d' hd'
      obtain ⟨e, he, rfl⟩ := List.mem_map.mp hd
      obtain ⟨e', he', rfl⟩ := List.mem_map.mp hd'
      obtain ⟨p, _, rfl⟩ := List.mem_map.mp he
      obtain ⟨q, _, rfl⟩ := List.mem_map.mp he'
      rfl
    · intro d hd
      obtain ⟨e, he, rfl⟩ := List.mem_map.mp hd
      obtain ⟨p, _, rfl⟩ := List.mem_map.mp he
      exact fun z => nomatch z
  have c2 : PyData.depthAll (((h :: hs).map (encR left)).map D.pd) ≤ 64 := by
    refine depthAll_le fun d hd => ?_
    obtain ⟨e, he, rfl⟩ := List.mem_map.mp hd
    obtain ⟨p, _, rfl⟩ := List.mem_map.mp he
    show max (max 0 (max 0 0) + 1) (max 0 (max (max 0 (max 0 0) + 1) 0)) + 1 ≤ 64
    decide
  have c3 : ∀ x ∈ (h :: hs).map (encR left), ofPd x.pd = x := by
    intro x hx
    obtain ⟨p, _, rfl⟩ := List.mem_map.mp hx
    rfl
  have c4 : PySem.W.minD (encR left h).pd ((hs.map (encR left)).map D.pd) = (encR left h).pd := by
    refine minD_first fun y hy => ?_
    obtain ⟨e, he, rfl⟩ := List.mem_map.mp hy
    obtain ⟨q, hq, rfl⟩ := List.mem_map.mp he
    exact row_lt left ((List.pairwise_cons.mp pw).1 q hq)
  have c5 : ofPd (encR left h).pd = encR left h := rfl
  rw [List.map_cons] at c1 c2 c3 ⊢
  unfold bMinD
  rw [← c5]
  simp only
  rw [c5, if_pos ⟨c1, c2, c3⟩, c4, c5]
/-! the loop of walk_by -/
theorem rows_for {T : List Fr} {r : Nat} {left : Int × Int} {s0 s1 s3 s4 s5 s6 s7 j10 j11 j12 j13 : L} (hg : ∀ l ∈ net, GoodL n l) (hn : net.length ≤ 1000) (hT : T.length = n) :
    ∃ i10 i11 i12 i13 : L, forGo (mTup (mCons (mName 10) (mCons (mName 11) (mCons (mName 12) (mCons (mName 13) mNil))))) walk_by_b1 ((hopsOf net r).map encH) [s0, s1, .fro (encF T), s3, s4, s5, s6, s7, .fro (encP left), .own [], j10, j11, j12, j13]
      = some (.nx [s0, s1, .fro (encF T), s3, s4, s5, s6, s7, .fro (encP left), .own ((goods net T left r).map (encR left)), i10, i11, i12, i13]) := by
  obtain ⟨ev', h1, i10, i11, i12, i13, rfl⟩ := for_run0 (u := walk_by_b1) (mm := mTup (mCons (mName 10) (mCons (mName 11) (mCons (mName 12) (mCons (mName 13) mNil))))) (enc := encH) (xs := hopsOf net r)
    (ev := [s0, s1, .fro (encF T), s3, s4, s5, s6, s7, .fro (encP left), .own [], j10, j11, j12, j13])
    (fun pre ev => ∃ (i10 i11 i12 i13 : L), ev = [s0, s1, .fro (encF T), s3, s4, s5, s6, s7, .fro (encP left), .own ((pre.filter (good T left)).map (encR left)), i10, i11, i12, i13])
    ⟨_, _, _, _, rfl⟩ (by
      intro pre h post ev he hR
      obtain ⟨i10, i11, i12, i13, rfl⟩ := hR
      have hmem : h ∈ hopsOf net r := by rw [← he]; simp
      have hto := (hop_to hg hmem).1
      have hpl := congrArg List.length he
      have hl := flat_len (hopsAt_len r) net.zipIdx
      have hfl := List.length_filter_le (good T left) pre
      rw [List.length_zipIdx] at hl
      have hl' : (hopsOf net r).length ≤ 2 * net.length := hl
      rw [List.length_append, List.length_cons] at hpl
      have ht := walk_turn (T := T) (left := left) (h := h) (acc := pre.filter (good T left)) (s0 := s0) (s1 := s1) (s3 := s3) (s4 := s4) (s5 := s5) (s6 := s6) (s7 := s7) (by rw [hT]; exact hto) (by omega)
      refine ⟨[s0, s1, .fro (encF T), s3, s4, s5, s6, s7, .fro (encP left), .own ((pre.filter (good T left)).map (encR left)), .fro (.tup [.int h.k, .int h.e]), .fro (.int h.to), .fro (.int h.cost), .fro (.int h.time)], _, by simp [encH], .inl ht, .fro (.tup [.int h.k, .int h.e]), .fro (.int h.to), .fro (.int h.cost), .fro (.int h.time), ?_⟩
      rw [List.filter_append, List.filter_cons, List.filter_nil]
      cases good T left h
      · simp
      · rfl)
  exact ⟨i10, i11, i12, i13, h1⟩
theorem walk_go {T : List Fr} {s0 s1 s3 s4 s5 : L} (hg : ∀ l ∈ net, GoodL n l) (hn : net.length ≤ 1000) (hT : T.length = n) (h0 : s0 = .fro (.lst (net.map encL))) (h1 : s1 = .fro (.lst (net.map encM))) (h4 : s4 = .fro (.int g)) :
    ∀ {w : List Hop} {r : Nat} {left : Int × Int} {acc : List Hop} {j9 j10 j11 j12 j13 : L}, Wk net T g r left w → acc.length + w.length < 16777216 →
      ∃ i7 i8 i9 i10 i11 i12 i13 : L, whileGo walk_by_t1 walk_by_b2 (w.length + 1) [s0, s1, .fro (encF T), s3, s4, s5, .own (acc.map encI), .fro (.int r), .fro (encP left), j9, j10, j11, j12, j13]
        = some (.nx [s0, s1, .fro (encF T), s3, s4, s5, .own ((acc ++ w).map encI), i7, i8, i9, i10, i11, i12, i13])
  | [], r, left, acc, j9, j10, j11, j12, j13, hw, _ => by
    obtain rfl : r = g := hw
    have hne : oNe (.int (r : Int)) (.int (r : Int)) = some (.bl false) := by rw [oNe_int, decide_eq_true rfl]; rfl
    refine ⟨.fro (.int r), .fro (encP left), j9, j10, j11, j12, j13, ?_⟩
    subst h4
    have ht : walk_by_t1 [s0, s1, .fro (encF T), s3, .fro (.int r), s5, .own (acc.map encI), .fro (.int r), .fro (encP left), j9, j10, j11, j12, j13] = some false := by
      simp [-oNe_int, walk_by_t1, hne]
    unfold whileGo
    rw [ht, List.append_nil]
    rfl
  | h :: w, r, left, acc, j9, j10, j11, j12, j13, hw, hl => by
    obtain ⟨hr, ⟨hs, hgd⟩, hw'⟩ := hw
    rw [List.length_cons] at hl
    have hne : oNe (.int (r : Int)) (.int (g : Int)) = some (.bl true) := by rw [oNe_int, decide_eq_false (by omega)]; rfl
    obtain ⟨i10, i11, i12, i13, hrows⟩ := rows_for (r := r) (left := left) (T := T) (net := net) (s0 := s0) (s1 := s1) (s3 := s3) (s4 := s4) (s5 := s5) (s6 := .own (acc.map encI)) (s7 := .fro (.int r)) (j10 := j10) (j11 := j11) (j12 := j12) (j13 := j13) hg hn hT
    rw [hgd] at hrows
    have hpw : (h :: hs).Pairwise hlt := by
      rw [← hgd]
      exact (hops_pw net r).filter _
    have hmin := min_rows (left := left) hpw
    have hh := m_hops (net := net) (r := r) hn
    obtain ⟨i7, i8, i9, k10, k11, k12, k13, ih⟩ := walk_go (s3 := s3) (s5 := s5) hg hn hT h0 h1 h4 (acc := acc ++ [h]) (j9 := .fro (.lst ((h :: hs).map (encR left)))) (j10 := .fro (encI h)) (j11 := i11) (j12 := i12) (j13 := i13) hw' (by simp; omega)
    refine ⟨i7, i8, i9, k10, k11, k12, k13, ?_⟩
    subst h0
    subst h1
    subst h4
    have ht : walk_by_t1 [.fro (.lst (net.map encL)), .fro (.lst (net.map encM)), .fro (encF T), s3, .fro (.int g), s5, .own (acc.map encI), .fro (.int r), .fro (encP left), j9, j10, j11, j12, j13] = some true := by
      simp [-oNe_int, walk_by_t1, hne]
    have hb : walk_by_b2 [.fro (.lst (net.map encL)), .fro (.lst (net.map encM)), .fro (encF T), s3, .fro (.int g), s5, .own (acc.map encI), .fro (.int r), .fro (encP left), j9, j10, j11, j12, j13]
        = some (.nx [.fro (.lst (net.map encL)), .fro (.lst (net.map encM)), .fro (encF T), s3, .fro (.int g), s5, .own ((acc ++ [h]).map encI), .fro (.int h.to), .fro (encP (rest left h)), .fro (.lst ((h :: hs).map (encR left))), .fro (encI h), i11, i12, i13]) := by
      have hal : acc.length < 16777216 := by omega
      have hfl : (encR left h) = .tup [encI h, .int h.to, encP (rest left h)] := rfl
      rw [hfl] at hmin
      generalize (h :: hs).map (encR left) = rows at hmin hrows ⊢
      generalize encF T = TT at hrows ⊢
      simp [walk_by_b2, hh, hrows, hmin, hal]
    rw [show acc ++ h :: w = acc ++ [h] ++ w by simp]
    unfold whileGo
    rw [ht, Option.bind_some, if_pos rfl, hb, Option.bind_some]
    exact ih
theorem m_walk {T : List Fr} {s : Nat} {p : Int × Int} {w : List Hop} (hg : ∀ l ∈ net, GoodL n l) (hn : net.length ≤ 1000) (hT : T.length = n) (hw : Wk net T g s p w) (hl : w.length < 1000) :
    m_walk_by [.lst (net.map encL), .lst (net.map encM), encF T, .int s, .int g, encP p] = some (.lst (w.map encI)) := by
  obtain ⟨i7, i8, i9, i10, i11, i12, i13, h⟩ := walk_go (s3 := .fro (.int s)) (s5 := .fro (encP p)) hg hn hT rfl rfl rfl (acc := []) (j9 := .un) (j10 := .un) (j11 := .un) (j12 := .un) (j13 := .un) hw (by simp; omega)
  have h2 := sWhile_of h
  rw [List.nil_append] at h2
  refine run_fn rfl ?_
  generalize encF T = TT at h2 ⊢
  generalize encP p = PP at h2 ⊢
  simp [body_walk_by, walk_by_s1, walk_by_s2, walk_by_s3] at h2 ⊢
  simp [h2]
end
end K63


set_option maxRecDepth 100000
set_option maxHeartbeats 4000000
namespace K63
open PySem PySem.Spec PyProof.Rows L2 Z
section
variable {n g : Nat} {net : List Ln}
def within (U : Fr) (lim : Int) : Fr := U.filter fun p => decide (p.2 ≤ lim)
theorem within_comp (N : Nx n g net) {s : Nat} (hs : s < n) {lim : Int} {j7 j8 : L} : kComp (iLst (c2 oIx (cVar 6) (cVar 3))) (mName 8) cheapest_q1 cheapest_e1 [8] [.fro (.int n), .fro (.lst (net.map encL)), .fro (.lst (net.map encM)), .fro (.int s), .fro (.int g), .fro (.int lim), .fro (encF (told net n g)), j7, j8]
    = some ((within ((told net n g).getD s []) lim).map encP) := by
  have hat := told_at (told := told net n g) (j := s) (by unfold told; rw [tellK_len]; exact hs)
  have hlen : ((told net n g).getD s []).length ≤ 300 := N.hl s hs
  generalize (told net n g).getD s [] = U at hat hlen ⊢
  unfold within
  rw [comp_filter (enc := encP) (r := encP) (P := fun p => decide (p.2 ≤ lim)) (xs := U)]
  · unfold encF
    simp [hat]
  · omega
  · intro p _
    by_cases h : p.2 ≤ lim
    · simp [cheapest_q1, cheapest_e1, encP, h]
    · simp [cheapest_q1, cheapest_e1, encP, h]
theorem m_cheapest_some (N : Nx n g net) {s : Nat} (hs : s < n) {lim : Int} (h0 : 0 ≤ lim) {p : Int × Int} {ps : Fr} {w : List Hop} (hf : within ((told net n g).getD s []) lim = p :: ps) (hw : Wk net (told net n g) g s p w) (hl : w.length < 1000) :
    m_cheapest [.int n, .lst (net.map encL), .lst (net.map encM), .int s, .int g, .int lim] = some (.tup [encP p, .lst (w.map encI)]) := by
  have k1 := within_comp N hs (lim := lim) (j7 := .un) (j8 := .un)
  rw [hf] at k1
  have hm := m_walk (net := net) (T := told net n g) N.hg (by have := N.hn; omega) (tellK_len n) hw hl
  have hfi := m_find' N
  have hlt : oLt (.int lim) (.int 0) = some (.bl false) := by rw [Z.v_lt, decide_eq_false (by omega)]
  have hlen : oEq (.int (((p :: ps).map encP).length : Nat)) (.int 0) = some (.bl false) := eqF (by simp; omega)
  have hx : atI ((p :: ps).map encP) 0 = some (encP p) := by simp
  refine run_fn rfl ?_
  generalize (p :: ps).map encP = G at k1 hlen hx
  generalize encF (told net n g) = T at k1 hm hfi
  generalize encP p = E at hm hx ⊢
  simp [-Z.v_lt, -oEq_int, body_cheapest, cheapest_s1, cheapest_s2, cheapest_s3, cheapest_s4, cheapest_s5, cheapest_s6, m_check_ends_ok N.h1 N.h16 N.hg N.hn hs N.hgn, hlt, hfi, k1, hlen, hx, hm]
theorem m_cheapest_none (N : Nx n g net) {s : Nat} (hs : s < n) {lim : Int} (h0 : 0 ≤ lim) (hf : within ((told net n g).getD s []) lim = []) :
    m_cheapest [.int n, .lst (net.map encL), .lst (net.map encM), .int s, .int g, .int lim] = some .non := by
  have k1 := within_comp N hs (lim := lim) (j7 := .un) (j8 := .un)
  rw [hf] at k1
  have hfi := m_find' N
  have hlt : oLt (.int lim) (.int 0) = some (.bl false) := by rw [Z.v_lt, decide_eq_false (by omega)]
  refine run_fn rfl ?_
  generalize encF (told net n g) = T at k1 hfi
  simp [-Z.v_lt, body_cheapest, cheapest_s1, cheapest_s2, cheapest_s3, cheapest_s4, cheapest_s5, cheapest_s6, m_check_ends_ok N.h1 N.h16 N.hg N.hn hs N.hgn, hlt, hfi, k1]
end
/-! ### the law's own costs -/
def relax (f : Nat → Option Int) (s e : Nat) (c : Int) : Nat → Option Int := match f e with
  | none => f
  | some y => match f s with
    | none => fun r => if r = s then some (y + c) else f r
    | some x => if x > y + c then fun r => if r = s then some (y + c) else f r else f
end K63


set_option maxRecDepth 100000
set_option maxHeartbeats 4000000
namespace K63
open PySem PySem.Spec PyProof.Rows L2 Z
/-! the plain law of fronts -/
def dom (u p : Int × Int) : Prop := u.1 ≤ p.1 ∧ u.2 ≤ p.2
def par (a b : Int × Int) : Prop := a.1 < b.1 ∧ b.2 < a.2
theorem dom_trans {a b c : Int × Int} (h1 : dom a b) (h2 : dom b c) : dom a c := ⟨by have := h1.1; have := h2.1; omega, by have := h1.2; have := h2.2; omega⟩
structure Un (ps U : Fr) : Prop where
  pw : U.Pairwise par
  sub : ∀ u ∈ U, u ∈ ps
  all : ∀ p ∈ ps, ∃ u ∈ U, dom u p
theorem ub_inv : ∀ (s pre : Fr) (acc : Fr), (pre ++ s).Pairwise plt → Un pre acc → Un (pre ++ s) (s.foldl ubStep acc)
  | [], pre, acc, _, h => by
    rw [List.append_nil]
    exact h
  | p :: s, pre, acc, hp, h => by
    have hpre : ∀ q ∈ pre, plt q p := fun q hq => (List.pairwise_append.mp hp).2.2 q hq p List.mem_cons_self
    rw [List.foldl_cons]
    have e : pre ++ p :: s = (pre ++ [p]) ++ s := by simp
    rw [e] at hp ⊢
    refine ub_inv s (pre ++ [p]) _ hp ?_
    unfold ubStep
    rcases List.eq_nil_or_concat acc with rfl | ⟨a, q, rfl⟩
    · refine ⟨by simp, ?_, ?_⟩
      · intro u hu
        have hu' : u = p := by simpa using hu
        rw [hu']
        simp
      · intro x hx
        rcases List.mem_append.mp hx with hx | hx
        · obtain ⟨u, hu, _⟩ := h.all x hx
          cases hu
        · rw [List.mem_singleton.mp hx]
          exact ⟨p, by simp, Int.le_refl _, Int.le_refl _⟩
    · rw [List.concat_eq_append] at h ⊢
      rw [List.getLast?_concat]
      have hq := hpre q (h.sub q (by simp))
      have hle : ∀ q' ∈ a ++ [q], q.2 ≤ q'.2 := by
        intro q' hq'
        rcases List.mem_append.mp hq' with z | z
        · have := (List.pairwise_append.mp h.pw).2.2 q' z q (by simp)
          have := this.2
          omega
        · rw [List.mem_singleton.mp z]
          exact Int.le_refl _
      show Un (pre ++ [p]) (if p.2 < q.2 then a ++ [q] ++ [p] else a ++ [q])
      by_cases c : p.2 < q.2
      · rw [if_pos c]
        refine ⟨List.pairwise_append.mpr ⟨h.pw, by simp, ?_⟩, ?_, ?_⟩
        · intro q' hq' x hx
          rw [List.mem_singleton.mp hx]
          have h1 := hle q' hq'
          have h2 := hpre q' (h.sub q' hq')
          unfold plt at h2
          exact ⟨by omega, by omega⟩
        · intro u hu
          rcases List.mem_append.mp hu with z | z
          · exact List.mem_append_left _ (h.sub u z)
          · exact List.mem_append_right _ z
        · intro x hx
          rcases List.mem_append.mp hx with z | z
          · obtain ⟨u, hu, hd⟩ := h.all x z
            exact ⟨u, List.mem_append_left _ hu, hd⟩
          · rw [List.mem_singleton.mp z]
            exact ⟨p, by simp, Int.le_refl _, Int.le_refl _⟩
      · rw [if_neg c]
        refine ⟨h.pw, fun u hu => List.mem_append_left _ (h.sub u hu), ?_⟩
        intro x hx
        rcases List.mem_append.mp hx with z | z
        · exact h.all x z
        · rw [List.mem_singleton.mp z]
          unfold plt at hq
          exact ⟨q, by simp, by omega, by omega⟩
theorem unb_un (ps : Fr) : Un ps (unb ps) := by
  have h := ub_inv (ssort ps) [] [] (by rw [List.nil_append]; exact ssort_pw ps) ⟨List.Pairwise.nil, (fun _ h => nomatch h), (fun _ h => nomatch h)⟩
  rw [List.nil_append] at h
  exact ⟨h.pw, fun u hu => mem_ssort.mp (h.sub u hu), fun p hp => h.all p (mem_ssort.mpr hp)⟩
/-- nothing in a front beats another -/
theorem par_dom {U : Fr} (pw : U.Pairwise par) {u v : Int × Int} (hu : u ∈ U) (hv : v ∈ U) (h : dom u v) : u = v := by
  induction U with
  | nil => cases hu
  | cons x U ih =>
    obtain ⟨h1, h2⟩ := List.pairwise_cons.mp pw
    rcases List.mem_cons.mp hu with e | hu' <;> rcases List.mem_cons.mp hv with e' | hv'
    · rw [e, e']
    · have := h1 v hv'
      rw [← e] at this
      have := this.2
      have := h.2
      omega
    · have := h1 u hu'
      rw [← e'] at this
      have := this.1
      have := h.1
      omega
    · exact ih h2 hu' hv'
/-- two fronts that dominate each other are the same -/
theorem front_eq {U V : Fr} (pu : U.Pairwise par) (pv : V.Pairwise par) (h1 : ∀ u ∈ U, ∃ v ∈ V, dom v u) (h2 : ∀ v ∈ V, ∃ u ∈ U, dom u v) : U = V := by
  have mem : ∀ {A B : Fr}, A.Pairwise par → (∀ u ∈ A, ∃ v ∈ B, dom v u) → (∀ v ∈ B, ∃ u ∈ A, dom u v) → ∀ u ∈ A, u ∈ B := by
    intro A B pa g1 g2 u hu
    obtain ⟨v, hv, d1⟩ := g1 u hu
    obtain ⟨u', hu', d2⟩ := g2 v hv
    have e := par_dom pa hu' hu (dom_trans d2 d1)
    subst e
    have : v = u' := Prod.ext (by have := d1.1; have := d2.1; omega) (by have := d1.2; have := d2.2; omega)
    rw [← this]
    exact hv
  have nd : ∀ {A : Fr}, A.Pairwise par → A.Nodup := fun pa => List.Pairwise.imp (fun h e => by have := h.1; rw [e] at this; omega) pa
  refine List.Perm.eq_of_pairwise (le := fun a b => a.1 ≤ b.1) (fun a b ha hb x y => ?_) (List.Pairwise.imp (fun h => Int.le_of_lt h.1) pu) (List.Pairwise.imp (fun h => Int.le_of_lt h.1) pv) ((List.perm_ext_iff_of_nodup (nd pu) (nd pv)).mpr fun z => ⟨mem pu h1 h2 z, mem pv h2 h1 z⟩)
  have hb' : b ∈ U := mem pv h2 h1 b hb
  by_cases c : a.2 ≤ b.2
  · exact par_dom pu ha hb' ⟨x, c⟩
  · exact (par_dom pu hb' ha ⟨y, by omega⟩).symm
end K63


set_option maxRecDepth 100000
set_option maxHeartbeats 4000000
namespace K63
open PySem PySem.Spec PyProof.Rows L2 Z
section
variable {n g : Nat} {net : List Ln}
/-- walks to the goal, with what they cost and take -/
def Wlk (net : List Ln) (g : Nat) : Nat → List Hop → Int → Int → Prop
  | r, [], c, t => r = g ∧ c = 0 ∧ t = 0
  | r, h :: w, c, t => h ∈ hopsOf net r ∧ Wlk net g h.to w (c - h.cost) (t - h.time)
theorem tell0_get {r : Nat} (hr : r < n) : (tellK net n g 0).getD r [] = if r = g then [(0, 0)] else [] := by
  show (tell0 n g).getD r [] = _
  unfold tell0
  rw [List.getD_eq_getElem?_getD, List.getElem?_map, List.getElem?_range hr]
  rfl
theorem tellS_get {k r : Nat} (hr : r < n) : (tellK net n g (k + 1)).getD r [] = if r = g then (tellK net n g k).getD g [] else unb (cand net (tellK net n g k) r) := by
  show (tellS net n g (tellK net n g k)).getD r [] = _
  unfold tellS
  rw [List.getD_eq_getElem?_getD, List.getElem?_map, List.getElem?_range hr]
  rfl
theorem tell_goal (hg : g < n) : ∀ k, (tellK net n g k).getD g [] = [(0, 0)]
  | 0 => by rw [tell0_get hg, if_pos rfl]
  | k + 1 => by rw [tellS_get hg, if_pos rfl, tell_goal hg k]
theorem tell_par (hg : g < n) {r : Nat} (hr : r < n) : ∀ k, ((tellK net n g k).getD r []).Pairwise par
  | 0 => by
    rw [tell0_get hr]
    split <;> simp
  | k + 1 => by
    rw [tellS_get hr]
    split
    · rw [tell_goal hg]
      simp
    · exact (unb_un _).pw
theorem mem_cand {T : List Fr} {r : Nat} {u : Int × Int} : u ∈ cand net T r ↔ ∃ h ∈ hopsOf net r, ∃ p ∈ T.getD h.to [], shift h p = u := by
  unfold cand cands
  simp only [List.mem_flatMap, List.mem_map]
theorem sound (hG : ∀ l ∈ net, GoodL n l) (hg : g < n) : ∀ (k r : Nat) (u : Int × Int), r < n → u ∈ (tellK net n g k).getD r [] → ∃ w : List Hop, w.length ≤ k ∧ Wlk net g r w u.1 u.2
  | 0, r, u, hr, hu => by
    rw [tell0_get hr] at hu
    split at hu
    · rename_i e
      rw [List.mem_singleton.mp hu]
      exact ⟨[], Nat.le_refl _, e, rfl, rfl⟩
    · cases hu
  | k + 1, r, u, hr, hu => by
    rw [tellS_get hr] at hu
    split at hu
    · rename_i e
      rw [tell_goal hg] at hu
      rw [List.mem_singleton.mp hu]
      exact ⟨[], Nat.zero_le _, e, rfl, rfl⟩
    · obtain ⟨h, h1, p, h2, rfl⟩ := mem_cand.mp ((unb_un _).sub u hu)
      obtain ⟨w, w1, w2⟩ := sound hG hg k h.to p (hop_to hG h1).1 h2
      refine ⟨h :: w, by rw [List.length_cons]; omega, h1, ?_⟩
      show Wlk net g h.to w (h.cost + p.1 - h.cost) (h.time + p.2 - h.time)
      rw [show h.cost + p.1 - h.cost = p.1 by omega, show h.time + p.2 - h.time = p.2 by omega]
      exact w2
theorem wlk_nonneg (hG : ∀ l ∈ net, GoodL n l) : ∀ {w : List Hop} {r : Nat} {c t : Int}, Wlk net g r w c t → (w.length : Int) ≤ c ∧ c ≤ 10 * w.length ∧ 0 ≤ t
  | [], _, _, _, ⟨_, rfl, rfl⟩ => ⟨Int.le_refl _, Int.le_refl _, Int.le_refl _⟩
  | h :: w, _, _, _, ⟨h1, h2⟩ => by
    obtain ⟨_, _, q1, q2, q3⟩ := hop_to hG h1
    obtain ⟨a, b, c⟩ := wlk_nonneg hG h2
    rw [List.length_cons]
    omega
theorem complete (hG : ∀ l ∈ net, GoodL n l) (hg : g < n) : ∀ (w : List Hop) (k r : Nat) (c t : Int), w.length ≤ k → r < n → Wlk net g r w c t → ∃ u ∈ (tellK net n g k).getD r [], u.1 ≤ c ∧ u.2 ≤ t
  | [], k, r, c, t, _, _, ⟨e, e1, e2⟩ => by
    subst e
    rw [tell_goal hg]
    exact ⟨(0, 0), by simp, by omega, by omega⟩
  | h :: w, k, r, c, t, hk, hr, hw => by
    by_cases e : r = g
    · subst e
      obtain ⟨q1, _, q3⟩ := wlk_nonneg hG hw
      rw [tell_goal hg]
      exact ⟨(0, 0), by simp, by omega, q3⟩
    · obtain ⟨h1, h2⟩ := hw
      rw [List.length_cons] at hk
      obtain ⟨k, rfl⟩ : ∃ k', k = k' + 1 := ⟨k - 1, by omega⟩
      obtain ⟨p, p1, p2, p3⟩ := complete hG hg w k h.to _ _ (by omega) (hop_to hG h1).1 h2
      rw [tellS_get hr, if_neg e]
      obtain ⟨u, u1, u2⟩ := (unb_un (cand net (tellK net n g k) r)).all (shift h p) (mem_cand.mpr ⟨h, h1, p, p1, rfl⟩)
      have a := u2.1
      have b := u2.2
      unfold shift at a b
      exact ⟨u, u1, by omega, by omega⟩
/-! walks without rings -/
def stops : Nat → List Hop → List Nat
  | r, [] => [r]
  | r, h :: w => r :: stops h.to w
theorem stops_len : ∀ (w : List Hop) (r : Nat), (stops r w).length = w.length + 1
  | [], _ => rfl
  | h :: w, r => by
    show (stops h.to w).length + 1 = _
    rw [stops_len w]
    rfl
theorem stops_lt (hG : ∀ l ∈ net, GoodL n l) : ∀ {w : List Hop} {r : Nat} {c t : Int}, r < n → Wlk net g r w c t → ∀ q ∈ stops r w, q < n
  | [], r, _, _, hr, _, q, hq => by
    rw [List.mem_singleton.mp hq]
    exact hr
  | h :: w, r, _, _, hr, ⟨h1, h2⟩, q, hq => by
    rcases List.mem_cons.mp hq with e | hq
    · rw [e]
      exact hr
    · exact stops_lt hG (hop_to hG h1).1 h2 q hq
/-- from a stop on -/
theorem cut_at (hG : ∀ l ∈ net, GoodL n l) {v : Nat} : ∀ {w : List Hop} {r : Nat} {c t : Int}, Wlk net g r w c t → v ∈ stops r w → ∃ (w' : List Hop) (c' t' : Int), Wlk net g v w' c' t' ∧ c' ≤ c ∧ t' ≤ t ∧ List.Sublist (stops v w') (stops r w)
  | [], r, c, t, hw, hv => by
    obtain rfl := List.mem_singleton.mp hv
    exact ⟨[], c, t, hw, Int.le_refl _, Int.le_refl _, List.Sublist.refl _⟩
  | h :: w, r, c, t, hw, hv => by
    rcases List.mem_cons.mp hv with rfl | hv
    · exact ⟨h :: w, c, t, hw, Int.le_refl _, Int.le_refl _, List.Sublist.refl _⟩
    · obtain ⟨h1, h2⟩ := hw
      obtain ⟨w', c', t', a1, a2, a3, a4⟩ := cut_at hG h2 hv
      obtain ⟨_, _, q1, q2, q3⟩ := hop_to hG h1
      exact ⟨w', c', t', a1, by omega, by omega, a4.cons r⟩
theorem no_ring (hG : ∀ l ∈ net, GoodL n l) : ∀ {w : List Hop} {r : Nat} {c t : Int}, Wlk net g r w c t → ∃ (w' : List Hop) (c' t' : Int), Wlk net g r w' c' t' ∧ c' ≤ c ∧ t' ≤ t ∧ (stops r w').Nodup
  | [], r, c, t, hw => ⟨[], c, t, hw, Int.le_refl _, Int.le_refl _, by simp [stops]⟩
  | h :: w, r, c, t, hw => by
    obtain ⟨h1, h2⟩ := hw
    obtain ⟨w', c', t', a1, a2, a3, a4⟩ := no_ring hG h2
    obtain ⟨_, _, q1, q2, q3⟩ := hop_to hG h1
    by_cases hm : r ∈ stops h.to w'
    · obtain ⟨w2, c2, t2, b1, b2, b3, b4⟩ := cut_at hG a1 hm
      exact ⟨w2, c2, t2, b1, by omega, by omega, a4.sublist b4⟩
    · refine ⟨h :: w', c' + h.cost, t' + h.time, ⟨h1, ?_⟩, by omega, by omega, List.nodup_cons.mpr ⟨hm, a4⟩⟩
      rw [show c' + h.cost - h.cost = c' by omega, show t' + h.time - h.time = t' by omega]
      exact a1
theorem short (hG : ∀ l ∈ net, GoodL n l) {w : List Hop} {r : Nat} {c t : Int} (hr : r < n) (hw : Wlk net g r w c t) : ∃ (w' : List Hop) (c' t' : Int), w'.length < n ∧ Wlk net g r w' c' t' ∧ c' ≤ c ∧ t' ≤ t := by
  obtain ⟨w', c', t', a1, a2, a3, a4⟩ := no_ring hG hw
  have h := nat_nodup_len (stops r w') (List.range n) a4 fun q hq => List.mem_range.mpr (stops_lt hG hr a1 q hq)
  rw [stops_len, List.length_range] at h
  exact ⟨w', c', t', by omega, a1, a2, a3⟩
/-- the fronts hold their own -/
theorem tell_fix (hG : ∀ l ∈ net, GoodL n l) (hg : g < n) {r : Nat} (hr : r < n) {k : Nat} (hk : n - 1 ≤ k) : (tellK net n g (k + 1)).getD r [] = (tellK net n g k).getD r [] := by
  refine front_eq (tell_par hg hr _) (tell_par hg hr _) (fun u hu => ?_) fun u hu => ?_
  · obtain ⟨w, _, h2⟩ := sound hG hg _ r u hr hu
    obtain ⟨w', c', t', h3, h4, h5, h6⟩ := short hG hr h2
    obtain ⟨v, v1, v2, v3⟩ := complete hG hg w' k r c' t' (by omega) hr h4
    exact ⟨v, v1, by omega, by omega⟩
  · obtain ⟨w, h1, h2⟩ := sound hG hg _ r u hr hu
    obtain ⟨v, v1, v2, v3⟩ := complete hG hg w (k + 1) r _ _ (by omega) hr h2
    exact ⟨v, v1, v2, v3⟩
end
end K63


set_option maxRecDepth 100000
set_option maxHeartbeats 4000000
namespace K63
open PySem PySem.Spec PyProof.Rows L2 Z
section
variable {n g : Nat} {net : List Ln}
/-! sizes -/
theorem par_len {U : Fr} {m : Nat} (pw : U.Pairwise par) (h : ∀ u ∈ U, 0 ≤ u.1 ∧ u.1 ≤ m) : U.length ≤ m + 1 := by
  have nd : (U.map fun u => u.1.toNat).Nodup := by
    refine List.pairwise_map.mpr (List.Pairwise.imp_of_mem (fun {a b} ha hb x e => ?_) pw)
    have h1 := h a ha
    have h2 := h b hb
    have := x.1
    omega
  have := nat_nodup_len (U.map fun u => u.1.toNat) (List.range (m + 1)) nd fun x hx => by
    obtain ⟨u, hu, rfl⟩ := List.mem_map.mp hx
    have := h u hu
    exact List.mem_range.mpr (by omega)
  rw [List.length_map, List.length_range] at this
  exact this
theorem tell_len (hG : ∀ l ∈ net, GoodL n l) (hg : g < n) {r k : Nat} (hr : r < n) : ((tellK net n g k).getD r []).length ≤ 10 * k + 1 := by
  refine par_len (tell_par hg hr k) fun u hu => ?_
  obtain ⟨w, h1, h2⟩ := sound hG hg k r u hr hu
  obtain ⟨q1, q2, _⟩ := wlk_nonneg hG h2
  omega
theorem hopsAt_one (hG : ∀ l ∈ net, GoodL n l) {p : Ln × Nat} (hp : p.1 ∈ net) (r : Nat) : (hopsAt r p).length ≤ 1 := by
  have g := (hG _ hp).ne
  unfold hopsAt
  by_cases h1 : p.1.one = r
  · rw [if_pos h1, if_neg (fun h2 => g (h1.trans h2.symm))]
    simp
  · rw [if_neg h1]
    split <;> simp
theorem hops_len (hG : ∀ l ∈ net, GoodL n l) (r : Nat) : (hopsOf net r).length ≤ net.length := by
  have key : ∀ (ps : List (Ln × Nat)), (∀ p ∈ ps, p.1 ∈ net) → (ps.flatMap (hopsAt r)).length ≤ ps.length := by
    intro ps
    induction ps with
    | nil => exact fun _ => Nat.le_refl _
    | cons p ps ih =>
      intro h
      rw [List.flatMap_cons, List.length_append, List.length_cons]
      have h1 := hopsAt_one hG (h p List.mem_cons_self) r
      have h2 := ih fun q hq => h q (List.mem_cons_of_mem _ hq)
      omega
  have := key net.zipIdx fun p hp => List.fst_mem_of_mem_zipIdx hp
  rw [List.length_zipIdx] at this
  exact this
theorem cands_len {T : List Fr} {m : Nat} : ∀ {hs : List Hop}, (∀ h ∈ hs, (T.getD h.to []).length ≤ m) → (cands T hs).length ≤ m * hs.length
  | [], _ => Nat.le_refl _
  | h :: hs, hm => by
    have e : cands T (h :: hs) = cands T [h] ++ cands T hs := cands_app T [h] hs
    rw [e, cands_one, List.length_append, List.length_map, List.length_cons, Nat.mul_add, Nat.mul_one]
    have h1 := hm h List.mem_cons_self
    have h2 := cands_len (hs := hs) fun q hq => hm q (List.mem_cons_of_mem _ hq)
    omega
theorem nx_of (h1 : 1 ≤ n) (h6 : n ≤ 6) (hG : ∀ l ∈ net, GoodL n l) (hn : net.length ≤ 14) (hg : g < n) : Nx n g net := by
  refine ⟨h1, by omega, hG, by omega, hg, fun k r hk hr => ?_, fun r hr => ?_⟩
  · have a := cands_len (T := tellK net n g k) (m := 61) (hs := hopsOf net r) fun h hh => by
      have := tell_len hG hg (k := k) (hop_to hG hh).1
      omega
    have b := hops_len hG r
    unfold cand
    omega
  · have := tell_len hG hg (k := n) hr
    omega
/-! a walk by least hops -/
theorem told_fix (hG : ∀ l ∈ net, GoodL n l) (hg : g < n) {r : Nat} (hr : r < n) (hne : r ≠ g) : (told net n g).getD r [] = unb (cand net (told net n g) r) := by
  have := tell_fix hG hg hr (k := n) (by omega)
  rw [tellS_get hr, if_neg hne] at this
  exact this.symm
/-- from a pair of a front one walks on to the goal -/
theorem walk_ex (hG : ∀ l ∈ net, GoodL n l) (hg : g < n) : ∀ (m r : Nat) (p : Int × Int), r < n → p ∈ (told net n g).getD r [] → p.1 ≤ (m : Int) → ∃ w, Wk net (told net n g) g r p w ∧ w.length ≤ m := by
  intro m
  induction m with
  | zero =>
    intro r p hr hp hm
    by_cases e : r = g
    · exact ⟨[], e, Nat.le_refl _⟩
    · exfalso
      rw [told_fix hG hg hr e] at hp
      obtain ⟨h, h1, q, h2, rfl⟩ := mem_cand.mp ((unb_un _).sub p hp)
      obtain ⟨a1, _, a2, _⟩ := hop_to hG h1
      obtain ⟨w, _, hw⟩ := sound hG hg n h.to q a1 h2
      have := (wlk_nonneg hG hw).1
      unfold shift at hm
      have hm' : h.cost + q.1 ≤ (0 : Nat) := hm
      omega
  | succ m ih =>
    intro r p hr hp hm
    by_cases e : r = g
    · exact ⟨[], e, Nat.zero_le _⟩
    · have hp' := hp
      rw [told_fix hG hg hr e] at hp'
      obtain ⟨h0, h1, q, h2, h3⟩ := mem_cand.mp ((unb_un _).sub p hp')
      have hgood : good (told net n g) p h0 = true := by
        unfold good
        refine decide_eq_true ?_
        have : (p.1 - h0.cost, p.2 - h0.time) = q := by
          rw [← h3]
          unfold shift
          exact Prod.ext (by show h0.cost + q.1 - h0.cost = q.1; omega) (by show h0.time + q.2 - h0.time = q.2; omega)
        rw [this]
        exact h2
      have hm0 : h0 ∈ goods net (told net n g) p r := List.mem_filter.mpr ⟨h1, hgood⟩
      cases hgs : goods net (told net n g) p r with
      | nil =>
        rw [hgs] at hm0
        cases hm0
      | cons h hs =>
        have hh : h ∈ goods net (told net n g) p r := by rw [hgs]; exact List.mem_cons_self
        obtain ⟨b1, b2⟩ := List.mem_filter.mp hh
        have b3 : rest p h ∈ (told net n g).getD h.to [] := of_decide_eq_true b2
        obtain ⟨c1, _, c2, _⟩ := hop_to hG b1
        obtain ⟨w, w1, w2⟩ := ih h.to (rest p h) c1 b3 (by show p.1 - h.cost ≤ (m : Int); omega)
        exact ⟨h :: w, ⟨e, ⟨hs, hgs⟩, w1⟩, by rw [List.length_cons]; omega⟩
end
end K63


set_option maxRecDepth 100000
set_option maxHeartbeats 4000000
namespace K63
open PySem PySem.Spec PyProof.Rows L2 Z
abbrev Cst := List (Option Int)
def rlx (f : Cst) (s e : Nat) (c : Int) : Cst := match f.getD e none with
  | none => f
  | some y => match f.getD s none with
    | none => f.set s (some (y + c))
    | some x => if y + c < x then f.set s (some (y + c)) else f
def rlxL (f : Cst) (l : Ln) : Cst := rlx (rlx f l.one l.two l.there) l.two l.one l.back
def rndK (net : List Ln) (f0 : Cst) : Nat → Cst
  | 0 => f0
  | k + 1 => net.foldl rlxL (rndK net f0 k)
def cost0 (n g : Nat) : Cst := (List.range n).map fun r => if r = g then some 0 else none
theorem rlx_len (f : Cst) (s e : Nat) (c : Int) : (rlx f s e c).length = f.length := by
  unfold rlx
  split
  · rfl
  · split
    · rw [List.length_set]
    · split
      · rw [List.length_set]
      · rfl
theorem rlxL_len (f : Cst) (l : Ln) : (rlxL f l).length = f.length := by
  unfold rlxL
  rw [rlx_len, rlx_len]
theorem rnds_len : ∀ (ls : List Ln) (f : Cst), (ls.foldl rlxL f).length = f.length
  | [], _ => rfl
  | l :: ls, f => by rw [List.foldl_cons, rnds_len, rlxL_len]
theorem rndK_len {net : List Ln} {f0 : Cst} : ∀ k, (rndK net f0 k).length = f0.length
  | 0 => rfl
  | k + 1 => by
    show (net.foldl rlxL _).length = _
    rw [rnds_len, rndK_len k]
theorem atC {f : Cst} {j : Nat} (h : j < f.length) : atI (f.map encO) (j : Int) = some (encO (f.getD j none)) := by
  rw [atI_n, List.getElem?_map, List.getD_eq_getElem?_getD, List.getElem?_eq_getElem h]
  rfl
theorem rlx_turn {f : Cst} {s e : Nat} {c : Int} {s0 s1 s2 s4 s5 s6 s7 s8 s12 : L} (hs : s < f.length) (he : e < f.length) :
    _law_costs_b1 [s0, s1, s2, .own (f.map encO), s4, s5, s6, s7, s8, .fro (.int s), .fro (.int e), .fro (.int c), s12] = some (.nx [s0, s1, s2, .own ((rlx f s e c).map encO), s4, s5, s6, s7, s8, .fro (.int s), .fro (.int e), .fro (.int c), s12]) := by
  have e1 := atC hs
  have e2 := atC he
  have e3 : ixN f.length (s : Int) = some s := ixN_n hs
  obtain ⟨x, hx⟩ : ∃ x, f.getD s none = x := ⟨_, rfl⟩
  obtain ⟨y, hy⟩ : ∃ y, f.getD e none = y := ⟨_, rfl⟩
  unfold rlx
  rw [hx] at e1 ⊢
  rw [hy] at e2 ⊢
  cases y with
  | none => simp [_law_costs_b1, e1, e2]
  | some y =>
    cases x with
    | none => simp [_law_costs_b1, e1, e2, e3, List.map_set]
    | some x =>
      show _law_costs_b1 _ = some (.nx [s0, s1, s2, .own ((if y + c < x then f.set s (some (y + c)) else f).map encO), _, _, _, _, _, _, _, _, _])
      by_cases h : y + c < x
      · rw [if_pos h]
        simp [_law_costs_b1, e1, e2, e3, h, List.map_set]
      · rw [if_neg h]
        simp [_law_costs_b1, e1, e2, e3, h]
theorem link_turn {n : Nat} {f : Cst} {l : Ln} {s0 s1 s2 s4 j9 j10 j11 s12 : L} (hf : f.length = n) (hl : GoodL n l) :
    ∃ i9 i10 i11 : L, _law_costs_b2 [s0, s1, s2, .own (f.map encO), s4, .fro (.int l.one), .fro (.int l.two), .fro (.int l.there), .fro (.int l.back), j9, j10, j11, s12] = some (.nx [s0, s1, s2, .own ((rlxL f l).map encO), s4, .fro (.int l.one), .fro (.int l.two), .fro (.int l.there), .fro (.int l.back), i9, i10, i11, s12]) := by
  have h1 := hl.one
  have h2 := hl.two
  have t1 := rlx_turn (f := f) (s := l.one) (e := l.two) (c := l.there) (s0 := s0) (s1 := s1) (s2 := s2) (s4 := s4) (s5 := .fro (.int l.one)) (s6 := .fro (.int l.two)) (s7 := .fro (.int l.there)) (s8 := .fro (.int l.back)) (s12 := s12) (by omega) (by omega)
  have t2 := rlx_turn (f := rlx f l.one l.two l.there) (s := l.two) (e := l.one) (c := l.back) (s0 := s0) (s1 := s1) (s2 := s2) (s4 := s4) (s5 := .fro (.int l.one)) (s6 := .fro (.int l.two)) (s7 := .fro (.int l.there)) (s8 := .fro (.int l.back)) (s12 := s12) (by rw [rlx_len]; omega) (by rw [rlx_len]; omega)
  refine ⟨.fro (.int l.two), .fro (.int l.one), .fro (.int l.back), ?_⟩
  unfold rlxL
  simp [_law_costs_b2, for_cons, for_nil, t1, t2]
end K63


set_option maxRecDepth 100000
set_option maxHeartbeats 4000000
namespace K63
open PySem PySem.Spec PyProof.Rows L2 Z
theorem cost0_enc {n g : Nat} : (cost0 n g).map encO = (List.range n).map fun r : Nat => if r = g then D.int 0 else D.non := by
  unfold cost0
  rw [List.map_map]
  apply List.map_congr_left
  intro r _
  show encO (if r = g then some 0 else none) = _
  split <;> rfl
theorem m_costs {n g : Nat} {net : List Ln} (h16 : n ≤ 16) (hG : ∀ l ∈ net, GoodL n l) : m__law_costs [.int n, .lst (net.map encL), .int g] = some (.lst ((rndK net (cost0 n g) n).map encO)) := by
  have hl0 : (cost0 n g).length = n := by simp [cost0]
  have hk : kComp (iR1 (aCons (cVar 0) aNil)) (mName 12) (fun _ => some true) _law_costs_e1 [12] [.fro (.int n), .fro (.lst (net.map encL)), .fro (.int g), .un, .un, .un, .un, .un, .un, .un, .un, .un, .un] = some ((cost0 n g).map encO) := by
    rw [comp_map (enc := fun x : Nat => D.int (x : Int)) (r := fun r : Nat => if r = g then D.int 0 else D.non) (xs := List.range n), cost0_enc]
    · have := rng h16
      simp [this, rangeD_n]
    · rw [List.length_range]
      omega
    · intro r _
      by_cases h : r = g
      · have e : oEq (.int (r : Int)) (.int (g : Int)) = some (.bl true) := eqT (by omega)
        rw [if_pos h]
        simp [-oEq_int, _law_costs_e1, e]
      · have e : oEq (.int (r : Int)) (.int (g : Int)) = some (.bl false) := eqF (by omega)
        rw [if_neg h]
        simp [-oEq_int, _law_costs_e1, e]
  obtain ⟨ev', h1, j4, j5, j6, j7, j8, j9, j10, j11, rfl⟩ := for_run0 (u := _law_costs_b3) (mm := mName 4) (enc := fun k : Nat => D.int (k : Int)) (xs := List.range n)
    (ev := [.fro (.int n), .fro (.lst (net.map encL)), .fro (.int g), .own ((cost0 n g).map encO), .un, .un, .un, .un, .un, .un, .un, .un, .un])
    (fun pre ev => ∃ (j4 j5 j6 j7 j8 j9 j10 j11 : L), ev = [.fro (.int n), .fro (.lst (net.map encL)), .fro (.int g), .own ((rndK net (cost0 n g) pre.length).map encO), j4, j5, j6, j7, j8, j9, j10, j11, .un])
    ⟨_, _, _, _, _, _, _, _, rfl⟩ (by
      intro pre a post ev he hR
      obtain ⟨j4, j5, j6, j7, j8, j9, j10, j11, rfl⟩ := hR
      have hfl : (rndK net (cost0 n g) pre.length).length = n := by rw [rndK_len, hl0]
      obtain ⟨ev2, g1, i5, i6, i7, i8, i9, i10, i11, rfl⟩ := for_run0 (u := _law_costs_b2) (mm := mTup (mCons (mName 5) (mCons (mName 6) (mCons (mName 7) (mCons (mName 8) mNil))))) (enc := encL) (xs := net)
        (ev := [.fro (.int n), .fro (.lst (net.map encL)), .fro (.int g), .own ((rndK net (cost0 n g) pre.length).map encO), .fro (.int a), j5, j6, j7, j8, j9, j10, j11, .un])
        (fun pre2 ev => ∃ (i5 i6 i7 i8 i9 i10 i11 : L), ev = [.fro (.int n), .fro (.lst (net.map encL)), .fro (.int g), .own ((pre2.foldl rlxL (rndK net (cost0 n g) pre.length)).map encO), .fro (.int a), i5, i6, i7, i8, i9, i10, i11, .un])
        ⟨_, _, _, _, _, _, _, rfl⟩ (by
          intro pre2 l post2 ev2 he2 hR2
          obtain ⟨i5, i6, i7, i8, i9, i10, i11, rfl⟩ := hR2
          obtain ⟨k9, k10, k11, ht⟩ := link_turn (n := n) (f := pre2.foldl rlxL (rndK net (cost0 n g) pre.length)) (l := l) (s0 := .fro (.int n)) (s1 := .fro (.lst (net.map encL))) (s2 := .fro (.int g)) (s4 := .fro (.int a)) (j9 := i9) (j10 := i10) (j11 := i11) (s12 := .un)
            (by rw [rnds_len, hfl]) (hG l (by rw [← he2]; simp))
          refine ⟨_, _, ?_, .inl ht, .fro (.int l.one), .fro (.int l.two), .fro (.int l.there), .fro (.int l.back), k9, k10, k11, ?_⟩
          · simp [encL]
          · rw [List.foldl_append]
            rfl)
      refine ⟨_, [.fro (.int n), .fro (.lst (net.map encL)), .fro (.int g), .own ((net.foldl rlxL (rndK net (cost0 n g) pre.length)).map encO), .fro (.int a), i5, i6, i7, i8, i9, i10, i11, .un], rfl, .inl ?_, .fro (.int a), i5, i6, i7, i8, i9, i10, i11, by rw [List.length_append]; rfl⟩
      generalize (rndK net (cost0 n g) pre.length).map encO = f0 at g1 ⊢
      generalize (net.foldl rlxL (rndK net (cost0 n g) pre.length)).map encO = f1 at g1 ⊢
      simp [_law_costs_b3, g1])
  rw [List.length_range] at h1
  refine run_fn rfl ?_
  have := rng h16
  generalize (rndK net (cost0 n g) n).map encO = f1 at h1 ⊢
  generalize (cost0 n g).map encO = f0 at hk h1
  simp [body__law_costs, _law_costs_s1, _law_costs_s2, _law_costs_s3, hk, this, rangeD_n, h1]
end K63


set_option maxRecDepth 100000
set_option maxHeartbeats 4000000
namespace K63
open PySem PySem.Spec PyProof.Rows L2 Z
section
variable {n g : Nat} {net : List Ln}
/-- a value is a walk's cost -/
def Snd (net : List Ln) (g : Nat) (f : Cst) : Prop := ∀ (r : Nat) (x : Int), f.getD r none = some x → ∃ (w : List Hop) (t : Int), Wlk net g r w x t
def cle (f f' : Cst) : Prop := ∀ (r : Nat) (x : Int), f'.getD r none = some x → ∃ y, f.getD r none = some y ∧ y ≤ x
theorem cle_refl (f : Cst) : cle f f := fun r x h => ⟨x, h, Int.le_refl _⟩
theorem cle_trans {a b c : Cst} (h1 : cle a b) (h2 : cle b c) : cle a c := fun r x h => by
  obtain ⟨y, h3, h4⟩ := h2 r x h
  obtain ⟨z, h5, h6⟩ := h1 r y h3
  exact ⟨z, h5, by omega⟩
theorem getC_set {f : Cst} {i j : Nat} {x : Option Int} (h : i < f.length) : (f.set i x).getD j none = if j = i then x else f.getD j none := by
  rw [List.getD_eq_getElem?_getD, List.getD_eq_getElem?_getD]
  by_cases e : j = i
  · subst e
    rw [if_pos rfl, List.getElem?_set_self h]
    rfl
  · rw [if_neg e, List.getElem?_set_ne (Ne.symm e)]
theorem rlx_cle {f : Cst} {s e : Nat} {c : Int} (hs : s < f.length) : cle (rlx f s e c) f := by
  intro r x h
  unfold rlx
  split
  · exact ⟨x, h, Int.le_refl _⟩
  · rename_i y hy
    split
    · rename_i hn
      rw [getC_set hs]
      by_cases q : r = s
      · subst q
        rw [hn] at h
        cases h
      · rw [if_neg q]
        exact ⟨x, h, Int.le_refl _⟩
    · rename_i z hz
      split
      · rw [getC_set hs]
        by_cases q : r = s
        · subst q
          rw [hz] at h
          cases h
          rw [if_pos rfl]
          exact ⟨_, rfl, by omega⟩
        · rw [if_neg q]
          exact ⟨x, h, Int.le_refl _⟩
      · exact ⟨x, h, Int.le_refl _⟩
/-- what a relaxing reaches -/
theorem rlx_gets {f : Cst} {s e : Nat} {c y : Int} (hs : s < f.length) (hy : f.getD e none = some y) : ∃ x, (rlx f s e c).getD s none = some x ∧ x ≤ y + c := by
  unfold rlx
  rw [hy]
  show ∃ x, (match f.getD s none with | none => f.set s (some (y + c)) | some x => if y + c < x then f.set s (some (y + c)) else f).getD s none = some x ∧ x ≤ y + c
  split
  · rw [getC_set hs, if_pos rfl]
    exact ⟨_, rfl, Int.le_refl _⟩
  · rename_i z hz
    split
    · rw [getC_set hs, if_pos rfl]
      exact ⟨_, rfl, Int.le_refl _⟩
    · exact ⟨z, hz, by omega⟩
theorem rlx_snd {f : Cst} {h : Hop} {s : Nat} (hs : s < f.length) (hh : h ∈ hopsOf net s) (hf : Snd net g f) : Snd net g (rlx f s h.to h.cost) := by
  intro r x hx
  unfold rlx at hx
  split at hx
  · exact hf r x hx
  · rename_i y hy
    obtain ⟨w, t, hw⟩ := hf h.to y hy
    have new : Wlk net g s (h :: w) (y + h.cost) (t + h.time) := by
      refine ⟨hh, ?_⟩
      rw [show y + h.cost - h.cost = y by omega, show t + h.time - h.time = t by omega]
      exact hw
    have set_case : (f.set s (some (y + h.cost))).getD r none = some x → ∃ (w : List Hop) (t : Int), Wlk net g r w x t := by
      intro hx
      rw [getC_set hs] at hx
      by_cases q : r = s
      · rw [if_pos q] at hx
        cases hx
        rw [q]
        exact ⟨_, _, new⟩
      · rw [if_neg q] at hx
        exact hf r x hx
    split at hx
    · exact set_case hx
    · split at hx
      · exact set_case hx
      · exact hf r x hx
/-- a link's hops -/
theorem link_hops {l : Ln} {k : Nat} (hm : (l, k) ∈ net.zipIdx) : (⟨k, 0, l.two, l.there, l.m0⟩ : Hop) ∈ hopsOf net l.one ∧ (⟨k, 1, l.one, l.back, l.m1⟩ : Hop) ∈ hopsOf net l.two := by
  refine ⟨mem_hops.mpr ⟨(l, k), hm, ?_⟩, mem_hops.mpr ⟨(l, k), hm, ?_⟩⟩
  · unfold hopsAt
    rw [if_pos rfl]
    exact List.mem_append_left _ (List.mem_singleton.mpr rfl)
  · unfold hopsAt
    exact List.mem_append_right _ (by rw [if_pos rfl]; exact List.mem_singleton.mpr rfl)
theorem fold_cle (hG : ∀ l ∈ net, GoodL n l) : ∀ {ls : List Ln} {f : Cst}, f.length = n → (∀ l ∈ ls, l ∈ net) → cle (ls.foldl rlxL f) f
  | [], f, _, _ => cle_refl f
  | l :: ls, f, hf, h => by
    have g := hG l (h l List.mem_cons_self)
    have g1 := g.one
    have g2 := g.two
    rw [List.foldl_cons]
    refine cle_trans (fold_cle hG (by rw [rlxL_len, hf]) fun q hq => h q (List.mem_cons_of_mem _ hq)) ?_
    unfold rlxL
    exact cle_trans (rlx_cle (by rw [rlx_len]; omega)) (rlx_cle (by omega))
theorem fold_snd (hG : ∀ l ∈ net, GoodL n l) : ∀ {ls : List Ln} {f : Cst}, f.length = n → (∀ l ∈ ls, l ∈ net) → Snd net g f → Snd net g (ls.foldl rlxL f)
  | [], f, _, _, hf => hf
  | l :: ls, f, hl, h, hf => by
    have gl := hG l (h l List.mem_cons_self)
    have g1 := gl.one
    have g2 := gl.two
    obtain ⟨k, hk⟩ := List.getElem?_of_mem (h l List.mem_cons_self)
    have hm : (l, k) ∈ net.zipIdx := List.mem_zipIdx_iff_getElem?.mpr hk
    obtain ⟨a, b⟩ := link_hops hm
    rw [List.foldl_cons]
    refine fold_snd hG (by rw [rlxL_len, hl]) (fun q hq => h q (List.mem_cons_of_mem _ hq)) ?_
    unfold rlxL
    exact rlx_snd (by rw [rlx_len]; omega) b (rlx_snd (by omega) a hf)
end
end K63


set_option maxRecDepth 100000
set_option maxHeartbeats 4000000
namespace K63
open PySem PySem.Spec PyProof.Rows L2 Z
section
variable {n g : Nat} {net : List Ln}
theorem fold_gets (hG : ∀ l ∈ net, GoodL n l) {f : Cst} (hf : f.length = n) {r : Nat} {h : Hop} (hh : h ∈ hopsOf net r) {y : Int} (hy : f.getD h.to none = some y) : ∃ x, (net.foldl rlxL f).getD r none = some x ∧ x ≤ y + h.cost := by
  obtain ⟨⟨l, k⟩, h1, h2⟩ := mem_hops.mp hh
  obtain ⟨pre, post, e⟩ := List.append_of_mem (List.fst_mem_of_mem_zipIdx h1)
  have hpre : ∀ q ∈ pre, q ∈ net := fun q hq => by rw [e]; exact List.mem_append_left _ hq
  have hpost : ∀ q ∈ post, q ∈ net := fun q hq => by rw [e]; exact List.mem_append_right _ (List.mem_cons_of_mem _ hq)
  have gl := hG l (by rw [e]; simp)
  have g1 := gl.one
  have g2 := gl.two
  have c1 : cle (pre.foldl rlxL f) f := fold_cle hG hf hpre
  obtain ⟨fp, hfp⟩ : ∃ fp, pre.foldl rlxL f = fp := ⟨_, rfl⟩
  have hpl : fp.length = n := by rw [← hfp, rnds_len, hf]
  rw [hfp] at c1
  have c2 : cle (net.foldl rlxL f) (rlxL fp l) := by
    have e2 : net.foldl rlxL f = post.foldl rlxL (rlxL fp l) := by
      conv => lhs; rw [e]
      rw [List.foldl_append, List.foldl_cons, hfp]
    rw [e2]
    exact fold_cle hG (by rw [rlxL_len, hpl]) hpost
  obtain ⟨y1, a1, a2⟩ := c1 h.to y hy
  have key : ∃ x, (rlxL fp l).getD r none = some x ∧ x ≤ y1 + h.cost := by
    unfold hopsAt at h2
    rcases List.mem_append.mp h2 with z | z
    · split at z
      · rename_i e3
        obtain rfl := List.mem_singleton.mp z
        dsimp only at e3 a1 ⊢
        subst e3
        obtain ⟨x, b1, b2⟩ := rlx_gets (f := fp) (s := l.one) (e := l.two) (c := l.there) (by omega) a1
        obtain ⟨x', b3, b4⟩ := rlx_cle (f := rlx fp l.one l.two l.there) (s := l.two) (e := l.one) (c := l.back) (by rw [rlx_len]; omega) l.one x b1
        exact ⟨x', b3, by omega⟩
      · cases z
    · split at z
      · rename_i e3
        obtain rfl := List.mem_singleton.mp z
        dsimp only at e3 a1 ⊢
        subst e3
        obtain ⟨y2, b1, b2⟩ := rlx_cle (f := fp) (s := l.one) (e := l.two) (c := l.there) (by omega) l.one y1 a1
        obtain ⟨x, b3, b4⟩ := rlx_gets (f := rlx fp l.one l.two l.there) (s := l.two) (e := l.one) (c := l.back) (by rw [rlx_len]; omega) b1
        exact ⟨x, b3, by omega⟩
      · cases z
  obtain ⟨x, b1, b2⟩ := key
  obtain ⟨x', b3, b4⟩ := c2 r x b1
  exact ⟨x', b3, by omega⟩
end
end K63


set_option maxRecDepth 100000
set_option maxHeartbeats 4000000
namespace K63
open PySem PySem.Spec PyProof.Rows L2 Z
section
variable {n g : Nat} {net : List Ln}
theorem cost0_get {r : Nat} (hr : r < n) : (cost0 n g).getD r none = if r = g then some 0 else none := by
  unfold cost0
  rw [List.getD_eq_getElem?_getD, List.getElem?_map, List.getElem?_range hr]
  rfl
theorem rnd_len (k : Nat) : (rndK net (cost0 n g) k).length = n := by
  rw [rndK_len]
  simp [cost0]
theorem rnd_goal (hG : ∀ l ∈ net, GoodL n l) (hg : g < n) : ∀ k, ∃ x, (rndK net (cost0 n g) k).getD g none = some x ∧ x ≤ 0
  | 0 => ⟨0, by show (cost0 n g).getD g none = _; rw [cost0_get hg, if_pos rfl], Int.le_refl _⟩
  | k + 1 => by
    obtain ⟨x, h1, h2⟩ := rnd_goal hG hg k
    obtain ⟨y, h3, h4⟩ := fold_cle hG (rnd_len (net := net) (g := g) k) (fun l h => h) g x h1
    exact ⟨y, h3, by omega⟩
theorem rnd_complete (hG : ∀ l ∈ net, GoodL n l) (hg : g < n) : ∀ (w : List Hop) (k r : Nat) (c t : Int), w.length ≤ k → r < n → Wlk net g r w c t → ∃ x, (rndK net (cost0 n g) k).getD r none = some x ∧ x ≤ c
  | [], k, r, c, t, _, _, ⟨e, e1, _⟩ => by
    subst e
    obtain ⟨x, h1, h2⟩ := rnd_goal hG hg k
    exact ⟨x, h1, by omega⟩
  | h :: w, k, r, c, t, hk, hr, ⟨h1, h2⟩ => by
    rw [List.length_cons] at hk
    obtain ⟨k, rfl⟩ : ∃ k', k = k' + 1 := ⟨k - 1, by omega⟩
    obtain ⟨y, h3, h4⟩ := rnd_complete hG hg w k h.to _ _ (by omega) (hop_to hG h1).1 h2
    obtain ⟨x, h5, h6⟩ := fold_gets hG (rnd_len (net := net) (g := g) k) h1 h3
    exact ⟨x, h5, by omega⟩
theorem rnd_sound (hG : ∀ l ∈ net, GoodL n l) (hg : g < n) : ∀ k, Snd net g (rndK net (cost0 n g) k)
  | 0 => by
    intro r x h
    have h' : (cost0 n g).getD r none = some x := h
    by_cases hr : r < n
    · rw [cost0_get hr] at h'
      split at h'
      · rename_i e
        cases h'
        exact ⟨[], 0, e, rfl, rfl⟩
      · cases h'
    · rw [List.getD_eq_getElem?_getD, List.getElem?_eq_none (by simp [cost0]; omega)] at h'
      cases h'
  | k + 1 => fold_snd hG (rnd_len (net := net) (g := g) k) (fun l h => h) (rnd_sound hG hg k)
end
end K63


set_option maxRecDepth 100000
set_option maxHeartbeats 4000000
namespace K63
open PySem PySem.Spec PyProof.Rows L2 Z
/-! ### nets -/
structure Good0 (n : Nat) (l : Ln) : Prop where
  one : l.one < n
  two : l.two < n
  ne : l.one ≠ l.two
  t1 : 1 ≤ l.there
  t2 : l.there ≤ 10
  b1 : 1 ≤ l.back
  b2 : l.back ≤ 10
theorem mod2 {a n : Int} (h1 : n ≤ a) (h2 : a < 2 * n) : a % n = a - n := by
  have h := Int.add_mul_emod_self_left (a - n) n 1
  rw [Int.mul_one, Int.sub_add_cancel] at h
  rw [h]
  exact Int.emod_eq_of_lt (by omega) (by omega)
theorem mod_ne {n one y : Int} (h0 : 0 ≤ one) (h1 : one < n) (h2 : 0 ≤ y) (h3 : y < n - 1) : (one + 1 + y) % n ≠ one := by
  by_cases h : one + 1 + y < n
  · rw [Int.emod_eq_of_lt (by omega) h]
    omega
  · rw [mod2 (by omega) (by omega)]
    omega
theorem net_turn1 {dr : List Int} {k : Int} {n : Nat} {o : Nat} {acc : List Ln} {j5 j6 j7 : L} (ho : o + 1 < n) (ha : acc.length < 16777216) :
    ∃ (l : Ln) (i5 : L), Good0 n l ∧ _law_net_b1 [.fro (.lst (dr.map .int)), .fro (.int k), .fro (.int n), .own (acc.map encL), .fro (.int (1 + (o : Int))), j5, j6, j7] = some (.nx [.fro (.lst (dr.map .int)), .fro (.int k), .fro (.int n), .own ((acc ++ [l]).map encL), .fro (.int (1 + (o : Int))), i5, j6, j7]) := by
  have w0 := mix_nonneg (dr := dr) (k := k + (1 + (o : Int))) (many := 2) (by decide)
  have w1 := mix_lt (dr := dr) (k := k + (1 + (o : Int))) (many := 2) (by decide)
  have m1 := mix_eq (dr := dr) (k := k + (1 + (o : Int))) (many := 2) (by decide)
  generalize mix dr (k + (1 + (o : Int))) 2 = w at w0 w1 m1
  have e1 : (1 : Int) + (o : Int) - 1 = (o : Int) := by omega
  rcases (show w = 0 ∨ w = 1 by omega) with rfl | rfl
  · refine ⟨⟨o, o + 1, 1, 1, 0, 0⟩, .fro (.tup [.int (o : Int), .int (1 + (o : Int))]), ⟨by show o < n; omega, ho, by show o ≠ o + 1; omega, show (1 : Int) ≤ 1 by decide, show (1 : Int) ≤ 10 by decide, show (1 : Int) ≤ 1 by decide, show (1 : Int) ≤ 10 by decide⟩, ?_⟩
    have e2 : ((o + 1 : Nat) : Int) = 1 + (o : Int) := by omega
    simp [_law_net_b1, m1, e1, ha, encL]
    omega
  · refine ⟨⟨o + 1, o, 1, 1, 0, 0⟩, .fro (.tup [.int (1 + (o : Int)), .int (o : Int)]), ⟨ho, by show o < n; omega, by show o + 1 ≠ o; omega, show (1 : Int) ≤ 1 by decide, show (1 : Int) ≤ 10 by decide, show (1 : Int) ≤ 1 by decide, show (1 : Int) ≤ 10 by decide⟩, ?_⟩
    simp [_law_net_b1, m1, e1, ha, encL]
    omega
end K63


set_option maxRecDepth 100000
set_option maxHeartbeats 4000000
namespace K63
open PySem PySem.Spec PyProof.Rows L2 Z
theorem net_turn2 {dr : List Int} {k : Int} {n t : Nat} {acc : List Ln} {j4 j5 j7 : L} (hn : 2 ≤ n) (ha : acc.length < 16777216) :
    ∃ (l : Ln) (i7 : L), Good0 n l ∧ _law_net_b2 [.fro (.lst (dr.map .int)), .fro (.int k), .fro (.int n), .own (acc.map encL), j4, j5, .fro (.int t), j7] = some (.nx [.fro (.lst (dr.map .int)), .fro (.int k), .fro (.int n), .own ((acc ++ [l]).map encL), j4, j5, .fro (.int t), i7]) := by
  have hn0 : (0 : Int) < n := by omega
  have hn1 : (0 : Int) < (n : Int) - 1 := by omega
  have a0 := mix_nonneg (dr := dr) (k := k + 21 + 3 * (t : Int)) hn0
  have a1 := mix_lt (dr := dr) (k := k + 21 + 3 * (t : Int)) hn0
  have m1 := mix_eq (dr := dr) (k := k + 21 + 3 * (t : Int)) hn0
  generalize mix dr (k + 21 + 3 * (t : Int)) n = one at a0 a1 m1
  obtain ⟨one, rfl⟩ := Int.eq_ofNat_of_zero_le a0
  have b0 := mix_nonneg (dr := dr) (k := k + 22 + 3 * (t : Int)) hn1
  have b1 := mix_lt (dr := dr) (k := k + 22 + 3 * (t : Int)) hn1
  have m2 := mix_eq (dr := dr) (k := k + 22 + 3 * (t : Int)) hn1
  generalize mix dr (k + 22 + 3 * (t : Int)) ((n : Int) - 1) = y at b0 b1 m2
  have c0 := mod_ne a0 a1 b0 b1
  have c1 := Int.emod_nonneg ((one : Int) + 1 + y) (show (n : Int) ≠ 0 by omega)
  have c2 := Int.emod_lt_of_pos ((one : Int) + 1 + y) hn0
  obtain ⟨two, e2⟩ := Int.eq_ofNat_of_zero_le c1
  rw [e2] at c0 c1 c2
  have e2' : ((one : Int) + 1 + y) % (n : Int) = (two : Int) := e2
  refine ⟨⟨one, two, 1, 1, 0, 0⟩, .fro (.int one), ⟨by show one < n; omega, by show two < n; omega, fun e => c0 (by rw [show one = two from e]), show (1 : Int) ≤ 1 by decide, show (1 : Int) ≤ 10 by decide, show (1 : Int) ≤ 1 by decide, show (1 : Int) ≤ 10 by decide⟩, ?_⟩
  simp [_law_net_b2, m1, m2, show 0 < n by omega, e2', ha, encL]
end K63


set_option maxRecDepth 100000
set_option maxHeartbeats 4000000
namespace K63
open PySem PySem.Spec PyProof.Rows L2 Z
theorem m_net_ok {dr : List Int} {k : Int} : ∃ (n : Nat) (ls : List Ln), 2 ≤ n ∧ n ≤ 6 ∧ (∀ l ∈ ls, Good0 n l) ∧ 1 ≤ ls.length ∧ ls.length ≤ 8 ∧ m__law_net [.lst (dr.map .int), .int k] = some (.tup [.int n, .lst (ls.map encL)]) := by
  have w0 := mix_nonneg (dr := dr) (k := k) (many := 5) (by decide)
  have w1 := mix_lt (dr := dr) (k := k) (many := 5) (by decide)
  have m1 := mix_eq (dr := dr) (k := k) (many := 5) (by decide)
  generalize mix dr k 5 = w at w0 w1 m1
  obtain ⟨w, rfl⟩ := Int.eq_ofNat_of_zero_le w0
  obtain ⟨n, hn⟩ : ∃ n, n = 2 + w := ⟨_, rfl⟩
  have hcast : (2 : Int) + (w : Int) = (n : Int) := by omega
  have v0 := mix_nonneg (dr := dr) (k := k + 20) (many := 4) (by decide)
  have v1 := mix_lt (dr := dr) (k := k + 20) (many := 4) (by decide)
  have m2 := mix_eq (dr := dr) (k := k + 20) (many := 4) (by decide)
  generalize mix dr (k + 20) 4 = v at v0 v1 m2
  obtain ⟨v, rfl⟩ := Int.eq_ofNat_of_zero_le v0
  obtain ⟨ev', h1, ls, j4, j5, rfl, g1, g2⟩ := for_run0 (u := _law_net_b1) (mm := mName 4) (enc := fun o : Nat => D.int (1 + (o : Int))) (xs := List.range (n - 1))
    (ev := [.fro (.lst (dr.map .int)), .fro (.int k), .fro (.int n), .own [], .un, .un, .un, .un])
    (fun pre ev => ∃ (ls : List Ln) (j4 j5 : L), ev = [.fro (.lst (dr.map .int)), .fro (.int k), .fro (.int n), .own (ls.map encL), j4, j5, .un, .un] ∧ (∀ l ∈ ls, Good0 n l) ∧ ls.length = pre.length)
    ⟨[], .un, .un, rfl, (fun _ h => nomatch h), rfl⟩ (by
      intro pre o post ev he hR
      obtain ⟨ls, j4, j5, rfl, g1, g2⟩ := hR
      obtain ⟨rfl, hlt⟩ := range_at he
      obtain ⟨l, i5, hg, ht⟩ := net_turn1 (dr := dr) (k := k) (n := n) (o := pre.length) (acc := ls) (j5 := j5) (j6 := .un) (j7 := .un) (by omega) (by omega)
      refine ⟨_, _, rfl, .inl ht, ls ++ [l], .fro (.int (1 + (pre.length : Int))), i5, rfl, ?_, by simp [g2]⟩
      intro q hq
      rcases List.mem_append.mp hq with z | z
      · exact g1 q z
      · rw [List.mem_singleton.mp z]
        exact hg)
  rw [List.length_range] at g2
  obtain ⟨ev', h2, ls2, j6, j7, rfl, g3, g4⟩ := for_run0 (u := _law_net_b2) (mm := mName 6) (enc := fun t : Nat => D.int (t : Int)) (xs := List.range v)
    (ev := [.fro (.lst (dr.map .int)), .fro (.int k), .fro (.int n), .own (ls.map encL), j4, j5, .un, .un])
    (fun pre ev => ∃ (ls2 : List Ln) (j6 j7 : L), ev = [.fro (.lst (dr.map .int)), .fro (.int k), .fro (.int n), .own (ls2.map encL), j4, j5, j6, j7] ∧ (∀ l ∈ ls2, Good0 n l) ∧ ls2.length = ls.length + pre.length)
    ⟨ls, .un, .un, rfl, g1, rfl⟩ (by
      intro pre t post ev he hR
      obtain ⟨ls2, j6, j7, rfl, g3, g4⟩ := hR
      obtain ⟨rfl, hlt⟩ := range_at he
      obtain ⟨l, i7, hg, ht⟩ := net_turn2 (dr := dr) (k := k) (n := n) (t := pre.length) (acc := ls2) (j4 := j4) (j5 := j5) (j7 := j7) (by omega) (by omega)
      refine ⟨_, _, rfl, .inl ht, ls2 ++ [l], .fro (.int pre.length), i7, rfl, ?_, by simp [g4]; omega⟩
      intro q hq
      rcases List.mem_append.mp hq with z | z
      · exact g3 q z
      · rw [List.mem_singleton.mp z]
        exact hg)
  rw [List.length_range] at g4
  refine ⟨n, ls2, by omega, by omega, g3, by omega, by omega, run_fn rfl ?_⟩
  have r1 : rangeD 1 (n : Int) = (List.range (n - 1)).map fun o : Nat => D.int (1 + (o : Int)) := by
    unfold rangeD
    rw [show ((n : Int) - 1).toNat = n - 1 by omega]
  have r2 := rng (n := v) (by omega)
  have r3 := rng (n := n) (by omega)
  simp [body__law_net, _law_net_s1, _law_net_s2, _law_net_s3, _law_net_s4, m1, hcast, r1, r3, h1, m2, r2, rangeD_n, h2]
end K63


set_option maxRecDepth 100000
set_option maxHeartbeats 4000000
namespace K63
open PySem PySem.Spec PyProof.Rows L2 Z
structure Q4 where
  a : Int
  b : Int
  c : Int
  d : Int
deriving DecidableEq
def encQ (q : Q4) : D := .tup [.int q.a, .int q.b, .int q.c, .int q.d]
theorem EE.q4 : EE 1 encQ := by
  refine ⟨fun _ => rfl, fun _ => Nat.le_refl _, fun a b => ?_⟩
  show (a.a == b.a && (a.b == b.b && (a.c == b.c && (a.d == b.d && true)))) = decide (a = b)
  cases a
  cases b
  rw [Bool.eq_iff_iff]
  simp
def qOf (l : Ln) : Q4 := ⟨l.one, l.two, l.there, l.back⟩
theorem encL_q (ls : List Ln) : ls.map encL = (ls.map qOf).map encQ := by
  rw [List.map_map]
  rfl
theorem links_ne {ls : List Ln} (h : 1 ≤ ls.length) : oNe (.lst (ls.map encL)) (.lst []) = some (.bl true) := by
  have := EE.q4.list.oNe (by decide) (ls.map qOf) []
  rw [encL_q]
  rw [decide_eq_false (by intro e; rw [List.map_eq_nil_iff.mp e] at h; simp at h)] at this
  exact this
theorem dbl_turn {dr : List Int} {k : Int} {n t : Nat} {acc : List Ln} {j5 j6 j7 j8 j9 : L} (h0 : 1 ≤ acc.length) (ha : acc.length < 1000) (hg : ∀ l ∈ acc, Good0 n l) :
    ∃ (l : Ln) (i5 i6 i7 i8 i9 : L), Good0 n l ∧ _law_doubled_b1 [.fro (.lst (dr.map .int)), .fro (.int k), .fro (.int n), .fro (.lst (acc.map encL)), .fro (.int t), j5, j6, j7, j8, j9]
      = some (.nx [.fro (.lst (dr.map .int)), .fro (.int k), .fro (.int n), .fro (.lst ((acc ++ [l]).map encL)), .fro (.int t), i5, i6, i7, i8, i9]) := by
  have hl0 : (0 : Int) < (acc.length : Int) := by omega
  have a0 := mix_nonneg (dr := dr) (k := k + 81 + 3 * (t : Int)) hl0
  have a1 := mix_lt (dr := dr) (k := k + 81 + 3 * (t : Int)) hl0
  have m1 := mix_eq (dr := dr) (k := k + 81 + 3 * (t : Int)) hl0
  generalize mix dr (k + 81 + 3 * (t : Int)) (acc.length : Int) = a at a0 a1 m1
  obtain ⟨a, rfl⟩ := Int.eq_ofNat_of_zero_le a0
  have hlt : a < acc.length := by omega
  obtain ⟨p, hp⟩ : ∃ p, acc[a]? = some p := ⟨_, List.getElem?_eq_getElem hlt⟩
  have hat : atI (acc.map encL) (a : Int) = some (D.tup [.int p.one, .int p.two, .int p.there, .int p.back]) := by
    rw [atI_n, List.getElem?_map, hp]
    rfl
  have g := hg p (List.mem_of_getElem? hp)
  have b0 := mix_nonneg (dr := dr) (k := k + 82 + 3 * (t : Int)) (many := 9) (by decide)
  have b1 := mix_lt (dr := dr) (k := k + 82 + 3 * (t : Int)) (many := 9) (by decide)
  have m2 := mix_eq (dr := dr) (k := k + 82 + 3 * (t : Int)) (many := 9) (by decide)
  generalize mix dr (k + 82 + 3 * (t : Int)) 9 = y at b0 b1 m2
  have q1 := g.t1
  have q2 := g.b1
  refine ⟨⟨p.one, p.two, 1 + (p.there + (1 + y)) % 10, 1 + (p.back + (1 + y)) % 10, 0, 0⟩, .fro (.int p.one), .fro (.int p.two), .fro (.int p.there), .fro (.int p.back), .fro (.int (1 + y)), ⟨g.one, g.two, g.ne, ?_, ?_, ?_, ?_⟩, ?_⟩
  · show 1 ≤ 1 + (p.there + (1 + y)) % 10
    omega
  · show 1 + (p.there + (1 + y)) % 10 ≤ 10
    omega
  · show 1 ≤ 1 + (p.back + (1 + y)) % 10
    omega
  · show 1 + (p.back + (1 + y)) % 10 ≤ 10
    omega
  · have hl1 : acc.length + 1 ≤ 16777216 := by omega
    simp [_law_doubled_b1, m1, m2, hat, hl1, encL]
theorem m_doubled_ok {dr : List Int} {k : Int} : ∃ (n : Nat) (ls : List Ln), 2 ≤ n ∧ n ≤ 6 ∧ (∀ l ∈ ls, Good0 n l) ∧ 1 ≤ ls.length ∧ ls.length ≤ 14 ∧ m__law_doubled [.lst (dr.map .int), .int k] = some (.tup [.int n, .lst (ls.map encL)]) := by
  obtain ⟨n, ls, h2, h6, hg, hl1, hl8, hm⟩ := m_net_ok (dr := dr) (k := k)
  have v0 := mix_nonneg (dr := dr) (k := k + 80) (many := 7) (by decide)
  have v1 := mix_lt (dr := dr) (k := k + 80) (many := 7) (by decide)
  have m2 := mix_eq (dr := dr) (k := k + 80) (many := 7) (by decide)
  generalize mix dr (k + 80) 7 = v at v0 v1 m2
  obtain ⟨v, rfl⟩ := Int.eq_ofNat_of_zero_le v0
  obtain ⟨ev', h1, ls2, j4, j5, j6, j7, j8, j9, rfl, g3, g4⟩ := for_run0 (u := _law_doubled_b1) (mm := mName 4) (enc := fun t : Nat => D.int (t : Int)) (xs := List.range v)
    (ev := [.fro (.lst (dr.map .int)), .fro (.int k), .fro (.int n), .fro (.lst (ls.map encL)), .un, .un, .un, .un, .un, .un])
    (fun pre ev => ∃ (ls2 : List Ln) (j4 j5 j6 j7 j8 j9 : L), ev = [.fro (.lst (dr.map .int)), .fro (.int k), .fro (.int n), .fro (.lst (ls2.map encL)), j4, j5, j6, j7, j8, j9] ∧ (∀ l ∈ ls2, Good0 n l) ∧ ls2.length = ls.length + pre.length)
    ⟨ls, .un, .un, .un, .un, .un, .un, rfl, hg, rfl⟩ (by
      intro pre t post ev he hR
      obtain ⟨ls2, j4, j5, j6, j7, j8, j9, rfl, g3, g4⟩ := hR
      obtain ⟨rfl, hlt⟩ := range_at he
      obtain ⟨l, i5, i6, i7, i8, i9, hgl, ht⟩ := dbl_turn (dr := dr) (k := k) (n := n) (t := pre.length) (acc := ls2) (j5 := j5) (j6 := j6) (j7 := j7) (j8 := j8) (j9 := j9) (by omega) (by omega) g3
      refine ⟨_, _, rfl, .inl ht, ls2 ++ [l], .fro (.int pre.length), i5, i6, i7, i8, i9, rfl, ?_, by simp [g4]; omega⟩
      intro q hq
      rcases List.mem_append.mp hq with z | z
      · exact g3 q z
      · rw [List.mem_singleton.mp z]
        exact hgl)
  rw [List.length_range] at g4
  refine ⟨n, ls2, h2, h6, g3, by omega, by omega, run_fn rfl ?_⟩
  have hne := links_ne hl1
  have r1 : (ls.length : Int) < 12 := by omega
  have r2 := rng (n := v) (by omega)
  simp [body__law_doubled, _law_doubled_s1, _law_doubled_s2, _law_doubled_s3, hm, m2, hne, r1, r2, rangeD_n, h1]
/-! ### minutes -/
def setM (l : Ln) (m : Int × Int) : Ln := { l with m0 := m.1, m1 := m.2 }
theorem far_ok {dr : List Int} {k : Int} : ∃ far : Int, 0 < far ∧ far ≤ 1001 ∧ atI [D.int 3, .int 12, .int 1001] (mix dr k 3) = some (.int far) := by
  have w0 := mix_nonneg (dr := dr) (k := k) (many := 3) (by decide)
  have w1 := mix_lt (dr := dr) (k := k) (many := 3) (by decide)
  generalize mix dr k 3 = w at w0 w1
  rcases (show w = 0 ∨ w = 1 ∨ w = 2 by omega) with rfl | rfl | rfl
  · exact ⟨3, by decide, by decide, by simp⟩
  · exact ⟨12, by decide, by decide, by simp⟩
  · exact ⟨1001, by decide, by decide, by simp⟩
theorem row_ok {dr : List Int} {k : Int} {t : Nat} {far : Int} (h0 : 0 < far) (h1 : far ≤ 1001) : ∃ x y : Int, 0 ≤ x ∧ x ≤ 1000 ∧ x < far ∧ 0 ≤ y ∧ y ≤ 1000 ∧ y < far ∧ ∀ {s2 s3 s4 s6 s7 s8 : L},
    (sSetL 7 (lF (cLst (kList (aCons (cCB m__law_mix (aCons (cVar 0) (aCons (c2 oAdd (c2 oAdd (cVar 1) (cC (.int 2))) (c2 oMul (cC (.int 2)) (cVar 5))) (aCons (cVar 6) aNil)))) (aCons (c2 oIx (cLst (kList (aCons (cCB m__law_mix (aCons (cVar 0) (aCons (c2 oAdd (c2 oAdd (cVar 1) (cC (.int 3))) (c2 oMul (cC (.int 2)) (cVar 5))) (aCons (cVar 6) aNil)))) (aCons (cC (.int 0)) aNil)))) (cCB bInt (aCons (c2 oEq (cCB m__law_mix (aCons (cVar 0) (aCons (c2 oAdd (c2 oAdd (cVar 1) (cC (.int 60))) (cVar 5)) (aCons (cC (.int 6)) aNil)))) (cC (.int 0))) aNil))) aNil)))))) [.fro (.lst (dr.map .int)), .fro (.int k), s2, s3, s4, .fro (.int t), .fro (.int far), s7, s8]
      = some (.nx [.fro (.lst (dr.map .int)), .fro (.int k), s2, s3, s4, .fro (.int t), .fro (.int far), .fro (.lst [.int x, .int y]), s8]) := by
  have a0 := mix_nonneg (dr := dr) (k := k + 2 + 2 * (t : Int)) h0
  have a1 := mix_lt (dr := dr) (k := k + 2 + 2 * (t : Int)) h0
  have m1 := mix_eq (dr := dr) (k := k + 2 + 2 * (t : Int)) h0
  generalize mix dr (k + 2 + 2 * (t : Int)) far = x at a0 a1 m1
  have b0 := mix_nonneg (dr := dr) (k := k + 3 + 2 * (t : Int)) h0
  have b1 := mix_lt (dr := dr) (k := k + 3 + 2 * (t : Int)) h0
  have m2 := mix_eq (dr := dr) (k := k + 3 + 2 * (t : Int)) h0
  generalize mix dr (k + 3 + 2 * (t : Int)) far = y at b0 b1 m2
  have m3 := mix_eq (dr := dr) (k := k + 60 + (t : Int)) (many := 6) (by decide)
  generalize mix dr (k + 60 + (t : Int)) 6 = z at m3
  by_cases hz : z = 0
  · refine ⟨x, 0, a0, by omega, a1, by decide, by decide, h0, ?_⟩
    intro s2 s3 s4 s6 s7 s8
    subst hz
    simp [m1, m2, m3]
  · refine ⟨x, y, a0, by omega, a1, b0, by omega, b1, ?_⟩
    intro s2 s3 s4 s6 s7 s8
    simp [m1, m2, m3, hz]
theorem minutes_turn {n : Nat} {dr : List Int} {k plan : Int} {ls : List Ln} {t : Nat} {acc : List Ln} {j6 j7 j8 : L} (hg : ∀ l ∈ ls, Good0 n l) (ht : t < ls.length) (ha : acc.length < 1000) :
    ∃ (x y : Int) (i6 i7 : L), 0 ≤ x ∧ x ≤ 1000 ∧ 0 ≤ y ∧ y ≤ 1000 ∧ _law_minutes_b1 [.fro (.lst (dr.map .int)), .fro (.int k), .fro (.lst (ls.map encL)), .own (acc.map encM), .fro (.int plan), .fro (.int t), j6, j7, j8]
      = some (.nx [.fro (.lst (dr.map .int)), .fro (.int k), .fro (.lst (ls.map encL)), .own (acc.map encM ++ [.tup [.int x, .int y]]), .fro (.int plan), .fro (.int t), i6, i7, j8]) := by
  obtain ⟨far, f0, f1, hf⟩ := far_ok (dr := dr) (k := k + 1)
  have m1 := mix_eq (dr := dr) (k := k + 1) (many := 3) (by decide)
  obtain ⟨x, y, x0, x1, x2, y0, y1, y2, hrow⟩ := row_ok (dr := dr) (k := k) (t := t) f0 f1
  have hrow' := @hrow (.fro (.lst (ls.map encL))) (.own (acc.map encM)) (.fro (.int plan)) j6 j7 j8
  have ha' : acc.length < 16777216 := by omega
  obtain ⟨p, hp⟩ : ∃ p, ls[t]? = some p := ⟨_, List.getElem?_eq_getElem ht⟩
  have hat : atI (ls.map encL) (t : Int) = some (D.tup [.int p.one, .int p.two, .int p.there, .int p.back]) := by
    rw [atI_n, List.getElem?_map, hp]
    rfl
  have g := hg p (List.mem_of_getElem? hp)
  have e1 : ∀ {j6 j7 : L}, (sSetL 6 (lF (c2 oIx (cLst (kList (aCons (cC (.int 3)) (aCons (cC (.int 12)) (aCons (cC (.int 1001)) aNil))))) (cCB m__law_mix (aCons (cVar 0) (aCons (c2 oAdd (cVar 1) (cC (.int 1))) (aCons (cC (.int 3)) aNil))))))) [.fro (.lst (dr.map .int)), .fro (.int k), .fro (.lst (ls.map encL)), .own (acc.map encM), .fro (.int plan), .fro (.int t), j6, j7, j8]
      = some (.nx [.fro (.lst (dr.map .int)), .fro (.int k), .fro (.lst (ls.map encL)), .own (acc.map encM), .fro (.int plan), .fro (.int t), .fro (.int far), j7, j8]) := by
    intro j6 j7
    simp [m1, hf]
  by_cases hpl : plan = 1
  · subst hpl
    obtain ⟨X, hX⟩ : ∃ X : Nat → Int, X = fun e => (if 40 - 4 * (if e = 0 then p.there else p.back) > 0 then 40 - 4 * (if e = 0 then p.there else p.back) else 0) + (if e = 0 then x else y) * (if far < 13 then 1 else 0) := ⟨_, rfl⟩
    have hk : kComp (iR1 (aCons (cC (.int 2)) aNil)) (mName 8) (fun _ => some true) _law_minutes_e1 [8] [.fro (.lst (dr.map .int)), .fro (.int k), .fro (.lst (ls.map encL)), .own (acc.map encM), .fro (.int 1), .fro (.int t), .fro (.int far), .fro (.lst [.int x, .int y]), j8] = some [.int (X 0), .int (X 1)] := by
      rw [comp_map (enc := fun x : Nat => D.int (x : Int)) (r := fun e : Nat => D.int (X e)) (xs := [0, 1])]
      · rfl
      · simp [rangeD_eq]
        rfl
      · decide
      · intro e he
        have he' : e = 0 ∨ e = 1 := by simpa using he
        rcases he' with rfl | rfl
        · by_cases hf13 : far < 13
          · simp [_law_minutes_e1, hat, hX, hf13]
          · simp [_law_minutes_e1, hat, hX, hf13]
        · by_cases hf13 : far < 13
          · simp [_law_minutes_e1, hat, hX, hf13]
          · simp [_law_minutes_e1, hat, hX, hf13]
    have q1 := g.t1
    have q2 := g.t2
    have q3 := g.b1
    have q4 := g.b2
    refine ⟨X 0, X 1, .fro (.int far), .fro (.lst [.int (X 0), .int (X 1)]), ?_, ?_, ?_, ?_, ?_⟩
    · subst hX
      simp only [if_true]
      split <;> split <;> omega
    · subst hX
      simp only [if_true]
      split <;> split <;> omega
    · subst hX
      simp only [Nat.one_ne_zero, if_false]
      split <;> split <;> omega
    · subst hX
      simp only [Nat.one_ne_zero, if_false]
      split <;> split <;> omega
    · generalize X 0 = a at hk ⊢
      generalize X 1 = b at hk ⊢
      unfold _law_minutes_b1
      rw [seq_nx e1, seq_nx hrow']
      simp [hk, bTuple, ha']
  · refine ⟨x, y, .fro (.int far), .fro (.lst [.int x, .int y]), x0, x1, y0, y1, ?_⟩
    unfold _law_minutes_b1
    rw [seq_nx e1, seq_nx hrow']
    simp [hpl, bTuple, ha']
theorem m_minutes_ok {n : Nat} {dr : List Int} {k : Int} {ls : List Ln} (hg : ∀ l ∈ ls, Good0 n l) (hl : ls.length ≤ 14) :
    ∃ net : List Ln, net.length = ls.length ∧ net.map encL = ls.map encL ∧ (∀ l ∈ net, GoodL n l) ∧ m__law_minutes [.lst (dr.map .int), .int k, .lst (ls.map encL)] = some (.lst (net.map encM)) := by
  have w0 := mix_nonneg (dr := dr) (k := k) (many := 2) (by decide)
  have m1 := mix_eq (dr := dr) (k := k) (many := 2) (by decide)
  generalize mix dr k 2 = plan at w0 m1
  obtain ⟨ev', h1, net, j5, j6, j7, rfl, g1, g2, g3⟩ := for_run0 (u := _law_minutes_b1) (mm := mName 5) (enc := fun t : Nat => D.int (t : Int)) (xs := List.range ls.length)
    (ev := [.fro (.lst (dr.map .int)), .fro (.int k), .fro (.lst (ls.map encL)), .own [], .fro (.int plan), .un, .un, .un, .un])
    (fun pre ev => ∃ (net : List Ln) (j5 j6 j7 : L), ev = [.fro (.lst (dr.map .int)), .fro (.int k), .fro (.lst (ls.map encL)), .own (net.map encM), .fro (.int plan), j5, j6, j7, .un] ∧ net.length = pre.length ∧ net.map encL = (ls.take pre.length).map encL ∧ (∀ l ∈ net, GoodL n l))
    ⟨[], .un, .un, .un, rfl, rfl, rfl, fun _ h => nomatch h⟩ (by
      intro pre t post ev he hR
      obtain ⟨net, j5, j6, j7, rfl, g1, g2, g3⟩ := hR
      obtain ⟨rfl, hlt⟩ := range_at he
      obtain ⟨x, y, i6, i7, x0, x1, y0, y1, ht⟩ := minutes_turn (n := n) (dr := dr) (k := k) (plan := plan) (ls := ls) (t := pre.length) (acc := net) (j6 := j6) (j7 := j7) (j8 := .un) hg hlt (by omega)
      obtain ⟨p, hp⟩ : ∃ p, ls[pre.length]? = some p := ⟨_, List.getElem?_eq_getElem hlt⟩
      have g := hg p (List.mem_of_getElem? hp)
      refine ⟨_, _, rfl, .inl ht, net ++ [setM p (x, y)], .fro (.int pre.length), i6, i7, ?_, by simp [g1], ?_, ?_⟩
      · rw [List.map_append]
        rfl
      · rw [List.length_append, List.length_singleton, List.take_add_one, hp, List.map_append, List.map_append, g2]
        rfl
      · intro q hq
        rcases List.mem_append.mp hq with z | z
        · exact g3 q z
        · rw [List.mem_singleton.mp z]
          exact ⟨g.one, g.two, g.ne, g.t1, g.t2, g.b1, g.b2, x0, y0, x1, y1⟩)
  rw [List.length_range] at g1 g2
  refine ⟨net, g1, by rw [g2, List.take_length], g3, run_fn rfl ?_⟩
  have r1 := rng (n := ls.length) (by omega)
  simp [body__law_minutes, _law_minutes_s1, _law_minutes_s2, _law_minutes_s3, m1, r1, rangeD_n, h1]
end K63


set_option maxRecDepth 100000
set_option maxHeartbeats 4000000
namespace K63
open PySem PySem.Spec PyProof.Rows L2 Z
section
variable {n g : Nat} {net : List Ln}
theorem within_self {U : Fr} (pw : U.Pairwise par) {q : Int × Int} (hq : q ∈ U) : ∃ ps, within U q.2 = q :: ps := by
  induction U with
  | nil => cases hq
  | cons x U ih =>
    obtain ⟨h1, h2⟩ := List.pairwise_cons.mp pw
    unfold within
    rcases List.mem_cons.mp hq with rfl | hq'
    · rw [List.filter_cons, if_pos (decide_eq_true (Int.le_refl _))]
      exact ⟨_, rfl⟩
    · have := (h1 q hq').2
      rw [List.filter_cons, if_neg (by rw [decide_eq_true_iff]; omega)]
      exact ih h2 hq'
theorem within_more {U : Fr} (pw : U.Pairwise par) {q : Int × Int} (hq : q ∈ U) {lim : Int} (hl : q.2 ≤ lim) : ∃ p ps, within U lim = p :: ps ∧ p ∈ U ∧ p.1 ≤ q.1 := by
  have hm : q ∈ within U lim := List.mem_filter.mpr ⟨hq, decide_eq_true hl⟩
  have pw' : (within U lim).Pairwise par := pw.filter _
  cases hw : within U lim with
  | nil =>
    rw [hw] at hm
    cases hm
  | cons p ps =>
    have hp : p ∈ within U lim := by rw [hw]; exact List.mem_cons_self
    refine ⟨p, ps, rfl, (List.mem_filter.mp hp).1, ?_⟩
    rw [hw] at hm pw'
    rcases List.mem_cons.mp hm with rfl | h
    · exact Int.le_refl _
    · have := ((List.pairwise_cons.mp pw').1 q h).1
      omega
theorem limits_rev {U : Fr} (pw : U.Pairwise par) : (U.map swp).mergeSort pLe = U.reverse.map swp := by
  have h1 : ((U.map swp).mergeSort pLe).Pairwise (fun a b => pLe a b = true) := List.pairwise_mergeSort (le := pLe) (fun a b c h1 h2 => by simp [pLe] at h1 h2 ⊢; omega) (fun a b => by simp [pLe]; omega) _
  have h2 : (U.reverse.map swp).Pairwise (fun a b => pLe a b = true) := by
    rw [List.map_reverse, List.pairwise_reverse, List.pairwise_map]
    refine List.Pairwise.imp (fun {a b} h => ?_) pw
    exact decide_eq_true (Or.inl h.2)
  refine List.Perm.eq_of_pairwise (le := fun a b => pLe a b = true) (fun a b _ _ x y => ?_) h1 h2 ?_
  · exact pLe_anti x y
  · refine (List.mergeSort_perm _ _).trans ?_
    rw [List.map_reverse]
    exact (List.reverse_perm _).symm
/-- the least cost is that of the first pair -/
theorem cost_none (hG : ∀ l ∈ net, GoodL n l) (hg : g < n) {s : Nat} (hs : s < n) (h : (told net n g).getD s [] = []) : (rndK net (cost0 n g) n).getD s none = none := by
  cases hx : (rndK net (cost0 n g) n).getD s none with
  | none => rfl
  | some x =>
    obtain ⟨w, t, hw⟩ := rnd_sound hG hg n s x hx
    obtain ⟨w', c', t', h1, h2, h3, h4⟩ := short hG hs hw
    obtain ⟨u, hu, _⟩ := complete hG hg w' n s c' t' (by omega) hs h2
    have hu' : u ∈ (told net n g).getD s [] := hu
    rw [h] at hu'
    cases hu'
theorem cost_some (hG : ∀ l ∈ net, GoodL n l) (hg : g < n) {s : Nat} (hs : s < n) {p : Int × Int} {ps : Fr} (h : (told net n g).getD s [] = p :: ps) : (rndK net (cost0 n g) n).getD s none = some p.1 := by
  have hp : p ∈ (told net n g).getD s [] := by rw [h]; exact List.mem_cons_self
  obtain ⟨w, w1, w2⟩ := sound hG hg n s p hs hp
  obtain ⟨x, x1, x2⟩ := rnd_complete hG hg w n s _ _ w1 hs w2
  obtain ⟨v, t, hv⟩ := rnd_sound hG hg n s x x1
  obtain ⟨w', c', t', h1, h2, h3, h4⟩ := short hG hs hv
  obtain ⟨u, hu, hu1, _⟩ := complete hG hg w' n s c' t' (by omega) hs h2
  have hu' : u ∈ (told net n g).getD s [] := hu
  have pw : ((told net n g).getD s []).Pairwise par := tell_par hg hs n
  rw [h] at hu' pw
  rw [x1]
  congr 1
  rcases List.mem_cons.mp hu' with rfl | e
  · omega
  · have := ((List.pairwise_cons.mp pw).1 u e).1
    omega
theorem hop_link {r : Nat} {h : Hop} (hh : h ∈ hopsOf net r) : ∃ l, net[h.k]? = some l ∧ ((h.e = 0 ∧ l.one = r ∧ h.to = l.two ∧ h.cost = l.there ∧ h.time = l.m0) ∨ (h.e = 1 ∧ l.two = r ∧ h.to = l.one ∧ h.cost = l.back ∧ h.time = l.m1)) := by
  obtain ⟨⟨l, k⟩, h1, h2⟩ := mem_hops.mp hh
  have hk := List.mem_zipIdx_iff_getElem?.mp h1
  unfold hopsAt at h2
  rcases List.mem_append.mp h2 with z | z
  · split at z
    · rename_i e
      obtain rfl := List.mem_singleton.mp z
      exact ⟨l, hk, .inl ⟨rfl, e, rfl, rfl, rfl⟩⟩
    · cases z
  · split at z
    · rename_i e
      obtain rfl := List.mem_singleton.mp z
      exact ⟨l, hk, .inr ⟨rfl, e, rfl, rfl, rfl⟩⟩
    · cases z
theorem EE.nat : EE 0 (fun i : Nat => D.int (i : Int)) := ⟨fun _ => rfl, fun _ => Nat.le_refl _, fun a b => by
  show ((a : Int) == (b : Int)) = decide (a = b)
  rw [Bool.eq_iff_iff]
  simp
  omega⟩
def encNN (p : Nat × Nat) : D := .tup [.int p.1, .int p.2]
theorem EE.nn : EE 1 encNN := EE.nat.tup2 EE.nat
theorem encI_map (w : List Hop) : w.map encI = (w.map fun h => (h.k, h.e)).map encNN := by
  rw [List.map_map]
  rfl
def encA (p : (Int × Int) × List (Nat × Nat)) : D := .tup [encP p.1, .lst (p.2.map encNN)]
theorem EE.ans : EE 3 encA := EE.pair.tup2 EE.nn.list
theorem ans_self (p : Int × Int) (w : List Hop) : oNe (.tup [encP p, .lst (w.map encI)]) (.tup [encP p, .lst (w.map encI)]) = some (.bl false) := by
  rw [encI_map]
  have := EE.ans.oNe (by decide) (p, w.map fun h => (h.k, h.e)) (p, w.map fun h => (h.k, h.e))
  rw [decide_eq_true rfl] at this
  exact this
theorem pair_ne (p q : Int × Int) : oNe (encP p) (encP q) = some (.bl (!decide (p = q))) := EE.pair.oNe (by decide) p q
theorem in_front (p : Int × Int) (U : Fr) : oNotIn (encP p) (.lst (U.map encP)) = some (.bl (!decide (p ∈ U))) := by
  have hm := EE.pair.mem (by decide) U p
  show (memD (encP p) (U.map encP)).map (fun b => D.bl (!b)) = _
  rw [hm, Option.map_some]
  exact congrArg (fun b => some (D.bl (!b))) (decide_eq_decide.mpr Iff.rfl)
/-- one hop of a told walk -/
theorem law_b1_ok (N : Nx n g net) {pre post : List Hop} {h : Hop} {here : Nat} {left : Int × Int} {c0 c1 c7 c8 c9 c10 c11 c12 j17 j18 c19 c20 c21 c22 : L} (hr : here < n) (hl : left ∈ (told net n g).getD here [])
    (hw : Wk net (told net n g) g here left (h :: post)) (hlen : post.length < 1000) :
    h.to < n ∧ rest left h ∈ (told net n g).getD h.to [] ∧ Wk net (told net n g) g h.to (rest left h) post ∧ ∃ i17 i18 : L,
    law_b1 [c0, c1, .fro (.int n), .fro (.lst (net.map encL)), .fro (.lst (net.map encM)), .fro (.int g), .fro (encF (told net n g)), c7, c8, c9, c10, c11, c12, .fro (.lst ((pre ++ h :: post).map encI)), .fro (.int here), .fro (encP left), .fro (.int (pre.length : Nat)), j17, j18, c19, c20, c21, c22]
      = some (.nx [c0, c1, .fro (.int n), .fro (.lst (net.map encL)), .fro (.lst (net.map encM)), .fro (.int g), .fro (encF (told net n g)), c7, c8, c9, c10, c11, c12, .fro (.lst ((pre ++ h :: post).map encI)), .fro (.int h.to), .fro (encP (rest left h)), .fro (.int (pre.length : Nat)), i17, i18, c19, c20, c21, c22]) := by
  obtain ⟨hne, ⟨hs, hgs⟩, hw'⟩ := hw
  have hm : h ∈ goods net (told net n g) left here := by rw [hgs]; exact List.mem_cons_self
  obtain ⟨hh, hgood⟩ := List.mem_filter.mp hm
  have hin : rest left h ∈ (told net n g).getD h.to [] := of_decide_eq_true hgood
  have hto := (hop_to N.hg hh).1
  refine ⟨hto, hin, hw', .fro (.int h.k), .fro (.int h.e), ?_⟩
  obtain ⟨l, hk, hcase⟩ := hop_link hh
  have a1 : atI ((pre ++ h :: post).map encI) ((pre.length : Nat) : Int) = some (D.tup [.int h.k, .int h.e]) := by
    rw [atI_n, List.getElem?_map, List.getElem?_append_right (Nat.le_refl _), Nat.sub_self]
    rfl
  have a2 : atI (net.map encL) (h.k : Int) = some (D.tup [.int l.one, .int l.two, .int l.there, .int l.back]) := by
    rw [atI_n, List.getElem?_map, hk]
    rfl
  have a3 : atI (net.map encM) (h.k : Int) = some (D.tup [.int l.m0, .int l.m1]) := by
    rw [atI_n, List.getElem?_map, hk]
    rfl
  have a4 := told_at (told := told net n g) (j := here) (by unfold told; rw [tellK_len]; exact hr)
  have a5 := in_front left ((told net n g).getD here [])
  rw [decide_eq_true hl] at a5
  have tm : 0 ≤ (rest left h).2 := by
    obtain ⟨w, _, w2⟩ := sound N.hg N.hgn n h.to _ hto hin
    exact (wlk_nonneg N.hg w2).2.2
  obtain ⟨ps, hwi⟩ := within_self (tell_par N.hgn hto n) hin
  have a6 := m_cheapest_some N hto tm (p := rest left h) (ps := ps) (w := post) hwi hw' hlen
  have a7 : Z.cutD ((pre ++ h :: post).map encI) (some (((pre.length + 1 : Nat)) : Int)) none = post.map encI := by
    rw [cut_from, ← List.map_drop]
    congr 1
    rw [show pre ++ h :: post = (pre ++ [h]) ++ post by simp, List.drop_left' (by simp)]
  have a8 : ((pre.length : Nat) : Int) + 1 = ((pre.length + 1 : Nat) : Int) := by omega
  have a9 := ans_self (rest left h) post
  have a5' : oNotIn (.tup [.int left.1, .int left.2]) (.lst (((told net n g).getD here []).map encP)) = some (.bl false) := a5
  have a6' : m_cheapest [.int n, .lst (net.map encL), .lst (net.map encM), .int h.to, .int g, .int (left.2 - h.time)] = some (.tup [.tup [.int (left.1 - h.cost), .int (left.2 - h.time)], .lst (post.map encI)]) := a6
  have a9' : oNe (.tup [.tup [.int (left.1 - h.cost), .int (left.2 - h.time)], .lst (post.map encI)]) (.tup [.tup [.int (left.1 - h.cost), .int (left.2 - h.time)], .lst (post.map encI)]) = some (.bl false) := a9
  show law_b1 [c0, c1, .fro (.int n), .fro (.lst (net.map encL)), .fro (.lst (net.map encM)), .fro (.int g), .fro (.lst ((told net n g).map fun U => D.lst (U.map encP))), c7, c8, c9, c10, c11, c12, .fro (.lst ((pre ++ h :: post).map encI)), .fro (.int here), .fro (.tup [.int left.1, .int left.2]), .fro (.int (pre.length : Nat)), j17, j18, c19, c20, c21, c22]
      = some (.nx [c0, c1, .fro (.int n), .fro (.lst (net.map encL)), .fro (.lst (net.map encM)), .fro (.int g), .fro (.lst ((told net n g).map fun U => D.lst (U.map encP))), c7, c8, c9, c10, c11, c12, .fro (.lst ((pre ++ h :: post).map encI)), .fro (.int h.to), .fro (.tup [.int (left.1 - h.cost), .int (left.2 - h.time)]), .fro (.int (pre.length : Nat)), .fro (.int h.k), .fro (.int h.e), c19, c20, c21, c22])
  clear a5 a6 a9
  rw [← a8] at a7
  generalize (told net n g).map (fun U => D.lst (U.map encP)) = T at a4 ⊢
  generalize (D.lst (((told net n g).getD here []).map encP)) = TU at a4 a5'
  generalize (pre ++ h :: post).map encI = W at a1 a7 ⊢
  generalize post.map encI = W2 at a6' a7 a9'
  rcases hcase with ⟨e1, e2, e3, e4, e5⟩ | ⟨e1, e2, e3, e4, e5⟩
  · have b1 : oNe (.int (l.one : Int)) (.int (here : Int)) = some (.bl false) := by rw [oNe_int, decide_eq_true (by omega)]; rfl
    rw [e1] at a1 ⊢
    rw [e3, e4, e5] at a6' ⊢
    rw [e4, e5] at a9'
    simp [-oNe_int, law_b1, a1, a2, a3, a4, a5', a6', a7, a9', b1]
  · have b1 : oNe (.int (l.two : Int)) (.int (here : Int)) = some (.bl false) := by rw [oNe_int, decide_eq_true (by omega)]; rfl
    rw [e1] at a1 ⊢
    rw [e3, e4, e5] at a6' ⊢
    rw [e4, e5] at a9'
    simp [-oNe_int, law_b1, a1, a2, a3, a4, a5', a6', a7, a9', b1]
end
end K63


set_option maxRecDepth 100000
set_option maxHeartbeats 4000000
namespace K63
open PySem PySem.Spec PyProof.Rows L2 Z
section
variable {n g : Nat} {net : List Ln}
theorem wk_len {T : List Fr} : ∀ {w : List Hop} {r : Nat} {p : Int × Int}, Wk net T g r p w → True := fun _ => trivial
/-- all hops of a told walk -/
theorem walk_loop (N : Nx n g net) {w : List Hop} {s : Nat} {p : Int × Int} {c0 c1 c7 c8 c9 c10 c11 c12 j16 j17 j18 c19 c20 c21 c22 : L} (hs : s < n) (hp : p ∈ (told net n g).getD s []) (hw : Wk net (told net n g) g s p w) (hlen : w.length < 1000) :
    ∃ i16 i17 i18 : L, forGo (mName 16) law_b1 ((List.range w.length).map fun k : Nat => D.int (k : Int))
      [c0, c1, .fro (.int n), .fro (.lst (net.map encL)), .fro (.lst (net.map encM)), .fro (.int g), .fro (encF (told net n g)), c7, c8, c9, c10, c11, c12, .fro (.lst (w.map encI)), .fro (.int s), .fro (encP p), j16, j17, j18, c19, c20, c21, c22]
      = some (.nx [c0, c1, .fro (.int n), .fro (.lst (net.map encL)), .fro (.lst (net.map encM)), .fro (.int g), .fro (encF (told net n g)), c7, c8, c9, c10, c11, c12, .fro (.lst (w.map encI)), .fro (.int g), .fro (encP (0, 0)), i16, i17, i18, c19, c20, c21, c22]) := by
  obtain ⟨ev', h1, post, here, left, j16', j17', j18', rfl, q1, q2, q3, q4⟩ := for_run0 (u := law_b1) (mm := mName 16) (enc := fun k : Nat => D.int (k : Int)) (xs := List.range w.length)
    (ev := [c0, c1, .fro (.int n), .fro (.lst (net.map encL)), .fro (.lst (net.map encM)), .fro (.int g), .fro (encF (told net n g)), c7, c8, c9, c10, c11, c12, .fro (.lst (w.map encI)), .fro (.int s), .fro (encP p), j16, j17, j18, c19, c20, c21, c22])
    (fun pre ev => ∃ (post : List Hop) (here : Nat) (left : Int × Int) (j16 j17 j18 : L), ev = [c0, c1, .fro (.int n), .fro (.lst (net.map encL)), .fro (.lst (net.map encM)), .fro (.int g), .fro (encF (told net n g)), c7, c8, c9, c10, c11, c12, .fro (.lst (w.map encI)), .fro (.int here), .fro (encP left), j16, j17, j18, c19, c20, c21, c22]
      ∧ post = w.drop pre.length ∧ here < n ∧ left ∈ (told net n g).getD here [] ∧ Wk net (told net n g) g here left post)
    ⟨w, s, p, j16, j17, j18, rfl, rfl, hs, hp, hw⟩ (by
      intro pre t post' ev he hR
      obtain ⟨post, here, left, j16, j17, j18, rfl, q1, q2, q3, q4⟩ := hR
      obtain ⟨rfl, hlt⟩ := range_at he
      obtain ⟨h, hget⟩ : ∃ h, w[pre.length]? = some h := ⟨_, List.getElem?_eq_getElem hlt⟩
      have hd : w.drop pre.length = h :: w.drop (pre.length + 1) := by
        rw [List.drop_eq_getElem_cons hlt]
        rw [List.getElem?_eq_getElem hlt] at hget
        cases hget
        rfl
      have hsplit : w = w.take pre.length ++ h :: w.drop (pre.length + 1) := by
        rw [← hd, List.take_append_drop]
      have htl : (w.take pre.length).length = pre.length := by rw [List.length_take]; omega
      rw [q1, hd] at q4
      obtain ⟨r1, r2, r3, i17, i18, r4⟩ := law_b1_ok (pre := w.take pre.length) (post := w.drop (pre.length + 1)) (h := h) (here := here) (left := left) (c0 := c0) (c1 := c1) (c7 := c7) (c8 := c8) (c9 := c9) (c10 := c10) (c11 := c11) (c12 := c12) (j17 := j17) (j18 := j18) (c19 := c19) (c20 := c20) (c21 := c21) (c22 := c22) N q2 q3 q4 (by rw [List.length_drop]; omega)
      rw [← hsplit, htl] at r4
      exact ⟨_, _, rfl, .inl r4, w.drop (pre.length + 1), h.to, rest left h, .fro (.int pre.length), i17, i18, rfl, by rw [List.length_append, List.length_singleton], r1, r2, r3⟩)
  rw [List.length_range, List.drop_length] at q1
  subst q1
  obtain rfl : here = g := q4
  rw [show (told net n here).getD here [] = [(0, 0)] from tell_goal N.hgn n] at q3
  rw [List.mem_singleton.mp q3] at h1
  exact ⟨j16', j17', j18', h1⟩
theorem walk_of (hG : ∀ l ∈ net, GoodL n l) (hg : g < n) {s : Nat} {p : Int × Int} (hs : s < n) (hn : n ≤ 16) (hp : p ∈ (told net n g).getD s []) : ∃ w, Wk net (told net n g) g s p w ∧ w.length < 1000 := by
  obtain ⟨v, h1, h2⟩ := sound hG hg n s p hs hp
  have b := (wlk_nonneg hG h2)
  obtain ⟨w, h3, h4⟩ := walk_ex hG hg (10 * n) s p hs hp (by omega)
  exact ⟨w, h3, by omega⟩
theorem zero_pair : oNe (encP (0, 0)) (.tup [.int 0, .int 0]) = some (.bl false) := pair_ne (0, 0) (0, 0)
/-- one limit -/
theorem law_b2_ok (N : Nx n g net) {dr : List Int} {s : Nat} {q : Int × Int} {before : Option Int} {c0 c7 j12 j13 j14 j15 j16 j17 j18 c19 c20 c21 c22 : L} (hs : s < n) (hq : q ∈ (told net n g).getD s []) (hb : ∀ x, before = some x → q.1 < x) :
    ∃ i12 i13 i14 i15 i16 i17 i18 : L,
    law_b2 [c0, .fro (.lst (dr.map .int)), .fro (.int n), .fro (.lst (net.map encL)), .fro (.lst (net.map encM)), .fro (.int g), .fro (encF (told net n g)), c7, .fro (.int s), .fro (encO before), .fro (.int q.2), .fro (.int q.1), j12, j13, j14, j15, j16, j17, j18, c19, c20, c21, c22]
      = some (.nx [c0, .fro (.lst (dr.map .int)), .fro (.int n), .fro (.lst (net.map encL)), .fro (.lst (net.map encM)), .fro (.int g), .fro (encF (told net n g)), c7, .fro (.int s), .fro (encO (some q.1)), .fro (.int q.2), .fro (.int q.1), i12, i13, i14, i15, i16, i17, i18, c19, c20, c21, c22]) := by
  have pw : ((told net n g).getD s []).Pairwise par := tell_par N.hgn hs n
  have tm : 0 ≤ q.2 := by
    obtain ⟨w, _, w2⟩ := sound N.hg N.hgn n s q hs hq
    exact (wlk_nonneg N.hg w2).2.2
  obtain ⟨ps, hwi⟩ := within_self pw hq
  obtain ⟨w, hw, hlen⟩ := walk_of N.hg N.hgn hs N.h16 hq
  have a1 := m_cheapest_some N hs tm hwi hw hlen
  have b0 := mix_nonneg (dr := dr) (k := 300 + (s : Int)) (many := 3) (by decide)
  have m1 := mix_eq (dr := dr) (k := 300 + (s : Int)) (many := 3) (by decide)
  generalize mix dr (300 + (s : Int)) 3 = d at b0 m1
  obtain ⟨p', ps', hwi2, hp', hle⟩ := within_more pw hq (lim := q.2 + d) (by omega)
  obtain ⟨w', hw', hlen'⟩ := walk_of N.hg N.hgn hs N.h16 hp'
  have a2 := m_cheapest_some N hs (show 0 ≤ q.2 + d by omega) hwi2 hw' hlen'
  have a3 := pair_ne q q
  rw [decide_eq_true rfl] at a3
  have a4 : oGt (.int p'.1) (.int q.1) = some (.bl false) := by rw [v_gt, decide_eq_false (by omega)]
  obtain ⟨i16, i17, i18, a5⟩ := walk_loop N (c0 := c0) (c1 := .fro (.lst (dr.map .int))) (c7 := c7) (c8 := .fro (.int s)) (c9 := .fro (.int q.1)) (c10 := .fro (.int q.2)) (c11 := .fro (.int q.1)) (c12 := .fro (encP q)) (j16 := j16) (j17 := j17) (j18 := j18) (c19 := c19) (c20 := c20) (c21 := c21) (c22 := c22) hs hq hw hlen
  have a6 := zero_pair
  have a7 : oNe (.int (g : Int)) (.int (g : Int)) = some (.bl false) := by rw [oNe_int, decide_eq_true rfl]; rfl
  have r1 : -4611686018427387904 ≤ (w.length : Int) ∧ (w.length : Int) < 4611686018427387904 := by omega
  have e1 : encP q = .tup [.int q.1, .int q.2] := rfl
  have e2 : encP p' = .tup [.int p'.1, .int p'.2] := rfl
  have e3 : oNe (.tup [.int q.1, .int q.2]) (.tup [.int q.1, .int q.2]) = some (.bl false) := a3
  refine ⟨.fro (encP q), .fro (.lst (w.map encI)), .fro (.int g), .fro (encP (0, 0)), i16, i17, i18, ?_⟩
  rw [e2] at a2
  have a5' := a5
  generalize encF (told net n g) = T at a1 a2 a5 ⊢
  have hwl : (w.map encI).length = w.length := List.length_map ..
  have a8 : asB (some (D.bl (!(true : Bool)))) = some false := rfl
  generalize encP (0, 0) = Z0 at a5 a6 ⊢
  generalize hW : w.map encI = W at a1 a5 hwl ⊢
  rw [e1] at *
  cases before with
  | none =>
    simp [-oNe_int, -Z.v_gt, law_b2, a1, a2, m1, a4, a5, a6, a7, e3, hwl, r1, rangeD_n]
  | some x =>
    have hx := hb x rfl
    have a9 : oLt (.int q.1) (.int x) = some (.bl true) := by rw [Z.v_lt, decide_eq_true hx]
    simp [-oNe_int, -Z.v_gt, -Z.v_lt, law_b2, a1, a2, m1, a4, a5, a6, a7, a9, e3, hwl, r1, rangeD_n]
/-- one start -/
theorem law_b3_ok (N : Nx n g net) {dr : List Int} {s : Nat} {c0 j9 j10 j11 j12 j13 j14 j15 j16 j17 j18 c19 c20 c21 c22 : L} (hs : s < n) :
    ∃ i9 i10 i11 i12 i13 i14 i15 i16 i17 i18 : L,
    law_b3 [c0, .fro (.lst (dr.map .int)), .fro (.int n), .fro (.lst (net.map encL)), .fro (.lst (net.map encM)), .fro (.int g), .fro (encF (told net n g)), .fro (.lst ((rndK net (cost0 n g) n).map encO)), .fro (.int s), j9, j10, j11, j12, j13, j14, j15, j16, j17, j18, c19, c20, c21, c22]
      = some (.nx [c0, .fro (.lst (dr.map .int)), .fro (.int n), .fro (.lst (net.map encL)), .fro (.lst (net.map encM)), .fro (.int g), .fro (encF (told net n g)), .fro (.lst ((rndK net (cost0 n g) n).map encO)), .fro (.int s), i9, i10, i11, i12, i13, i14, i15, i16, i17, i18, c19, c20, c21, c22]) := by
  have pw : ((told net n g).getD s []).Pairwise par := tell_par N.hgn hs n
  have a1 := m_limits_eq N hs
  rw [limits_rev pw] at a1
  have a2 := told_at (told := told net n g) (j := s) (by unfold told; rw [tellK_len]; exact hs)
  have a3 := atC (f := rndK net (cost0 n g) n) (j := s) (by rw [rnd_len]; exact hs)
  obtain ⟨ev', h1, before, j10', j11', j12', j13', j14', j15', j16', j17', j18', rfl, _⟩ := for_run0 (u := law_b2) (mm := mTup (mCons (mName 10) (mCons (mName 11) mNil))) (enc := fun q : Int × Int => encP (swp q)) (xs := ((told net n g).getD s []).reverse)
    (ev := [c0, .fro (.lst (dr.map .int)), .fro (.int n), .fro (.lst (net.map encL)), .fro (.lst (net.map encM)), .fro (.int g), .fro (encF (told net n g)), .fro (.lst ((rndK net (cost0 n g) n).map encO)), .fro (.int s), .fro .non, j10, j11, j12, j13, j14, j15, j16, j17, j18, c19, c20, c21, c22])
    (fun pre ev => ∃ (before : Option Int) (j10 j11 j12 j13 j14 j15 j16 j17 j18 : L), ev = [c0, .fro (.lst (dr.map .int)), .fro (.int n), .fro (.lst (net.map encL)), .fro (.lst (net.map encM)), .fro (.int g), .fro (encF (told net n g)), .fro (.lst ((rndK net (cost0 n g) n).map encO)), .fro (.int s), .fro (encO before), j10, j11, j12, j13, j14, j15, j16, j17, j18, c19, c20, c21, c22]
      ∧ ∀ x, before = some x → ∃ u ∈ pre, u.1 = x)
    ⟨none, _, _, _, _, _, _, _, _, _, rfl, fun x h => nomatch h⟩ (by
      intro pre q post ev he hR
      obtain ⟨before, j10, j11, j12, j13, j14, j15, j16, j17, j18, rfl, hbf⟩ := hR
      have hq : q ∈ (told net n g).getD s [] := by
        rw [← List.mem_reverse, ← he]
        simp
      have hb : ∀ x, before = some x → q.1 < x := by
        intro x hx
        obtain ⟨u, hu, rfl⟩ := hbf x hx
        have pr : ((told net n g).getD s []).reverse.Pairwise (fun a b => par b a) := List.pairwise_reverse.mpr pw
        rw [← he] at pr
        exact ((List.pairwise_append.mp pr).2.2 u hu q List.mem_cons_self).1
      obtain ⟨i12, i13, i14, i15, i16, i17, i18, ht⟩ := law_b2_ok N (dr := dr) (s := s) (q := q) (before := before) (c0 := c0) (c7 := .fro (.lst ((rndK net (cost0 n g) n).map encO))) (j12 := j12) (j13 := j13) (j14 := j14) (j15 := j15) (j16 := j16) (j17 := j17) (j18 := j18) (c19 := c19) (c20 := c20) (c21 := c21) (c22 := c22) hs hq hb
      refine ⟨_, _, ?_, .inl ht, some q.1, .fro (.int q.2), .fro (.int q.1), i12, i13, i14, i15, i16, i17, i18, rfl, ?_⟩
      · simp [encP, swp]
      · intro x hx
        cases hx
        exact ⟨q, by simp, rfl⟩)
  have a1' : m_limits [.int n, .lst (net.map encL), .lst (net.map encM), .int s, .int g] = some (.lst (((told net n g).getD s []).reverse.map fun q => encP (swp q))) := by
    rw [a1, List.map_map]
    rfl
  refine ⟨.fro (encO before), j10', j11', j12', j13', j14', j15', j16', j17', j18', ?_⟩
  have eT : encF (told net n g) = .lst ((told net n g).map fun U => D.lst (U.map encP)) := rfl
  cases hU : (told net n g).getD s [] with
  | nil =>
    have c := cost_none N.hg N.hgn hs hU
    have e0 : oEq (.lst []) (.lst []) = some (.bl true) := EE.int.list.oEq (by decide) [] []
    have e1 : oNe (.lst []) (.lst []) = some (.bl false) := EE.int.list.oNe (by decide) [] []
    rw [c] at a3
    rw [hU] at a2
    generalize ((told net n g).getD s []).reverse.map (fun q => encP (swp q)) = R at a1' h1
    generalize (rndK net (cost0 n g) n).map encO = C at a3 h1 ⊢
    rw [eT] at *
    generalize (told net n g).map (fun U => D.lst (U.map encP)) = T at a2 h1 ⊢
    generalize encO before = B at h1 ⊢
    simp at a2 a3
    simp [law_b3, a1', a2, a3, h1, e0, e1]
  | cons p ps =>
    have c := cost_some N.hg N.hgn hs hU
    have e0 : oEq (.lst ((p :: ps).map encP)) (.lst []) = some (.bl false) := by
      have := EE.fr.oEq (by decide) (p :: ps) []
      rw [decide_eq_false (by simp)] at this
      exact this
    have e1 : oNe (.lst ((p :: ps).map encP)) (.lst []) = some (.bl true) := by
      have := EE.fr.oNe (by decide) (p :: ps) []
      rw [decide_eq_false (by simp)] at this
      exact this
    have e2 : oNe (.int p.1) (.int p.1) = some (.bl false) := by rw [oNe_int, decide_eq_true rfl]; rfl
    have e3 : atI ((p :: ps).map encP) 0 = some (.tup [.int p.1, .int p.2]) := by
      rw [List.map_cons]
      exact atI_0
    rw [c] at a3
    rw [hU] at a2
    generalize ((told net n g).getD s []).reverse.map (fun q => encP (swp q)) = R at a1' h1
    generalize (rndK net (cost0 n g) n).map encO = C at a3 h1 ⊢
    rw [eT] at *
    generalize (told net n g).map (fun U => D.lst (U.map encP)) = T at a2 h1 ⊢
    generalize encO before = B at h1 ⊢
    generalize (p :: ps).map encP = P at a2 e0 e1 e3
    simp at a2 a3
    simp [-oNe_int, law_b3, a1', a2, a3, h1, e0, e1, e2, e3]
end
end K63


set_option maxRecDepth 100000
set_option maxHeartbeats 4000000
namespace K63
open PySem PySem.Spec PyProof.Rows L2 Z
/-! ### the told net -/
instance (a b : Int × Int) : Decidable (par a b) := inferInstanceAs (Decidable (a.1 < b.1 ∧ b.2 < a.2))
instance (a b : Int × Int) : Decidable (dom a b) := inferInstanceAs (Decidable (a.1 ≤ b.1 ∧ a.2 ≤ b.2))
theorem unb_is {ps U : Fr} (h : U.Pairwise par) (hs : ∀ u ∈ U, u ∈ ps) (ha : ∀ p ∈ ps, ∃ u ∈ U, dom u p) : unb ps = U :=
  front_eq (unb_un ps).pw h (fun u hu => ha u ((unb_un ps).sub u hu)) fun v hv => (unb_un ps).all v (hs v hv)
def net4 : List Ln := [⟨0, 1, 1, 1, 9, 9⟩, ⟨0, 1, 3, 3, 2, 2⟩, ⟨1, 2, 1, 1, 9, 9⟩, ⟨1, 2, 4, 4, 1, 1⟩]
def T1 : List Fr := [[], [(1, 9), (4, 1)], [(0, 0)]]
def T2 : List Fr := [[(2, 18), (4, 11), (5, 10), (7, 3)], [(1, 9), (4, 1)], [(0, 0)]]
theorem row4 {T : List Fr} {U0 U1 : Fr} (h0 : unb (cand net4 T 0) = U0) (h1 : unb (cand net4 T 1) = U1) : tellS net4 3 2 T = [U0, U1, T.getD 2 []] := by
  unfold tellS
  rw [show List.range 3 = [0, 1, 2] from rfl]
  simp [h0, h1]
theorem c00 : cand net4 [[], [], [(0, 0)]] 0 = [] := by decide
theorem c01 : cand net4 [[], [], [(0, 0)]] 1 = [(1, 9), (4, 1)] := by decide
theorem c10 : cand net4 T1 0 = [(2, 18), (5, 10), (4, 11), (7, 3)] := by decide
theorem c11 : cand net4 T1 1 = [(1, 9), (4, 1)] := by decide
theorem c20 : cand net4 T2 0 = [(2, 18), (5, 10), (4, 11), (7, 3)] := by decide
theorem c21 : cand net4 T2 1 = [(3, 27), (5, 20), (6, 19), (8, 12), (5, 20), (7, 13), (8, 12), (10, 5), (1, 9), (4, 1)] := by decide
theorem told4 : told net4 3 2 = T2 := by
  have e0 : tellK net4 3 2 0 = [[], [], [(0, 0)]] := by decide
  have e1 : tellK net4 3 2 1 = T1 := by
    show tellS net4 3 2 (tellK net4 3 2 0) = _
    rw [e0, row4 (U0 := []) (U1 := [(1, 9), (4, 1)]) (by rw [c00]; exact unb_is (by decide) (by decide) (by decide)) (by rw [c01]; exact unb_is (by decide) (by decide) (by decide))]
    rfl
  have e2 : tellK net4 3 2 2 = T2 := by
    show tellS net4 3 2 (tellK net4 3 2 1) = _
    rw [e1, row4 (U0 := [(2, 18), (4, 11), (5, 10), (7, 3)]) (U1 := [(1, 9), (4, 1)]) (by rw [c10]; exact unb_is (by decide) (by decide) (by decide)) (by rw [c11]; exact unb_is (by decide) (by decide) (by decide))]
    rfl
  show tellS net4 3 2 (tellK net4 3 2 2) = _
  rw [e2, row4 (U0 := [(2, 18), (4, 11), (5, 10), (7, 3)]) (U1 := [(1, 9), (4, 1)]) (by rw [c20]; exact unb_is (by decide) (by decide) (by decide)) (by rw [c21]; exact unb_is (by decide) (by decide) (by decide))]
  rfl
theorem good4 : ∀ l ∈ net4, GoodL 3 l := by
  intro l hl
  unfold net4 at hl
  simp only [List.mem_cons, List.not_mem_nil, or_false] at hl
  rcases hl with rfl | rfl | rfl | rfl <;> exact ⟨by decide, by decide, by decide, by decide, by decide, by decide, by decide, by decide, by decide, by decide, by decide⟩
theorem nx4 : Nx 3 2 net4 := nx_of (by decide) (by decide) good4 (by decide) (by decide)
def h0 : Hop := ⟨0, 0, 1, 1, 9⟩
def h1 : Hop := ⟨1, 0, 1, 3, 2⟩
def h2 : Hop := ⟨2, 0, 2, 1, 9⟩
def h3 : Hop := ⟨3, 0, 2, 4, 1⟩
theorem wk4 {a b : Hop} {p : Int × Int} {hs hs' : List Hop} (g1 : goods net4 T2 p 0 = a :: hs) (ha : a.to = 1) (g2 : goods net4 T2 (rest p a) 1 = b :: hs') (hb : b.to = 2) : Wk net4 (told net4 3 2) 2 0 p [a, b] := by
  rw [told4]
  refine ⟨by decide, ⟨_, g1⟩, ?_⟩
  rw [ha]
  exact ⟨by decide, ⟨_, g2⟩, hb⟩
theorem m4_ok {lim : Int} (hl : 0 ≤ lim) {a b : Hop} {p : Int × Int} {ps : Fr} {hs hs' : List Hop} (hf : within [(2, 18), (4, 11), (5, 10), (7, 3)] lim = p :: ps) (g1 : goods net4 T2 p 0 = a :: hs) (ha : a.to = 1) (g2 : goods net4 T2 (rest p a) 1 = b :: hs') (hb : b.to = 2) :
    m_cheapest [.int 3, .lst (net4.map encL), .lst (net4.map encM), .int 0, .int 2, .int lim] = some (.tup [encP p, .lst [encI a, encI b]]) := by
  have := m_cheapest_some nx4 (s := 0) (by decide) hl (p := p) (ps := ps) (w := [a, b]) (by rw [told4]; exact hf) (wk4 g1 ha g2 hb) (by show 2 < 1000; decide)
  exact this
theorem m4_18 : m_cheapest [.int 3, .lst (net4.map encL), .lst (net4.map encM), .int 0, .int 2, .int 18] = some (.tup [encP (2, 18), .lst [encI h0, encI h2]]) :=
  m4_ok (by decide) (a := h0) (b := h2) (ps := [(4, 11), (5, 10), (7, 3)]) (by decide) (hs := []) (by decide) rfl (hs' := []) (by decide) rfl
theorem m4_11 : m_cheapest [.int 3, .lst (net4.map encL), .lst (net4.map encM), .int 0, .int 2, .int 11] = some (.tup [encP (4, 11), .lst [encI h1, encI h2]]) :=
  m4_ok (by decide) (a := h1) (b := h2) (ps := [(5, 10), (7, 3)]) (by decide) (hs := []) (by decide) rfl (hs' := []) (by decide) rfl
theorem m4_10 : m_cheapest [.int 3, .lst (net4.map encL), .lst (net4.map encM), .int 0, .int 2, .int 10] = some (.tup [encP (5, 10), .lst [encI h0, encI h3]]) :=
  m4_ok (by decide) (a := h0) (b := h3) (ps := [(7, 3)]) (by decide) (hs := []) (by decide) rfl (hs' := []) (by decide) rfl
theorem m4_3 : m_cheapest [.int 3, .lst (net4.map encL), .lst (net4.map encM), .int 0, .int 2, .int 3] = some (.tup [encP (7, 3), .lst [encI h1, encI h3]]) :=
  m4_ok (by decide) (a := h1) (b := h3) (ps := []) (by decide) (hs := []) (by decide) rfl (hs' := []) (by decide) rfl
theorem m4_2 : m_cheapest [.int 3, .lst (net4.map encL), .lst (net4.map encM), .int 0, .int 2, .int 2] = some .non :=
  m_cheapest_none nx4 (s := 0) (by decide) (by decide) (by rw [told4]; decide)
def rows4 : List D := [.tup [encP (2, 18), .lst [encI h0, encI h2]], .tup [encP (4, 11), .lst [encI h1, encI h2]], .tup [encP (5, 10), .lst [encI h0, encI h3]], .tup [encP (7, 3), .lst [encI h1, encI h3]], .non]
theorem rep4 : ∃ s : Str, bRepr [.lst rows4] = some (.str s) ∧ oEq (.str s) (.str s) = some (.bl true) := by
  refine ⟨PyData.shown (D.lst rows4).pd, ?_, ?_⟩
  · show reprD (.lst rows4) = _
    unfold reprD
    exact if_pos ⟨by decide +kernel, by decide +kernel, by decide +kernel, by decide +kernel⟩
  · unfold Z.oEq Z.eqD
    rw [if_pos ⟨by decide +kernel, by decide +kernel⟩]
    show some (D.bl (PyData.shown (D.lst rows4).pd == PyData.shown (D.lst rows4).pd)) = _
    rw [beq_self_eq_true]
theorem law_s789 {e : EV} {c0 c1 c2 c3 c4 c5 c6 c7 c8 c9 c10 c11 c12 c13 c14 c15 c16 c17 c18 c19 c20 c21 c22 : L} (he : e = [c0, c1, c2, c3, c4, c5, c6, c7, c8, c9, c10, c11, c12, c13, c14, c15, c16, c17, c18, c19, c20, c21, c22]) :
    sSeq law_s7 (sSeq law_s8 law_s9) e = some (.rt (.bl true)) := by
  subst he
  have hL : net4.map encL = [.tup [.int 0, .int 1, .int 1, .int 1], .tup [.int 0, .int 1, .int 3, .int 3], .tup [.int 1, .int 2, .int 1, .int 1], .tup [.int 1, .int 2, .int 4, .int 4]] := rfl
  have hM : net4.map encM = [.tup [.int 9, .int 9], .tup [.int 2, .int 2], .tup [.int 9, .int 9], .tup [.int 1, .int 1]] := rfl
  have k1 : kComp (iLst (cLst (kList (aCons (cC (.int 18)) (aCons (cC (.int 11)) (aCons (cC (.int 10)) (aCons (cC (.int 3)) (aCons (cC (.int 2)) aNil)))))))) (mName 22) (fun _ => some true) law_e1 [22]
      [c0, c1, c2, c3, c4, c5, c6, c7, c8, c9, c10, c11, c12, c13, c14, c15, c16, c17, c18, .fro (.lst (net4.map encL)), .fro (.lst (net4.map encM)), c21, c22] = some rows4 := by
    have q0 := m4_18
    have q1 := m4_11
    have q2 := m4_10
    have q3 := m4_3
    have q4 := m4_2
    unfold rows4
    generalize encP (2, 18) = p0 at q0 ⊢
    generalize encP (4, 11) = p1 at q1 ⊢
    generalize encP (5, 10) = p2 at q2 ⊢
    generalize encP (7, 3) = p3 at q3 ⊢
    generalize encI h0 = i0 at *
    generalize encI h1 = i1 at *
    generalize encI h2 = i2 at *
    generalize encI h3 = i3 at *
    generalize net4.map encL = LL at *
    generalize net4.map encM = MM at *
    rw [v_comp (ds := [.int 18, .int 11, .int 10, .int 3, .int 2]) (by simp) (by decide)]
    simp [compGo, law_e1, q0, q1, q2, q3, q4]
    rfl
  obtain ⟨s, hs, k2⟩ := rep4
  have hR : rows4 = [.tup [.tup [.int 2, .int 18], .lst [.tup [.int 0, .int 0], .tup [.int 2, .int 0]]], .tup [.tup [.int 4, .int 11], .lst [.tup [.int 1, .int 0], .tup [.int 2, .int 0]]], .tup [.tup [.int 5, .int 10], .lst [.tup [.int 0, .int 0], .tup [.int 3, .int 0]]], .tup [.tup [.int 7, .int 3], .lst [.tup [.int 1, .int 0], .tup [.int 3, .int 0]]], .non] := rfl
  have hs' := hs
  rw [hR] at hs'
  have e7 : law_s7 [c0, c1, c2, c3, c4, c5, c6, c7, c8, c9, c10, c11, c12, c13, c14, c15, c16, c17, c18, c19, c20, c21, c22] = some (.nx [c0, c1, c2, c3, c4, c5, c6, c7, c8, c9, c10, c11, c12, c13, c14, c15, c16, c17, c18, .fro (.lst (net4.map encL)), .fro (.lst (net4.map encM)), c21, c22]) := by
    rw [hL, hM]
    simp [law_s7]
  have e8 : law_s8 [c0, c1, c2, c3, c4, c5, c6, c7, c8, c9, c10, c11, c12, c13, c14, c15, c16, c17, c18, .fro (.lst (net4.map encL)), .fro (.lst (net4.map encM)), c21, c22] = some (.nx [c0, c1, c2, c3, c4, c5, c6, c7, c8, c9, c10, c11, c12, c13, c14, c15, c16, c17, c18, .fro (.lst (net4.map encL)), .fro (.lst (net4.map encM)), .fro (.lst rows4), c22]) := by
    generalize rows4 = R at k1 ⊢
    generalize net4.map encL = LL at *
    generalize net4.map encM = MM at *
    simp [law_s8, k1]
  rw [seq_nx e7, seq_nx e8]
  generalize rows4 = R at hs ⊢
  generalize net4.map encL = LL
  generalize net4.map encM = MM
  simp [law_s9, hs, hs', k2]
/-! ### the law -/
theorem law_true : ∀ ns : List Int, ns.length ≤ 63 → m_law [.scr ns] = some (.bl true) := by
  intro ns hns
  refine run_fn rfl ?_
  obtain ⟨dr, hdr⟩ := draws_ok ns hns
  obtain ⟨n, ls, h2, h6, hg, hl1, hl14, hd⟩ := m_doubled_ok (dr := dr) (k := 10)
  obtain ⟨net, hnl, hne, hG, hm⟩ := m_minutes_ok (n := n) (dr := dr) (k := 100) (ls := ls) hg hl14
  have hn0 : (0 : Int) < n := by omega
  have a0 := mix_nonneg (dr := dr) (k := 1) hn0
  have a1 := mix_lt (dr := dr) (k := 1) hn0
  have m1 := mix_eq (dr := dr) (k := 1) hn0
  generalize mix dr 1 n = goal at a0 a1 m1
  obtain ⟨g, rfl⟩ := Int.eq_ofNat_of_zero_le a0
  have m1' : m__law_mix [.lst (dr.map .int), .int 1, .int (n : Int)] = some (.int (g : Int)) := m1
  have hgn : g < n := by omega
  rw [← hne] at hd hm
  have N : Nx n g net := nx_of (by omega) h6 hG (by omega) hgn
  have hf := m_fronts_eq N
  have hc := m_costs (n := n) (g := g) N.h16 hG
  have ha := m_are_eq N (tell_goal hgn n) (fun r hr hne => told_fix hG hgn hr hne)
  obtain ⟨ev', h1, j8, j9, j10, j11, j12, j13, j14, j15, j16, j17, j18, rfl⟩ := for_run0 (u := law_b3) (mm := mName 8) (enc := fun k : Nat => D.int (k : Int)) (xs := List.range n)
    (ev := [.fro (.scr ns), .fro (.lst (dr.map .int)), .fro (.int n), .fro (.lst (net.map encL)), .fro (.lst (net.map encM)), .fro (.int g), .fro (encF (told net n g)), .fro (.lst ((rndK net (cost0 n g) n).map encO)), .un, .un, .un, .un, .un, .un, .un, .un, .un, .un, .un, .un, .un, .un, .un])
    (fun pre ev => ∃ (j8 j9 j10 j11 j12 j13 j14 j15 j16 j17 j18 : L), ev = [.fro (.scr ns), .fro (.lst (dr.map .int)), .fro (.int n), .fro (.lst (net.map encL)), .fro (.lst (net.map encM)), .fro (.int g), .fro (encF (told net n g)), .fro (.lst ((rndK net (cost0 n g) n).map encO)), j8, j9, j10, j11, j12, j13, j14, j15, j16, j17, j18, .un, .un, .un, .un])
    ⟨_, _, _, _, _, _, _, _, _, _, _, rfl⟩ (by
      intro pre s post ev he hR
      obtain ⟨j8, j9, j10, j11, j12, j13, j14, j15, j16, j17, j18, rfl⟩ := hR
      obtain ⟨rfl, hlt⟩ := range_at he
      obtain ⟨i9, i10, i11, i12, i13, i14, i15, i16, i17, i18, ht⟩ := law_b3_ok N (dr := dr) (s := pre.length) (c0 := .fro (.scr ns)) (j9 := j9) (j10 := j10) (j11 := j11) (j12 := j12) (j13 := j13) (j14 := j14) (j15 := j15) (j16 := j16) (j17 := j17) (j18 := j18) (c19 := .un) (c20 := .un) (c21 := .un) (c22 := .un) hlt
      exact ⟨_, _, rfl, .inl ht, _, _, _, _, _, _, _, _, _, _, _, rfl⟩)
  have h789 := @law_s789 _ (.fro (.scr ns)) (.fro (.lst (dr.map .int))) (.fro (.int n)) (.fro (.lst (net.map encL))) (.fro (.lst (net.map encM))) (.fro (.int g)) (.fro (encF (told net n g))) (.fro (.lst ((rndK net (cost0 n g) n).map encO))) j8 j9 j10 j11 j12 j13 j14 j15 j16 j17 j18 .un .un .un .un rfl
  have r1 := rng N.h16
  have s6 : law_s6 [.fro (.scr ns), .fro (.lst (dr.map .int)), .fro (.int n), .fro (.lst (net.map encL)), .fro (.lst (net.map encM)), .fro (.int g), .fro (encF (told net n g)), .fro (.lst ((rndK net (cost0 n g) n).map encO)), .un, .un, .un, .un, .un, .un, .un, .un, .un, .un, .un, .un, .un, .un, .un]
      = some (.nx [.fro (.scr ns), .fro (.lst (dr.map .int)), .fro (.int n), .fro (.lst (net.map encL)), .fro (.lst (net.map encM)), .fro (.int g), .fro (encF (told net n g)), .fro (.lst ((rndK net (cost0 n g) n).map encO)), j8, j9, j10, j11, j12, j13, j14, j15, j16, j17, j18, .un, .un, .un, .un]) := by
    generalize encF (told net n g) = T at h1 ⊢
    generalize (rndK net (cost0 n g) n).map encO = C at h1 ⊢
    simp [law_s6, r1, rangeD_n, h1]
  have ev0 : evStart [D.scr ns] 22 = [.fro (.scr ns), .un, .un, .un, .un, .un, .un, .un, .un, .un, .un, .un, .un, .un, .un, .un, .un, .un, .un, .un, .un, .un, .un] := rfl
  rw [ev0]
  have e1 : law_s1 [.fro (.scr ns), .un, .un, .un, .un, .un, .un, .un, .un, .un, .un, .un, .un, .un, .un, .un, .un, .un, .un, .un, .un, .un, .un] = some (.nx [.fro (.scr ns), .fro (.lst (dr.map .int)), .un, .un, .un, .un, .un, .un, .un, .un, .un, .un, .un, .un, .un, .un, .un, .un, .un, .un, .un, .un, .un]) := by
    simp [law_s1, hdr]
  have e2 : law_s2 [.fro (.scr ns), .fro (.lst (dr.map .int)), .un, .un, .un, .un, .un, .un, .un, .un, .un, .un, .un, .un, .un, .un, .un, .un, .un, .un, .un, .un, .un] = some (.nx [.fro (.scr ns), .fro (.lst (dr.map .int)), .fro (.int n), .fro (.lst (net.map encL)), .un, .un, .un, .un, .un, .un, .un, .un, .un, .un, .un, .un, .un, .un, .un, .un, .un, .un, .un]) := by
    simp [law_s2, hd]
  have e3 : law_s3 [.fro (.scr ns), .fro (.lst (dr.map .int)), .fro (.int n), .fro (.lst (net.map encL)), .un, .un, .un, .un, .un, .un, .un, .un, .un, .un, .un, .un, .un, .un, .un, .un, .un, .un, .un] = some (.nx [.fro (.scr ns), .fro (.lst (dr.map .int)), .fro (.int n), .fro (.lst (net.map encL)), .fro (.lst (net.map encM)), .fro (.int g), .un, .un, .un, .un, .un, .un, .un, .un, .un, .un, .un, .un, .un, .un, .un, .un, .un]) := by
    simp [law_s3, hm, m1']
  have e4 : law_s4 [.fro (.scr ns), .fro (.lst (dr.map .int)), .fro (.int n), .fro (.lst (net.map encL)), .fro (.lst (net.map encM)), .fro (.int g), .un, .un, .un, .un, .un, .un, .un, .un, .un, .un, .un, .un, .un, .un, .un, .un, .un] = some (.nx [.fro (.scr ns), .fro (.lst (dr.map .int)), .fro (.int n), .fro (.lst (net.map encL)), .fro (.lst (net.map encM)), .fro (.int g), .fro (encF (told net n g)), .fro (.lst ((rndK net (cost0 n g) n).map encO)), .un, .un, .un, .un, .un, .un, .un, .un, .un, .un, .un, .un, .un, .un, .un]) := by
    generalize encF (told net n g) = T at hf ⊢
    generalize (rndK net (cost0 n g) n).map encO = C at hc ⊢
    simp [law_s4, hf, hc]
  have e5 : law_s5 [.fro (.scr ns), .fro (.lst (dr.map .int)), .fro (.int n), .fro (.lst (net.map encL)), .fro (.lst (net.map encM)), .fro (.int g), .fro (encF (told net n g)), .fro (.lst ((rndK net (cost0 n g) n).map encO)), .un, .un, .un, .un, .un, .un, .un, .un, .un, .un, .un, .un, .un, .un, .un] = some (.nx [.fro (.scr ns), .fro (.lst (dr.map .int)), .fro (.int n), .fro (.lst (net.map encL)), .fro (.lst (net.map encM)), .fro (.int g), .fro (encF (told net n g)), .fro (.lst ((rndK net (cost0 n g) n).map encO)), .un, .un, .un, .un, .un, .un, .un, .un, .un, .un, .un, .un, .un, .un, .un]) := by
    generalize encF (told net n g) = T at ha ⊢
    generalize (rndK net (cost0 n g) n).map encO = C
    simp [law_s5, ha]
  unfold body_law
  rw [seq_nx e1, seq_nx e2, seq_nx e3, seq_nx e4, seq_nx e5, seq_nx s6]
  exact h789
end K63


open PySem PySem.W PyProof.Rows
set_option maxHeartbeats 0 in
theorem PySem.Challenge.cw_waysflooded_k63_main_what_holds_of_ways_holds : PySem.Challenge.rw_waysflooded_k63_main_what_holds_of_ways.Holds := by
  w_on; o_law; k_head; (case hw => w_witness2)
  k_fill
  refine Z.walkG (l := PySem.Challenge.rw_waysflooded_k63_main_what_holds_of_ways) (n := 63) (k := 5) (x := "script") (o := K63.m_law) rfl (by decide) rfl ⟨rfl, by decide, by decide⟩ (fun w h Y => PySem.W.kIn_of Y) ?F K63.law_true
  case F =>
    intro w mg fa h KX G hmg
    refine K63.law_end KX G hmg ?d_check_links ?d_is_span ?d_check_router ?d_hops_of ?d_unbeaten ?d__law_draws ?d__law_mix ?d__law_costs ?d_check_net ?d_next_front ?d_walk_by ?d__law_net ?d__law_minutes ?d_find_fronts ?d_are_fronts ?d_check_ends ?d__law_doubled ?d_fronts ?d_cheapest ?d_limits ?d_law ?c_MOST_COST ?c_MOST_LINKS ?c_MOST_MINUTES ?c_MOST_PAIRS ?c_MOST_ROUTERS ?n_abs ?n_all ?n_enumerate ?n_int ?n_len ?n_max ?n_min ?n_range ?n_repr ?n_set ?n_sorted ?n_tuple
    (case d_check_links => refine' Z.def_mk KX G ?a ?l ?c ?k; (case a => k_is); (case l => k_is); (case c => k_is); (case k => k_is))
    (case d_is_span => refine' Z.def_mk KX G ?a ?l ?c ?k; (case a => k_is); (case l => k_is); (case c => k_is); (case k => k_is))
    (case d_check_router => refine' Z.def_mk KX G ?a ?l ?c ?k; (case a => k_is); (case l => k_is); (case c => k_is); (case k => k_is))
    (case d_hops_of => refine' Z.def_mk KX G ?a ?l ?c ?k; (case a => k_is); (case l => k_is); (case c => k_is); (case k => k_is))
    (case d_unbeaten => refine' Z.def_mk KX G ?a ?l ?c ?k; (case a => k_is); (case l => k_is); (case c => k_is); (case k => k_is))
    (case d__law_draws => refine' Z.def_mk KX G ?a ?l ?c ?k; (case a => k_is); (case l => k_is); (case c => k_is); (case k => k_is))
    (case d__law_mix => refine' Z.def_mk KX G ?a ?l ?c ?k; (case a => k_is); (case l => k_is); (case c => k_is); (case k => k_is))
    (case d__law_costs => refine' Z.def_mk KX G ?a ?l ?c ?k; (case a => k_is); (case l => k_is); (case c => k_is); (case k => k_is))
    (case d_check_net => refine' Z.def_mk KX G ?a ?l ?c ?k; (case a => k_is); (case l => k_is); (case c => k_is); (case k => k_is))
    (case d_next_front => refine' Z.def_mk KX G ?a ?l ?c ?k; (case a => k_is); (case l => k_is); (case c => k_is); (case k => k_is))
    (case d_walk_by => refine' Z.def_mk KX G ?a ?l ?c ?k; (case a => k_is); (case l => k_is); (case c => k_is); (case k => k_is))
    (case d__law_net => refine' Z.def_mk KX G ?a ?l ?c ?k; (case a => k_is); (case l => k_is); (case c => k_is); (case k => k_is))
    (case d__law_minutes => refine' Z.def_mk KX G ?a ?l ?c ?k; (case a => k_is); (case l => k_is); (case c => k_is); (case k => k_is))
    (case d_find_fronts => refine' Z.def_mk KX G ?a ?l ?c ?k; (case a => k_is); (case l => k_is); (case c => k_is); (case k => k_is))
    (case d_are_fronts => refine' Z.def_mk KX G ?a ?l ?c ?k; (case a => k_is); (case l => k_is); (case c => k_is); (case k => k_is))
    (case d_check_ends => refine' Z.def_mk KX G ?a ?l ?c ?k; (case a => k_is); (case l => k_is); (case c => k_is); (case k => k_is))
    (case d__law_doubled => refine' Z.def_mk KX G ?a ?l ?c ?k; (case a => k_is); (case l => k_is); (case c => k_is); (case k => k_is))
    (case d_fronts => refine' Z.def_mk KX G ?a ?l ?c ?k; (case a => k_is); (case l => k_is); (case c => k_is); (case k => k_is))
    (case d_cheapest => refine' Z.def_mk KX G ?a ?l ?c ?k; (case a => k_is); (case l => k_is); (case c => k_is); (case k => k_is))
    (case d_limits => refine' Z.def_mk KX G ?a ?l ?c ?k; (case a => k_is); (case l => k_is); (case c => k_is); (case k => k_is))
    (case d_law => refine' Z.def_mk KX G ?a ?l ?c ?k; (case a => k_is); (case l => k_is); (case c => k_is); (case k => k_is))
    (case c_MOST_COST => refine' Z.int_mk KX G ?a; (case a => k_is))
    (case c_MOST_LINKS => refine' Z.int_mk KX G ?a; (case a => k_is))
    (case c_MOST_MINUTES => refine' Z.int_mk KX G ?a; (case a => k_is))
    (case c_MOST_PAIRS => refine' Z.int_mk KX G ?a; (case a => k_is))
    (case c_MOST_ROUTERS => refine' Z.int_mk KX G ?a; (case a => k_is))
    (case n_abs => refine' PySem.W.mg_none_of KX G ?a; (case a => k_is))
    (case n_all => refine' PySem.W.mg_none_of KX G ?a; (case a => k_is))
    (case n_enumerate => refine' PySem.W.mg_none_of KX G ?a; (case a => k_is))
    (case n_int => refine' PySem.W.mg_none_of KX G ?a; (case a => k_is))
    (case n_len => refine' PySem.W.mg_none_of KX G ?a; (case a => k_is))
    (case n_max => refine' PySem.W.mg_none_of KX G ?a; (case a => k_is))
    (case n_min => refine' PySem.W.mg_none_of KX G ?a; (case a => k_is))
    (case n_range => refine' PySem.W.mg_none_of KX G ?a; (case a => k_is))
    (case n_repr => refine' PySem.W.mg_none_of KX G ?a; (case a => k_is))
    (case n_set => refine' PySem.W.mg_none_of KX G ?a; (case a => k_is))
    (case n_sorted => refine' PySem.W.mg_none_of KX G ?a; (case a => k_is))
    (case n_tuple => refine' PySem.W.mg_none_of KX G ?a; (case a => k_is))

