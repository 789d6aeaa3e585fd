import PyProof.Rows.All
import Wide.All
import OpenK.AllK
import Wide.FinOn
import HandS.ForMost
import HandS.Walk
import HandS.Style
import HandS.Conv
import HandS.Flow
import HandS.Deep
import PySem.Challenge.RW_waysflooded_k65_main_what_holds_of_conta
set_option Elab.async false
set_option linter.all false
set_option maxRecDepth 100000
set_option maxHeartbeats 4000000
/-! Z1: a pure reading of defs over the hand layer: data, frozen and own lists, expressions, statements. -/
namespace Z
open PySem PySem.Spec PyProof.Rows L2

/-- plain data -/
inductive D where
  | non | bl (b : Bool) | int (i : Int) | str (x : Str)
  | lst (xs : List D) | tup (xs : List D)
  | scr (ns : List Int)
deriving Inhabited

/-- from (F, H) to (F', H'): F what is frozen, H the heap. Nothing tracked changes, what is frozen anew was free ahead -/
structure Ext (F H F' H' : Hp) : Prop where
  fr : Same F F'
  sub : Same F' H'
  keep : Same H H'
  new : ∀ a, F' a = F a ∨ H a = none
section
variable {F H F1 H1 F2 H2 : Hp} {p : Addr} {o : HO}
theorem Ext.refl (h : Same F H) : Ext F H F H := ⟨.refl _, h, .refl _, fun _ => .inl rfl⟩
theorem Ext.trans (a : Ext F H F1 H1) (b : Ext F1 H1 F2 H2) : Ext F H F2 H2 :=
  ⟨a.fr.trans b.fr, b.sub, a.keep.trans b.keep, fun x => by
    rcases b.new x with e | e
    · rcases a.new x with e' | e'
      · exact .inl (e.trans e')
      · exact .inr e'
    · exact .inr (a.keep.free e)⟩
theorem same_upd (h : H p = none) : Same H (upd H p o) := fun b x e => by
  rw [upd_ne (ne_of_none e h)]
  exact e
theorem same_upd2 (h : Same F H) (n : H p = none) : Same (upd F p o) (upd H p o) := fun b x e => by
  by_cases hb : b = p
  · subst hb
    rw [upd_same] at e ⊢
    exact e
  · rw [upd_ne hb] at e ⊢
    exact h b x e
theorem Ext.alloc (h : Same F H) (n : H p = none) : Ext F H (upd F p o) (upd H p o) :=
  ⟨same_upd (h.free n), same_upd2 h n, same_upd n, fun a => by
    by_cases e : a = p
    · subst e
      exact .inr n
    · exact .inl (upd_ne e)⟩
theorem Ext.allocH (h : Same F H) (n : H p = none) : Ext F H F (upd H p o) :=
  ⟨.refl _, h.trans (same_upd n), same_upd n, fun _ => .inl rfl⟩
end

mutual
inductive Rep (K : PySem.W.Frag) (F : Hp) : V → D → Prop
  | non : Rep K F .non .non
  | bl (b : Bool) : Rep K F (.bl b) (.bl b)
  | int (i : Int) : Rep K F (.int i) (.int i)
  | str (x : Str) : Rep K F (.str x) (.str x)
  | lst {a : Addr} {vs : List V} {ds : List D} : F a = some (.lst vs) → RepL K F vs ds → Rep K F (.ref a) (.lst ds)
  | tup {a : Addr} {vs : List V} {ds : List D} : F a = some (.tup vs) → RepL K F vs ds → Rep K F (.ref a) (.tup ds)
  | scr {a : Addr} {ns : List Int} : SqL K F a (ns.map V.int) → Rep K F (.ref a) (.scr ns)
inductive RepL (K : PySem.W.Frag) (F : Hp) : List V → List D → Prop
  | nil : RepL K F [] []
  | cons {v : V} {vs : List V} {d : D} {ds : List D} : Rep K F v d → RepL K F vs ds → RepL K F (v :: vs) (d :: ds)
end
section
variable {K : PySem.W.Frag} {F F' : Hp}
mutual
theorem Rep.mono (e : Same F F') : ∀ {v : V} {d : D}, Rep K F v d → Rep K F' v d
  | _, _, .non => .non
  | _, _, .bl b => .bl b
  | _, _, .int i => .int i
  | _, _, .str x => .str x
  | _, _, .lst h r => .lst (e _ _ h) (RepL.mono e r)
  | _, _, .tup h r => .tup (e _ _ h) (RepL.mono e r)
  | _, _, .scr h => .scr (e.seq h)
theorem RepL.mono (e : Same F F') : ∀ {vs : List V} {ds : List D}, RepL K F vs ds → RepL K F' vs ds
  | _, _, .nil => .nil
  | _, _, .cons h r => .cons (Rep.mono e h) (RepL.mono e r)
end
theorem RepL.len : ∀ {vs : List V} {ds : List D}, RepL K F vs ds → vs.length = ds.length
  | _, _, .nil => rfl
  | _, _, .cons _ r => by rw [List.length_cons, List.length_cons, r.len]
theorem RepL.get : ∀ {vs : List V} {ds : List D} {i : Nat} {d : D}, RepL K F vs ds → ds[i]? = some d → ∃ v, vs[i]? = some v ∧ Rep K F v d
  | _, _, _, _, .nil, e => by simp at e
  | _, _, 0, _, .cons h _, e => by
    simp at e
    subst e
    exact ⟨_, rfl, h⟩
  | _, _, i + 1, d, .cons _ r, e => by
    obtain ⟨v, h1, h2⟩ := RepL.get (i := i) (d := d) r (by simpa using e)
    exact ⟨v, by simpa using h1, h2⟩
theorem RepL.getV {vs : List V} {ds : List D} {i : Nat} {v : V} (r : RepL K F vs ds) (e : vs[i]? = some v) : ∃ d, ds[i]? = some d ∧ Rep K F v d := by
  have hl := r.len
  obtain ⟨h, _⟩ := List.getElem?_eq_some_iff.mp e
  obtain ⟨w, h1, h2⟩ := r.get (List.getElem?_eq_getElem (show i < ds.length by omega))
  rw [e] at h1
  cases h1
  exact ⟨_, List.getElem?_eq_getElem (show i < ds.length by omega), h2⟩
theorem RepL.of : ∀ {vs : List V} {ds : List D}, vs.length = ds.length → (∀ (i : Nat) v d, vs[i]? = some v → ds[i]? = some d → Rep K F v d) → RepL K F vs ds
  | [], [], _, _ => .nil
  | v :: vs, d :: ds, hl, h => .cons (h 0 v d rfl rfl) (RepL.of (by simpa using hl) fun i v d e1 e2 => h (i + 1) v d (by simpa using e1) (by simpa using e2))
  | [], _ :: _, hl, _ => by simp at hl
  | _ :: _, [], hl, _ => by simp at hl
theorem RepL.append : ∀ {vs ws : List V} {ds es : List D}, RepL K F vs ds → RepL K F ws es → RepL K F (vs ++ ws) (ds ++ es)
  | _, _, _, _, .nil, s => s
  | _, _, _, _, .cons h r, s => .cons h (RepL.append r s)
theorem RepL.set {v : V} {d : D} (h : Rep K F v d) : ∀ {vs : List V} {ds : List D} (i : Nat), RepL K F vs ds → RepL K F (vs.set i v) (ds.set i d)
  | _, _, _, .nil => .nil
  | _, _, 0, .cons _ r => .cons h r
  | _, _, i + 1, .cons q r => .cons q (RepL.set h i r)
theorem RepL.take : ∀ {vs : List V} {ds : List D} (n : Nat), RepL K F vs ds → RepL K F (vs.take n) (ds.take n)
  | _, _, 0, _ => .nil
  | _, _, _ + 1, .nil => .nil
  | _, _, n + 1, .cons h r => .cons h (RepL.take n r)
theorem RepL.drop : ∀ {vs : List V} {ds : List D} (n : Nat), RepL K F vs ds → RepL K F (vs.drop n) (ds.drop n)
  | _, _, 0, r => r
  | _, _, _ + 1, .nil => .nil
  | _, _, n + 1, .cons _ r => RepL.drop n r
theorem RepL.reverse : ∀ {vs : List V} {ds : List D}, RepL K F vs ds → RepL K F vs.reverse ds.reverse
  | _, _, .nil => .nil
  | _, _, .cons h r => by
    rw [List.reverse_cons, List.reverse_cons]
    exact r.reverse.append (.cons h .nil)
theorem RepL.ints (ns : List Int) : RepL K F (ns.map V.int) (ns.map D.int) := by
  induction ns with
  | nil => exact .nil
  | cons n ns ih => exact .cons (.int n) ih
theorem Rep.lst_inv {v : V} {ds : List D} (r : Rep K F v (.lst ds)) : ∃ a vs, v = .ref a ∧ F a = some (.lst vs) ∧ RepL K F vs ds := by
  cases r with
  | lst h q => exact ⟨_, _, rfl, h, q⟩
theorem Rep.tup_inv {v : V} {ds : List D} (r : Rep K F v (.tup ds)) : ∃ a vs, v = .ref a ∧ F a = some (.tup vs) ∧ RepL K F vs ds := by
  cases r with
  | tup h q => exact ⟨_, _, rfl, h, q⟩
end

/-- what a slot holds -/
inductive L where
  | un
  | fro (d : D)
  | own (xs : List D)
deriving Inhabited
abbrev EV := List L

/-- the slots σ and the heap H bear the readings ev; F is frozen; F0, H0: at the entry -/
structure SR (K : PySem.W.Frag) (F0 H0 : Hp) (ev : EV) (σ : L2.St) (F H : Hp) : Prop where
  ext : Ext F0 H0 F H
  len : σ.length = ev.length
  fro : ∀ (i : Nat) d, ev[i]? = some (.fro d) → ∃ v, σ[i]? = some (some v) ∧ Rep K F v d
  own : ∀ (i : Nat) xs, ev[i]? = some (.own xs) → ∃ a vs, σ[i]? = some (some (.ref a)) ∧ H a = some (.lst vs) ∧ F a = none ∧ H0 a = none ∧ RepL K F vs xs
  dis : ∀ (i j : Nat) xs ys a, ev[i]? = some (.own xs) → ev[j]? = some (.own ys) → σ[i]? = some (some (.ref a)) → σ[j]? = some (some (.ref a)) → i = j
section
variable {K : PySem.W.Frag} {F0 H0 F H F' H' : Hp} {ev : EV} {σ : L2.St} {i : Nat}
theorem SR.sub (s : SR K F0 H0 ev σ F H) : Same F H := s.ext.sub
theorem SR.up (s : SR K F0 H0 ev σ F H) (e : Ext F H F' H') : SR K F0 H0 ev σ F' H' := by
  refine ⟨s.ext.trans e, s.len, fun i d h => ?_, fun i xs h => ?_, s.dis⟩
  · obtain ⟨v, h1, h2⟩ := s.fro i d h
    exact ⟨v, h1, h2.mono e.fr⟩
  · obtain ⟨a, vs, h1, h2, h3, h4, h5⟩ := s.own i xs h
    refine ⟨a, vs, h1, e.keep _ _ h2, ?_, h4, h5.mono e.fr⟩
    rcases e.new a with z | z
    · exact z.trans h3
    · rw [z] at h2
      cases h2
theorem get_set {α : Type} {l : List α} {i j : Nat} {x y : α} (h : (l.set i x)[j]? = some y) : (j = i ∧ i < l.length ∧ y = x) ∨ (j ≠ i ∧ l[j]? = some y) := by
  by_cases e : j = i
  · subst e
    by_cases hl : j < l.length
    · rw [List.getElem?_set_self hl] at h
      cases h
      exact .inl ⟨rfl, hl, rfl⟩
    · rw [List.getElem?_eq_none (by simpa using hl)] at h
      cases h
  · rw [List.getElem?_set_ne (Ne.symm e)] at h
    exact .inr ⟨e, h⟩
theorem set_ne_get {α : Type} {l : List α} {i j : Nat} {x : α} (e : j ≠ i) : (l.set i x)[j]? = l[j]? := List.getElem?_set_ne (Ne.symm e)
theorem SR.setFro {v : V} {d : D} (s : SR K F0 H0 ev σ F H) (r : Rep K F v d) : SR K F0 H0 (ev.set i (.fro d)) (σ.set i (some v)) F H := by
  refine ⟨s.ext, by simp [s.len], fun j e h => ?_, fun j xs h => ?_, fun j k xs ys a h1 h2 h3 h4 => ?_⟩
  · rcases get_set h with ⟨rfl, hl, e⟩ | ⟨hj, h⟩
    · cases e
      exact ⟨v, List.getElem?_set_self (by rw [s.len]; exact hl), r⟩
    · rw [set_ne_get hj]
      exact s.fro j e h
  · rcases get_set h with ⟨rfl, hl, e⟩ | ⟨hj, h⟩
    · cases e
    · rw [set_ne_get hj]
      exact s.own j xs h
  · rcases get_set h1 with ⟨_, _, e⟩ | ⟨hj, h1⟩
    · cases e
    · rcases get_set h2 with ⟨_, _, e⟩ | ⟨hk, h2⟩
      · cases e
      · rw [set_ne_get hj] at h3
        rw [set_ne_get hk] at h4
        exact s.dis j k xs ys a h1 h2 h3 h4
theorem SR.setUn {x : Option V} (s : SR K F0 H0 ev σ F H) : SR K F0 H0 (ev.set i .un) (σ.set i x) F H := by
  refine ⟨s.ext, by simp [s.len], fun j e h => ?_, fun j xs h => ?_, fun j k xs ys a h1 h2 h3 h4 => ?_⟩
  · rcases get_set h with ⟨rfl, hl, e⟩ | ⟨hj, h⟩
    · cases e
    · rw [set_ne_get hj]
      exact s.fro j e h
  · rcases get_set h with ⟨rfl, hl, e⟩ | ⟨hj, h⟩
    · cases e
    · rw [set_ne_get hj]
      exact s.own j xs h
  · rcases get_set h1 with ⟨_, _, e⟩ | ⟨hj, h1⟩
    · cases e
    · rcases get_set h2 with ⟨_, _, e⟩ | ⟨hk, h2⟩
      · cases e
      · rw [set_ne_get hj] at h3
        rw [set_ne_get hk] at h4
        exact s.dis j k xs ys a h1 h2 h3 h4
theorem SR.setOwn {a : Addr} {vs : List V} {xs : List D} (s : SR K F0 H0 ev σ F H) (hH : H a = some (.lst vs)) (hF : F a = none) (hH0 : H0 a = none) (r : RepL K F vs xs)
    (hd : ∀ (j : Nat) ys, j ≠ i → ev[j]? = some (.own ys) → σ[j]? ≠ some (some (.ref a))) : SR K F0 H0 (ev.set i (.own xs)) (σ.set i (some (.ref a))) F H := by
  refine ⟨s.ext, by simp [s.len], fun j e h => ?_, fun j zs h => ?_, fun j k ys zs b h1 h2 h3 h4 => ?_⟩
  · rcases get_set h with ⟨rfl, hl, e⟩ | ⟨hj, h⟩
    · cases e
    · rw [set_ne_get hj]
      exact s.fro j e h
  · rcases get_set h with ⟨rfl, hl, e⟩ | ⟨hj, h⟩
    · cases e
      exact ⟨a, vs, List.getElem?_set_self (by rw [s.len]; exact hl), hH, hF, hH0, r⟩
    · rw [set_ne_get hj]
      exact s.own j zs h
  · rcases get_set h1 with ⟨rfl, hl, e⟩ | ⟨hj, g1⟩
    · rw [List.getElem?_set_self (by rw [s.len]; exact hl)] at h3
      cases h3
      rcases get_set h2 with ⟨rfl, _, _⟩ | ⟨hk, h2⟩
      · rfl
      · rw [set_ne_get hk] at h4
        exact absurd h4 (hd k zs hk h2)
    · rcases get_set h2 with ⟨rfl, hl, e⟩ | ⟨hk, g2⟩
      · rw [List.getElem?_set_self (by rw [s.len]; exact hl)] at h4
        cases h4
        rw [set_ne_get hj] at h3
        exact absurd h3 (hd j ys hj g1)
      · rw [set_ne_get hj] at h3
        rw [set_ne_get hk] at h4
        exact s.dis j k ys zs b g1 g2 h3 h4
/-- an own list changed in place -/
theorem SR.mut {a : Addr} {vs vs' : List V} {xs xs' : List D} (s : SR K F0 H0 ev σ F H) (h : ev[i]? = some (.own xs)) (hσ : σ[i]? = some (some (.ref a))) (hH : H a = some (.lst vs)) (r : RepL K F vs' xs') :
    SR K F0 H0 (ev.set i (.own xs')) σ F (upd H a (.lst vs')) := by
  obtain ⟨a', vs0, q1, q2, q3, q4, q5⟩ := s.own i xs h
  rw [hσ] at q1
  cases q1
  have hi : i < ev.length := (List.getElem?_eq_some_iff.mp h).1
  have nF : ∀ b o, F b = some o → b ≠ a := fun b o e => ne_of_none e q3
  have nH0 : ∀ b o, H0 b = some o → b ≠ a := fun b o e => ne_of_none e q4
  refine ⟨⟨s.ext.fr, fun b o e => ?_, fun b o e => ?_, s.ext.new⟩, by simp [s.len], fun j e hj => ?_, fun j zs hj => ?_, fun j k ys zs b h1 h2 h3 h4 => ?_⟩
  · rw [upd_ne (nF b o e)]
    exact s.ext.sub b o e
  · rw [upd_ne (nH0 b o e)]
    exact s.ext.keep b o e
  · rcases get_set hj with ⟨rfl, hl, e⟩ | ⟨hj, h⟩
    · cases e
    · exact s.fro j e h
  · rcases get_set hj with ⟨rfl, hl, e⟩ | ⟨hji, hj⟩
    · cases e
      exact ⟨a, vs', hσ, upd_same, q3, q4, r⟩
    · obtain ⟨b, ws, p1, p2, p3, p4, p5⟩ := s.own j zs hj
      refine ⟨b, ws, p1, ?_, p3, p4, p5⟩
      rw [upd_ne]
      · exact p2
      · intro e
        subst e
        exact hji (s.dis j i zs xs b hj h p1 hσ)
  · have g1 : ∃ ys', ev[j]? = some (.own ys') := by
      rcases get_set h1 with ⟨rfl, _, _⟩ | ⟨_, h1⟩
      · exact ⟨_, h⟩
      · exact ⟨_, h1⟩
    have g2 : ∃ ys', ev[k]? = some (.own ys') := by
      rcases get_set h2 with ⟨rfl, _, _⟩ | ⟨_, h2⟩
      · exact ⟨_, h⟩
      · exact ⟨_, h2⟩
    obtain ⟨_, g1⟩ := g1
    obtain ⟨_, g2⟩ := g2
    exact s.dis j k _ _ b g1 g2 h3 h4
/-- an own list frozen -/
def evFrz (ev : EV) (i : Nat) : EV := match ev[i]? with
  | some (.own xs) => ev.set i (.fro (.lst xs))
  | _ => ev
theorem SR.frz (s : SR K F0 H0 ev σ F H) (i : Nat) : ∃ F', Same F F' ∧ SR K F0 H0 (evFrz ev i) σ F' H := by
  unfold evFrz
  split
  · rename_i xs h
    obtain ⟨a, vs, q1, q2, q3, q4, q5⟩ := s.own i xs h
    have m : Same F (upd F a (.lst vs)) := same_upd q3
    refine ⟨upd F a (.lst vs), m, ⟨s.ext.fr.trans m, fun b o e => ?_, s.ext.keep, fun b => ?_⟩, by simp [s.len], fun j e hj => ?_, fun j zs hj => ?_, fun j k ys zs b h1 h2 h3 h4 => ?_⟩
    · by_cases hb : b = a
      · subst hb
        rw [upd_same] at e
        exact q2.trans e
      · rw [upd_ne hb] at e
        exact s.ext.sub b o e
    · by_cases hb : b = a
      · subst hb
        exact .inr q4
      · rw [upd_ne hb]
        exact s.ext.new b
    · rcases get_set hj with ⟨rfl, hl, e⟩ | ⟨hj, h⟩
      · cases e
        exact ⟨_, q1, .lst upd_same (q5.mono m)⟩
      · obtain ⟨v, p1, p2⟩ := s.fro j e h
        exact ⟨v, p1, p2.mono m⟩
    · rcases get_set hj with ⟨rfl, hl, e⟩ | ⟨hji, hj⟩
      · cases e
      · obtain ⟨b, ws, p1, p2, p3, p4, p5⟩ := s.own j zs hj
        refine ⟨b, ws, p1, p2, ?_, p4, p5.mono m⟩
        rw [upd_ne]
        · exact p3
        · intro e
          subst e
          exact hji (s.dis j i zs xs b hj h p1 q1)
    · rcases get_set h1 with ⟨_, _, e⟩ | ⟨_, h1⟩
      · cases e
      · rcases get_set h2 with ⟨_, _, e⟩ | ⟨_, h2⟩
        · cases e
        · exact s.dis j k _ _ b h1 h2 h3 h4
  · exact ⟨F, .refl _, s⟩
/-- another entry -/
theorem SR.base {F1 : Hp} (s : SR K F0 H0 ev σ F H) (h1 : Same F1 F) (h2 : ∀ a, F a = F1 a ∨ H0 a = none) : SR K F1 H0 ev σ F H :=
  ⟨⟨h1, s.ext.sub, s.ext.keep, h2⟩, s.len, s.fro, s.own, s.dis⟩
def evWipe (ev : EV) : List Nat → EV
  | [] => ev
  | v :: vs => (evWipe ev vs).set v .un
theorem SR.wipe (s : SR K F0 H0 ev σ F H) : ∀ vs : List Nat, SR K F0 H0 (evWipe ev vs) (L2.wipe σ vs) F H
  | [] => s
  | v :: vs => (s.wipe vs).setUn
end

/-! ### the judgements -/
def ERun (K : PySem.W.Frag) (fz : Bool) (f : EV → Option D) (t : TE) : Prop :=
  ∀ (F0 H0 : Hp) (ev : EV) (σ : L2.St) (F H : Hp) (d : D) (Q : VK), SR K F0 H0 ev σ F H → f ev = some d →
    (∀ v F' H', Ext F H F' H' → Rep K H' v d → (fz = true → Rep K F' v d) → Q v H') → t σ H Q
/-- an expression; fz: its value is frozen -/
def EOk (X : Cx) (e : Expr) (fz : Bool) (f : EV → Option D) : Prop := ∃ t, PE X e t ∧ ERun X.K fz f t
def TRun (K : PySem.W.Frag) (f : EV → Option Bool) (t : TT) : Prop :=
  ∀ (F0 H0 : Hp) (ev : EV) (σ : L2.St) (F H : Hp) (b : Bool) (Q : Bool → Hp → Prop), SR K F0 H0 ev σ F H → f ev = some b → (∀ F' H', Ext F H F' H' → Q b H') → t σ H Q
def TOk (X : Cx) (e : Expr) (f : EV → Option Bool) : Prop := ∃ t, PT X e t ∧ TRun X.K f t
def WOk (X : Cx) (e : Expr) (f : EV → Option Bool) : Prop := ∃ t, PW X e t ∧ TRun X.K f t
def TsOk (X : Cx) (es : List Expr) (f : EV → Option Bool) : Prop := ∃ t, PTs X es t ∧ TRun X.K f t
def ARun (K : PySem.W.Frag) (fz : Bool) (f : EV → Option (List D)) (t : TA) : Prop :=
  ∀ (F0 H0 : Hp) (ev : EV) (σ : L2.St) (F H : Hp) (ds : List D) (Q : List V → Hp → Prop), SR K F0 H0 ev σ F H → f ev = some ds →
    (∀ vs F' H', Ext F H F' H' → RepL K H' vs ds → (fz = true → RepL K F' vs ds) → Q vs H') → t σ H Q
def AOk (X : Cx) (es : List Expr) (fz : Bool) (f : EV → Option (List D)) : Prop := ∃ t, PA X es t ∧ ARun X.K fz f t

inductive Fl where
  | nx (e : EV) | rt (d : D) | bk (e : EV) | ct (e : EV)
def Post (K : PySem.W.Frag) (F0 H0 : Hp) (E : Ends) : Fl → Prop
  | .nx e => ∀ σ F H, SR K F0 H0 e σ F H → E.nx σ H
  | .bk e => ∀ σ F H, SR K F0 H0 e σ F H → E.bk σ H
  | .ct e => ∀ σ F H, SR K F0 H0 e σ F H → E.ct σ H
  | .rt d => ∀ v F H, Ext F0 H0 F H → Rep K F v d → E.rt v H
def SRun (K : PySem.W.Frag) (g : EV → Option Fl) (t : TS) : Prop :=
  ∀ (F0 H0 : Hp) (ev : EV) (σ : L2.St) (F H : Hp) (E : Ends) (r : Fl), SR K F0 H0 ev σ F H → g ev = some r → Post K F0 H0 E r → t E σ H
def SOk (X : Cx) (st : Stmt) (g : EV → Option Fl) : Prop := ∃ t, PS X st t ∧ SRun X.K g t
def BOk (X : Cx) (st : List Stmt) (g : EV → Option Fl) : Prop := ∃ t, PSs X st t ∧ SRun X.K g t

/-! ### expressions -/
section
variable {X : Cx} {a b c e : Expr} {fz fa fb : Bool} {f g h : EV → Option D} {pos : Pos}
theorem EOk.mono (q : EOk X e fz f) (hf : ∀ ev d, g ev = some d → f ev = some d) : EOk X e fz g := by
  obtain ⟨t, p, r⟩ := q
  exact ⟨t, p, fun F0 H0 ev σ F H d Q s he => r F0 H0 ev σ F H d Q s (hf _ _ he)⟩
def cVar (i : Nat) : EV → Option D := fun ev => match ev[i]? with
  | some (.fro d) => some d
  | _ => none
def cOwn (i : Nat) : EV → Option D := fun ev => match ev[i]? with
  | some (.own xs) => some (.lst xs)
  | _ => none
def cC (d : D) : EV → Option D := fun _ => some d
theorem e_var {i : Nat} {x : Str} (hp : PE X (.Name x pos) (tVar i)) : EOk X (.Name x pos) true (cVar i) := by
  refine ⟨_, hp, fun F0 H0 ev σ F H d Q s he q => ?_⟩
  unfold cVar at he
  split at he
  · rename_i d' h
    cases he
    obtain ⟨v, h1, h2⟩ := s.fro i _ h
    exact ⟨v, h1, q v F H (.refl s.sub) (h2.mono s.sub) fun _ => h2⟩
  · cases he
theorem e_own {i : Nat} {x : Str} (hp : PE X (.Name x pos) (tVar i)) : EOk X (.Name x pos) false (cOwn i) := by
  refine ⟨_, hp, fun F0 H0 ev σ F H d Q s he q => ?_⟩
  unfold cOwn at he
  split at he
  · rename_i xs h
    cases he
    obtain ⟨a, vs, h1, h2, h3, h4, h5⟩ := s.own i _ h
    exact ⟨.ref a, h1, q _ F H (.refl s.sub) (.lst h2 (h5.mono s.sub)) fun z => nomatch z⟩
  · cases he
theorem e_const {v : V} {d : D} (hp : PE X e (tC v)) (r : ∀ F : Hp, Rep X.K F v d) : EOk X e true (cC d) := by
  refine ⟨_, hp, fun F0 H0 ev σ F H d' Q s he q => ?_⟩
  cases he
  exact q v F H (.refl s.sub) (r H) fun _ => r F
theorem e_int {i : Int} {j} : EOk X (.Constant (.int i) j pos) true (cC (.int i)) := e_const pe_int fun _ => .int i
theorem e_bl {i : Bool} {j} : EOk X (.Constant (.bool i) j pos) true (cC (.bl i)) := e_const pe_bl fun _ => .bl i
theorem e_non {j} : EOk X (.Constant .none j pos) true (cC .non) := e_const pe_non fun _ => .non
theorem e_str {x : Str} {j} : EOk X (.Constant (.str x) j pos) true (cC (.str x)) := e_const pe_str fun _ => .str x
theorem e_gint {x : Str} {i : Int} {u : Value} (hg : Gl X x) (hm : X.mg x = some u) (r : RelV (.int i) u) (hd : (x == ("__debug__" : Str)) = false := by decide) : EOk X (.Name x pos) true (cC (.int i)) :=
  e_const (pe_glob hg hm r hd) fun _ => .int i

/-- data without addresses -/
def D.flat : D → Bool
  | .non => true | .bl _ => true | .int _ => true | .str _ => true
  | _ => false
theorem Rep.flat {K : PySem.W.Frag} {F G : Hp} {v : V} {d : D} (h : d.flat = true) (r : Rep K F v d) : Rep K G v d := by
  cases r with
  | non => exact .non
  | bl b => exact .bl b
  | int i => exact .int i
  | str x => exact .str x
  | lst _ _ => cases h
  | tup _ _ => cases h
  | scr _ => cases h
/-- its value is flat, so it is frozen -/
def cFlat (f : EV → Option D) : EV → Option D := fun ev => match f ev with
  | some d => if d.flat then some d else none
  | none => none
theorem e_flat (q : EOk X e fz f) : EOk X e true (cFlat f) := by
  obtain ⟨t, p, r⟩ := q
  refine ⟨t, p, fun F0 H0 ev σ F H d Q s he q => ?_⟩
  unfold cFlat at he
  split at he
  · rename_i d' hd
    by_cases hf : d'.flat = true
    · rw [if_pos hf] at he
      cases he
      exact r F0 H0 ev σ F H _ Q s hd fun v F' H' x r1 _ => q v F' H' x r1 fun _ => r1.flat hf
    · rw [if_neg hf] at he
      cases he
  · cases he

/-- what a rule by values asks, of data -/
def R2Ok (K : PySem.W.Frag) (r : R2) (op : D → D → Option D) : Prop :=
  ∀ (F H : Hp) (x y : V) (dx dy d : D) (Q : VK), Same F H → Rep K H x dx → Rep K H y dy → op dx dy = some d →
    (∀ v F' H', Ext F H F' H' → Rep K H' v d → (Rep K F x dx → Rep K F y dy → Rep K F' v d) → Q v H') → r x y H Q
def c2 (op : D → D → Option D) (f g : EV → Option D) : EV → Option D := fun ev => (f ev).bind fun x => (g ev).bind fun y => op x y
theorem run2 {K : PySem.W.Frag} {ta tb : TE} {r : R2} {op : D → D → Option D} (hr : R2Ok K r op) (ha : ERun K fa f ta) (hb : ERun K fb g tb) : ERun K (fa && fb) (c2 op f g) (tOp r ta tb) := by
  intro F0 H0 ev σ F H d Q s he q
  obtain ⟨x, h1, he⟩ := Option.bind_eq_some_iff.mp he
  obtain ⟨y, h2, h3⟩ := Option.bind_eq_some_iff.mp he
  refine ha F0 H0 ev σ F H x _ s h1 fun v F1 H1 x1 r1 z1 => ?_
  have s1 := s.up x1
  refine hb F0 H0 ev σ F1 H1 y _ s1 h2 fun u F2 H2 x2 r2 z2 => ?_
  have s2 := s1.up x2
  refine hr F2 H2 v u x y d Q s2.sub (r1.mono x2.keep) r2 h3 fun w F3 H3 x3 r3 z3 => ?_
  refine q w F3 H3 ((x1.trans x2).trans x3) r3 fun z => ?_
  rw [Bool.and_eq_true] at z
  exact z3 ((z1 z.1).mono x2.fr) (z2 z.2)
theorem e_op {op : Operator} {r : R2} {k : D → D → Option D} (ho : OpR X (binaryOp op) r) (hr : R2Ok X.K r k) (ha : EOk X a fa f) (hb : EOk X b fb g) : EOk X (.BinOp a op b pos) (fa && fb) (c2 k f g) := by
  obtain ⟨ta, pa, ra⟩ := ha
  obtain ⟨tb, pb, rb⟩ := hb
  exact ⟨_, pe_op ho pa pb, run2 hr ra rb⟩
theorem e_cmp {op : CmpOp} {r : R2} {k : D → D → Option D} (ho : OpR X (compareOp op) r) (hr : R2Ok X.K r k) (ha : EOk X a fa f) (hb : EOk X b fb g) (hm : behindInMarks op b = false := by first | exact nomark _ | rfl) : EOk X (.Compare a [op] [b] pos) (fa && fb) (c2 k f g) := by
  obtain ⟨ta, pa, ra⟩ := ha
  obtain ⟨tb, pb, rb⟩ := hb
  exact ⟨_, pe_cmpR ho pa pb hm, run2 hr ra rb⟩
/-- a bool -/
def asB : Option D → Option Bool
  | some (.bl b) => some b
  | _ => none
def tOf (f : EV → Option D) : EV → Option Bool := fun ev => asB (f ev)
theorem runB {K : PySem.W.Frag} {t : TE} (h : ERun K fz f t) : TRun K (tOf f) (tTest t) := by
  intro F0 H0 ev σ F H d Q s he q
  unfold tOf at he
  cases hf : f ev with
  | none =>
    rw [hf] at he
    cases he
  | some x =>
    rw [hf] at he
    cases x <;> (try cases he)
    refine h F0 H0 ev σ F H _ _ s hf fun v F' H' x r _ => ?_
    cases r
    exact ⟨_, rfl, q F' H' x⟩
theorem t_cmp {op : CmpOp} {r : R2} {k : D → D → Option D} (ho : OpR X (compareOp op) r) (hr : R2Ok X.K r k) (ha : EOk X a fa f) (hb : EOk X b fb g) (hm : behindInMarks op b = false := by first | exact nomark _ | rfl) : TOk X (.Compare a [op] [b] pos) (tOf (c2 k f g)) := by
  obtain ⟨ta, pa, ra⟩ := ha
  obtain ⟨tb, pb, rb⟩ := hb
  exact ⟨_, pt_cmpR ho pa pb hm, runB (run2 hr ra rb)⟩
theorem t_val (h : EOk X e fz f) (he : ∀ whole, isTrue e X.env whole = (do let v ← whole; standAt e.pos; holding [v] (truthy v)) := by intro _; rfl) : TOk X e (tOf f) := by
  obtain ⟨t, p, r⟩ := h
  exact ⟨_, pt_val p he, runB r⟩

/-! ops on ints -/
def oI (k : Int → Int → Option D) : D → D → Option D
  | .int i, .int j => k i j
  | _, _ => none
def oAdd : D → D → Option D := oI fun i j => some (.int (i + j))
def oSub : D → D → Option D := oI fun i j => some (.int (i - j))
def oMul : D → D → Option D := oI fun i j => if (-(2 ^ 64) < i ∧ i < 2 ^ 64) ∨ (-(2 ^ 64) < j ∧ j < 2 ^ 64) then some (.int (i * j)) else none
def oDiv : D → D → Option D := oI fun i j => if 0 < j ∧ j < 1073741824 then some (.int (i / j)) else none
def oMod : D → D → Option D := oI fun i j => if 0 < j then some (.int (i % j)) else none
def oPow : D → D → Option D := oI fun i j => if 0 ≤ j ∧ j ≤ 1000000 ∧ i.natAbs < 2 ^ 64 then some (.int (i ^ j.toNat)) else none
def oLt : D → D → Option D := oI fun i j => some (.bl (decide (i < j)))
def oLe : D → D → Option D := oI fun i j => some (.bl (decide (i ≤ j)))
def oGt : D → D → Option D := oI fun i j => some (.bl (decide (j < i)))
def oGe : D → D → Option D := oI fun i j => some (.bl (decide (j ≤ i)))
theorem oI_some {k : Int → Int → Option D} {x y d : D} (h : oI k x y = some d) : ∃ i j, x = .int i ∧ y = .int j ∧ k i j = some d := by
  unfold oI at h
  split at h
  · exact ⟨_, _, rfl, rfl, h⟩
  · cases h
section
variable {K : PySem.W.Frag}
theorem r_I {C : Int → Int → Prop} {gV : Int → Int → V} {k : Int → Int → Option D} (h : ∀ i j d, k i j = some d → C i j ∧ d.flat = true ∧ ∀ F, Rep K F (gV i j) d) : R2Ok K (rI C gV) (oI k) := by
  intro F H x y dx dy d Q s rx ry ho q
  obtain ⟨i, j, rfl, rfl, e⟩ := oI_some ho
  cases rx
  cases ry
  obtain ⟨hc, hf, r⟩ := h i j d e
  exact ⟨i, j, rfl, rfl, hc, q _ F H (.refl s) (r H) fun _ _ => r F⟩
theorem r_I0 {gV : Int → Int → V} {k : Int → Int → Option D} (h : ∀ i j d, k i j = some d → ∀ F, Rep K F (gV i j) d) : R2Ok K (rI0 gV) (oI k) := by
  intro F H x y dx dy d Q s rx ry ho q
  obtain ⟨i, j, rfl, rfl, e⟩ := oI_some ho
  cases rx
  cases ry
  have r := h i j d e
  exact ⟨i, j, rfl, rfl, q _ F H (.refl s) (r H) fun _ _ => r F⟩
theorem r_add : R2Ok K (rI0 fun i j => .int (i + j)) oAdd := r_I0 fun i j d e F => by cases e; exact .int _
theorem r_sub : R2Ok K (rI0 fun i j => .int (i - j)) oSub := r_I0 fun i j d e F => by cases e; exact .int _
theorem r_lt : R2Ok K (rI0 fun i j => .bl (decide (i < j))) oLt := r_I0 fun i j d e F => by cases e; exact .bl _
theorem r_le : R2Ok K (rI0 fun i j => .bl (decide (i ≤ j))) oLe := r_I0 fun i j d e F => by cases e; exact .bl _
theorem r_gt : R2Ok K (rI0 fun i j => .bl (decide (j < i))) oGt := r_I0 fun i j d e F => by cases e; exact .bl _
theorem r_ge : R2Ok K (rI0 fun i j => .bl (decide (j ≤ i))) oGe := r_I0 fun i j d e F => by cases e; exact .bl _
theorem of_ite {p : Prop} [Decidable p] {α : Type} {x y : α} (h : (if p then some x else none) = some y) : p ∧ x = y := by
  by_cases q : p
  · rw [if_pos q] at h
    cases h
    exact ⟨q, rfl⟩
  · rw [if_neg q] at h
    cases h
theorem r_mul : R2Ok K (rI CMul fun i j => .int (i * j)) oMul := r_I fun i j d e => by
  obtain ⟨h, rfl⟩ := of_ite e
  exact ⟨h, rfl, fun _ => .int _⟩
theorem r_div : R2Ok K (rI CDiv fun i j => .int (i / j)) oDiv := r_I fun i j d e => by
  obtain ⟨h, rfl⟩ := of_ite e
  exact ⟨h, rfl, fun _ => .int _⟩
theorem r_mod : R2Ok K (rI (fun _ j => 0 < j) fun i j => .int (i % j)) oMod := r_I fun i j d e => by
  obtain ⟨h, rfl⟩ := of_ite e
  exact ⟨h, rfl, fun _ => .int _⟩
theorem r_pow : R2Ok K (rI CPow fun i j => .int (i ^ j.toNat)) oPow := r_I fun i j d e => by
  obtain ⟨h, rfl⟩ := of_ite e
  exact ⟨h, rfl, fun _ => .int _⟩
end
end
end Z


set_option maxRecDepth 100000
set_option maxHeartbeats 4000000
/-! Z2: expressions. -/
namespace Z
open PySem PySem.Spec PyProof.Rows L2
section
variable {X : Cx} {a b c e : Expr} {fz fa fb fc : Bool} {f g h : EV → Option D} {pos : Pos} {K : PySem.W.Frag}

/-! ### == -/
mutual
def D.pd : D → PyData
  | .non => .none
  | .bl b => .bool b
  | .int i => .int i
  | .str x => .str x
  | .lst xs => .list (D.pdL xs)
  | .tup xs => .tuple (D.pdL xs)
  | .scr ns => .list (ns.map PyData.int)
def D.pdL : List D → List PyData
  | [] => []
  | d :: ds => d.pd :: D.pdL ds
end
theorem dp_ints {H : Hp} : ∀ ns : List Int, DpAll K H (ns.map V.int) (ns.map PyData.int)
  | [] => .nil
  | n :: ns => .cons (.int n) (dp_ints ns)
mutual
theorem Rep.dp {H : Hp} : ∀ {v : V} {d : D}, Rep K H v d → Dp K H v d.pd
  | _, _, .non => .non
  | _, _, .bl b => .bl b
  | _, _, .int i => .int i
  | _, _, .str x => .str x
  | _, _, .lst h r => by
    rw [D.pd]
    exact .lst (SqL.of h) (RepL.dp r)
  | _, _, .tup h r => by
    rw [D.pd]
    exact .tup (SqT.of h) (RepL.dp r)
  | _, _, .scr h => .lst h (dp_ints _)
theorem RepL.dp {H : Hp} : ∀ {vs : List V} {ds : List D}, RepL K H vs ds → DpAll K H vs (D.pdL ds)
  | _, _, .nil => .nil
  | _, _, .cons h r => .cons h.dp r.dp
end
def eqD (x y : D) : Option Bool := if SeqAt.shaped x.pd = true ∧ SeqAt.shaped y.pd = true then some (PyData.eqv x.pd y.pd) else none
def oEq (x y : D) : Option D := (eqD x y).map .bl
def oNe (x y : D) : Option D := (eqD x y).map fun b => .bl (!b)
theorem r_eq : R2Ok K (rEqD K) oEq := by
  intro F H x y dx dy d Q s rx ry ho q
  obtain ⟨b, hb, rfl⟩ := Option.map_eq_some_iff.mp ho
  obtain ⟨⟨h1, h2⟩, rfl⟩ := of_ite hb
  exact ⟨_, _, rx.dp, ry.dp, h1, h2, q _ F H (.refl s) (.bl _) fun _ _ => .bl _⟩
theorem r_ne : R2Ok K (rNeD K) oNe := by
  intro F H x y dx dy d Q s rx ry ho q
  obtain ⟨b, hb, rfl⟩ := Option.map_eq_some_iff.mp ho
  obtain ⟨⟨h1, h2⟩, rfl⟩ := of_ite hb
  exact ⟨_, _, rx.dp, ry.dp, h1, h2, q _ F H (.refl s) (.bl _) fun _ _ => .bl _⟩
/-- is None, is not None -/
def D.isNon : D → Bool
  | .non => true
  | _ => false
def oIs : D → D → Option D
  | x, .non => some (.bl x.isNon)
  | _, _ => none
def oIsNot : D → D → Option D
  | x, .non => some (.bl (!x.isNon))
  | .bl a, .bl b => some (.bl (!decide (a = b)))
  | _, _ => none
theorem isNon_iff {H : Hp} {v : V} {d : D} (r : Rep K H v d) : decide (v = .non) = d.isNon := by
  cases r <;> rfl
theorem r_is : R2Ok K (fun x y H Q => y = .non ∧ Q (.bl (decide (x = .non))) H) oIs := by
  intro F H x y dx dy d Q s rx ry ho q
  unfold oIs at ho
  split at ho
  · cases ho
    cases ry
    exact ⟨rfl, by rw [isNon_iff rx]; exact q _ F H (.refl s) (.bl _) fun _ _ => .bl _⟩
  · cases ho
theorem r_isnot : R2Ok K (fun x y H Q => (y = .non ∧ Q (.bl (!decide (x = .non))) H) ∨ rNotB x y H Q) oIsNot := by
  intro F H x y dx dy d Q s rx ry ho q
  unfold oIsNot at ho
  split at ho
  · cases ho
    cases ry
    exact .inl ⟨rfl, by rw [isNon_iff rx]; exact q _ F H (.refl s) (.bl _) fun _ _ => .bl _⟩
  · cases ho
    cases rx
    cases ry
    exact .inr ⟨_, _, rfl, rfl, q _ F H (.refl s) (.bl _) fun _ _ => .bl _⟩
  · cases ho
theorem op_isnot : OpR X (compareOp .IsNot) (fun x y H Q => (y = .non ∧ Q (.bl (!decide (x = .non))) H) ∨ rNotB x y H Q) := op_notN.or op_notBl

/-! ### one argument -/
def c1 (op : D → Option D) (f : EV → Option D) : EV → Option D := fun ev => (f ev).bind op
def oNeg : D → Option D
  | .int i => some (.int (-i))
  | _ => none
theorem e_neg (ha : EOk X a fa f) : EOk X (.UnaryOp .USub a pos) true (c1 oNeg f) := by
  obtain ⟨t, p, r⟩ := ha
  refine ⟨_, pe_un un_neg p, fun F0 H0 ev σ F H d Q s he q => ?_⟩
  obtain ⟨x, h1, he⟩ := Option.bind_eq_some_iff.mp he
  refine r F0 H0 ev σ F H x _ s h1 fun v F' H' x r1 _ => ?_
  unfold oNeg at he
  split at he
  · cases he
    cases r1
    exact ⟨_, rfl, q _ F' H' x (.int _) fun _ => .int _⟩
  · cases he
/-- a value's truth -/
def D.tru : D → Option Bool
  | .non => some false
  | .bl b => some b
  | .int i => some (i != 0)
  | .lst xs => some (!xs.isEmpty)
  | .tup xs => some (!xs.isEmpty)
  | .scr ns => some (!ns.isEmpty)
  | .str _ => none
theorem Rep.tru {H : Hp} {v : V} {d : D} {k : Bool} (r : Rep K H v d) (h : d.tru = some k) : TruV K v H k := by
  cases r with
  | non => cases h; rfl
  | bl b => cases h; rfl
  | int i => cases h; rfl
  | str x => cases h
  | lst h1 r =>
    cases h
    refine Or.inl ⟨_, SqL.of h1, ?_⟩
    cases r <;> rfl
  | tup h1 r =>
    cases h
    refine Or.inr (Or.inl ⟨_, SqT.of h1, ?_⟩)
    cases r <;> rfl
  | scr h1 =>
    cases h
    refine Or.inl ⟨_, h1, ?_⟩
    rename_i ns
    cases ns <;> rfl
def oNot (x : D) : Option D := x.tru.map fun k => .bl (!k)
theorem e_not (ha : EOk X a fa f) : EOk X (.UnaryOp .Not a pos) true (c1 oNot f) := by
  obtain ⟨t, p, r⟩ := ha
  refine ⟨_, pe_notT p, fun F0 H0 ev σ F H d Q s he q => ?_⟩
  obtain ⟨x, h1, he⟩ := Option.bind_eq_some_iff.mp he
  obtain ⟨k, h2, rfl⟩ := Option.map_eq_some_iff.mp he
  exact r F0 H0 ev σ F H x _ s h1 fun v F' H' x r1 _ => ⟨k, r1.tru h2, q _ F' H' x (.bl _) fun _ => .bl _⟩
/-! and, or as values -/
def cOr (f g : EV → Option D) : EV → Option D := fun ev => (f ev).bind fun x => x.tru.bind fun k => if k then some x else g ev
def cAnd (f g : EV → Option D) : EV → Option D := fun ev => (f ev).bind fun x => x.tru.bind fun k => if k then g ev else some x
variable {rest : List Expr}
theorem e_one {op} (ha : EOk X a fa f) : EOk X (.BoolOp op [a] pos) fa f := by
  obtain ⟨t, p, r⟩ := ha
  exact ⟨_, pe_one p, r⟩
theorem e_or (ha : EOk X a fa f) (hb : EOk X (.BoolOp .Or (b :: rest) pos) fb g) : EOk X (.BoolOp .Or (a :: b :: rest) pos) (fa && fb) (cOr f g) := by
  obtain ⟨ta, pa, ra⟩ := ha
  obtain ⟨tb, pb, rb⟩ := hb
  refine ⟨_, pe_orT pa pb, fun F0 H0 ev σ F H d Q s he q => ?_⟩
  obtain ⟨x, h1, he⟩ := Option.bind_eq_some_iff.mp he
  obtain ⟨k, h2, he⟩ := Option.bind_eq_some_iff.mp he
  refine ra F0 H0 ev σ F H x _ s h1 fun v F1 H1 x1 r1 z1 => ⟨k, r1.tru h2, ?_⟩
  cases k with
  | true =>
    cases he
    rw [if_pos rfl]
    exact q v F1 H1 x1 r1 fun z => z1 (Bool.and_eq_true _ _ ▸ z).1
  | false =>
    rw [if_neg (by decide)]
    exact rb F0 H0 ev σ F1 H1 d Q (s.up x1) he fun u F2 H2 x2 r2 z2 => q u F2 H2 (x1.trans x2) r2 fun z => z2 (Bool.and_eq_true _ _ ▸ z).2
theorem e_and (ha : EOk X a fa f) (hb : EOk X (.BoolOp .And (b :: rest) pos) fb g) : EOk X (.BoolOp .And (a :: b :: rest) pos) (fa && fb) (cAnd f g) := by
  obtain ⟨ta, pa, ra⟩ := ha
  obtain ⟨tb, pb, rb⟩ := hb
  refine ⟨_, pe_andT pa pb, fun F0 H0 ev σ F H d Q s he q => ?_⟩
  obtain ⟨x, h1, he⟩ := Option.bind_eq_some_iff.mp he
  obtain ⟨k, h2, he⟩ := Option.bind_eq_some_iff.mp he
  refine ra F0 H0 ev σ F H x _ s h1 fun v F1 H1 x1 r1 z1 => ⟨k, r1.tru h2, ?_⟩
  cases k with
  | true =>
    rw [if_pos rfl]
    exact rb F0 H0 ev σ F1 H1 d Q (s.up x1) he fun u F2 H2 x2 r2 z2 => q u F2 H2 (x1.trans x2) r2 fun z => z2 (Bool.and_eq_true _ _ ▸ z).2
  | false =>
    cases he
    rw [if_neg (by decide)]
    exact q v F1 H1 x1 r1 fun z => z1 (Bool.and_eq_true _ _ ▸ z).1

/-! ### tests -/
variable {p q : EV → Option Bool}
def tAndZ (p q : EV → Option Bool) : EV → Option Bool := fun ev => (p ev).bind fun k => if k then q ev else some false
def tOrZ (p q : EV → Option Bool) : EV → Option Bool := fun ev => (p ev).bind fun k => if k then some true else q ev
def tNotZ (p : EV → Option Bool) : EV → Option Bool := fun ev => (p ev).map (!·)
def tTru (f : EV → Option D) : EV → Option Bool := fun ev => (f ev).bind D.tru
theorem w_and1 (ha : TOk X a p) : WOk X (.BoolOp .And [a] pos) p := by
  obtain ⟨t, h, r⟩ := ha
  exact ⟨_, pw_and1 h, r⟩
theorem w_or1 (ha : TOk X a p) : WOk X (.BoolOp .Or [a] pos) p := by
  obtain ⟨t, h, r⟩ := ha
  exact ⟨_, pw_or1 h, r⟩
theorem run_and {ta tb : TT} (ra : TRun K p ta) (rb : TRun K q tb) : TRun K (tAndZ p q) (tAnd ta tb) := by
  intro F0 H0 ev σ F H d Q s he z
  obtain ⟨k, h1, he⟩ := Option.bind_eq_some_iff.mp he
  refine ra F0 H0 ev σ F H k _ s h1 fun F1 H1 x1 => ?_
  cases k with
  | true =>
    rw [if_pos rfl] at he ⊢
    exact rb F0 H0 ev σ F1 H1 d Q (s.up x1) he fun F2 H2 x2 => z F2 H2 (x1.trans x2)
  | false =>
    rw [if_neg (by decide)] at he ⊢
    cases he
    exact z F1 H1 x1
theorem run_or {ta tb : TT} (ra : TRun K p ta) (rb : TRun K q tb) : TRun K (tOrZ p q) (tOr ta tb) := by
  intro F0 H0 ev σ F H d Q s he z
  obtain ⟨k, h1, he⟩ := Option.bind_eq_some_iff.mp he
  refine ra F0 H0 ev σ F H k _ s h1 fun F1 H1 x1 => ?_
  cases k with
  | true =>
    rw [if_pos rfl] at he ⊢
    cases he
    exact z F1 H1 x1
  | false =>
    rw [if_neg (by decide)] at he ⊢
    exact rb F0 H0 ev σ F1 H1 d Q (s.up x1) he fun F2 H2 x2 => z F2 H2 (x1.trans x2)
theorem w_and (ha : TOk X a p) (hb : WOk X (.BoolOp .And (b :: rest) pos) q) : WOk X (.BoolOp .And (a :: b :: rest) pos) (tAndZ p q) := by
  obtain ⟨ta, pa, ra⟩ := ha
  obtain ⟨tb, pb, rb⟩ := hb
  exact ⟨_, pw_and pa pb, run_and ra rb⟩
theorem w_or (ha : TOk X a p) (hb : WOk X (.BoolOp .Or (b :: rest) pos) q) : WOk X (.BoolOp .Or (a :: b :: rest) pos) (tOrZ p q) := by
  obtain ⟨ta, pa, ra⟩ := ha
  obtain ⟨tb, pb, rb⟩ := hb
  exact ⟨_, pw_or pa pb, run_or ra rb⟩
theorem t_w (h : WOk X e p) : TOk X e p := by
  obtain ⟨t, h, r⟩ := h
  exact ⟨_, h.pt, r⟩
theorem t_not (h : TOk X a p) : TOk X (.UnaryOp .Not a pos) (tNotZ p) := by
  obtain ⟨t, h, r⟩ := h
  refine ⟨_, pt_not h, fun F0 H0 ev σ F H d Q s he z => ?_⟩
  obtain ⟨k, h1, rfl⟩ := Option.map_eq_some_iff.mp he
  exact r F0 H0 ev σ F H k _ s h1 fun F1 H1 x1 => z F1 H1 x1
theorem t_tru (h : EOk X e fz f) (he : ∀ whole, isTrue e X.env whole = (do let v ← whole; standAt e.pos; holding [v] (truthy v)) := by intro _; rfl) : TOk X e (tTru f) := by
  obtain ⟨t, p, r⟩ := h
  refine ⟨_, pt_truth p he, fun F0 H0 ev σ F H d Q s he z => ?_⟩
  obtain ⟨x, h1, h2⟩ := Option.bind_eq_some_iff.mp he
  exact r F0 H0 ev σ F H x _ s h1 fun v F' H' x r1 _ => ⟨d, r1.tru h2, z F' H' x⟩
theorem ts_nil : TsOk X [] (fun _ => some true) := ⟨_, pts_nil, fun F0 H0 ev σ F H d Q s he z => by
  cases he
  exact z F H (.refl s.sub)⟩
theorem ts_one (h : TOk X c p) : TsOk X [c] p := by
  obtain ⟨t, h, r⟩ := h
  exact ⟨_, pts_one h, r⟩
/-- a if c else b -/
def cIf (p : EV → Option Bool) (f g : EV → Option D) : EV → Option D := fun ev => (p ev).bind fun k => if k then f ev else g ev
theorem e_if (hc : TOk X c p) (ha : EOk X a fa f) (hb : EOk X b fb g) : EOk X (.IfExp c a b pos) (fa && fb) (cIf p f g) := by
  obtain ⟨tc, pc, rc⟩ := hc
  obtain ⟨ta, pa, ra⟩ := ha
  obtain ⟨tb, pb, rb⟩ := hb
  refine ⟨_, pe_ifExp pc pa pb, fun F0 H0 ev σ F H d Q s he z => ?_⟩
  obtain ⟨k, h1, he⟩ := Option.bind_eq_some_iff.mp he
  refine rc F0 H0 ev σ F H k _ s h1 fun F1 H1 x1 => ?_
  cases k with
  | true =>
    rw [if_pos rfl] at he ⊢
    exact ra F0 H0 ev σ F1 H1 d Q (s.up x1) he fun u F2 H2 x2 r2 z2 => z u F2 H2 (x1.trans x2) r2 fun y => z2 (Bool.and_eq_true _ _ ▸ y).1
  | false =>
    rw [if_neg (by decide)] at he ⊢
    exact rb F0 H0 ev σ F1 H1 d Q (s.up x1) he fun u F2 H2 x2 r2 z2 => z u F2 H2 (x1.trans x2) r2 fun y => z2 (Bool.and_eq_true _ _ ▸ y).2

/-! ### chains of comparisons -/
structure PCh (X : Cx) (pos : Pos) (ops : List CmpOp) (es : List Expr) (t : V → TE) : Prop where
  run : ∀ (pins : List (Addr × Obj)) (s : Shared) (σ : L2.St) (H : Hp) (x : V) (v : Value) (Q : VK), Inv X pins σ H s → RelV x v → t x σ H Q →
    wpAny (model X.prog X.w) X.A (compareChain pos v ops (evalEach es X.env)) (EP X pins σ Q) X.xe s
def tLink (r : R2) (tb : TE) (t : V → TE) : V → TE := fun x σ H Q => tb σ H fun y H2 => r x y H2 fun z H3 => ∃ k, z = .bl k ∧ (if k = true then t y σ H3 Q else Q (.bl false) H3)
def tLast (r : R2) (tb : TE) : V → TE := fun x σ H Q => tb σ H fun y H2 => r x y H2 Q
theorem pch_last {op : CmpOp} {r : R2} {tb : TE} (ho : OpR X (compareOp op) r) (hb : PE X b tb) : PCh X pos [op] [b] (tLast r tb) := by
  refine ⟨fun pins s σ H x v Q I rx h => ?_⟩
  exact chain_last (thn (hb.run pins s σ H _ I h) fun u s2 ⟨y, H2, I2, r2, q2⟩ => ho pins s2 σ H2 x y v u Q I2 rx r2 q2)
theorem pch_link {op op' : CmpOp} {ops : List CmpOp} {es : List Expr} {r : R2} {tb : TE} {t : V → TE} (ho : OpR X (compareOp op) r) (hb : PE X b tb) (hc : PCh X pos (op' :: ops) (c :: es) t) :
    PCh X pos (op :: op' :: ops) (b :: c :: es) (tLink r tb t) := by
  refine ⟨fun pins s σ H x v Q I rx h => ?_⟩
  show wpAny (model X.prog X.w) X.A (compareChain pos v (op :: op' :: ops) (eval b X.env :: eval c X.env :: evalEach es X.env)) (EP X pins σ Q) X.xe s
  refine chain_link (thn (hb.run pins s σ H _ I h) fun u s2 ⟨y, H2, I2, r2, q2⟩ => thn (ho pins s2 σ H2 x y v u _ I2 rx r2 q2) fun d s3 ⟨z, H3, I3, r3, k, e, q3⟩ => ?_)
  subst e
  cases r3
  refine wpAny_truthy_bool ?_
  cases k with
  | false => exact ite_ff ⟨.bl false, H3, I3, rfl, q3⟩
  | true => exact ite_tt (hc.run pins s3 σ H3 y u Q I3 r2 q3)
theorem pe_chn {op op' : CmpOp} {ops : List CmpOp} {es : List Expr} {ta : TE} {t : V → TE} (ha : PE X a ta) (hc : PCh X pos (op :: op' :: ops) (b :: c :: es) t)
    (hm : lastMarks (op :: op' :: ops) (b :: c :: es) = false := by with_unfolding_all rfl) : PE X (.Compare a (op :: op' :: ops) (b :: c :: es) pos) (fun σ H Q => ta σ H fun x H1 => t x σ H1 Q) := by
  refine ⟨fun pins s σ H Q I h => ?_⟩
  exact Compare_chain (thn (ha.run pins s σ H _ I h) fun v s1 ⟨x, H1, I1, r1, q1⟩ => hc.run pins s1 σ H1 x v Q I1 r1 q1) hm
/-- .. of data -/
def ChRun (K : PySem.W.Frag) (f : D → EV → Option D) (t : V → TE) : Prop :=
  ∀ (F0 H0 : Hp) (ev : EV) (σ : L2.St) (F H : Hp) (x : V) (dx d : D) (Q : VK), SR K F0 H0 ev σ F H → Rep K H x dx → f dx ev = some d → (∀ (k : Bool) F' H', Ext F H F' H' → d = .bl k → Q (.bl k) H') → t x σ H Q
def ChOk (X : Cx) (pos : Pos) (ops : List CmpOp) (es : List Expr) (f : D → EV → Option D) : Prop := ∃ t, PCh X pos ops es t ∧ ChRun X.K f t
def chLast (op : D → D → Option D) (g : EV → Option D) : D → EV → Option D := fun x ev => (g ev).bind fun y => match op x y with
  | some (.bl k) => some (.bl k)
  | _ => none
def chLink (op : D → D → Option D) (g : EV → Option D) (r : D → EV → Option D) : D → EV → Option D := fun x ev => (g ev).bind fun y => match op x y with
  | some (.bl true) => r y ev
  | some (.bl false) => some (.bl false)
  | _ => none
theorem ch_last {op : CmpOp} {r : R2} {k : D → D → Option D} (ho : OpR X (compareOp op) r) (hr : R2Ok X.K r k) (hb : EOk X b fb g) : ChOk X pos [op] [b] (chLast k g) := by
  obtain ⟨tb, pb, rb⟩ := hb
  refine ⟨_, pch_last ho pb, fun F0 H0 ev σ F H x dx d Q s rx he q => ?_⟩
  obtain ⟨y, h1, he⟩ := Option.bind_eq_some_iff.mp he
  refine rb F0 H0 ev σ F H y _ s h1 fun u F1 H1 x1 r1 _ => ?_
  split at he
  · rename_i k' hk
    cases he
    refine hr F1 H1 x u dx y _ _ (s.up x1).sub (rx.mono x1.keep) r1 hk fun w F2 H2 x2 r2 _ => ?_
    cases r2
    exact q _ F2 H2 (x1.trans x2) rfl
  · cases he
theorem ch_link {op op' : CmpOp} {ops : List CmpOp} {es : List Expr} {r : R2} {k : D → D → Option D} {l : D → EV → Option D} (ho : OpR X (compareOp op) r) (hr : R2Ok X.K r k) (hb : EOk X b fb g)
    (hc : ChOk X pos (op' :: ops) (c :: es) l) : ChOk X pos (op :: op' :: ops) (b :: c :: es) (chLink k g l) := by
  obtain ⟨tb, pb, rb⟩ := hb
  obtain ⟨tc, pc, rc⟩ := hc
  refine ⟨_, pch_link ho pb pc, fun F0 H0 ev σ F H x dx d Q s rx he q => ?_⟩
  obtain ⟨y, h1, he⟩ := Option.bind_eq_some_iff.mp he
  refine rb F0 H0 ev σ F H y _ s h1 fun u F1 H1 x1 r1 _ => ?_
  split at he
  · rename_i hk
    refine hr F1 H1 x u dx y _ _ (s.up x1).sub (rx.mono x1.keep) r1 hk fun w F2 H2 x2 r2 _ => ?_
    cases r2
    refine ⟨true, rfl, ?_⟩
    rw [if_pos rfl]
    exact rc F0 H0 ev σ F2 H2 u y d Q ((s.up x1).up x2) (r1.mono x2.keep) he fun k F3 H3 x3 => q k F3 H3 ((x1.trans x2).trans x3)
  · rename_i hk
    cases he
    refine hr F1 H1 x u dx y _ _ (s.up x1).sub (rx.mono x1.keep) r1 hk fun w F2 H2 x2 r2 _ => ?_
    cases r2
    refine ⟨false, rfl, ?_⟩
    rw [if_neg (by decide)]
    exact q false F2 H2 (x1.trans x2) rfl
  · cases he
def cCh (f : EV → Option D) (l : D → EV → Option D) : EV → Option D := fun ev => (f ev).bind fun x => l x ev
theorem e_chn {op op' : CmpOp} {ops : List CmpOp} {es : List Expr} {l : D → EV → Option D} (ha : EOk X a fa f) (hc : ChOk X pos (op :: op' :: ops) (b :: c :: es) l)
    (hm : lastMarks (op :: op' :: ops) (b :: c :: es) = false := by with_unfolding_all rfl) : EOk X (.Compare a (op :: op' :: ops) (b :: c :: es) pos) true (cCh f l) := by
  obtain ⟨ta, pa, ra⟩ := ha
  obtain ⟨tc, pc, rc⟩ := hc
  refine ⟨_, pe_chn pa pc hm, fun F0 H0 ev σ F H d Q s he q => ?_⟩
  obtain ⟨x, h1, he⟩ := Option.bind_eq_some_iff.mp he
  refine ra F0 H0 ev σ F H x _ s h1 fun v F1 H1 x1 r1 _ => ?_
  refine rc F0 H0 ev σ F1 H1 v x d Q (s.up x1) r1 he fun k F2 H2 x2 e => ?_
  subst e
  exact q _ F2 H2 (x1.trans x2) (.bl _) fun _ => .bl _

/-! .. as tests -/
structure PTh (X : Cx) (pos : Pos) (ops : List CmpOp) (es : List Expr) (t : V → TT) : Prop where
  run : ∀ (pins : List (Addr × Obj)) (s : Shared) (σ : L2.St) (H : Hp) (x : V) (v : Value) (Q : Bool → Hp → Prop), Inv X pins σ H s → RelV x v → t x σ H Q →
    wpAny (model X.prog X.w) X.A (testChain pos v ops (evalEach es X.env)) (TP X pins σ Q) X.xe s
def ttLink (r : R2) (tb : TE) (t : V → TT) : V → TT := fun x σ H Q => tb σ H fun y H2 => r x y H2 fun z H3 => ∃ k, z = .bl k ∧ (if k = true then t y σ H3 Q else Q false H3)
def ttLast (r : R2) (tb : TE) : V → TT := fun x σ H Q => tb σ H fun y H2 => r x y H2 fun z H3 => ∃ k, z = .bl k ∧ Q k H3
theorem pth_last {op : CmpOp} {r : R2} {tb : TE} (ho : OpR X (compareOp op) r) (hb : PE X b tb) : PTh X pos [op] [b] (ttLast r tb) := by
  refine ⟨fun pins s σ H x v Q I rx h => ?_⟩
  refine test_last (thn (hb.run pins s σ H _ I h) fun u s2 ⟨y, H2, I2, r2, q2⟩ => thn (ho pins s2 σ H2 x y v u _ I2 rx r2 q2) fun d s3 ⟨z, H3, I3, r3, k, e, q3⟩ => ?_)
  subst e
  cases r3
  exact wpAny_truthy_bool ⟨H3, I3, q3⟩
theorem pth_link {op op' : CmpOp} {ops : List CmpOp} {es : List Expr} {r : R2} {tb : TE} {t : V → TT} (ho : OpR X (compareOp op) r) (hb : PE X b tb) (hc : PTh X pos (op' :: ops) (c :: es) t) :
    PTh X pos (op :: op' :: ops) (b :: c :: es) (ttLink r tb t) := by
  refine ⟨fun pins s σ H x v Q I rx h => ?_⟩
  show wpAny (model X.prog X.w) X.A (testChain pos v (op :: op' :: ops) (eval b X.env :: eval c X.env :: evalEach es X.env)) (TP X pins σ Q) X.xe s
  refine test_link (thn (hb.run pins s σ H _ I h) fun u s2 ⟨y, H2, I2, r2, q2⟩ => thn (ho pins s2 σ H2 x y v u _ I2 rx r2 q2) fun d s3 ⟨z, H3, I3, r3, k, e, q3⟩ => ?_)
  subst e
  cases r3
  refine wpAny_truthy_bool ?_
  cases k with
  | false => exact ite_ff ⟨H3, I3, q3⟩
  | true => exact ite_tt (hc.run pins s3 σ H3 y u Q I3 r2 q3)
theorem pt_chn {op op' : CmpOp} {ops : List CmpOp} {es : List Expr} {ta : TE} {t : V → TT} (ha : PE X a ta) (hc : PTh X pos (op :: op' :: ops) (b :: c :: es) t)
    (hm : lastMarks (op :: op' :: ops) (b :: c :: es) = false := by with_unfolding_all rfl) : PT X (.Compare a (op :: op' :: ops) (b :: c :: es) pos) (fun σ H Q => ta σ H fun x H1 => t x σ H1 Q) := by
  refine ⟨fun pins s σ H Q I h => ?_⟩
  exact isTrue_chain (thn (ha.run pins s σ H _ I h) fun v s1 ⟨x, H1, I1, r1, q1⟩ => hc.run pins s1 σ H1 x v Q I1 r1 q1) hm
def ThRun (K : PySem.W.Frag) (f : D → EV → Option D) (t : V → TT) : Prop :=
  ∀ (F0 H0 : Hp) (ev : EV) (σ : L2.St) (F H : Hp) (x : V) (dx d : D) (Q : Bool → Hp → Prop), SR K F0 H0 ev σ F H → Rep K H x dx → f dx ev = some d → (∀ (k : Bool) F' H', Ext F H F' H' → d = .bl k → Q k H') → t x σ H Q
def ThOk (X : Cx) (pos : Pos) (ops : List CmpOp) (es : List Expr) (f : D → EV → Option D) : Prop := ∃ t, PTh X pos ops es t ∧ ThRun X.K f t
theorem th_last {op : CmpOp} {r : R2} {k : D → D → Option D} (ho : OpR X (compareOp op) r) (hr : R2Ok X.K r k) (hb : EOk X b fb g) : ThOk X pos [op] [b] (chLast k g) := by
  obtain ⟨tb, pb, rb⟩ := hb
  refine ⟨_, pth_last ho pb, fun F0 H0 ev σ F H x dx d Q s rx he q => ?_⟩
  obtain ⟨y, h1, he⟩ := Option.bind_eq_some_iff.mp he
  refine rb F0 H0 ev σ F H y _ s h1 fun u F1 H1 x1 r1 _ => ?_
  split at he
  · rename_i k' hk
    cases he
    refine hr F1 H1 x u dx y _ _ (s.up x1).sub (rx.mono x1.keep) r1 hk fun w F2 H2 x2 r2 _ => ?_
    cases r2
    exact ⟨_, rfl, q _ F2 H2 (x1.trans x2) rfl⟩
  · cases he
theorem th_link {op op' : CmpOp} {ops : List CmpOp} {es : List Expr} {r : R2} {k : D → D → Option D} {l : D → EV → Option D} (ho : OpR X (compareOp op) r) (hr : R2Ok X.K r k) (hb : EOk X b fb g)
    (hc : ThOk X pos (op' :: ops) (c :: es) l) : ThOk X pos (op :: op' :: ops) (b :: c :: es) (chLink k g l) := by
  obtain ⟨tb, pb, rb⟩ := hb
  obtain ⟨tc, pc, rc⟩ := hc
  refine ⟨_, pth_link ho pb pc, fun F0 H0 ev σ F H x dx d Q s rx he q => ?_⟩
  obtain ⟨y, h1, he⟩ := Option.bind_eq_some_iff.mp he
  refine rb F0 H0 ev σ F H y _ s h1 fun u F1 H1 x1 r1 _ => ?_
  split at he
  · rename_i hk
    refine hr F1 H1 x u dx y _ _ (s.up x1).sub (rx.mono x1.keep) r1 hk fun w F2 H2 x2 r2 _ => ?_
    cases r2
    refine ⟨true, rfl, ?_⟩
    rw [if_pos rfl]
    exact rc F0 H0 ev σ F2 H2 u y d Q ((s.up x1).up x2) (r1.mono x2.keep) he fun k F3 H3 x3 => q k F3 H3 ((x1.trans x2).trans x3)
  · rename_i hk
    cases he
    refine hr F1 H1 x u dx y _ _ (s.up x1).sub (rx.mono x1.keep) r1 hk fun w F2 H2 x2 r2 _ => ?_
    cases r2
    refine ⟨false, rfl, ?_⟩
    rw [if_neg (by decide)]
    exact q false F2 H2 (x1.trans x2) rfl
  · cases he
theorem t_chn {op op' : CmpOp} {ops : List CmpOp} {es : List Expr} {l : D → EV → Option D} (ha : EOk X a fa f) (hc : ThOk X pos (op :: op' :: ops) (b :: c :: es) l)
    (hm : lastMarks (op :: op' :: ops) (b :: c :: es) = false := by with_unfolding_all rfl) : TOk X (.Compare a (op :: op' :: ops) (b :: c :: es) pos) (tOf (cCh f l)) := by
  obtain ⟨ta, pa, ra⟩ := ha
  obtain ⟨tc, pc, rc⟩ := hc
  refine ⟨_, pt_chn pa pc hm, fun F0 H0 ev σ F H d Q s he q => ?_⟩
  have he' : ∃ z, cCh f l ev = some z ∧ z = .bl d := by
    unfold tOf at he
    cases hz : cCh f l ev with
    | none =>
      rw [hz] at he
      cases he
    | some z =>
      rw [hz] at he
      cases z <;> (try cases he)
      exact ⟨_, rfl, rfl⟩
  obtain ⟨z, he, rfl⟩ := he'
  obtain ⟨x, h1, he⟩ := Option.bind_eq_some_iff.mp he
  refine ra F0 H0 ev σ F H x _ s h1 fun v F1 H1 x1 r1 _ => ?_
  refine rc F0 H0 ev σ F1 H1 v x _ Q (s.up x1) r1 he fun k F2 H2 x2 e => ?_
  cases e
  exact q F2 H2 (x1.trans x2)
end
end Z


set_option maxRecDepth 100000
set_option maxHeartbeats 4000000
/-! Z3: subscripts, displays, calls, new lists, what is walked, comprehensions. -/
namespace Z
open PySem PySem.Spec PyProof.Rows L2
section
variable {X : Cx} {a b c e : Expr} {fz fa fb fc : Bool} {f g h : EV → Option D} {pos : Pos} {K : PySem.W.Frag}

/-! ### xs[i] -/
theorem atI_ix {α : Type} {xs : List α} {i : Int} {y : α} (h : atI xs i = some y) : ∃ j, ixN xs.length i = some j ∧ xs[j]? = some y := Option.bind_eq_some_iff.mp h
theorem RepL.atI {H : Hp} {vs : List V} {ds : List D} {i : Int} {d : D} (r : RepL K H vs ds) (h : atI ds i = some d) : ∃ v, L2.atI vs i = some v ∧ Rep K H v d := by
  obtain ⟨j, h1, h2⟩ := atI_ix h
  obtain ⟨v, h3, h4⟩ := r.get h2
  refine ⟨v, ?_, h4⟩
  unfold L2.atI
  rw [r.len, h1]
  exact h3
def oIx : D → D → Option D
  | .lst xs, .int i => atI xs i
  | .tup xs, .int i => atI xs i
  | .scr ns, .int i => (atI ns i).map .int
  | _, _ => none
theorem atI_map {α β : Type} (k : α → β) (xs : List α) (i : Int) : atI (xs.map k) i = (atI xs i).map k := by
  unfold atI
  rw [List.length_map]
  cases ixN xs.length i with
  | none => rfl
  | some j => simp
theorem r_ix : R2Ok K (rIx K) oIx := by
  intro F H x y dx dy d Q s rx ry ho q
  unfold oIx at ho
  split at ho
  · rename_i ds i
    obtain ⟨p, vs, rfl, h1, r⟩ := rx.lst_inv
    cases ry
    obtain ⟨v, h2, r2⟩ := r.atI ho
    refine .inl ⟨p, vs, i, v, rfl, rfl, SqL.of h1, h2, q v F H (.refl s) r2 fun z _ => ?_⟩
    obtain ⟨p', vs', e, h1', r'⟩ := z.lst_inv
    cases e
    have e : vs' = vs := by
      have := s _ _ h1'
      rw [h1] at this
      cases this
      rfl
    subst e
    obtain ⟨v', h2', r2'⟩ := r'.atI ho
    rw [h2] at h2'
    cases h2'
    exact r2'
  · rename_i ds i
    obtain ⟨p, vs, rfl, h1, r⟩ := rx.tup_inv
    cases ry
    obtain ⟨v, h2, r2⟩ := r.atI ho
    refine .inr (.inl ⟨p, vs, i, v, rfl, rfl, SqT.of h1, h2, q v F H (.refl s) r2 fun z _ => ?_⟩)
    obtain ⟨p', vs', e, h1', r'⟩ := z.tup_inv
    cases e
    have e : vs' = vs := by
      have := s _ _ h1'
      rw [h1] at this
      cases this
      rfl
    subst e
    obtain ⟨v', h2', r2'⟩ := r'.atI ho
    rw [h2] at h2'
    cases h2'
    exact r2'
  · rename_i ns i
    cases rx
    rename_i p h1
    cases ry
    obtain ⟨n, h2, rfl⟩ := Option.map_eq_some_iff.mp ho
    exact .inl ⟨p, _, i, .int n, rfl, rfl, h1, by rw [atI_map, h2]; rfl, q _ F H (.refl s) (.int n) fun _ _ => .int n⟩
  · cases ho
theorem e_ix (ha : EOk X a fa f) (hb : EOk X b fb g) (hs : PlainIx b := by exact fun _ _ => rfl) : EOk X (.Subscript a b pos) (fa && fb) (c2 oIx f g) := by
  obtain ⟨ta, pa, ra⟩ := ha
  obtain ⟨tb, pb, rb⟩ := hb
  exact ⟨_, pe_ix ix_seq pa pb hs, run2 r_ix ra rb⟩
/-- an own list's item -/
def cIxo (i : Nat) (g : EV → Option D) : EV → Option D := fun ev => match ev[i]?, g ev with
  | some (.own xs), some (.int k) => atI xs k
  | _, _ => none
theorem e_ixo {i : Nat} {x : Str} {p : Pos} (hp : PE X (.Name x p) (tVar i)) (hb : EOk X b fb g) (hs : PlainIx b := by exact fun _ _ => rfl) : EOk X (.Subscript (.Name x p) b pos) true (cIxo i g) := by
  obtain ⟨tb, pb, rb⟩ := hb
  refine ⟨_, pe_ix ix_seq hp pb hs, fun F0 H0 ev σ F H d Q s he q => ?_⟩
  unfold cIxo at he
  split at he
  · rename_i xs k h h1
    obtain ⟨l, vs, h2, h3, h4, h5, h6⟩ := s.own i _ h
    refine ⟨.ref l, h2, rb F0 H0 ev σ F H _ _ s h1 fun u F1 H1 x1 r1 _ => ?_⟩
    cases r1
    obtain ⟨v, h7, r2⟩ := h6.atI he
    exact .inl ⟨l, vs, k, v, rfl, rfl, SqL.of (x1.keep _ _ h3), h7, q v F1 H1 x1 ((r2.mono x1.fr).mono x1.sub) fun _ => r2.mono x1.fr⟩
  · cases he

/-! ### displays -/
def aNil : EV → Option (List D) := fun _ => some []
def aCons (f : EV → Option D) (g : EV → Option (List D)) : EV → Option (List D) := fun ev => (f ev).bind fun x => (g ev).map (x :: ·)
variable {es : List Expr} {k : EV → Option (List D)}
theorem a_nil : AOk X [] true aNil := ⟨_, pa_nil, fun F0 H0 ev σ F H d Q s he q => by
  cases he
  exact q [] F H (.refl s.sub) .nil fun _ => .nil⟩
theorem a_cons (ha : EOk X e fa f) (hb : AOk X es fb k) (hs : starEach (e :: es) X.env = (false, eval e X.env) :: starEach es X.env := by rfl) : AOk X (e :: es) (fa && fb) (aCons f k) := by
  obtain ⟨ta, pa, ra⟩ := ha
  obtain ⟨tb, pb, rb⟩ := hb
  refine ⟨_, pa_cons pa pb hs, fun F0 H0 ev σ F H d Q s he q => ?_⟩
  obtain ⟨x, h1, he⟩ := Option.bind_eq_some_iff.mp he
  obtain ⟨xs, h2, rfl⟩ := Option.map_eq_some_iff.mp he
  refine ra F0 H0 ev σ F H x _ s h1 fun v F1 H1 x1 r1 z1 => ?_
  refine rb F0 H0 ev σ F1 H1 xs _ (s.up x1) h2 fun vs F2 H2 x2 r2 z2 => ?_
  refine q (v :: vs) F2 H2 (x1.trans x2) (.cons (r1.mono x2.keep) r2) fun z => ?_
  rw [Bool.and_eq_true] at z
  exact .cons ((z1 z.1).mono x2.fr) (z2 z.2)
theorem AOk.cast {fz' : Bool} (h : AOk X es fz k) (z : fz = fz' := by rfl) : AOk X es fz' k := by
  subst z
  exact h
theorem EOk.cast {fz' : Bool} (h : EOk X e fz f) (z : fz = fz' := by rfl) : EOk X e fz' f := by
  subst z
  exact h
def cTup (k : EV → Option (List D)) : EV → Option D := fun ev => (k ev).bind fun ds => if ds.length ≤ 1000 then some (.tup ds) else none
theorem len_line {n : Nat} (h : n ≤ 1000) : n ≤ sizeLine := Nat.le_of_lt (small1000 h)
theorem e_tup {x1} (h : AOk X es fz k) : EOk X (.Tuple es x1 pos) fz (cTup k) := by
  obtain ⟨t, p, r⟩ := h
  refine ⟨_, pe_tup p, fun F0 H0 ev σ F H d Q s he q => ?_⟩
  obtain ⟨ds, h1, he⟩ := Option.bind_eq_some_iff.mp he
  obtain ⟨h2, rfl⟩ := of_ite he
  refine r F0 H0 ev σ F H ds _ s h1 fun vs F1 H1 x1 r1 z1 => ⟨len_line (by rw [r1.len]; exact h2), fun p np => ?_⟩
  have s1 := s.up x1
  cases hz : fz with
  | true =>
    have y : Ext F1 H1 (upd F1 p (.tup vs)) (upd H1 p (.tup vs)) := .alloc s1.sub np
    exact q _ _ _ (x1.trans y) (.tup upd_same (r1.mono y.keep)) fun _ => .tup upd_same ((z1 hz).mono y.fr)
  | false =>
    have y : Ext F1 H1 F1 (upd H1 p (.tup vs)) := .allocH s1.sub np
    exact q _ _ _ (x1.trans y) (.tup upd_same (r1.mono y.keep)) fun z => Bool.noConfusion (hz.symm.trans z)

/-! ### a new list -/
def FRun (K : PySem.W.Frag) (f : EV → Option (List D)) (t : TE) : Prop :=
  ∀ (F0 H0 : Hp) (ev : EV) (σ : L2.St) (F H : Hp) (xs : List D) (Q : VK), SR K F0 H0 ev σ F H → f ev = some xs →
    (∀ l vs F' H', Ext F H F' H' → H l = none → F' l = none → H' l = some (.lst vs) → RepL K F' vs xs → Q (.ref l) H') → t σ H Q
/-- an expression that gives a new list of frozen items -/
def FOk (X : Cx) (e : Expr) (f : EV → Option (List D)) : Prop := ∃ t, PE X e t ∧ FRun X.K f t
def cLst (k : EV → Option (List D)) : EV → Option D := fun ev => (k ev).map .lst
theorem frun_e {t : TE} (h : FRun K k t) : ERun K true (cLst k) t := by
  intro F0 H0 ev σ F H d Q s he q
  obtain ⟨xs, h1, rfl⟩ := Option.map_eq_some_iff.mp he
  refine h F0 H0 ev σ F H xs _ s h1 fun l vs F' H' x n1 n2 e r => ?_
  have m : Same F' (upd F' l (.lst vs)) := same_upd n2
  have x2 : Ext F H (upd F' l (.lst vs)) H' := ⟨x.fr.trans m, fun b o eb => by
    by_cases hb : b = l
    · subst hb
      rw [upd_same] at eb
      exact e.trans eb
    · rw [upd_ne hb] at eb
      exact x.sub b o eb, x.keep, fun b => by
    by_cases hb : b = l
    · subst hb
      exact .inr n1
    · rw [upd_ne hb]
      exact x.new b⟩
  exact q _ _ _ x2 (.lst e (r.mono x.sub)) fun _ => .lst upd_same (r.mono m)
theorem e_f (h : FOk X e k) : EOk X e true (cLst k) := by
  obtain ⟨t, p, r⟩ := h
  exact ⟨t, p, frun_e r⟩
def kList (k : EV → Option (List D)) : EV → Option (List D) := fun ev => (k ev).bind fun ds => if ds.length ≤ 1000 then some ds else none
theorem f_lst (h : AOk X es true k) : FOk X (.List es pos) (kList k) := by
  obtain ⟨t, p, r⟩ := h
  refine ⟨_, pe_lst p, fun F0 H0 ev σ F H d Q s he q => ?_⟩
  obtain ⟨ds, h1, he⟩ := Option.bind_eq_some_iff.mp he
  obtain ⟨h2, rfl⟩ := of_ite he
  refine r F0 H0 ev σ F H ds _ s h1 fun vs F1 H1 x1 r1 z1 => ⟨len_line (by rw [r1.len]; exact h2), fun p np => ?_⟩
  have s1 := s.up x1
  exact q p vs F1 _ (x1.trans (.allocH s1.sub np)) (x1.keep.free np) (s1.sub.free np) upd_same (z1 rfl)
/-- as a display whose items are not frozen -/
theorem e_lstV (h : AOk X es fz k) : EOk X (.List es pos) false (cLst (kList k)) := by
  obtain ⟨t, p, r⟩ := h
  refine ⟨_, pe_lst p, fun F0 H0 ev σ F H d Q s he q => ?_⟩
  obtain ⟨ds0, he1, rfl⟩ := Option.map_eq_some_iff.mp he
  obtain ⟨ds, h1, he2⟩ := Option.bind_eq_some_iff.mp he1
  obtain ⟨h2, rfl⟩ := of_ite he2
  refine r F0 H0 ev σ F H ds _ s h1 fun vs F1 H1 x1 r1 z1 => ⟨len_line (by rw [r1.len]; exact h2), fun p np => ?_⟩
  have s1 := s.up x1
  have y : Ext F1 H1 F1 (upd H1 p (.lst vs)) := .allocH s1.sub np
  exact q _ _ _ (x1.trans y) (.lst upd_same (r1.mono y.keep)) fun z => nomatch z

/-! ### slices -/
def cutD {α : Type} (xs : List α) (lo hi : Option Int) : List α := (xs.drop (HT.sIx xs.length 0 lo)).take (HT.sIx xs.length xs.length hi - HT.sIx xs.length 0 lo)
theorem RepL.cut {H : Hp} {vs : List V} {ds : List D} (lo hi : Option Int) (r : RepL K H vs ds) : RepL K H (cutV vs lo hi) (cutD ds lo hi) := by
  unfold cutV cutD
  rw [r.len]
  exact (r.drop _).take _
theorem cutD_map {α β : Type} (k : α → β) (xs : List α) (lo hi : Option Int) : cutD (xs.map k) lo hi = (cutD xs lo hi).map k := by
  unfold cutD
  rw [List.length_map, List.map_take, List.map_drop]
def PRun (K : PySem.W.Frag) (f : EV → Option (Option Int)) (t : TO) : Prop :=
  ∀ (F0 H0 : Hp) (ev : EV) (σ : L2.St) (F H : Hp) (o : Option Int) (Q : Option Int → Hp → Prop), SR K F0 H0 ev σ F H → f ev = some o → (∀ F' H', Ext F H F' H' → Q o H') → t σ H Q
def POk (X : Cx) (e : Option Expr) (f : EV → Option (Option Int)) : Prop := ∃ t, PO X e t ∧ PRun X.K f t
def pNo : EV → Option (Option Int) := fun _ => some none
def pAt (f : EV → Option D) : EV → Option (Option Int) := fun ev => match f ev with
  | some (.int i) => some (some i)
  | _ => none
theorem p_no : POk X none pNo := ⟨_, po_none, fun F0 H0 ev σ F H o Q s he q => by
  cases he
  exact q F H (.refl s.sub)⟩
theorem p_at (h : EOk X e fz f) : POk X (some e) (pAt f) := by
  obtain ⟨t, p, r⟩ := h
  refine ⟨_, po_some p, fun F0 H0 ev σ F H o Q s he q => ?_⟩
  unfold pAt at he
  split at he
  · rename_i i h1
    cases he
    refine r F0 H0 ev σ F H _ _ s h1 fun v F1 H1 x1 r1 _ => ?_
    cases r1
    exact ⟨i, rfl, q F1 H1 x1⟩
  · cases he
variable {lo hi : Option Expr} {l u : EV → Option (Option Int)}
/-- xs[lo:hi] of a frozen list -/
def kSl (f : EV → Option D) (l u : EV → Option (Option Int)) : EV → Option (List D) := fun ev => match f ev with
  | some (.lst xs) => (l ev).bind fun a => (u ev).map fun b => cutD xs a b
  | _ => none
theorem f_sl {p2 : Pos} (he : EOk X e true f) (hl : POk X lo l) (hu : POk X hi u) : FOk X (.Subscript e (.Slice lo hi none p2) pos) (kSl f l u) := by
  obtain ⟨t, p, r⟩ := he
  obtain ⟨tl, pl, rl⟩ := hl
  obtain ⟨tu, pu, ru⟩ := hu
  refine ⟨_, pe_slice sl_list p pl pu, fun F0 H0 ev σ F H xs Q s he q => ?_⟩
  unfold kSl at he
  split at he
  · rename_i ds h1
    obtain ⟨lo', h2, he⟩ := Option.bind_eq_some_iff.mp he
    obtain ⟨hi', h3, rfl⟩ := Option.map_eq_some_iff.mp he
    refine r F0 H0 ev σ F H _ _ s h1 fun v F1 H1 x1 r1 z1 => ?_
    refine rl F0 H0 ev σ F1 H1 _ _ (s.up x1) h2 fun F2 H2 x2 => ?_
    refine ru F0 H0 ev σ F2 H2 _ _ ((s.up x1).up x2) h3 fun F3 H3 x3 => ?_
    have s3 := ((s.up x1).up x2).up x3
    obtain ⟨p, vs, rfl, e1, rr⟩ := (((z1 rfl).mono x2.fr).mono x3.fr).lst_inv
    refine ⟨p, vs, rfl, SqL.of (s3.sub _ _ e1), fun l nl => ?_⟩
    have x := (x1.trans x2).trans x3
    exact q l _ F3 _ (x.trans (.allocH s3.sub nl)) (x.keep.free nl) (s3.sub.free nl) upd_same (rr.cut _ _)
  · cases he
/-- of an own list -/
def kSlo (i : Nat) (l u : EV → Option (Option Int)) : EV → Option (List D) := fun ev => match ev[i]? with
  | some (.own xs) => (l ev).bind fun a => (u ev).map fun b => cutD xs a b
  | _ => none
theorem f_slo {i : Nat} {x : Str} {p p2 : Pos} (hp : PE X (.Name x p) (tVar i)) (hl : POk X lo l) (hu : POk X hi u) : FOk X (.Subscript (.Name x p) (.Slice lo hi none p2) pos) (kSlo i l u) := by
  obtain ⟨tl, pl, rl⟩ := hl
  obtain ⟨tu, pu, ru⟩ := hu
  refine ⟨_, pe_slice sl_list hp pl pu, fun F0 H0 ev σ F H xs Q s he q => ?_⟩
  unfold kSlo at he
  split at he
  · rename_i ds h1
    obtain ⟨lo', h2, he⟩ := Option.bind_eq_some_iff.mp he
    obtain ⟨hi', h3, rfl⟩ := Option.map_eq_some_iff.mp he
    obtain ⟨a, vs, g2, g3, g4, g5, g6⟩ := s.own i _ h1
    refine ⟨.ref a, g2, ?_⟩
    refine rl F0 H0 ev σ F H _ _ s h2 fun F2 H2 x2 => ?_
    refine ru F0 H0 ev σ F2 H2 _ _ (s.up x2) h3 fun F3 H3 x3 => ?_
    have s3 := (s.up x2).up x3
    have x := x2.trans x3
    refine ⟨a, vs, rfl, SqL.of (x.keep _ _ g3), fun l nl => ?_⟩
    exact q l _ F3 _ (x.trans (.allocH s3.sub nl)) (x.keep.free nl) (s3.sub.free nl) upd_same ((g6.mono x.fr).cut _ _)
  · cases he
/-- a tuple's slice, not the whole -/
def cSlT (f : EV → Option D) (l u : EV → Option (Option Int)) : EV → Option D := fun ev => match f ev with
  | some (.tup xs) => (l ev).bind fun a => (u ev).bind fun b => if ¬ (HT.sIx xs.length 0 a = 0 ∧ HT.sIx xs.length xs.length b = xs.length) then some (.tup (cutD xs a b)) else none
  | _ => none
theorem e_slT {p2 : Pos} (he : EOk X e true f) (hl : POk X lo l) (hu : POk X hi u) : EOk X (.Subscript e (.Slice lo hi none p2) pos) true (cSlT f l u) := by
  obtain ⟨t, p, r⟩ := he
  obtain ⟨tl, pl, rl⟩ := hl
  obtain ⟨tu, pu, ru⟩ := hu
  refine ⟨_, pe_slice sl_tup p pl pu, fun F0 H0 ev σ F H d Q s he q => ?_⟩
  unfold cSlT at he
  split at he
  · rename_i ds h1
    obtain ⟨lo', h2, he⟩ := Option.bind_eq_some_iff.mp he
    obtain ⟨hi', h3, he⟩ := Option.bind_eq_some_iff.mp he
    obtain ⟨hw, rfl⟩ := of_ite he
    refine r F0 H0 ev σ F H _ _ s h1 fun v F1 H1 x1 r1 z1 => ?_
    refine rl F0 H0 ev σ F1 H1 _ _ (s.up x1) h2 fun F2 H2 x2 => ?_
    refine ru F0 H0 ev σ F2 H2 _ _ ((s.up x1).up x2) h3 fun F3 H3 x3 => ?_
    have s3 := ((s.up x1).up x2).up x3
    obtain ⟨p, vs, rfl, e1, rr⟩ := (((z1 rfl).mono x2.fr).mono x3.fr).tup_inv
    refine ⟨p, vs, rfl, SqT.of (s3.sub _ _ e1), by rw [rr.len]; exact hw, fun l nl => ?_⟩
    have x := (x1.trans x2).trans x3
    have y : Ext F3 H3 (upd F3 l (.tup (cutV vs lo' hi'))) (upd H3 l (.tup (cutV vs lo' hi'))) := .alloc s3.sub nl
    exact q _ _ _ (x.trans y) (.tup upd_same (((rr.cut _ _).mono s3.sub).mono y.keep)) fun _ => .tup upd_same ((rr.cut _ _).mono y.fr)
  · cases he
/-- xs[::-1] -/
def kRev (f : EV → Option D) : EV → Option (List D) := fun ev => match f ev with
  | some (.lst xs) => some xs.reverse
  | _ => none
theorem f_rev {k : Nat} {p1 p2 p3 : Pos} (he : EOk X e true f) : FOk X (.Subscript e (.Slice none none (some (.UnaryOp .USub (.Constant (.int 1) k p1) p2)) p3) pos) (kRev f) := by
  obtain ⟨t, p, r⟩ := he
  refine ⟨_, pe_revL p, fun F0 H0 ev σ F H xs Q s he q => ?_⟩
  unfold kRev at he
  split at he
  · rename_i ds h1
    cases he
    refine r F0 H0 ev σ F H _ _ s h1 fun v F1 H1 x1 r1 z1 => ?_
    have s1 := s.up x1
    obtain ⟨p, vs, rfl, e1, rr⟩ := (z1 rfl).lst_inv
    exact ⟨p, vs, rfl, SqL.of (s1.sub _ _ e1), fun l nl => q l _ F1 _ (x1.trans (.allocH s1.sub nl)) (x1.keep.free nl) (s1.sub.free nl) upd_same rr.reverse⟩
  · cases he
def kRevo (i : Nat) : EV → Option (List D) := fun ev => match ev[i]? with
  | some (.own xs) => some xs.reverse
  | _ => none
theorem f_revo {i k : Nat} {x : Str} {p p1 p2 p3 : Pos} (hp : PE X (.Name x p) (tVar i)) : FOk X (.Subscript (.Name x p) (.Slice none none (some (.UnaryOp .USub (.Constant (.int 1) k p1) p2)) p3) pos) (kRevo i) := by
  refine ⟨_, pe_revL hp, fun F0 H0 ev σ F H xs Q s he q => ?_⟩
  unfold kRevo at he
  split at he
  · rename_i ds h1
    cases he
    obtain ⟨a, vs, g2, g3, g4, g5, g6⟩ := s.own i _ h1
    exact ⟨.ref a, g2, a, vs, rfl, SqL.of g3, fun l nl => q l _ F _ (.allocH s.sub nl) nl (s.sub.free nl) upd_same g6.reverse⟩
  · cases he
/-- xs + ys, lists -/
def kCat (f g : EV → Option D) : EV → Option (List D) := fun ev => match f ev, g ev with
  | some (.lst xs), some (.lst ys) => if xs.length + ys.length ≤ 16777216 then some (xs ++ ys) else none
  | _, _ => none
theorem f_cat (ha : EOk X a true f) (hb : EOk X b true g) : FOk X (.BinOp a .Add b pos) (kCat f g) := by
  obtain ⟨ta, pa, ra⟩ := ha
  obtain ⟨tb, pb, rb⟩ := hb
  refine ⟨_, pe_op op_cat pa pb, fun F0 H0 ev σ F H xs Q s he q => ?_⟩
  unfold kCat at he
  split at he
  · rename_i ds es h1 h2
    obtain ⟨hl, rfl⟩ := of_ite he
    refine ra F0 H0 ev σ F H _ _ s h1 fun v F1 H1 x1 r1 z1 => ?_
    refine rb F0 H0 ev σ F1 H1 _ _ (s.up x1) h2 fun u F2 H2 x2 r2 z2 => ?_
    have s2 := (s.up x1).up x2
    obtain ⟨p, vs, rfl, e1, rr⟩ := ((z1 rfl).mono x2.fr).lst_inv
    obtain ⟨p', ws, rfl, e2, rr'⟩ := (z2 rfl).lst_inv
    have x := x1.trans x2
    exact ⟨p, p', vs, ws, rfl, rfl, s2.sub _ _ e1, s2.sub _ _ e2, by rw [rr.len, rr'.len, sizeLine_eq]; exact hl, fun l nl =>
      q l _ F2 _ (x.trans (.allocH s2.sub nl)) (x.keep.free nl) (s2.sub.free nl) upd_same (rr.append rr')⟩
  · cases he
/-- [x] * n -/
def kRep (f g : EV → Option D) : EV → Option (List D) := fun ev => match f ev, g ev with
  | some (.lst xs), some (.int n) => if -(2 ^ 63) ≤ n ∧ n < 2 ^ 63 ∧ xs.length * n.toNat ≤ 16777216 then some (List.replicate n.toNat xs).flatten else none
  | _, _ => none
theorem RepL.rep {H : Hp} {vs : List V} {ds : List D} (r : RepL K H vs ds) : ∀ k : Nat, RepL K H (List.replicate k vs).flatten (List.replicate k ds).flatten
  | 0 => .nil
  | k + 1 => by
    rw [List.replicate_succ, List.replicate_succ, List.flatten_cons, List.flatten_cons]
    exact r.append (r.rep k)
theorem f_rep (ha : EOk X a true f) (hb : EOk X b fb g) : FOk X (.BinOp a .Mult b pos) (kRep f g) := by
  obtain ⟨ta, pa, ra⟩ := ha
  obtain ⟨tb, pb, rb⟩ := hb
  refine ⟨_, pe_op op_rep pa pb, fun F0 H0 ev σ F H xs Q s he q => ?_⟩
  unfold kRep at he
  split at he
  · rename_i ds n h1 h2
    obtain ⟨⟨g1, g2, hl⟩, rfl⟩ := of_ite he
    refine ra F0 H0 ev σ F H _ _ s h1 fun v F1 H1 x1 r1 z1 => ?_
    refine rb F0 H0 ev σ F1 H1 _ _ (s.up x1) h2 fun u F2 H2 x2 r2 z2 => ?_
    have s2 := (s.up x1).up x2
    obtain ⟨p, vs, rfl, e1, rr⟩ := ((z1 rfl).mono x2.fr).lst_inv
    cases r2
    have x := x1.trans x2
    exact ⟨p, n, vs, rfl, rfl, s2.sub _ _ e1, g1, g2, by rw [rr.len, sizeLine_eq]; exact hl, fun l nl =>
      q l _ F2 _ (x.trans (.allocH s2.sub nl)) (x.keep.free nl) (s2.sub.free nl) upd_same (rr.rep _)⟩
  · cases he

/-! ### calls of built-ins -/
def CROk (K : PySem.W.Frag) (r : List V → Hp → VK → Prop) (op : List D → Option D) : Prop :=
  ∀ (F H : Hp) (vs : List V) (ds : List D) (d : D) (Q : VK), Same F H → RepL K H vs ds → op ds = some d →
    (∀ v F' H', Ext F H F' H' → Rep K H' v d → (RepL K F vs ds → Rep K F' v d) → Q v H') → r vs H Q
def cCB (op : List D → Option D) (k : EV → Option (List D)) : EV → Option D := fun ev => (k ev).bind op
theorem runCB {r : List V → Hp → VK → Prop} {op : List D → Option D} {t : TA} (hr : CROk K r op) (ha : ARun K fz k t) : ERun K fz (cCB op k) (tCB r t) := by
  intro F0 H0 ev σ F H d Q s he q
  obtain ⟨ds, h1, h2⟩ := Option.bind_eq_some_iff.mp he
  refine ha F0 H0 ev σ F H ds _ s h1 fun vs F1 H1 x1 r1 z1 => ?_
  exact hr F1 H1 vs ds d Q (s.up x1).sub r1 h2 fun v F2 H2 x2 r2 z2 => q v F2 H2 (x1.trans x2) r2 fun z => z2 (z1 z)
theorem e_cb {id : String} {x : Str} {p : Pos} {r : List V → Hp → VK → Prop} {op : List D → Option D} (hc : CallR X (.builtin id) r) (hr : CROk X.K r op) (hg : Gl X x) (hm : X.mg x = none) (hv : bootBuiltins x = some (.builtin id))
    (ha : AOk X (e :: es) fz k) (hn : x ≠ "__name__" := by decide) (hdb : (x == ("__debug__" : Str)) = false := by decide)
    (he : starEach (e :: es) X.env = (false, eval e X.env) :: starEach es X.env := by rfl) (hpl : (backTo pos (starEach es X.env)).any (·.1) = false := by rfl) : EOk X (.Call (.Name x p) (e :: es) [] pos) fz (cCB op k) := by
  obtain ⟨t, pa, ra⟩ := ha
  exact ⟨_, pe_callB hc hg hm hv pa hn hdb he hpl, runCB hr ra⟩
theorem e_cty {T : String} {x : Str} {p : Pos} {r : List V → Hp → VK → Prop} {op : List D → Option D} (hc : CallR X (.type T) r) (hr : CROk X.K r op) (hg : Gl X x) (hm : X.mg x = none) (hv : bootBuiltins x = some (.type T))
    (ha : AOk X (e :: es) fz k) (hn : x ≠ "__name__" := by decide) (hdb : (x == ("__debug__" : Str)) = false := by decide)
    (he : starEach (e :: es) X.env = (false, eval e X.env) :: starEach es X.env := by rfl) (hpl : (backTo pos (starEach es X.env)).any (·.1) = false := by rfl) : EOk X (.Call (.Name x p) (e :: es) [] pos) fz (cCB op k) := by
  obtain ⟨t, pa, ra⟩ := ha
  exact ⟨_, pe_callTy hc hg hm hv pa hn hdb he hpl, runCB hr ra⟩
def bLen : List D → Option D
  | [.lst xs] => some (.int xs.length)
  | [.tup xs] => some (.int xs.length)
  | [.scr ns] => some (.int ns.length)
  | _ => none
def bInt : List D → Option D
  | [.int i] => some (.int i)
  | [.bl k] => some (.int (if k then 1 else 0))
  | _ => none
def bAbs : List D → Option D
  | [.int i] => some (.int (if i < 0 then -i else i))
  | _ => none
def bMax : List D → Option D
  | [.int i, .int j] => some (.int (if j > i then j else i))
  | _ => none
def bMin : List D → Option D
  | [.int i, .int j] => some (.int (if j < i then j else i))
  | _ => none
def asBs : List D → Option (List Bool)
  | [] => some []
  | .bl b :: ds => (asBs ds).map (b :: ·)
  | _ :: _ => none
def bAll : List D → Option D
  | [.lst xs] => (asBs xs).map fun bs => .bl (bs.all id)
  | _ => none
def bAny : List D → Option D
  | [.lst xs] => (asBs xs).map fun bs => .bl (bs.any id)
  | _ => none
def asIs : List D → Option (List Int)
  | [] => some []
  | .int b :: ds => (asIs ds).map (b :: ·)
  | _ :: _ => none
def bSum : List D → Option D
  | [.lst xs] => (asIs xs).map fun bs => .int bs.sum
  | _ => none
theorem RepL.one {H : Hp} {vs : List V} {d : D} (r : RepL K H vs [d]) : ∃ v, vs = [v] ∧ Rep K H v d := by
  cases r with
  | cons h r =>
    cases r
    exact ⟨_, rfl, h⟩
theorem RepL.two {H : Hp} {vs : List V} {d e : D} (r : RepL K H vs [d, e]) : ∃ v w, vs = [v, w] ∧ Rep K H v d ∧ Rep K H w e := by
  cases r with
  | cons h r =>
    obtain ⟨w, rfl, h2⟩ := r.one
    exact ⟨_, _, rfl, h, h2⟩
theorem cr_len : CROk K (fun xs H Q => ∃ p ys, xs = [.ref p] ∧ (SqL K H p ys ∨ SqT K H p ys) ∧ Q (.int ys.length) H) bLen := by
  intro F H vs ds d Q s r ho q
  unfold bLen at ho
  split at ho
  · cases ho
    obtain ⟨v, rfl, r0⟩ := r.one
    obtain ⟨p, ws, rfl, h1, rr⟩ := r0.lst_inv
    exact ⟨p, ws, rfl, .inl (SqL.of h1), by rw [rr.len]; exact q _ F H (.refl s) (.int _) fun _ => .int _⟩
  · cases ho
    obtain ⟨v, rfl, r0⟩ := r.one
    obtain ⟨p, ws, rfl, h1, rr⟩ := r0.tup_inv
    exact ⟨p, ws, rfl, .inr (SqT.of h1), by rw [rr.len]; exact q _ F H (.refl s) (.int _) fun _ => .int _⟩
  · cases ho
    obtain ⟨v, rfl, r0⟩ := r.one
    cases r0
    rename_i h1
    exact ⟨_, _, rfl, .inl h1, by rw [List.length_map]; exact q _ F H (.refl s) (.int _) fun _ => .int _⟩
  · cases ho
theorem cr_int : CROk K (fun xs H Q => (∃ i, xs = [.int i] ∧ Q (.int i) H) ∨ ∃ k, xs = [.bl k] ∧ Q (.int (if k then 1 else 0)) H) bInt := by
  intro F H vs ds d Q s r ho q
  unfold bInt at ho
  split at ho
  · cases ho
    obtain ⟨v, rfl, r0⟩ := r.one
    cases r0
    exact .inl ⟨_, rfl, q _ F H (.refl s) (.int _) fun _ => .int _⟩
  · cases ho
    obtain ⟨v, rfl, r0⟩ := r.one
    cases r0
    exact .inr ⟨_, rfl, q _ F H (.refl s) (.int _) fun _ => .int _⟩
  · cases ho
theorem cr_abs : CROk K (fun xs H Q => ∃ i, xs = [.int i] ∧ Q (.int (if i < 0 then -i else i)) H) bAbs := by
  intro F H vs ds d Q s r ho q
  unfold bAbs at ho
  split at ho
  · cases ho
    obtain ⟨v, rfl, r0⟩ := r.one
    cases r0
    exact ⟨_, rfl, q _ F H (.refl s) (.int _) fun _ => .int _⟩
  · cases ho
theorem cr_max2 : CROk K (fun xs H Q => ∃ i j, xs = [.int i, .int j] ∧ Q (.int (if j > i then j else i)) H) bMax := by
  intro F H vs ds d Q s r ho q
  unfold bMax at ho
  split at ho
  · cases ho
    obtain ⟨v, w, rfl, r1, r2⟩ := r.two
    cases r1
    cases r2
    exact ⟨_, _, rfl, q _ F H (.refl s) (.int _) fun _ => .int _⟩
  · cases ho
theorem cr_min2 : CROk K (fun xs H Q => ∃ i j, xs = [.int i, .int j] ∧ Q (.int (if j < i then j else i)) H) bMin := by
  intro F H vs ds d Q s r ho q
  unfold bMin at ho
  split at ho
  · cases ho
    obtain ⟨v, w, rfl, r1, r2⟩ := r.two
    cases r1
    cases r2
    exact ⟨_, _, rfl, q _ F H (.refl s) (.int _) fun _ => .int _⟩
  · cases ho
theorem asBs_rep {H : Hp} : ∀ {ds : List D} {vs : List V} {bs : List Bool}, asBs ds = some bs → RepL K H vs ds → vs = bs.map V.bl
  | [], _, _, e, r => by
    cases e
    cases r
    rfl
  | .bl b :: ds, _, _, e, r => by
    obtain ⟨bs, h1, rfl⟩ := Option.map_eq_some_iff.mp e
    cases r with
    | cons h r =>
      cases h
      rw [asBs_rep h1 r, List.map_cons]
  | .non :: _, _, _, e, _ => nomatch e
  | .int _ :: _, _, _, e, _ => nomatch e
  | .str _ :: _, _, _, e, _ => nomatch e
  | .lst _ :: _, _, _, e, _ => nomatch e
  | .tup _ :: _, _, _, e, _ => nomatch e
  | .scr _ :: _, _, _, e, _ => nomatch e
theorem asIs_rep {H : Hp} : ∀ {ds : List D} {vs : List V} {bs : List Int}, asIs ds = some bs → RepL K H vs ds → vs = bs.map V.int
  | [], _, _, e, r => by
    cases e
    cases r
    rfl
  | .int b :: ds, _, _, e, r => by
    obtain ⟨bs, h1, rfl⟩ := Option.map_eq_some_iff.mp e
    cases r with
    | cons h r =>
      cases h
      rw [asIs_rep h1 r, List.map_cons]
  | .non :: _, _, _, e, _ => nomatch e
  | .bl _ :: _, _, _, e, _ => nomatch e
  | .str _ :: _, _, _, e, _ => nomatch e
  | .lst _ :: _, _, _, e, _ => nomatch e
  | .tup _ :: _, _, _, e, _ => nomatch e
  | .scr _ :: _, _, _, e, _ => nomatch e
theorem r_all : CROk K (rAll K) bAll := by
  intro F H vs ds d Q s r ho q
  unfold bAll at ho
  split at ho
  · obtain ⟨bs, h1, rfl⟩ := Option.map_eq_some_iff.mp ho
    obtain ⟨v, rfl, r0⟩ := r.one
    obtain ⟨p, ws, rfl, h2, rr⟩ := r0.lst_inv
    exact ⟨p, bs, rfl, SqL.of (by rw [← asBs_rep h1 rr]; exact h2), q _ F H (.refl s) (.bl _) fun _ => .bl _⟩
  · cases ho
theorem r_any : CROk K (rAny K) bAny := by
  intro F H vs ds d Q s r ho q
  unfold bAny at ho
  split at ho
  · obtain ⟨bs, h1, rfl⟩ := Option.map_eq_some_iff.mp ho
    obtain ⟨v, rfl, r0⟩ := r.one
    obtain ⟨p, ws, rfl, h2, rr⟩ := r0.lst_inv
    exact ⟨p, bs, rfl, SqL.of (by rw [← asBs_rep h1 rr]; exact h2), q _ F H (.refl s) (.bl _) fun _ => .bl _⟩
  · cases ho
theorem r_sum : CROk K (rSum K) bSum := by
  intro F H vs ds d Q s r ho q
  unfold bSum at ho
  split at ho
  · obtain ⟨bs, h1, rfl⟩ := Option.map_eq_some_iff.mp ho
    obtain ⟨v, rfl, r0⟩ := r.one
    obtain ⟨p, ws, rfl, h2, rr⟩ := r0.lst_inv
    exact ⟨p, bs, rfl, SqL.of (by rw [← asIs_rep h1 rr]; exact h2), q _ F H (.refl s) (.int _) fun _ => .int _⟩
  · cases ho
/-- list(x), a new list -/
def kOf (k : EV → Option (List D)) : EV → Option (List D) := fun ev => match k ev with
  | some [.lst xs] => some xs
  | some [.tup xs] => some xs
  | _ => none
theorem f_list {x : Str} {p : Pos} (hg : Gl X x) (hm : X.mg x = none) (hv : bootBuiltins x = some (.type "list"))
    (ha : AOk X [e] true k) (hn : x ≠ "__name__" := by decide) (hdb : (x == ("__debug__" : Str)) = false := by decide)
    (he : starEach [e] X.env = (false, eval e X.env) :: starEach [] X.env := by rfl) (hpl : (backTo pos (starEach [] X.env)).any (·.1) = false := by rfl) : FOk X (.Call (.Name x p) [e] [] pos) (kOf k) := by
  obtain ⟨t, pa, ra⟩ := ha
  refine ⟨_, pe_callTy call_list_of hg hm hv pa hn hdb he hpl, fun F0 H0 ev σ F H xs Q s he q => ?_⟩
  unfold kOf at he
  split at he
  · rename_i ds h1
    cases he
    refine ra F0 H0 ev σ F H _ _ s h1 fun vs F1 H1 x1 r1 z1 => ?_
    have s1 := s.up x1
    obtain ⟨v, rfl, r0⟩ := (z1 rfl).one
    obtain ⟨p, ws, rfl, h2, rr⟩ := r0.lst_inv
    exact ⟨p, ws, rfl, .inl (SqL.of (s1.sub _ _ h2)), fun l nl => q l _ F1 _ (x1.trans (.allocH s1.sub nl)) (x1.keep.free nl) (s1.sub.free nl) upd_same rr⟩
  · rename_i ds h1
    cases he
    refine ra F0 H0 ev σ F H _ _ s h1 fun vs F1 H1 x1 r1 z1 => ?_
    have s1 := s.up x1
    obtain ⟨v, rfl, r0⟩ := (z1 rfl).one
    obtain ⟨p, ws, rfl, h2, rr⟩ := r0.tup_inv
    exact ⟨p, ws, rfl, .inr (SqT.of (s1.sub _ _ h2)), fun l nl => q l _ F1 _ (x1.trans (.allocH s1.sub nl)) (x1.keep.free nl) (s1.sub.free nl) upd_same rr⟩
  · cases he

/-! ### calls of the program's own defs -/
def FSp (K : PySem.W.Frag) (n : Nat) (g : List D → Option D) : Sp := fun vs H Q _ => vs.length = n ∧ ∃ F ds d, Same F H ∧ RepL K F vs ds ∧ g ds = some d ∧ ∀ v F' H', Ext F H F' H' → Rep K F' v d → Q v H'
theorem e_call {x : Str} {p : Pos} {lv n : Nat} {fn : Addr} {fd : FuncData} {ps : List Str} {o : List D → Option D} (G : FnOk X.prog X.w X.K X.mg X.base CX0 lv fn fd ps (FSp X.K n o)) (hr : Room lv X.A) (hg : Gl X x) (hm : X.mg x = some (.ref fn))
    (hk : PySem.W.keepIn X.K (.ref fn) = true) (hb : Binds X.K fd ps []) (ha : AOk X (e :: es) fz k) (hn : (e :: es).length = n) (hdb : (x == ("__debug__" : Str)) = false := by decide)
    (he : starEach (e :: es) X.env = (false, eval e X.env) :: starEach es X.env := by rfl) (hpl : (backTo pos (starEach es X.env)).any (·.1) = false := by rfl)
    (hl : ∀ ev ds, k ev = some ds → ds.length = (e :: es).length) : EOk X (.Call (.Name x p) (e :: es) [] pos) fz (cCB o k) := by
  obtain ⟨t, pa, ra⟩ := ha
  refine ⟨_, pe_call G hr hg hm hk hb .nil pass0 pa hdb he hpl, fun F0 H0 ev σ F H d Q s he q => ?_⟩
  obtain ⟨ds, h1, h2⟩ := Option.bind_eq_some_iff.mp he
  refine ra F0 H0 ev σ F H ds _ s h1 fun vs F1 H1 x1 r1 z1 => ?_
  have hlen : (vs ++ []).length = n := by rw [List.append_nil, r1.len, hl ev ds h1, hn]
  refine ⟨hlen, ?_⟩
  rw [List.append_nil]
  have s1 := s.up x1
  cases hz : fz with
  | true => exact ⟨F1, ds, d, s1.sub, z1 hz, h2, fun v F' H' x r => q v F' H' (x1.trans x) (r.mono x.sub) fun _ => r⟩
  | false => exact ⟨H1, ds, d, .refl _, r1, h2, fun v F' H' x r => q v F1 H' (x1.trans ⟨.refl _, s1.sub.trans x.keep, x.keep, fun _ => .inl rfl⟩) (r.mono x.sub) fun z => Bool.noConfusion (hz.symm.trans z)⟩
theorem aNil_len {ev : EV} {ds : List D} (h : aNil ev = some ds) : ds.length = 0 := by
  cases h
  rfl
theorem aCons_len {n : Nat} (h : ∀ ev ds, k ev = some ds → ds.length = n) : ∀ ev ds, aCons f k ev = some ds → ds.length = n + 1 := by
  intro ev ds e
  obtain ⟨x, h1, e⟩ := Option.bind_eq_some_iff.mp e
  obtain ⟨xs, h2, rfl⟩ := Option.map_eq_some_iff.mp e
  rw [List.length_cons, h ev xs h2]
theorem AOk.len (h : AOk X es fz k) : ∀ ev ds, k ev = some ds → True := fun _ _ _ => trivial
end
end Z


set_option maxRecDepth 100000
set_option maxHeartbeats 4000000
/-! Z4: what is walked, targets, comprehensions, statements, defs. -/
namespace Z
open PySem PySem.Spec PyProof.Rows L2
section
variable {X : Cx} {a b c e tg iter elt : Expr} {fz fa fb fc : Bool} {f g h : EV → Option D} {pos : Pos} {K : PySem.W.Frag}

/-! ### what is walked: B is what must stay -/
structure WalkD (K : PySem.W.Frag) (J : It) (Fb B : Hp) (ds : List D) : Prop where
  go : ∀ (i : Nat) H, i < ds.length → Same B H → J.go i H
  stop : ∀ H, Same B H → J.stop ds.length H
  yld : ∀ (i : Nat) F H x H', i < ds.length → Same Fb F → Same F H → Same B H → J.yld i H x H' → ∃ F' d, Ext F H F' H' ∧ ds[i]? = some d ∧ Rep K F' x d
def IRun (K : PySem.W.Frag) (fz : Bool) (fi : EV → Option (List D)) (wi : TI) : Prop :=
  ∀ (F0 H0 : Hp) (ev : EV) (σ : L2.St) (F H : Hp) (ds : List D) (R : It → Hp → Prop), SR K F0 H0 ev σ F H → fi ev = some ds →
    (∀ J F' H', Ext F H F' H' → WalkD K J F' (if fz = true then F' else H') ds → R J H') → wi σ H R
def IOk (X : Cx) (tg iter : Expr) (fz : Bool) (fi : EV → Option (List D)) : Prop := ∃ wi, PI X tg iter wi ∧ IRun X.K fz fi wi
theorem walkD_list {l : Addr} {vs : List V} {ds : List D} {Fb B : Hp} (hB : B l = some (.lst vs)) (r : RepL K Fb vs ds) : WalkD K (Itl K l) Fb B ds := by
  have w := walk_list (K := K) (a := l) (xs := vs)
  have hl := r.len
  refine ⟨fun i H hi s => w.goes i H (by omega) (SqL.of (s _ _ hB)), fun H s => by rw [← hl]; exact w.stops H (SqL.of (s _ _ hB)), fun i F H x H' hi sF sH s y => ?_⟩
  obtain ⟨rfl, hx⟩ := w.yields i H x H' (by omega) (SqL.of (s _ _ hB)) y
  obtain ⟨d, hd, rd⟩ := r.getV hx
  exact ⟨F, d, .refl sH, hd, rd.mono sF⟩
theorem walkD_tup {l : Addr} {vs : List V} {ds : List D} {Fb B : Hp} (hB : B l = some (.tup vs)) (r : RepL K Fb vs ds) : WalkD K (Itt K l) Fb B ds := by
  have w := walk_tup (K := K) (a := l) (xs := vs)
  have hl := r.len
  refine ⟨fun i H hi s => w.goes i H (by omega) (SqT.of (s _ _ hB)), fun H s => by rw [← hl]; exact w.stops H (SqT.of (s _ _ hB)), fun i F H x H' hi sF sH s y => ?_⟩
  obtain ⟨rfl, hx⟩ := w.yields i H x H' (by omega) (SqT.of (s _ _ hB)) y
  obtain ⟨d, hd, rd⟩ := r.getV hx
  exact ⟨F, d, .refl sH, hd, rd.mono sF⟩
def iLst (f : EV → Option D) : EV → Option (List D) := fun ev => match f ev with
  | some (.lst xs) => some xs
  | _ => none
def iTuple (f : EV → Option D) : EV → Option (List D) := fun ev => match f ev with
  | some (.tup xs) => some xs
  | _ => none
/-- a frozen list -/
theorem i_list (he : EOk X iter true f) : IOk X tg iter true (iLst f) := by
  obtain ⟨t, p, r⟩ := he
  refine ⟨_, pi_list p, fun F0 H0 ev σ F H ds R s he q => ?_⟩
  unfold iLst at he
  split at he
  · rename_i ds' h1
    cases he
    refine r F0 H0 ev σ F H _ _ s h1 fun v F1 H1 x1 r1 z1 => ?_
    obtain ⟨l, vs, rfl, e1, rr⟩ := (z1 rfl).lst_inv
    have s1 := s.up x1
    exact ⟨l, rfl, ⟨_, SqL.of (s1.sub _ _ e1)⟩, q _ F1 H1 x1 (by rw [if_pos rfl]; exact walkD_list e1 rr)⟩
  · cases he
theorem i_tup (he : EOk X iter true f) : IOk X tg iter true (iTuple f) := by
  obtain ⟨t, p, r⟩ := he
  refine ⟨_, pi_tup p, fun F0 H0 ev σ F H ds R s he q => ?_⟩
  unfold iTuple at he
  split at he
  · rename_i ds' h1
    cases he
    refine r F0 H0 ev σ F H _ _ s h1 fun v F1 H1 x1 r1 z1 => ?_
    obtain ⟨l, vs, rfl, e1, rr⟩ := (z1 rfl).tup_inv
    have s1 := s.up x1
    exact ⟨l, rfl, ⟨_, SqT.of (s1.sub _ _ e1)⟩, q _ F1 H1 x1 (by rw [if_pos rfl]; exact walkD_tup e1 rr)⟩
  · cases he
/-- an own list, walked by a comprehension -/
def iOwn (i : Nat) : EV → Option (List D) := fun ev => match ev[i]? with
  | some (.own xs) => some xs
  | _ => none
theorem i_own {i : Nat} {x : Str} {p : Pos} (hp : PE X (.Name x p) (tVar i)) : IOk X tg (.Name x p) false (iOwn i) := by
  refine ⟨_, pi_list hp, fun F0 H0 ev σ F H ds R s he q => ?_⟩
  unfold iOwn at he
  split at he
  · rename_i xs h1
    cases he
    obtain ⟨l, vs, g2, g3, g4, g5, g6⟩ := s.own i _ h1
    exact ⟨.ref l, g2, l, rfl, ⟨_, SqL.of g3⟩, q _ F H (.refl s.sub) (by rw [if_neg (by decide)]; exact walkD_list g3 g6)⟩
  · cases he
/-- range -/
def rangeD (i j : Int) : List D := (List.range (j - i).toNat).map fun k => .int (i + (k : Nat))
theorem walkD_range {lo hi : Int} {Fb B : Hp} : WalkD K (Itr lo (hi - lo).toNat) Fb B (rangeD lo hi) := by
  have hl : (rangeD lo hi).length = (hi - lo).toNat := by
    unfold rangeD
    rw [List.length_map, List.length_range]
  refine ⟨fun i H hi _ => by rw [hl] at hi; exact hi, fun H _ => by rw [hl]; exact Nat.le_refl _, fun i F H x H' hi sF sH s y => ?_⟩
  rw [hl] at hi
  obtain ⟨rfl, rfl⟩ := y
  refine ⟨F, .int (lo + (i : Nat)), .refl sH, ?_, .int _⟩
  unfold rangeD
  rw [List.getElem?_map, List.getElem?_range hi]
  rfl
def iR1 (k : EV → Option (List D)) : EV → Option (List D) := fun ev => match k ev with
  | some [.int j] => if -(2 ^ 62) ≤ j ∧ j < 2 ^ 62 then some (rangeD 0 j) else none
  | _ => none
def iR2 (k : EV → Option (List D)) : EV → Option (List D) := fun ev => match k ev with
  | some [.int i, .int j] => if -(2 ^ 62) ≤ i ∧ i < 2 ^ 62 ∧ -(2 ^ 62) ≤ j ∧ j < 2 ^ 62 then some (rangeD i j) else none
  | _ => none
variable {k : EV → Option (List D)}
theorem i_range1 {p pos : Pos} (hg : Gl X "range") (hm : X.mg "range" = none) (ha : AOk X [a] fz k) (hs : starEach [a] X.env = [(false, eval a X.env)] := by rfl) : IOk X tg (.Call (.Name "range" p) [a] [] pos) true (iR1 k) := by
  obtain ⟨t, pa, ra⟩ := ha
  refine ⟨_, pi_range1 hg hm pa hs, fun F0 H0 ev σ F H ds R s he q => ?_⟩
  unfold iR1 at he
  split at he
  · rename_i j h1
    obtain ⟨⟨h2, h3⟩, rfl⟩ := of_ite he
    refine ra F0 H0 ev σ F H _ _ s h1 fun vs F1 H1 x1 r1 z1 => ?_
    obtain ⟨v, rfl, r0⟩ := r1.one
    cases r0
    refine ⟨j, rfl, h2, h3, q _ F1 H1 x1 ?_⟩
    have w := walkD_range (K := X.K) (lo := 0) (hi := j) (Fb := F1) (B := if true = true then F1 else H1)
    rw [Int.sub_zero] at w
    exact w
  · cases he
theorem i_range2 {p pos : Pos} (hg : Gl X "range") (hm : X.mg "range" = none) (ha : AOk X [a, b] fz k) (hs : starEach [a, b] X.env = [(false, eval a X.env), (false, eval b X.env)] := by rfl) (hs2 : starEach [b] X.env = [(false, eval b X.env)] := by rfl) :
    IOk X tg (.Call (.Name "range" p) [a, b] [] pos) true (iR2 k) := by
  obtain ⟨t, pa, ra⟩ := ha
  refine ⟨_, pi_range2 hg hm pa hs hs2, fun F0 H0 ev σ F H ds R s he q => ?_⟩
  unfold iR2 at he
  split at he
  · rename_i i j h1
    obtain ⟨h2, rfl⟩ := of_ite he
    refine ra F0 H0 ev σ F H _ _ s h1 fun vs F1 H1 x1 r1 z1 => ?_
    obtain ⟨v, w, rfl, r0, r0'⟩ := r1.two
    cases r0
    cases r0'
    exact ⟨i, j, rfl, h2, q _ F1 H1 x1 walkD_range⟩
  · cases he
/-- enumerate(xs), a frozen list -/
def enumD (xs : List D) : List D := xs.zipIdx.map fun p => .tup [.int (p.2 : Nat), p.1]
theorem walkD_enum {l : Addr} {vs : List V} {ds : List D} {Fb B : Hp} (hB : B l = some (.lst vs)) (r : RepL K Fb vs ds) : WalkD K (Ite K l) Fb B (enumD ds) := by
  have w := walk_enum (K := K) (a := l) (xs := vs)
  have hl := r.len
  have hn : (enumD ds).length = ds.length := by
    unfold enumD
    rw [List.length_map, List.length_zipIdx]
  refine ⟨fun i H hi s => w.goes i H (by omega) (SqL.of (s _ _ hB)), fun H s => by rw [hn, ← hl]; exact w.stops H (SqL.of (s _ _ hB)), fun i F H x H' hi sF sH s y => ?_⟩
  obtain ⟨T, x1, y1, rfl, nT, rfl, h1, h2⟩ := w.yields i H x H' (by omega) (SqL.of (s _ _ hB)) y
  cases h1
  obtain ⟨d, hd, rd⟩ := r.getV h2
  refine ⟨upd F T (.tup [.int (i : Nat), y1]), .tup [.int (i : Nat), d], .alloc sH nT, ?_, .tup upd_same ?_⟩
  · unfold enumD
    rw [List.getElem?_map, List.getElem?_zipIdx, hd, Nat.zero_add]
    rfl
  · exact .cons (.int _) (.cons ((rd.mono sF).mono (Ext.alloc sH nT).fr) .nil)
def iEn (k : EV → Option (List D)) : EV → Option (List D) := fun ev => match k ev with
  | some [.lst xs] => some (enumD xs)
  | _ => none
theorem i_enum {p pos tpos : Pos} {elts : List Expr} {kk : Nat} (hg : Gl X "enumerate") (hm : X.mg "enumerate" = none) (ha : AOk X [e] true k) (hs : starEach [e] X.env = [(false, eval e X.env)] := by rfl) :
    IOk X (.Tuple elts kk tpos) (.Call (.Name "enumerate" p) [e] [] pos) true (iEn k) := by
  obtain ⟨t, pa, ra⟩ := ha
  refine ⟨_, pi_enum hg hm pa hs, fun F0 H0 ev σ F H ds R s he q => ?_⟩
  unfold iEn at he
  split at he
  · rename_i xs h1
    cases he
    refine ra F0 H0 ev σ F H _ _ s h1 fun vs F1 H1 x1 r1 z1 => ?_
    obtain ⟨v, rfl, r0⟩ := (z1 rfl).one
    obtain ⟨l, ws, rfl, e1, rr⟩ := r0.lst_inv
    have s1 := s.up x1
    exact ⟨l, ws, rfl, SqL.of (s1.sub _ _ e1), q _ F1 H1 x1 (by rw [if_pos rfl]; exact walkD_enum e1 rr)⟩
  · cases he
/-- zip(xs, ys), frozen lists -/
def zipD (xs ys : List D) : List D := (xs.zip ys).map fun p => .tup [p.1, p.2]
theorem walkD_zip {l m : Addr} {vs ws : List V} {ds es : List D} {Fb B : Hp} (hB : B l = some (.lst vs)) (hB2 : B m = some (.lst ws)) (r : RepL K Fb vs ds) (r2 : RepL K Fb ws es) : WalkD K (Itz K l m) Fb B (zipD ds es) := by
  have hl := r.len
  have hl2 := r2.len
  have hn : (zipD ds es).length = min vs.length ws.length := by
    unfold zipD
    rw [List.length_map, List.length_zip, hl, hl2]
  have w := walk_zip (K := K) (a := l) (b := m) (xs := vs) (ys := ws) rfl
  refine ⟨fun i H hi s => w.goes i H (by omega) ⟨SqL.of (s _ _ hB), SqL.of (s _ _ hB2)⟩, fun H s => by rw [hn]; exact w.stops H ⟨SqL.of (s _ _ hB), SqL.of (s _ _ hB2)⟩, fun i F H x H' hi sF sH s y => ?_⟩
  obtain ⟨T, x1, y1, rfl, nT, rfl, h1, h2⟩ := w.yields i H x H' (by omega) ⟨SqL.of (s _ _ hB), SqL.of (s _ _ hB2)⟩ y
  obtain ⟨d, hd, rd⟩ := r.getV h1
  obtain ⟨d2, hd2, rd2⟩ := r2.getV h2
  refine ⟨upd F T (.tup [x1, y1]), .tup [d, d2], .alloc sH nT, ?_, .tup upd_same ?_⟩
  · unfold zipD
    rw [List.getElem?_map, List.getElem?_zip_eq_some (z := (d, d2)) |>.mpr ⟨hd, hd2⟩]
    rfl
  · exact .cons ((rd.mono sF).mono (Ext.alloc sH nT).fr) (.cons ((rd2.mono sF).mono (Ext.alloc sH nT).fr) .nil)
def iZp (k : EV → Option (List D)) : EV → Option (List D) := fun ev => match k ev with
  | some [.lst xs, .lst ys] => some (zipD xs ys)
  | _ => none
theorem i_zip {e2 : Expr} {p pos tpos : Pos} {elts : List Expr} {kk : Nat} (hg : Gl X "zip") (hm : X.mg "zip" = none) (ha : AOk X [e, e2] true k)
    (hs : starEach [e, e2] X.env = (false, eval e X.env) :: starEach [e2] X.env := by rfl) (hpl : (backTo pos (starEach [e2] X.env)).any (·.1) = false := by rfl) :
    IOk X (.Tuple elts kk tpos) (.Call (.Name "zip" p) [e, e2] [] pos) true (iZp k) := by
  obtain ⟨t, pa, ra⟩ := ha
  refine ⟨_, pi_zip hg hm pa hs hpl, fun F0 H0 ev σ F H ds R s he q => ?_⟩
  unfold iZp at he
  split at he
  · rename_i xs ys h1
    cases he
    refine ra F0 H0 ev σ F H _ _ s h1 fun vs F1 H1 x1 r1 z1 => ?_
    obtain ⟨v, w, rfl, r0, r0'⟩ := (z1 rfl).two
    obtain ⟨l, ws, rfl, e1, rr⟩ := r0.lst_inv
    obtain ⟨m, us, rfl, e2, rr2⟩ := r0'.lst_inv
    have s1 := s.up x1
    exact ⟨l, m, ws, us, rfl, SqL.of (s1.sub _ _ e1), SqL.of (s1.sub _ _ e2), q _ F1 H1 x1 (by rw [if_pos rfl]; exact walkD_zip e1 e2 rr rr2)⟩
  · cases he

/-! ### targets; ws: the slots that are stored -/
def GRun (K : PySem.W.Frag) (ws : List Nat) (m : D → EV → Option EV) (t : TG) : Prop :=
  ∀ (F0 H0 : Hp) (ev ev' : EV) (σ : L2.St) (F H : Hp) (v : V) (d : D) (Q : L2.St → Hp → Prop), SR K F0 H0 ev σ F H → Rep K F v d → m d ev = some ev' →
    (∀ σ', SR K F0 H0 ev' σ' F H → (∀ vs : List Nat, (∀ i ∈ ws, i ∈ vs) → L2.wipe σ' vs = L2.wipe σ vs) → Q σ' H) → t v σ H Q
def GOk (X : Cx) (tg : Expr) (ws : List Nat) (m : D → EV → Option EV) : Prop := ∃ t, PG X tg t ∧ GRun X.K ws m t
def mName (i : Nat) : D → EV → Option EV := fun d ev => some (ev.set i (.fro d))
theorem wipe_set {σ : L2.St} {i : Nat} {x : Option V} : ∀ {vs : List Nat}, i ∈ vs → L2.wipe (σ.set i x) vs = L2.wipe σ vs
  | [], h => nomatch h
  | v :: vs, h => by
    unfold L2.wipe
    by_cases hv : i ∈ vs
    · rw [wipe_set hv]
    · have e : i = v := by
        rcases List.mem_cons.mp h with e | e
        · exact e
        · exact absurd e hv
      subst e
      have hw : ∀ (us : List Nat), i ∉ us → L2.wipe (σ.set i x) us = (L2.wipe σ us).set i x := by
        intro us
        induction us with
        | nil => intro _; rfl
        | cons u us ih =>
          intro hu
          have h1 : i ≠ u := fun e => hu (by rw [e]; exact List.mem_cons_self)
          have h2 : i ∉ us := fun e => hu (List.mem_cons_of_mem _ e)
          unfold L2.wipe
          rw [ih h2, List.set_comm _ _ h1]
      rw [hw vs hv, List.set_set]
theorem g_name {i : Nat} {x : Str} (hp : PG X (.Name x pos) (gName i)) : GOk X (.Name x pos) [i] (mName i) := by
  refine ⟨_, hp, fun F0 H0 ev ev' σ F H v d Q s r he q => ?_⟩
  cases he
  exact q _ (s.setFro r) fun vs hv => wipe_set (hv i List.mem_cons_self)
def GsRun (K : PySem.W.Frag) (ws : List Nat) (m : List D → EV → Option EV) (t : TGs) : Prop :=
  ∀ (F0 H0 : Hp) (ev ev' : EV) (σ : L2.St) (F H : Hp) (us : List V) (ds : List D) (Q : L2.St → Hp → Prop), SR K F0 H0 ev σ F H → RepL K F us ds → m ds ev = some ev' →
    (∀ σ', SR K F0 H0 ev' σ' F H → (∀ vs : List Nat, (∀ i ∈ ws, i ∈ vs) → L2.wipe σ' vs = L2.wipe σ vs) → Q σ' H) → t us σ H Q
def GsOk (X : Cx) (tgs : List Expr) (n : Nat) (ws : List Nat) (m : List D → EV → Option EV) : Prop := ∃ t, PGs X tgs t ∧ GsRun X.K ws m t ∧ ∀ ds ev ev', m ds ev = some ev' → ds.length = n
def mNil : List D → EV → Option EV
  | [], ev => some ev
  | _ :: _, _ => none
def mCons (m : D → EV → Option EV) (ms : List D → EV → Option EV) : List D → EV → Option EV
  | [], _ => none
  | d :: ds, ev => (m d ev).bind fun ev' => ms ds ev'
theorem gs_nil : GsOk X [] 0 [] mNil := by
  refine ⟨_, pgs_nil, fun F0 H0 ev ev' σ F H us ds Q s r he q => ?_, fun ds ev ev' he => ?_⟩
  · cases ds with
    | nil =>
      cases he
      cases r
      exact ⟨rfl, q σ s fun _ _ => rfl⟩
    | cons _ _ => cases he
  · cases ds with
    | nil => rfl
    | cons _ _ => cases he
theorem gs_cons {n : Nat} {ws1 ws2 : List Nat} {m : D → EV → Option EV} {ms : List D → EV → Option EV} {es : List Expr} (h1 : GOk X e ws1 m) (h2 : GsOk X es n ws2 ms)
    (hs : (assignEach (e :: es) X.env).map (·.2) = assign e X.env :: (assignEach es X.env).map (·.2) := by rfl) : GsOk X (e :: es) (n + 1) (ws1 ++ ws2) (mCons m ms) := by
  obtain ⟨t1, p1, r1⟩ := h1
  obtain ⟨t2, p2, r2, l2⟩ := h2
  refine ⟨_, pgs_cons p1 p2 hs, fun F0 H0 ev ev' σ F H us ds Q s r he q => ?_, fun ds ev ev' he => ?_⟩
  · cases ds with
    | nil => cases he
    | cons d ds =>
      obtain ⟨ev1, g1, g2⟩ := Option.bind_eq_some_iff.mp he
      cases r with
      | cons ra rb =>
        refine ⟨_, _, rfl, r1 F0 H0 ev ev1 σ F H _ d _ s ra g1 fun σ1 s1 w1 => ?_⟩
        refine r2 F0 H0 ev1 ev' σ1 F H _ ds _ s1 rb g2 fun σ2 s2 w2 => ?_
        exact q σ2 s2 fun vs hv => (w2 vs fun i hi => hv i (List.mem_append_right _ hi)).trans (w1 vs fun i hi => hv i (List.mem_append_left _ hi))
  · cases ds with
    | nil => cases he
    | cons d ds =>
      obtain ⟨ev1, g1, g2⟩ := Option.bind_eq_some_iff.mp he
      rw [List.length_cons, l2 ds ev1 ev' g2]
def mTup (ms : List D → EV → Option EV) : D → EV → Option EV
  | .tup ds, ev => ms ds ev
  | _, _ => none
theorem g_tup {es : List Expr} {kk n : Nat} {ws : List Nat} {ms : List D → EV → Option EV} (hc : X.calm = true) (hg : GsOk X es n ws ms)
    (hn : (assignEach es X.env).length = n := by rfl) (hst : (assignEach es X.env).findIdx? (·.1) = none := by rfl) : GOk X (.Tuple es kk pos) ws (mTup ms) := by
  obtain ⟨t, p, r, l⟩ := hg
  refine ⟨_, pg_tup hc p hn hst, fun F0 H0 ev ev' σ F H v d Q s rd he q => ?_⟩
  unfold mTup at he
  split at he
  · obtain ⟨a, vs, rfl, h1, rr⟩ := rd.tup_inv
    exact ⟨a, vs, rfl, SqT.of (s.sub _ _ h1), by rw [rr.len]; exact l _ _ _ he, r F0 H0 ev ev' σ F H vs _ Q s rr he q⟩
  · cases he

/-! ### comprehensions -/
def consO : Option D → List D → List D
  | some y, r => y :: r
  | none, r => r
def compGo (k : D → Option (Option D)) : List D → Option (List D)
  | [] => some []
  | d :: ds => (k d).bind fun o => (compGo k ds).map (consO o)
def kComp (fi : EV → Option (List D)) (m : D → EV → Option EV) (p : EV → Option Bool) (f : EV → Option D) (vs : List Nat) : EV → Option (List D) := fun ev =>
  (fi ev).bind fun ds => if ds.length ≤ 16777216 then compGo (fun d => (m d (evWipe ev vs)).bind fun ev' => (p ev').bind fun b => if b then (f ev').map some else some none) ds else none
def snocO : List D → Option D → List D
  | ys, some y => ys ++ [y]
  | ys, none => ys
theorem compGo_snoc {k : D → Option (Option D)} : ∀ {ds ys : List D} {d : D} {o : Option D}, compGo k ds = some ys → k d = some o → compGo k (ds ++ [d]) = some (snocO ys o)
  | [], ys, d, o, h, h2 => by
    cases h
    show (k d).bind _ = _
    rw [h2]
    cases o <;> rfl
  | x :: ds, ys, d, o, h, h2 => by
    obtain ⟨o', h1, h3⟩ := Option.bind_eq_some_iff.mp h
    obtain ⟨r, h4, h5⟩ := Option.map_eq_some_iff.mp h3
    rw [List.cons_append]
    unfold compGo
    rw [h1, Option.bind_some, compGo_snoc h4 h2]
    subst h5
    cases o' <;> cases o <;> rfl
theorem compGo_some {k : D → Option (Option D)} : ∀ {ds ys : List D} {d : D} {i : Nat}, compGo k ds = some ys → ds[i]? = some d → ∃ o, k d = some o
  | [], _, _, _, _, h => by simp at h
  | x :: ds, ys, d, 0, h, e => by
    obtain ⟨o', h1, h3⟩ := Option.bind_eq_some_iff.mp h
    simp at e
    subst e
    exact ⟨o', h1⟩
  | x :: ds, ys, d, i + 1, h, e => by
    obtain ⟨o', h1, h3⟩ := Option.bind_eq_some_iff.mp h
    obtain ⟨r, h4, h5⟩ := Option.map_eq_some_iff.mp h3
    exact compGo_some h4 (by simpa using e)
variable {ws : List Nat} {m : D → EV → Option EV} {p : EV → Option Bool} {fi : EV → Option (List D)} {ifs : List Expr} {scope : Scope} {own : List (Str × Nat)}
/-- the parts of a comprehension, in its block -/
def Blk (X : Cx) (scope : Scope) (P : Cx → Prop) : Prop := ∀ (s : Shared) (H : Hp) (C : Addr) (cl : List (Str × Addr)) (fp : List Addr), P (X.blk s H scope (compEnvC scope cl C X.env) fp)
def GOkB (X : Cx) (scope : Scope) (tg : Expr) (ws : List Nat) (m : D → EV → Option EV) : Prop := ∃ t, Blk X scope (fun Y => PG Y tg t) ∧ GRun X.K ws m t
def TsOkB (X : Cx) (scope : Scope) (ifs : List Expr) (p : EV → Option Bool) : Prop := ∃ t, Blk X scope (fun Y => PTs Y ifs t) ∧ TRun X.K p t
def EOkB (X : Cx) (scope : Scope) (e : Expr) (fz : Bool) (f : EV → Option D) : Prop := ∃ t, Blk X scope (fun Y => PE Y e t) ∧ ERun X.K fz f t
theorem lc_run {wi : TI} {gt : TG} {tt : TT} {te : TE} {vs : List Nat} (ri : IRun K fz fi wi) (rg : GRun K ws m gt) (rt : TRun K p tt) (re : ERun K true f te) (hws : ∀ i ∈ ws, i ∈ vs) :
    FRun K (kComp fi m p f vs) (tLc wi gt tt te vs) := by
  intro F0 H0 ev σ F H xs Q s he q
  obtain ⟨ds, h1, he⟩ := Option.bind_eq_some_iff.mp he
  have hlen : ds.length ≤ 16777216 := by
    by_cases hl : ds.length ≤ 16777216
    · exact hl
    · rw [if_neg hl] at he
      cases he
  rw [if_pos hlen] at he
  refine ri F0 H0 ev σ F H ds _ s h1 fun J F1 H1 x1 w => ?_
  intro Dl nD
  have s1 := s.up x1
  refine ⟨fun i m' H' => m' = ds.length - i ∧ i ≤ ds.length ∧ ∃ F' acc ys, Ext F1 H1 F' H' ∧ H' Dl = some (.lst acc) ∧ F' Dl = none ∧ compGo (fun d => (m d (evWipe ev vs)).bind fun ev' => (p ev').bind fun b => if b then (f ev').map some else some none) (ds.take i) = some ys ∧ ys.length ≤ i ∧ RepL K F' acc ys,
    ⟨ds.length, by omega, Nat.zero_le _, F1, [], [], .allocH s1.sub nD, upd_same, s1.sub.free nD, rfl, Nat.le_refl _, .nil⟩, ?_⟩
  rintro i m' H' ⟨rfl, hi, F', acc, ys, x2, hD, hF, hy, hyl, ra⟩
  have hB : Same (if fz = true then F1 else H1) H' := by
    split
    · exact x2.fr.trans x2.sub
    · exact x2.keep
  by_cases hlt : i < ds.length
  · refine .inr ⟨w.go i H' hlt hB, fun H2 => ∃ F2 acc ys, Ext F1 H1 F2 H2 ∧ H2 Dl = some (.lst acc) ∧ F2 Dl = none ∧ compGo (fun d => (m d (evWipe ev vs)).bind fun ev' => (p ev').bind fun b => if b then (f ev').map some else some none) (ds.take (i + 1)) = some ys ∧ ys.length ≤ i + 1 ∧ RepL K F2 acc ys,
      fun H2 h2 => ⟨ds.length - (i + 1), by omega, rfl, hlt, h2⟩, fun x H2 hx => ?_⟩
    obtain ⟨F2, d, x3, hd, rd⟩ := w.yld i F' H' x H2 hlt x2.fr x2.sub hB hx
    obtain ⟨o, ho⟩ := compGo_some he hd
    have hk := ho
    have htk : ds.take (i + 1) = ds.take i ++ [d] := by
      rw [List.take_add_one, hd]
      rfl
    have hnew := compGo_snoc hy ho
    obtain ⟨ev', g1, ho⟩ := Option.bind_eq_some_iff.mp ho
    obtain ⟨b, g2, ho⟩ := Option.bind_eq_some_iff.mp ho
    have s2 : SR K F0 H0 (evWipe ev vs) (L2.wipe σ vs) F2 H2 := (s1.wipe vs).up (x2.trans x3)
    refine rg F0 H0 _ ev' _ F2 H2 x d _ s2 rd g1 fun σ2 s3 hw => ⟨?_, ?_⟩
    · rw [hw vs hws]
      have ww : ∀ (σ : L2.St) (vs : List Nat), L2.wipe (L2.wipe σ vs) vs = L2.wipe σ vs := by
        intro σ vs
        have aux : ∀ (us : List Nat), (∀ u ∈ us, u ∈ vs) → L2.wipe (L2.wipe σ us) vs = L2.wipe σ vs := by
          intro us
          induction us with
          | nil => intro _; rfl
          | cons u us ih =>
            intro hu
            show L2.wipe ((L2.wipe σ us).set u none) vs = L2.wipe σ vs
            rw [wipe_set (hu u List.mem_cons_self)]
            exact ih fun z hz => hu z (List.mem_cons_of_mem _ hz)
        exact aux vs fun _ h => h
      exact ww σ vs
    · refine rt F0 H0 ev' σ2 F2 H2 b _ s3 g2 fun F3 H3 x4 => ?_
      cases b with
      | true =>
        rw [if_pos rfl] at ho ⊢
        obtain ⟨y, g3, rfl⟩ := Option.map_eq_some_iff.mp ho
        refine re F0 H0 ev' σ2 F3 H3 y _ (s3.up x4) g3 fun v F4 H4 x5 r5 z5 => ?_
        have xx := (x3.trans x4).trans x5
        have hD4 : H4 Dl = some (.lst acc) := xx.keep _ _ hD
        have hF4 : F4 Dl = none := by
          rcases xx.new Dl with z | z
          · exact z.trans hF
          · rw [z] at hD
            cases hD
        refine ⟨acc, hD4, ?_, F4, acc ++ [v], ys ++ [y], ?_, upd_same, hF4, ?_, ?_, ?_⟩
        · rw [ra.len, sizeLine_eq]
          omega
        · have x6 := x2.trans xx
          refine ⟨x6.fr, fun b' o' e => ?_, fun b' o' e => ?_, x6.new⟩
          · rw [upd_ne (ne_of_none e hF4)]
            exact x6.sub _ _ e
          · rw [upd_ne (ne_of_none e nD)]
            exact x6.keep _ _ e
        · rw [htk]
          exact hnew
        · rw [List.length_append]
          show ys.length + 1 ≤ i + 1
          omega
        · exact (ra.mono xx.fr).append (.cons (z5 rfl) .nil)
      | false =>
        rw [if_neg (by decide)] at ho ⊢
        cases ho
        have xx := x3.trans x4
        refine ⟨F3, acc, ys, x2.trans xx, xx.keep _ _ hD, ?_, ?_, by omega, ra.mono xx.fr⟩
        · rcases xx.new Dl with z | z
          · exact z.trans hF
          · rw [z] at hD
            cases hD
        · rw [htk]
          exact hnew
  · have hi' : i = ds.length := by omega
    subst hi'
    rw [List.take_length, he] at hy
    cases hy
    exact .inl ⟨w.stop H' hB, q Dl acc F' H' (x1.trans x2) (x1.keep.free nD) hF hD ra⟩
theorem f_lc (hc : X.calm = true) (hN : X.N.Nodup) (hi : IOk X tg iter fz fi) (ok : blkC X.N X.env.scope scope own = true) (hg : GOkB X scope tg ws m) (ht : TsOkB X scope ifs p) (he : EOkB X scope elt true f)
    (hw : ∀ i ∈ ws, i ∈ own.map (·.2) := by decide) (hs : ∀ x, foldedSetIterable iter X.env x = pure x := by intro _; rfl) : FOk X (.ListComp elt [⟨tg, iter, ifs, 0⟩] scope pos) (kComp fi m p f (own.map (·.2))) := by
  obtain ⟨wi, pi, ri⟩ := hi
  obtain ⟨gt, pg, rg⟩ := hg
  obtain ⟨tt, pt, rt⟩ := ht
  obtain ⟨te, pe, re⟩ := he
  exact ⟨_, pe_lc (own := own) hc hN pi (blkOk_by ok) pg pt pe hs, lc_run ri rg rt re hw⟩

/-! ### statements -/
variable {st : Stmt} {sts rest : List Stmt} {u v : EV → Option Fl}
theorem SRun.of {t : TS} {w : EV → Option Fl} (h : SRun K u t) (hw : ∀ ev r, w ev = some r → u ev = some r) : SRun K w t := fun F0 H0 ev σ F H E r s he => h F0 H0 ev σ F H E r s (hw ev r he)
def sNx : EV → Option Fl := fun ev => some (.nx ev)
theorem b_nil : BOk X [] sNx := ⟨_, pss_nil, fun F0 H0 ev σ F H E r s he q => by
  cases he
  exact q σ F H s⟩
def sSeq (u v : EV → Option Fl) : EV → Option Fl := fun ev => (u ev).bind fun r => match r with
  | .nx e => v e
  | r => some r
theorem run_seq {t t' : TS} (h1 : SRun K u t) (h2 : SRun K v t') : SRun K (sSeq u v) (tSeq t t') := by
  intro F0 H0 ev σ F H E r s he q
  obtain ⟨r1, g1, g2⟩ := Option.bind_eq_some_iff.mp he
  refine h1 F0 H0 ev σ F H _ r1 s g1 ?_
  cases r1 with
  | nx e =>
    intro σ1 F1 H1 s1
    exact h2 F0 H0 e σ1 F1 H1 E r s1 g2 q
  | rt d => cases g2; exact q
  | bk e => cases g2; exact q
  | ct e => cases g2; exact q
theorem b_cons (h1 : SOk X st u) (h2 : BOk X rest v) : BOk X (st :: rest) (sSeq u v) := by
  obtain ⟨t1, p1, r1⟩ := h1
  obtain ⟨t2, p2, r2⟩ := h2
  exact ⟨_, pss_cons p1 p2, run_seq r1 r2⟩
theorem b_one (h : SOk X st u) : BOk X [st] u := by
  obtain ⟨t, p, r⟩ := h
  exact ⟨_, pss_one p, r⟩
/-- an own list is frozen ahead of a block -/
def sFrz (i : Nat) (u : EV → Option Fl) : EV → Option Fl := fun ev => u (evFrz ev i)
theorem run_frz {t : TS} {i : Nat} (h : SRun K u t) : SRun K (sFrz i u) t := by
  intro F0 H0 ev σ F H E r s he q
  obtain ⟨F', _, s'⟩ := s.frz i
  exact h F0 H0 _ σ F' H E r s' he q
theorem b_frz (i : Nat) (h : BOk X sts u) : BOk X sts (sFrz i u) := by
  obtain ⟨t, p, r⟩ := h
  exact ⟨t, p, run_frz r⟩
theorem s_frz (i : Nat) (h : SOk X st u) : SOk X st (sFrz i u) := by
  obtain ⟨t, p, r⟩ := h
  exact ⟨t, p, run_frz r⟩
/-- code that is never come to -/
def sNo : EV → Option Fl := fun _ => none
theorem s_never : SOk X st sNo := ⟨_, ps_never, fun F0 H0 ev σ F H E r s he q => nomatch he⟩
theorem s_pass : SOk X (.Pass pos) sNx := ⟨_, ps_pass, fun F0 H0 ev σ F H E r s he q => by
  cases he
  exact q σ F H s⟩
def sBk : EV → Option Fl := fun ev => some (.bk ev)
theorem s_break : SOk X (.Break pos) sBk := ⟨_, ps_break, fun F0 H0 ev σ F H E r s he q => by
  cases he
  exact q σ F H s⟩
def sCt : EV → Option Fl := fun ev => some (.ct ev)
theorem s_continue : SOk X (.Continue pos) sCt := ⟨_, ps_continue, fun F0 H0 ev σ F H E r s he q => by
  cases he
  exact q σ F H s⟩
def sRet (f : EV → Option D) : EV → Option Fl := fun ev => (f ev).map .rt
theorem s_ret (h : EOk X e true f) : SOk X (.Return (some e) pos) (sRet f) := by
  obtain ⟨t, p, r⟩ := h
  refine ⟨_, ps_ret p, fun F0 H0 ev σ F H E r' s he q => ?_⟩
  obtain ⟨d, h1, rfl⟩ := Option.map_eq_some_iff.mp he
  refine r F0 H0 ev σ F H d _ s h1 fun v F1 H1 x1 r1 z1 => ?_
  exact q v F1 H1 (s.up x1).ext (z1 rfl)
theorem s_retN : SOk X (.Return none pos) (fun _ => some (.rt .non)) := ⟨_, ps_retN, fun F0 H0 ev σ F H E r s he q => by
  cases he
  exact q .non F H s.ext .non⟩
end
end Z


set_option maxRecDepth 100000
set_option maxHeartbeats 4000000
/-! Z5: statements, loops, defs. -/
namespace Z
open PySem PySem.Spec PyProof.Rows L2
section
variable {X : Cx} {a b c e tg iter elt : Expr} {fz fa fb fc : Bool} {f g h : EV → Option D} {pos : Pos} {K : PySem.W.Frag}
variable {st : Stmt} {sts rest : List Stmt} {u v : EV → Option Fl} {k : EV → Option (List D)}

/-! ### within a comprehension's block -/
def tE (K : PySem.W.Frag) (fz : Bool) (f : EV → Option D) : TE := fun σ H Q => ∃ F0 H0 ev F d, SR K F0 H0 ev σ F H ∧ f ev = some d ∧ ∀ v F' H', Ext F H F' H' → Rep K H' v d → (fz = true → Rep K F' v d) → Q v H'
theorem eB {scope : Scope} (q : ∀ (s : Shared) (H : Hp) (C : Addr) (cl : List (Str × Addr)) (fp : List Addr), EOk (X.blk s H scope (compEnvC scope cl C X.env) fp) e fz f) : EOkB X scope e fz f := by
  refine ⟨tE X.K fz f, fun s H C cl fp => ?_, fun F0 H0 ev σ F H d Q s he q => ⟨F0, H0, ev, F, d, s, he, q⟩⟩
  obtain ⟨t, p, r⟩ := q s H C cl fp
  exact ⟨fun pins s' σ H' Q I ⟨F0, H0, ev, F, d, s, he, q⟩ => p.run pins s' σ H' Q I (r F0 H0 ev σ F H' d Q s he q)⟩
def tT (K : PySem.W.Frag) (f : EV → Option Bool) : TT := fun σ H Q => ∃ F0 H0 ev F d, SR K F0 H0 ev σ F H ∧ f ev = some d ∧ ∀ F' H', Ext F H F' H' → Q d H'
theorem tsB {scope : Scope} {ifs : List Expr} {p : EV → Option Bool} (q : ∀ (s : Shared) (H : Hp) (C : Addr) (cl : List (Str × Addr)) (fp : List Addr), TsOk (X.blk s H scope (compEnvC scope cl C X.env) fp) ifs p) : TsOkB X scope ifs p := by
  refine ⟨tT X.K p, fun s H C cl fp => ?_, fun F0 H0 ev σ F H d Q s he q => ⟨F0, H0, ev, F, d, s, he, q⟩⟩
  obtain ⟨t, p, r⟩ := q s H C cl fp
  exact ⟨fun pins s' σ H' Q I ⟨F0, H0, ev, F, d, s, he, q⟩ => p.run pins s' σ H' Q I (r F0 H0 ev σ F H' d Q s he q)⟩
def tG (K : PySem.W.Frag) (ws : List Nat) (m : D → EV → Option EV) : TG := fun v σ H Q => ∃ F0 H0 ev ev' F d, SR K F0 H0 ev σ F H ∧ Rep K F v d ∧ m d ev = some ev' ∧
  ∀ σ', SR K F0 H0 ev' σ' F H → (∀ vs : List Nat, (∀ i ∈ ws, i ∈ vs) → L2.wipe σ' vs = L2.wipe σ vs) → Q σ' H
theorem gB {scope : Scope} {ws : List Nat} {m : D → EV → Option EV} (q : ∀ (s : Shared) (H : Hp) (C : Addr) (cl : List (Str × Addr)) (fp : List Addr), GOk (X.blk s H scope (compEnvC scope cl C X.env) fp) tg ws m) : GOkB X scope tg ws m := by
  refine ⟨tG X.K ws m, fun s H C cl fp => ?_, fun F0 H0 ev ev' σ F H v d Q s r he q => ⟨F0, H0, ev, ev', F, d, s, r, he, q⟩⟩
  obtain ⟨t, p, r⟩ := q s H C cl fp
  exact ⟨fun pins s' σ H' v u Q I rv ⟨F0, H0, ev, ev', F, d, s, rd, he, q⟩ => p.run pins s' σ H' v u Q I rv (r F0 H0 ev ev' σ F H' v d Q s rd he q)⟩

/-! ### what is stored: frozen data, or an own list -/
def LRep (K : PySem.W.Frag) (F' H' H : Hp) (v : V) : L → Prop
  | .un => False
  | .fro d => Rep K F' v d
  | .own xs => ∃ a vs, v = .ref a ∧ H a = none ∧ F' a = none ∧ H' a = some (.lst vs) ∧ RepL K F' vs xs
def RRun (K : PySem.W.Frag) (f : EV → Option L) (t : TE) : Prop :=
  ∀ (F0 H0 : Hp) (ev : EV) (σ : L2.St) (F H : Hp) (l : L) (Q : VK), SR K F0 H0 ev σ F H → f ev = some l → (∀ v F' H', Ext F H F' H' → LRep K F' H' H v l → Q v H') → t σ H Q
def ROk (X : Cx) (e : Expr) (f : EV → Option L) : Prop := ∃ t, PE X e t ∧ RRun X.K f t
def lF (f : EV → Option D) : EV → Option L := fun ev => (f ev).map .fro
def lO (k : EV → Option (List D)) : EV → Option L := fun ev => (k ev).map .own
theorem rrun_e {t : TE} (r : ERun K true f t) : RRun K (lF f) t := by
  intro F0 H0 ev σ F H l Q s he q
  obtain ⟨d, h1, rfl⟩ := Option.map_eq_some_iff.mp he
  exact r F0 H0 ev σ F H d Q s h1 fun v F' H' x _ z => q v F' H' x (z rfl)
theorem rrun_f {t : TE} (r : FRun K k t) : RRun K (lO k) t := by
  intro F0 H0 ev σ F H l Q s he q
  obtain ⟨d, h1, rfl⟩ := Option.map_eq_some_iff.mp he
  exact r F0 H0 ev σ F H d Q s h1 fun l vs F' H' x n1 n2 e rr => q _ F' H' x ⟨l, vs, rfl, n1, n2, e, rr⟩
theorem r_e (h : EOk X e true f) : ROk X e (lF f) := by
  obtain ⟨t, p, r⟩ := h
  exact ⟨t, p, rrun_e r⟩
theorem r_f (h : FOk X e k) : ROk X e (lO k) := by
  obtain ⟨t, p, r⟩ := h
  exact ⟨t, p, rrun_f r⟩
theorem SR.setL {F0 H0 F H F' H' : Hp} {ev : EV} {σ : L2.St} {i : Nat} {l : L} {v : V} (s : SR K F0 H0 ev σ F H) (x : Ext F H F' H') (r : LRep K F' H' H v l) : SR K F0 H0 (ev.set i l) (σ.set i (some v)) F' H' := by
  cases l with
  | un => exact r.elim
  | fro d => exact (s.up x).setFro r
  | own xs =>
    obtain ⟨a, vs, rfl, n1, n2, e, rr⟩ := r
    refine (s.up x).setOwn e n2 (s.ext.keep.free n1) rr fun j ys _ hj hσ => ?_
    obtain ⟨b, ws, g1, g2, _⟩ := s.own j ys hj
    rw [hσ] at g1
    cases g1
    rw [n1] at g2
    cases g2
def sSetL (i : Nat) (f : EV → Option L) : EV → Option Fl := fun ev => (f ev).map fun l => .nx (ev.set i l)
theorem run_setL {i : Nat} {f : EV → Option L} {t : TE} (r : RRun K f t) : SRun K (sSetL i f) (tAsg t (gName i)) := by
  intro F0 H0 ev σ F H E r' s he q
  obtain ⟨l, h1, rfl⟩ := Option.map_eq_some_iff.mp he
  exact r F0 H0 ev σ F H l _ s h1 fun v F' H' x rl => q _ F' H' (s.setL x rl)
/-- name = e -/
theorem s_set {i : Nat} {x : Str} {pos' : Pos} {f : EV → Option L} (hN : X.N.Nodup) (hi : X.N[i]? = some x) (hx : Loc X.env.scope x) (he : ROk X e f) (hs : swapsWith e (some (.Name x pos')) pos.line X.env = pure false := by rfl)
    (hf : X.fn x = true ∨ X.env.scope.names.lookup x = some .local := by first | exact .inl rfl | exact .inr rfl | assumption) : SOk X (.Assign [.Name x pos'] e pos) (sSetL i f) := by
  obtain ⟨t, p, r⟩ := he
  exact ⟨_, ps_set hN hi hx p hs hf, run_setL r⟩
/-- name = [.. for ..], stored within -/
theorem s_setLc {i : Nat} {y : Str} {py spos : Pos} {ws : List Nat} {m : D → EV → Option EV} {p : EV → Option Bool} {fi : EV → Option (List D)} {ifs : List Expr} {scope : Scope} {own : List (Str × Nat)}
    (hc : X.calm = true) (hN : X.N.Nodup) (hy : X.N[i]? = some y) (hyl : X.env.scope.names.lookup y = some .local) (hsw : swapsWith (.ListComp elt [⟨tg, iter, ifs, 0⟩] scope pos) (some (.Name y py)) spos.line X.env = pure true)
    (hi : IOk X tg iter fz fi) (ok : blkC X.N X.env.scope scope own = true) (hg : GOkB X scope tg ws m) (ht : TsOkB X scope ifs p) (he : EOkB X scope elt true f) (hw : ∀ i ∈ ws, i ∈ own.map (·.2) := by decide)
    (hs : ∀ x, foldedSetIterable iter X.env x = pure x := by intro _; rfl) {l : EV → Option L} (hl : ∀ t, FRun X.K (kComp fi m p f (own.map (·.2))) t → RRun X.K l t) : SOk X (.Assign [.Name y py] (.ListComp elt [⟨tg, iter, ifs, 0⟩] scope pos) spos) (sSetL i l) := by
  obtain ⟨wi, pi, ri⟩ := hi
  obtain ⟨gt, pg, rg⟩ := hg
  obtain ⟨tt, pt, rt⟩ := ht
  obtain ⟨te, pe, re⟩ := he
  exact ⟨_, ps_setLc (own := own) hc hN hy hyl hsw pi (blkOk_by ok) pg pt pe hs, run_setL (hl _ (lc_run ri rg rt re hw))⟩
theorem lc_own (t : TE) (h : FRun K k t) : RRun K (lO k) t := rrun_f h
theorem lc_fro (t : TE) (h : FRun K k t) : RRun K (lF (cLst k)) t := rrun_e (frun_e h)
/-- a, b = x, y, both plain locals -/
def sPar (i j : Nat) (f g : EV → Option L) : EV → Option Fl := fun ev => (f ev).bind fun l => (g ev).map fun m => .nx ((ev.set i l).set j m)
theorem LRep.up {F' H' H F2 H2 : Hp} {v : V} {l : L} (r : LRep K F' H' H v l) (x : Ext F' H' F2 H2) : LRep K F2 H2 H v l := by
  cases l with
  | un => exact r
  | fro d => exact Rep.mono x.fr r
  | own xs =>
    obtain ⟨a, vs, rfl, n1, n2, e, rr⟩ := r
    refine ⟨a, vs, rfl, n1, ?_, x.keep _ _ e, rr.mono x.fr⟩
    rcases x.new a with z | z
    · exact z.trans n2
    · rw [z] at e
      cases e
theorem SR.setL2 {F0 H0 F H F1 H1 F2 H2 : Hp} {ev : EV} {σ : L2.St} {i j : Nat} {l m : L} {v w : V} (s : SR K F0 H0 ev σ F H) (x1 : Ext F H F1 H1) (r1 : LRep K F1 H1 H v l) (x2 : Ext F1 H1 F2 H2) (r2 : LRep K F2 H2 H1 w m) :
    SR K F0 H0 ((ev.set i l).set j m) ((σ.set i (some v)).set j (some w)) F2 H2 := (s.setL x1 r1).setL x2 r2
theorem s_par {i j : Nat} {x y : Str} {px py pt : Pos} {kt k2 pt2} {f g : EV → Option L} (hc : X.calm = true) (hN : X.N.Nodup) (hi : X.N[i]? = some x) (hj : X.N[j]? = some y) (hij : i ≠ j)
    (hx : X.env.scope.names.lookup x = some .local) (hy : X.env.scope.names.lookup y = some .local) (ha : ROk X a f) (hb : ROk X b g)
    (hw : swappedStores [.Tuple [.Name x px, .Name y py] kt pt] (.Tuple [a, b] k2 pt2) X.env = pure (some [x, y]))
    (hs : swapsWithSole [.Tuple [.Name x px, .Name y py] kt pt] (.Tuple [a, b] k2 pt2) pos.line X.env = pure false := by rfl)
    (h1 : starEach [a, b] X.env = (false, eval a X.env) :: starEach [b] X.env := by rfl) (h2 : starEach [b] X.env = (false, eval b X.env) :: starEach [] X.env := by rfl) :
    SOk X (.Assign [.Tuple [.Name x px, .Name y py] kt pt] (.Tuple [a, b] k2 pt2) pos) (sPar i j f g) := by
  obtain ⟨ta, pa, ra⟩ := ha
  obtain ⟨tb, pb, rb⟩ := hb
  refine ⟨_, ps_par hc hN hi hj hij hx hy (pa_cons pa (pa_cons pb pa_nil h2) h1) hw hs, fun F0 H0 ev σ F H E r s he q => ?_⟩
  obtain ⟨l, g1, he⟩ := Option.bind_eq_some_iff.mp he
  obtain ⟨m, g2, rfl⟩ := Option.map_eq_some_iff.mp he
  refine ra F0 H0 ev σ F H l _ s g1 fun v F1 H1 x1 r1 => ?_
  refine rb F0 H0 ev σ F1 H1 m _ (s.up x1) g2 fun w F2 H2 x2 r2 => ?_
  exact ⟨v, w, rfl, q _ F2 H2 (s.setL2 x1 r1 x2 r2)⟩
def sPar3 (i j o : Nat) (f g h : EV → Option L) : EV → Option Fl := fun ev => (f ev).bind fun l => (g ev).bind fun m => (h ev).map fun n => .nx (((ev.set i l).set j m).set o n)
theorem s_par3 {i j o : Nat} {x y z : Str} {px py pz pt : Pos} {kt k2 pt2} {f g h : EV → Option L} (hc : X.calm = true) (hN : X.N.Nodup) (hi : X.N[i]? = some x) (hj : X.N[j]? = some y) (ho : X.N[o]? = some z) (hij : i ≠ j) (hio : i ≠ o) (hjo : j ≠ o)
    (ha : ROk X a f) (hb : ROk X b g) (hd : ROk X c h)
    (hp : ∀ ta, PA X [a, b, c] ta → PS X (.Assign [.Tuple [.Name x px, .Name y py, .Name z pz] kt pt] (.Tuple [a, b, c] k2 pt2) pos) (tPar3 i j o ta))
    (h1 : starEach [a, b, c] X.env = (false, eval a X.env) :: starEach [b, c] X.env := by rfl) (h2 : starEach [b, c] X.env = (false, eval b X.env) :: starEach [c] X.env := by rfl) (h3 : starEach [c] X.env = (false, eval c X.env) :: starEach [] X.env := by rfl) :
    SOk X (.Assign [.Tuple [.Name x px, .Name y py, .Name z pz] kt pt] (.Tuple [a, b, c] k2 pt2) pos) (sPar3 i j o f g h) := by
  obtain ⟨ta, pa, ra⟩ := ha
  obtain ⟨tb, pb, rb⟩ := hb
  obtain ⟨tc, pc, rc⟩ := hd
  refine ⟨_, hp _ (pa_cons pa (pa_cons pb (pa_cons pc pa_nil h3) h2) h1), fun F0 H0 ev σ F H E r s he q => ?_⟩
  obtain ⟨l, g1, he⟩ := Option.bind_eq_some_iff.mp he
  obtain ⟨m, g2, he⟩ := Option.bind_eq_some_iff.mp he
  obtain ⟨n, g3, rfl⟩ := Option.map_eq_some_iff.mp he
  refine ra F0 H0 ev σ F H l _ s g1 fun v F1 H1 x1 r1 => ?_
  refine rb F0 H0 ev σ F1 H1 m _ (s.up x1) g2 fun w F2 H2 x2 r2 => ?_
  refine rc F0 H0 ev σ F2 H2 n _ ((s.up x1).up x2) g3 fun w' F3 H3 x3 r3 => ?_
  exact ⟨v, w, w', rfl, q _ F3 H3 (((s.setL x1 r1).setL x2 r2).setL x3 r3)⟩
/-- a target's tuple = e -/
def sAsg (f : EV → Option D) (m : D → EV → Option EV) : EV → Option Fl := fun ev => (f ev).bind fun d => (m d ev).map .nx
theorem s_asg {ws : List Nat} {m : D → EV → Option EV} (he : EOk X e true f) (hg : GOk X tg ws m) (hs : swapsWithSole [tg] e pos.line X.env = pure false := by rfl) (hw : swappedStores [tg] e X.env = pure none := by rfl)
    (h1 : (assignEach [tg] X.env).map (·.2) = [assign tg X.env] := by rfl) : SOk X (.Assign [tg] e pos) (sAsg f m) := by
  obtain ⟨te, pe, re⟩ := he
  obtain ⟨gt, pg, rg⟩ := hg
  refine ⟨_, ps_asg pe pg hs hw h1, fun F0 H0 ev σ F H E r s he q => ?_⟩
  obtain ⟨d, g1, he⟩ := Option.bind_eq_some_iff.mp he
  obtain ⟨ev', g2, rfl⟩ := Option.map_eq_some_iff.mp he
  refine re F0 H0 ev σ F H d _ s g1 fun v F1 H1 x1 _ z1 => ?_
  exact rg F0 H0 ev ev' σ F1 H1 v d _ (s.up x1) (z1 rfl) g2 fun σ' s' _ => q σ' F1 H1 s'

/-! ### own lists changed -/
def sApp (i : Nat) (f : EV → Option D) : EV → Option Fl := fun ev => match ev[i]? with
  | some (.own xs) => if xs.length < 16777216 then (f ev).map fun d => .nx (ev.set i (.own (xs ++ [d]))) else none
  | _ => none
theorem s_app {i : Nat} {x : Str} {p apos cpos epos : Pos} (hp : PE X (.Name x p) (tVar i)) (he : EOk X e true f)
    (hbase : attributeBase (.Name x p) "append" X.env (eval (.Name x p) X.env) = eval (.Name x p) X.env := by rfl)
    (hfew : ((backTo cpos (starEach [e] X.env)).all (fun x => !x.1) && (backToKw cpos (keywordEach [] X.env)).all (fun x => x.1.isSome)
      && decide (([e] : List Expr).length + ([] : List Keyword).length + (if ([] : List Keyword).isEmpty then 0 else 1) < 30)) = true := by rfl)
    (hline : (apos.endLine == cpos.line) = true := by rfl) (h1 : starEach [e] X.env = (false, eval e X.env) :: starEach [] X.env := by rfl) (hplain : (backTo cpos (starEach [] X.env)).any (·.1) = false := by rfl)
    (hs : swapsWith (.Call (.Attribute (.Name x p) "append" apos) [e] [] cpos) none epos.line X.env = pure false := by rfl) :
    SOk X (.Expr (.Call (.Attribute (.Name x p) "append" apos) [e] [] cpos) epos) (sApp i f) := by
  obtain ⟨te, pe, re⟩ := he
  refine ⟨_, ps_expr (pe_bm PySem.F.plainAttrs_list PySem.F.slot_list_append PySem.F.type_list_append mt_append hp (pa_cons pe pa_nil h1) hbase hfew hline h1 hplain) hs, fun F0 H0 ev σ F H E r s he q => ?_⟩
  unfold sApp at he
  split at he
  · rename_i xs h
    have hlen : xs.length < 16777216 := by
      by_cases hl : xs.length < 16777216
      · exact hl
      · rw [if_neg hl] at he
        cases he
    rw [if_pos hlen] at he
    obtain ⟨d, g1, rfl⟩ := Option.map_eq_some_iff.mp he
    obtain ⟨l, vs, h2, h3, h4, h5, h6⟩ := s.own i _ h
    refine ⟨.ref l, h2, .inl ⟨rfl, _, SqL.of h3⟩, re F0 H0 ev σ F H d _ s g1 fun v F1 H1 x1 r1 z1 => ?_⟩
    refine ⟨l, vs, v, rfl, rfl, x1.keep _ _ h3, by rw [h6.len, sizeLine_eq]; exact hlen, ?_⟩
    exact q σ F1 _ ((s.up x1).mut h h2 (x1.keep _ _ h3) ((h6.mono x1.fr).append (.cons (z1 rfl) .nil)))
  · cases he
def sExt (i : Nat) (f : EV → Option D) : EV → Option Fl := fun ev => match ev[i]?, f ev with
  | some (.own xs), some (.lst ys) => if xs.length + ys.length ≤ 16777216 then some (.nx (ev.set i (.own (xs ++ ys)))) else none
  | _, _ => none
theorem s_ext {i : Nat} {x : Str} {p apos cpos epos : Pos} (hp : PE X (.Name x p) (tVar i)) (he : EOk X e true f)
    (hbase : attributeBase (.Name x p) "extend" X.env (eval (.Name x p) X.env) = eval (.Name x p) X.env := by rfl)
    (hfew : ((backTo cpos (starEach [e] X.env)).all (fun x => !x.1) && (backToKw cpos (keywordEach [] X.env)).all (fun x => x.1.isSome)
      && decide (([e] : List Expr).length + ([] : List Keyword).length + (if ([] : List Keyword).isEmpty then 0 else 1) < 30)) = true := by rfl)
    (hline : (apos.endLine == cpos.line) = true := by rfl) (h1 : starEach [e] X.env = (false, eval e X.env) :: starEach [] X.env := by rfl) (hplain : (backTo cpos (starEach [] X.env)).any (·.1) = false := by rfl)
    (hs : swapsWith (.Call (.Attribute (.Name x p) "extend" apos) [e] [] cpos) none epos.line X.env = pure false := by rfl) :
    SOk X (.Expr (.Call (.Attribute (.Name x p) "extend" apos) [e] [] cpos) epos) (sExt i f) := by
  obtain ⟨te, pe, re⟩ := he
  refine ⟨_, ps_expr (pe_bm PySem.F.plainAttrs_list PySem.F.slot_list_extend PySem.F.type_list_extend mt_extend hp (pa_cons pe pa_nil h1) hbase hfew hline h1 hplain) hs, fun F0 H0 ev σ F H E r s he q => ?_⟩
  unfold sExt at he
  split at he
  · rename_i xs ys h g1
    obtain ⟨hlen, rfl⟩ := of_ite he
    obtain ⟨l, vs, h2, h3, h4, h5, h6⟩ := s.own i _ h
    refine ⟨.ref l, h2, .inl ⟨rfl, _, SqL.of h3⟩, re F0 H0 ev σ F H _ _ s g1 fun v F1 H1 x1 r1 z1 => ?_⟩
    obtain ⟨b, ws, rfl, e1, rr⟩ := (z1 rfl).lst_inv
    have s1 := s.up x1
    refine ⟨l, b, vs, ws, rfl, rfl, x1.keep _ _ h3, s1.sub _ _ e1, by rw [h6.len, rr.len, sizeLine_eq]; exact hlen, ?_⟩
    exact q σ F1 _ (s1.mut h h2 (x1.keep _ _ h3) ((h6.mono x1.fr).append rr))
  · cases he
def sSub (i : Nat) (g f : EV → Option D) : EV → Option Fl := fun ev => match ev[i]?, g ev, f ev with
  | some (.own xs), some (.int n), some d => (ixN xs.length n).map fun j => .nx (ev.set i (.own (xs.set j d)))
  | _, _, _ => none
theorem s_sub {i : Nat} {x : Str} {p tpos : Pos} (hp : PE X (.Name x p) (tVar i)) (hg : EOk X a fa g) (he : EOk X e true f)
    (ha : ∀ v, assign (.Subscript (.Name x p) a tpos) X.env v = (do
      let ov ← holding [v] (eval (.Name x p) X.env)
      let iv ← holding [v, ov] (eval a X.env)
      standAt tpos
      holding [v, ov, iv] (setItem ov iv v)
      release [v, ov, iv] []) := by intro _; rfl)
    (hs : swapsWithSole [.Subscript (.Name x p) a tpos] e pos.line X.env = pure false := by rfl) (hw : swappedStores [.Subscript (.Name x p) a tpos] e X.env = pure none := by rfl)
    (h1 : (assignEach [.Subscript (.Name x p) a tpos] X.env).map (·.2) = [assign (.Subscript (.Name x p) a tpos) X.env] := by rfl) : SOk X (.Assign [.Subscript (.Name x p) a tpos] e pos) (sSub i g f) := by
  obtain ⟨tg, pg, rg⟩ := hg
  obtain ⟨te, pe, re⟩ := he
  refine ⟨_, ps_asg pe (pg_sub hp pg set_list ha) hs hw h1, fun F0 H0 ev σ F H E r s he q => ?_⟩
  unfold sSub at he
  split at he
  · rename_i xs n d h g1 g2
    obtain ⟨j, hj, rfl⟩ := Option.map_eq_some_iff.mp he
    obtain ⟨l, vs, h2, h3, h4, h5, h6⟩ := s.own i _ h
    refine re F0 H0 ev σ F H d _ s g2 fun v F1 H1 x1 r1 z1 => ?_
    refine ⟨.ref l, h2, rg F0 H0 ev σ F1 H1 _ _ (s.up x1) g1 fun w F2 H2 x2 r2 z2 => ?_⟩
    cases r2
    have x := x1.trans x2
    refine ⟨l, vs, n, j, rfl, rfl, x.keep _ _ h3, by rw [h6.len]; exact hj, ?_⟩
    exact q σ F2 _ ((s.up x).mut h h2 (x.keep _ _ h3) (RepL.set ((z1 rfl).mono x2.fr) j (h6.mono x.fr)))
  · cases he

/-! ### expression statements, if, loops -/
def sDrop (f : EV → Option D) : EV → Option Fl := fun ev => (f ev).map fun _ => .nx ev
theorem s_expr (he : EOk X e fz f) (hs : swapsWith e none pos.line X.env = pure false := by rfl) : SOk X (.Expr e pos) (sDrop f) := by
  obtain ⟨t, p, r⟩ := he
  refine ⟨_, ps_expr p hs, fun F0 H0 ev σ F H E r' s he q => ?_⟩
  obtain ⟨d, h1, rfl⟩ := Option.map_eq_some_iff.mp he
  exact r F0 H0 ev σ F H d _ s h1 fun v F1 H1 x1 _ _ => q σ F1 H1 (s.up x1)
def sIf (p : EV → Option Bool) (u v : EV → Option Fl) : EV → Option Fl := fun ev => (p ev).bind fun b => if b then u ev else v ev
theorem s_if {p : EV → Option Bool} (hc : TOk X c p) (ha : BOk X sts u) (hb : BOk X rest v) : SOk X (.If c sts rest pos) (sIf p u v) := by
  obtain ⟨tc, pc, rc⟩ := hc
  obtain ⟨ta, pa, ra⟩ := ha
  obtain ⟨tb, pb, rb⟩ := hb
  refine ⟨_, ps_if pc pa pb, fun F0 H0 ev σ F H E r s he q => ?_⟩
  obtain ⟨b, g1, he⟩ := Option.bind_eq_some_iff.mp he
  refine rc F0 H0 ev σ F H b _ s g1 fun F1 H1 x1 => ?_
  cases b with
  | true =>
    rw [if_pos rfl] at he ⊢
    exact ra F0 H0 ev σ F1 H1 E r (s.up x1) he q
  | false =>
    rw [if_neg (by decide)] at he ⊢
    exact rb F0 H0 ev σ F1 H1 E r (s.up x1) he q
def forGo (m : D → EV → Option EV) (u : EV → Option Fl) : List D → EV → Option Fl
  | [], ev => some (.nx ev)
  | d :: ds, ev => (m d ev).bind fun e1 => (u e1).bind fun r => match r with
    | .nx e => forGo m u ds e
    | .ct e => forGo m u ds e
    | .bk e => some (.nx e)
    | .rt d => some (.rt d)
def sFor (fi : EV → Option (List D)) (m : D → EV → Option EV) (u : EV → Option Fl) : EV → Option Fl := fun ev => (fi ev).bind fun ds => forGo m u ds ev
theorem run_for {fi : EV → Option (List D)} {m : D → EV → Option EV} {ws : List Nat} {wi : TI} {gt : TG} {tb : TS} (ri : IRun K true fi wi) (rg : GRun K ws m gt) (rb : SRun K u tb) : SRun K (sFor fi m u) (tFor wi gt tb) := by
  intro F0 H0 ev σ F H E r s he q
  obtain ⟨ds, h1, he⟩ := Option.bind_eq_some_iff.mp he
  refine ri F0 H0 ev σ F H ds _ s h1 fun J F1 H1 x1 w => ?_
  rw [if_pos rfl] at w
  have s1 := s.up x1
  refine ⟨fun i m' σ' H' => m' = ds.length - i ∧ i ≤ ds.length ∧ ((∃ ev' F', SR K F1 H0 ev' σ' F' H' ∧ forGo m u (ds.drop i) ev' = some r)), ⟨ds.length, by omega, Nat.zero_le _, ev, F1, ?_, by simpa using he⟩, ?_⟩
  · exact s1.base (.refl _) fun a => .inl rfl
  rintro i m' σ' H' ⟨rfl, hi, ev', F', s2, hgo⟩
  have hB : Same F1 H' := s2.ext.fr.trans s2.ext.sub
  have back : ∀ {e σ2 F2 H2}, SR K F1 H0 e σ2 F2 H2 → SR K F0 H0 e σ2 F2 H2 := fun {e σ2 F2 H2} s3 => s3.base ((s1.ext.fr).trans s3.ext.fr) fun a => by
    rcases s3.ext.new a with z | z
    · rcases s1.ext.new a with z2 | z2
      · exact .inl (z.trans z2)
      · exact .inr z2
    · exact .inr z
  by_cases hlt : i < ds.length
  · have hd : ds.drop i = ds[i] :: ds.drop (i + 1) := List.drop_eq_getElem_cons hlt
    rw [hd] at hgo
    obtain ⟨e1, g1, hgo⟩ := Option.bind_eq_some_iff.mp hgo
    obtain ⟨r1, g2, hgo⟩ := Option.bind_eq_some_iff.mp hgo
    refine .inr ⟨w.go i H' hlt hB, fun σ2 H2 => ∃ ev2 F2, SR K F1 H0 ev2 σ2 F2 H2 ∧ forGo m u (ds.drop (i + 1)) ev2 = some r, fun σ2 H2 h2 => ⟨ds.length - (i + 1), by omega, rfl, hlt, h2⟩, fun x H2 hx => ?_⟩
    obtain ⟨F2, d, x3, hd2, rd⟩ := w.yld i F' H' x H2 hlt s2.ext.fr s2.ext.sub hB hx
    rw [List.getElem?_eq_getElem hlt] at hd2
    cases hd2
    refine rg F1 H0 ev' e1 σ' F2 H2 x _ _ (s2.up x3) rd g1 fun σ3 s3 _ => ?_
    refine rb F1 H0 e1 σ3 F2 H2 _ r1 s3 g2 ?_
    cases r1 with
    | nx e => exact fun σ4 F4 H4 s4 => ⟨e, F4, s4, hgo⟩
    | ct e => exact fun σ4 F4 H4 s4 => ⟨e, F4, s4, hgo⟩
    | bk e =>
      intro σ4 F4 H4 s4
      cases hgo
      exact q σ4 F4 H4 (back s4)
    | rt d =>
      intro v4 F4 H4 x4 r4
      cases hgo
      have x5 : Ext F0 H0 F4 H4 := ⟨s1.ext.fr.trans x4.fr, x4.sub, x4.keep, fun a => by
        rcases x4.new a with z | z
        · rcases s1.ext.new a with z2 | z2
          · exact .inl (z.trans z2)
          · exact .inr z2
        · exact .inr z⟩
      exact q v4 F4 H4 x5 r4
  · have hi' : i = ds.length := by omega
    subst hi'
    rw [List.drop_length] at hgo
    cases hgo
    exact .inl ⟨w.stop H' hB, q σ' F' H' (back s2)⟩
theorem s_for {fi : EV → Option (List D)} {m : D → EV → Option EV} {ws : List Nat} {body : List Stmt} (hp : PassesOwn (model X.prog X.w) X.A X.env X.xe) (hc : X.calm = true) (hi : IOk X tg iter true fi) (hg : GOk X tg ws m) (hb : BOk X body u)
    (hs : ∀ x, foldedSetIterable iter X.env x = pure x := by intro _; rfl) : SOk X (.For tg iter body [] pos) (sFor fi m u) := by
  obtain ⟨wi, pi, ri⟩ := hi
  obtain ⟨gt, pg, rg⟩ := hg
  obtain ⟨tb, pb, rb⟩ := hb
  exact ⟨_, ps_for hp hc pi pg pb hs, run_for ri rg rb⟩
def whileGo (p : EV → Option Bool) (u : EV → Option Fl) : Nat → EV → Option Fl
  | 0, _ => none
  | n + 1, ev => (p ev).bind fun b => if b then (u ev).bind fun r => match r with
    | .nx e => whileGo p u n e
    | .ct e => whileGo p u n e
    | .bk e => some (.nx e)
    | .rt d => some (.rt d)
    else some (.nx ev)
theorem run_while {p : EV → Option Bool} {tc : TT} {tb : TS} {n : Nat} (rc : TRun K p tc) (rb : SRun K u tb) : SRun K (whileGo p u n) (tWhile tc tb) := by
  intro F0 H0 ev σ F H E r s he q
  refine ⟨fun m σ' H' => ∃ ev' F', SR K F0 H0 ev' σ' F' H' ∧ whileGo p u m ev' = some r, ⟨n, ev, F, s, he⟩, ?_⟩
  rintro m σ' H' ⟨ev', F', s', he'⟩
  cases m with
  | zero => cases he'
  | succ m =>
    obtain ⟨b, g1, he'⟩ := Option.bind_eq_some_iff.mp he'
    refine rc F0 H0 ev' σ' F' H' b _ s' g1 fun F1 H1 x1 => ?_
    cases b with
    | true =>
      rw [if_pos rfl] at he' ⊢
      obtain ⟨r1, g2, he'⟩ := Option.bind_eq_some_iff.mp he'
      refine ⟨fun σ2 H2 => ∃ ev2 F2, SR K F0 H0 ev2 σ2 F2 H2 ∧ whileGo p u m ev2 = some r, fun σ2 H2 h2 => ⟨m, Nat.lt_succ_self m, h2⟩, ?_⟩
      refine rb F0 H0 ev' σ' F1 H1 _ r1 (s'.up x1) g2 ?_
      cases r1 with
      | nx e => exact fun σ4 F4 H4 s4 => ⟨e, F4, s4, he'⟩
      | ct e => exact fun σ4 F4 H4 s4 => ⟨e, F4, s4, he'⟩
      | bk e =>
        intro σ4 F4 H4 s4
        cases he'
        exact q σ4 F4 H4 s4
      | rt d =>
        intro v4 F4 H4 x4 r4
        cases he'
        exact q v4 F4 H4 x4 r4
    | false =>
      rw [if_neg (by decide)] at he' ⊢
      cases he'
      exact q σ' F1 H1 (s'.up x1)
theorem s_while (n : Nat) {p : EV → Option Bool} {body : List Stmt} (hp : PassesOwn (model X.prog X.w) X.A X.env X.xe) (hc : TOk X c p) (hb : BOk X body u) : SOk X (.While c body [] pos) (whileGo p u n) := by
  obtain ⟨tc, pc, rc⟩ := hc
  obtain ⟨tb, pb, rb⟩ := hb
  exact ⟨_, ps_while hp pc pb, run_while rc rb⟩
end

/-! ### defs -/
def evStart (ds : List D) (m : Nat) : EV := ds.map .fro ++ List.replicate m .un
def runFn (n m : Nat) (u : EV → Option Fl) : List D → Option D := fun ds => if ds.length = n then (match u (evStart ds m) with
  | some (.rt d) => some d
  | some (.nx _) => some .non
  | _ => none) else none
theorem start_sr {K : PySem.W.Frag} {F H : Hp} {N : List Str} {vs : List V} {ds : List D} {m : Nat} (hs : Same F H) (r : RepL K F vs ds) (hm : m = N.length - ds.length) : SR K F H (evStart ds m) (L2.start N vs) F H := by
  have hl := r.len
  refine ⟨.refl hs, ?_, fun i d h => ?_, fun i xs h => ?_, fun i j xs ys a h => ?_⟩
  · unfold evStart L2.start
    simp only [List.length_append, List.length_map, List.length_replicate]
    omega
  · unfold evStart at h
    by_cases hi : i < ds.length
    · rw [List.getElem?_append_left (by simpa using hi), List.getElem?_map] at h
      obtain ⟨d', h1, h2⟩ := Option.map_eq_some_iff.mp h
      cases h2
      obtain ⟨v, h3, h4⟩ := r.get h1
      refine ⟨v, ?_, h4⟩
      unfold L2.start
      rw [List.getElem?_append_left (by simp; omega), List.getElem?_map, h3]
      rfl
    · rw [List.getElem?_append_right (by simp; omega)] at h
      rw [List.getElem?_replicate] at h
      split at h <;> cases h
  · unfold evStart at h
    by_cases hi : i < ds.length
    · rw [List.getElem?_append_left (by simpa using hi), List.getElem?_map] at h
      obtain ⟨d', h1, h2⟩ := Option.map_eq_some_iff.mp h
      cases h2
    · rw [List.getElem?_append_right (by simp; omega)] at h
      rw [List.getElem?_replicate] at h
      split at h <;> cases h
  · unfold evStart at h
    by_cases hi : i < ds.length
    · rw [List.getElem?_append_left (by simpa using hi), List.getElem?_map] at h
      obtain ⟨d', h1, h2⟩ := Option.map_eq_some_iff.mp h
      cases h2
    · rw [List.getElem?_append_right (by simp; omega)] at h
      rw [List.getElem?_replicate] at h
      split at h <;> cases h
theorem fn_ok {P : Program} {w : World} {K : PySem.W.Frag} {mg : Str → Option Value} {base : Heap} {x qual : Str} {st : Stmt} {f : Addr} {fd : FuncData} {N ps : List Str} {k n m : Nat} {u : EV → Option Fl} (F : Fun K x qual st f fd) (S : FnScope N ps (defScope st))
    (hn : ps.length = n) (hm : N.length - n = m)
    (hb : ∀ (cdv : Value) (A : Around) (outer : List Env) (s : Shared) (H : Hp) (E : XK), Room k (A.deeper (envOfC qual (defScope st) s.heap.objs.size f cdv)) →
      BOk (cxOf CX0 P w K mg base N qual (defScope st) f cdv A outer s H E).nox (defBody st) u) : FnOk P w K mg base CX0 (k + 1) f fd ps (FSp K n (runFn n m u)) := by
  refine F.ok S (fun vs H Q E h => h.1.trans hn.symm) (fun cdv A outer s H vs Q E hr h => ?_)
  obtain ⟨hl, F0, ds, d, hs, r, he, q⟩ := h
  obtain ⟨t, p, run⟩ := hb cdv A outer s H E hr
  refine ⟨t, p, ?_⟩
  have hds : ds.length = n := by rw [← r.len]; exact hl
  unfold runFn at he
  rw [if_pos hds] at he
  have s0 : SR K F0 H (evStart ds m) (L2.start N vs) F0 H := start_sr hs r (by rw [hds]; exact hm.symm)
  split at he
  · rename_i d' hu
    cases he
    exact run F0 H _ _ F0 H _ _ s0 hu fun v F' H' x rr => q v F' H' x rr
  · rename_i e' hu
    cases he
    exact run F0 H _ _ F0 H _ _ s0 hu fun σ' F' H' s' => q .non F' H' s'.ext .non
  · cases he
end Z


set_option maxRecDepth 100000
set_option maxHeartbeats 4000000
/-! Z6: defs by name, membership, index, whiles without a told length. -/
namespace Z
open PySem PySem.Spec PyProof.Rows L2
section
variable {X : Cx} {a b c e tg iter elt : Expr} {fz fa fb fc : Bool} {f g h : EV → Option D} {pos : Pos} {K : PySem.W.Frag}
variable {st : Stmt} {sts rest : List Stmt} {u v : EV → Option Fl} {k : EV → Option (List D)} {es : List Expr}

/-! ### whiles -/
theorem whileGo_mono {p : EV → Option Bool} : ∀ {n m : Nat} {ev : EV} {r : Fl}, whileGo p u n ev = some r → n ≤ m → whileGo p u m ev = some r
  | 0, _, _, _, h, _ => nomatch h
  | n + 1, 0, _, _, _, hm => absurd hm (Nat.not_succ_le_zero n)
  | n + 1, m + 1, ev, r, h, hm => by
    obtain ⟨b, h1, h2⟩ := Option.bind_eq_some_iff.mp h
    unfold whileGo
    rw [h1, Option.bind_some]
    cases b with
    | false => exact h2
    | true =>
      rw [if_pos rfl] at h2 ⊢
      obtain ⟨r1, h3, h4⟩ := Option.bind_eq_some_iff.mp h2
      rw [h3, Option.bind_some]
      cases r1 with
      | nx e => exact whileGo_mono h4 (Nat.le_of_succ_le_succ hm)
      | ct e => exact whileGo_mono h4 (Nat.le_of_succ_le_succ hm)
      | bk e => exact h4
      | rt d => exact h4
open Classical in
noncomputable def sWhile (p : EV → Option Bool) (u : EV → Option Fl) : EV → Option Fl := fun ev => if h : ∃ r n, whileGo p u n ev = some r then some (choose h) else none
theorem sWhile_of {p : EV → Option Bool} {n : Nat} {ev : EV} {r : Fl} (h : whileGo p u n ev = some r) : sWhile p u ev = some r := by
  have hx : ∃ r n, whileGo p u n ev = some r := ⟨r, n, h⟩
  unfold sWhile
  rw [dif_pos hx]
  obtain ⟨m, hm⟩ := Classical.choose_spec hx
  have h1 := whileGo_mono h (Nat.le_max_left n m)
  have h2 := whileGo_mono hm (Nat.le_max_right n m)
  rw [h1] at h2
  exact h2.symm
theorem s_whl {p : EV → Option Bool} {body : List Stmt} (hp : PassesOwn (model X.prog X.w) X.A X.env X.xe) (hc : TOk X c p) (hb : BOk X body u) : SOk X (.While c body [] pos) (sWhile p u) := by
  obtain ⟨tc, pc, rc⟩ := hc
  obtain ⟨tb, pb, rb⟩ := hb
  refine ⟨_, ps_while hp pc pb, fun F0 H0 ev σ F H E r s he q => ?_⟩
  unfold sWhile at he
  split at he
  · rename_i hx
    obtain ⟨m, hm⟩ := Classical.choose_spec hx
    cases he
    exact run_while rc rb F0 H0 ev σ F H E _ s hm q
  · cases he

/-! ### in, index -/
def memD (x : D) (ys : List D) : Option Bool := if SeqAt.shaped x.pd = true ∧ SeqAt.shaped (.list (D.pdL ys)) = true then some ((D.pdL ys).any fun z => PyData.eqv z x.pd) else none
def oIn : D → D → Option D
  | x, .lst ys => (memD x ys).map .bl
  | _, _ => none
def oNotIn : D → D → Option D
  | x, .lst ys => (memD x ys).map fun b => .bl (!b)
  | _, _ => none
theorem r_in : R2Ok K (rInD K) oIn := by
  intro F H x y dx dy d Q s rx ry ho q
  unfold oIn at ho
  split at ho
  · obtain ⟨b, hb, rfl⟩ := Option.map_eq_some_iff.mp ho
    obtain ⟨⟨h1, h2⟩, rfl⟩ := of_ite hb
    have z := ry.dp
    rw [D.pd] at z
    exact ⟨_, _, rx.dp, z, h1, h2, q _ F H (.refl s) (.bl _) fun _ _ => .bl _⟩
  · cases ho
theorem r_notin : R2Ok K (rNotInD K) oNotIn := by
  intro F H x y dx dy d Q s rx ry ho q
  unfold oNotIn at ho
  split at ho
  · obtain ⟨b, hb, rfl⟩ := Option.map_eq_some_iff.mp ho
    obtain ⟨⟨h1, h2⟩, rfl⟩ := of_ite hb
    have z := ry.dp
    rw [D.pd] at z
    exact ⟨_, _, rx.dp, z, h1, h2, q _ F H (.refl s) (.bl _) fun _ _ => .bl _⟩
  · cases ho
theorem units65 {A : Around} {k : Nat} (hr : Room k A) : A.units + 65 < cLine := by
  have := hr.un
  omega
def oIndex : D → D → Option D
  | .lst xs, y => if SeqAt.shaped (.list (D.pdL xs)) = true ∧ SeqAt.shaped y.pd = true then ((D.pdL xs).findIdx? fun z => PyData.eqv z y.pd).map fun j => .int (j : Nat) else none
  | _, _ => none
theorem e_index {o : Expr} {apos cpos : Pos} (hu : X.A.units + 65 < cLine) (ho : EOk X o fa f) (he : EOk X e fb g)
    (hbase : attributeBase o "index" X.env (eval o X.env) = eval o X.env := by rfl)
    (hfew : ((backTo cpos (starEach [e] X.env)).all (fun x => !x.1) && (backToKw cpos (keywordEach [] X.env)).all (fun x => x.1.isSome)
      && decide (([e] : List Expr).length + ([] : List Keyword).length + (if ([] : List Keyword).isEmpty then 0 else 1) < 30)) = true := by rfl)
    (hline : (apos.endLine == cpos.line) = true := by rfl) (h1 : starEach [e] X.env = (false, eval e X.env) :: starEach [] X.env := by rfl) (hplain : (backTo cpos (starEach [] X.env)).any (·.1) = false := by rfl) :
    EOk X (.Call (.Attribute o "index" apos) [e] [] cpos) true (c2 oIndex f g) := by
  obtain ⟨to, po, ro⟩ := ho
  obtain ⟨te, pe, re⟩ := he
  refine ⟨_, pe_bm PySem.F.plainAttrs_list PySem.F.slot_list_index PySem.F.type_list_index (mt_indexD hu) po (pa_cons pe pa_nil h1) hbase hfew hline h1 hplain, fun F0 H0 ev σ F H d Q s he q => ?_⟩
  obtain ⟨x, g1, he⟩ := Option.bind_eq_some_iff.mp he
  obtain ⟨y, g2, he⟩ := Option.bind_eq_some_iff.mp he
  refine ro F0 H0 ev σ F H x _ s g1 fun v F1 H1 x1 r1 _ => ?_
  cases x with
  | lst xs =>
    unfold oIndex at he
    simp only at he
    by_cases hs : SeqAt.shaped (.list (D.pdL xs)) = true ∧ SeqAt.shaped y.pd = true
    · rw [if_pos hs] at he
      obtain ⟨j, hj, rfl⟩ := Option.map_eq_some_iff.mp he
      obtain ⟨p, vs, rfl, h2, rr⟩ := r1.lst_inv
      refine ⟨.inl ⟨rfl, _, SqL.of h2⟩, re F0 H0 ev σ F1 H1 y _ (s.up x1) g2 fun w F2 H2 x2 r2 _ => ?_⟩
      obtain ⟨hjl, hj1, hj2⟩ := List.findIdx?_eq_some_iff_getElem.mp hj
      have z := (r1.mono x2.keep).dp
      rw [D.pd] at z
      refine ⟨p, w, y.pd, D.pdL xs, j, (D.pdL xs)[j], rfl, rfl, z, r2.dp, hs.1, hs.2, List.getElem?_eq_getElem hjl, hj1, fun m z' hm hz => ?_, q _ F2 H2 (x1.trans x2) (.int _) fun _ => .int _⟩
      obtain ⟨hml, e1⟩ := List.getElem?_eq_some_iff.mp hz
      have := hj2 m hm
      rw [e1] at this
      simpa using this
    · rw [if_neg hs] at he
      cases he
  | _ => cases he
/-- list(x), x an own list -/
theorem f_listo {i : Nat} {x y : Str} {p p2 : Pos} (hp : PE X (.Name y p2) (tVar i)) (hg : Gl X x) (hm : X.mg x = none) (hv : bootBuiltins x = some (.type "list"))
    (hn : x ≠ "__name__" := by decide) (hdb : (x == ("__debug__" : Str)) = false := by decide)
    (he : starEach [.Name y p2] X.env = (false, eval (.Name y p2) X.env) :: starEach [] X.env := by rfl) (hpl : (backTo pos (starEach [] X.env)).any (·.1) = false := by rfl) : FOk X (.Call (.Name x p) [.Name y p2] [] pos) (iOwn i) := by
  refine ⟨_, pe_callTy call_list_of hg hm hv (pa_cons hp pa_nil he) hn hdb he hpl, fun F0 H0 ev σ F H xs Q s he q => ?_⟩
  unfold iOwn at he
  split at he
  · rename_i xs h
    cases he
    obtain ⟨l, vs, h2, h3, h4, h5, h6⟩ := s.own i _ h
    exact ⟨.ref l, h2, l, vs, rfl, .inl (SqL.of h3), fun q' nq => q q' _ F _ (.allocH s.sub nq) nq (s.sub.free nq) upd_same h6⟩
  · cases he

/-! ### defs by name -/
def DefAt (K : PySem.W.Frag) (mg : Str → Option Value) (x qual : Str) (st : Stmt) : Prop := ∃ f fd, mg x = some (.ref f) ∧ Fun K qual qual st f fd
def IntAt (mg : Str → Option Value) (x : Str) (i : Int) : Prop := ∃ t, mg x = some (.int i t)
structure FnAt (P : Program) (w : World) (K : PySem.W.Frag) (mg : Str → Option Value) (base : Heap) (x : Str) (lv n : Nat) (o : List D → Option D) : Prop where
  ex : ∃ f fd ps, mg x = some (.ref f) ∧ PySem.W.keepIn K (.ref f) = true ∧ Binds K fd ps [] ∧ FnOk P w K mg base CX0 lv f fd ps (FSp K n o)
theorem fn_at {P : Program} {w : World} {K : PySem.W.Frag} {mg : Str → Option Value} {base : Heap} {x qual : Str} {st : Stmt} {N ps : List Str} {k n m : Nat} {u : EV → Option Fl} (T : DefAt K mg x qual st) (S : FnScope N ps (defScope st))
    (hn : ps.length = n) (hm : N.length - n = m)
    (hbi : ∀ (kV doc pm : Value) (an : Option Addr) (cdv ct : Value) (us : List Value), us.length = ps.length → bindArgs (PySem.W.fnOf qual qual (defArgs st) (defBody st) (defScope st) .none kV doc pm an cdv ct) ⟨us, []⟩ = pure (ps.zip us))
    (hb : ∀ (f : Addr) (cdv : Value) (A : Around) (outer : List Env) (s : Shared) (H : Hp) (E : XK), Room k (A.deeper (envOfC qual (defScope st) s.heap.objs.size f cdv)) →
      BOk (cxOf CX0 P w K mg base N qual (defScope st) f cdv A outer s H E).nox (defBody st) u) : FnAt P w K mg base x (k + 1) n (runFn n m u) := by
  obtain ⟨f, fd, h1, F⟩ := T
  exact ⟨f, fd, ps, h1, F.kp, F.binds hbi, fn_ok F S hn hm (hb f)⟩
theorem e_fn {x : Str} {p : Pos} {lv j n : Nat} {o : List D → Option D} (G : FnAt X.prog X.w X.K X.mg X.base x lv n o) (hr : Room j X.A) (hj : lv ≤ j) (hg : Gl X x) (ha : AOk X (e :: es) fz k) (hn : (e :: es).length = n)
    (hl : ∀ ev ds, k ev = some ds → ds.length = (e :: es).length) (hdb : (x == ("__debug__" : Str)) = false := by decide)
    (he : starEach (e :: es) X.env = (false, eval e X.env) :: starEach es X.env := by rfl) (hpl : (backTo pos (starEach es X.env)).any (·.1) = false := by rfl) : EOk X (.Call (.Name x p) (e :: es) [] pos) fz (cCB o k) := by
  obtain ⟨f, fd, ps, h1, h2, h3, h4⟩ := G.ex
  exact e_call h4 (hr.mono hj) hg h1 h2 h3 ha hn hdb he hpl hl
theorem e_gc {x : Str} {i : Int} (hm : IntAt X.mg x i) (hg : Gl X x) (hd : (x == ("__debug__" : Str)) = false := by decide) : EOk X (.Name x pos) true (cC (.int i)) := by
  obtain ⟨t, h⟩ := hm
  exact e_gint hg h ⟨t, rfl⟩ hd
end
end Z


set_option maxRecDepth 100000
set_option maxHeartbeats 4000000
/-! Z7: the law's own def, entered where no repr is under way; repr of data. -/
namespace Z
open PySem PySem.Spec PyProof.Rows L2

/-- a def that is entered with no guard -/
structure FnG (P : Program) (w : World) (K : PySem.W.Frag) (mg : Str → Option Value) (base : Heap) (k : Nat) (f : Addr) (fd : FuncData) (ps : List Str) (sp : Sp) : Prop where
  len : ∀ vs H Q E, sp vs H Q E → vs.length = ps.length
  run : ∀ (A : Around) (outer : List Env) (s : Shared) (H : Hp) (args : Args) (us : List Value) (vs : List V) (Q : VK) (E : XK), Room k A → A.guards = some [] → Env0 P w K mg base A outer s H →
    BindsTo s fd args (ps.zip us) → Vals vs us → sp vs H Q E → codeAny (model P w) A (.call (.ref f) args) (CR CX0 outer P w H s Q E) s
section
variable {P : Program} {w : World} {K : PySem.W.Frag} {mg : Str → Option Value} {base : Heap}
theorem fnG_of {x qual : Str} {st : Stmt} {f : Addr} {fd : FuncData} {N ps : List Str} {k : Nat} {sp : Sp} (F : Fun K x qual st f fd) (S : FnScope N ps (defScope st))
    (len : ∀ vs H Q E, sp vs H Q E → vs.length = ps.length)
    (hb : ∀ (cdv : Value) (A : Around) (outer : List Env) (s : Shared) (H : Hp) (vs : List V) (Q : VK) (E : XK), Room k (A.deeper (envOfC qual (defScope st) s.heap.objs.size f cdv)) → A.guards = some [] → sp vs H Q E →
      ∃ t, PSs (cxOf CX0 P w K mg base N qual (defScope st) f cdv A outer s H E).nox (defBody st) t ∧ t { nx := fun _ H' => Q .non H', rt := Q } (L2.start N vs) H) : FnG P w K mg base (k + 1) f fd ps sp := by
  obtain ⟨oc, od, kV, doc, pm, an, cdv, ct, osl, rfl, lk, hcd⟩ := F.ex
  constructor
  · exact len
  intro A outer s H args us vs Q E hr hgd e0 hbi rv hsp
  have hl := len vs H Q E hsp
  have kp : ∀ b o, base.get? b = some o → s.heap.get? b = some o := fun b o e => (e0.bs b o e).1
  have KX := e0.mod.kin.keeps kp
  have hk : ∀ y ∈ ps.zip us, (defScope st).names.lookup y.1 = some .local ∨ ((defScope st).names.lookup y.1 = some .cell ∧ ((cellsFrom (s.heap.objs.size + 1) (defScope st).names []).lookup y.1).isSome = true) := by
    rintro ⟨z, v⟩ hy
    cases S.par z (List.of_mem_zip hy).1 with
    | inl q => exact Or.inl q
    | inr q => exact Or.inr ⟨q, PySem.W.cellsFrom_some _ _ _ (Or.inl q)⟩
  apply codeAny_call_function hr.depth (KX _ _ lk) rfl S.co S.gen rfl (PySem.W.codeRec_of KX hcd)
  apply hbi
  apply wpAny_newFunctionEnv_cells S.kind hk
  intro env he s1 x
  subst he
  refine ⟨(e0.mod.nolimit.keeps kp).keeps x.toInCall.keep, ?_⟩
  apply codeAny_func
  obtain ⟨t, ht, hq⟩ := hb cdv A outer s H vs Q E (hr.deeper _) hgd hsp
  have I := inv_start (CX := CX0) (E := E) S hr.hd e0 hl rv x
  refine wpAny_mono (ht.nox.run [] s1 (L2.start N vs) H _ I hq) ?_ fun _ _ z => z
  intro fl s' hs
  cases fl with
  | brk => obtain ⟨_, _, _, q⟩ := hs; exact q.elim
  | cont => obtain ⟨_, _, _, q⟩ := hs; exact q.elim
  | ret u =>
    obtain ⟨v, _, H', J, rv', q⟩ := hs
    exact ⟨v, H', J.os, J.bare, J.base, J.hok, rv', q⟩
  | next =>
    obtain ⟨_, H', J, q⟩ := hs
    exact ⟨V.non, H', J.os, J.bare, J.base, J.hok, rfl, q⟩

/-- the law's call, from its promise -/
theorem lawG {mb : Str → Option Value} {k : Nat} {fa a : Addr} {fd : FuncData} {x : Str} {sp : Sp} {s₁ : Shared} {vs : List Value} {ns : List Int}
    (KX : K.In s₁.heap) (hns : s₁.heap.Ns mainGlobals mg) (hb : s₁.heap.Ns builtinsNs mb) (hbb : ∀ x : Str, x ≠ "__name__" → mb x = bootBuiltins x) (hlim : s₁.heap.NoLimit) (hg : s₁.gens = #[])
    (ha : s₁.heap.get? a = some { cls := .type "list", data := .seq vs.toArray }) (hi : IntsAre vs ns) (hl : ns.length ≤ sizeLine) (hr : Room k callerA)
    (F : ∀ base : Heap, K.In base → base.Ns mainGlobals mg → FnG P w K mg base k fa fd [x] sp) (hbind : ∀ (s : Shared) (u : Value), BindsTo s fd ⟨[u], []⟩ [(x, u)])
    (hsp : ∀ H : Hp, SqL K H a (ns.map V.int) → sp [.ref a] H (fun v _ => v = .bl true) fun _ _ _ => False) :
    codeAny (model P w) callerA (.call (.ref fa) ⟨[.ref a], []⟩) (fun r s' => r = .ok (.ret (.bool true)) ∧ OldK s₁.heap s'.heap ∧ s'.os = s₁.os ∧ AllBare s'.gens) s₁ := by
  have rv := vals_ints hi
  have lenV := hi.length
  have core : ∀ H : Hp, (∀ b, H b = none ∨ ∃ o xs, H b = some (.frz o (.lst xs))) → SqL K H a (ns.map V.int) → HOk P w H s₁.heap → (∀ b, H b ≠ none → b = a) → (H a ≠ none → K.lookup a = none) →
      codeAny (model P w) callerA (.call (.ref fa) ⟨[.ref a], []⟩) (fun r s' => r = .ok (.ret (.bool true)) ∧ OldK s₁.heap s'.heap ∧ s'.os = s₁.os ∧ AllBare s'.gens) s₁ := by
    intro H hO hS hok hA hK
    have noD : ∀ {b : Addr} {o : Obj} {es : Array DictEntry} {ep : Nat}, s₁.heap.get? b = some o → o.data = .dict es ep → H b = none := by
      intro b o es ep e d
      rcases hO b with z | ⟨o', xs, z⟩
      · exact z
      · have e' := hA b (by rw [z]; simp)
        subst e'
        rw [ha] at e
        cases e
        cases (show Data.seq vs.toArray _ = Data.dict es ep from d)
    have nsK : ∀ {b : Addr} {m : Str → Option Value}, s₁.heap.Ns b m → (hidT s₁.heap H).Ns b m := by
      rintro b m ⟨o, es, ep, e, d, r⟩
      exact ⟨o, es, ep, hidT_get e (noD e d), d, r⟩
    have hKb : K.In (hidT s₁.heap H) := by
      intro b o e
      refine hidT_get (KX b o e) ?_
      rcases hO b with z | ⟨o', xs, z⟩
      · exact z
      · have e' := hA b (by rw [z]; simp)
        subst e'
        rw [hK (by rw [z]; simp)] at e
        cases e
    have hM : Mod K mg (hidT s₁.heap H) := by
      obtain ⟨mc, h1, h2⟩ := hlim
      exact ⟨hKb, nsK hns, ⟨mb, nsK hb, hbb⟩, ⟨mc, nsK h1, h2⟩⟩
    have e0 : Env0 P w K mg (hidT s₁.heap H) callerA [] s₁ H :=
      { frames := rfl, mod := hM, bs := fun b o e => of_hidT e, bsz := Nat.le_of_eq (hidT_size _ _), funs := trivial, frf := fun b hb' => (List.not_mem_nil hb').elim, hok := hok, bare := .of_eq hg }
    have run := (F _ hKb (nsK hns)).run callerA [] s₁ H ⟨[.ref a], []⟩ [.ref a] [.ref a] _ _ hr rfl e0 (hbind s₁ (.ref a)) (.cons rfl .nil) (hsp H hS)
    refine codeAny_mono run ?_
    intro r s' h
    match r, h with
    | .ok (.ret u), h =>
      obtain ⟨v, H', os, bare, un, hok', r', q⟩ := h
      have q' : v = .bl true := q
      subst q'
      obtain rfl : u = Value.bool true := r'
      refine ⟨rfl, OldK.of_keep ?_, os, bare⟩
      intro b o e
      rcases hO b with z | ⟨ob, xs, z⟩
      · exact un.keep b o e z List.not_mem_nil List.not_mem_nil
      · obtain ⟨e1, _⟩ := hok b _ z
        obtain ⟨e2, _⟩ := hok' b _ (un.frzs b ob _ z)
        rw [e] at e1
        cases e1
        exact e2
    | .error e, h => exact (show False from h).elim
    | .ok .next, h => exact (show False from h).elim
    | .ok .brk, h => exact (show False from h).elim
    | .ok .cont, h => exact (show False from h).elim
  cases hk : K.lookup a with
  | some o =>
    have e := KX a o hk
    rw [ha] at e
    cases e
    apply core (fun _ => none) (fun _ => .inl rfl)
    · exact .inr ⟨_, vs.toArray, _, hk, rfl, rfl, rfl, by rw [List.size_toArray, lenV]; exact hl, by simpa using rv⟩
    · intro b u z
      cases (show (none : Option HO) = some u from z)
    · exact fun b z => absurd rfl z
    · exact fun z => absurd rfl z
  | none =>
    let o₁ : Obj := { cls := .type "list", data := .seq vs.toArray }
    have at_a : (fun b => if b = a then some (HO.frz o₁ (.lst (ns.map V.int))) else none : Hp) a = some (.frz o₁ (.lst (ns.map V.int))) := if_pos rfl
    have off : ∀ b, b ≠ a → (fun b => if b = a then some (HO.frz o₁ (.lst (ns.map V.int))) else none : Hp) b = none := fun b h => if_neg h
    apply core (fun b => if b = a then some (.frz o₁ (.lst (ns.map V.int))) else none)
    · intro b
      by_cases e : b = a
      · subst e
        exact .inr ⟨_, _, at_a⟩
      · exact .inl (off b e)
    · exact .inl (.inr ⟨o₁, at_a⟩)
    · intro b u z
      by_cases e : b = a
      · subst e
        have z' := at_a.symm.trans z
        cases z'
        exact ⟨ha, by rw [List.length_map]; exact hl, vs, _, rv, ha⟩
      · have z' := (off b e).symm.trans z
        cases z'
    · intro b z
      by_cases e : b = a
      · exact e
      · exact absurd (off b e) z
    · exact fun _ => hk
/-- the goal that the head leaves -/
theorem walkG {l : PySem.W.OpenLaw} {n k : Nat} {q : Program} {loose : List Str} {XP : (Str → Option Value) → Heap → Prop} {YP : World → Heap → Prop} {d : DefRec} {K : Params → PySem.W.Frag} {o : List D → Option D} {x : Str}
    (hn : l.most = some n) (hn2 : n ≤ sizeLine) (hdf : d.params.defaults = []) (hr : Room k callerA) (hY : ∀ (w : World) (h : Heap), YP w h → (K w.params).In h)
    (F : ∀ (w : World) (mg : Str → Option Value) (fa : Addr) (h : Heap), (K w.params).In h → h.Ns mainGlobals mg → mg d.name = some (.ref fa) →
      ∃ fd : FuncData, (∀ (s : Shared) (u : Value), BindsTo s fd ⟨[u], []⟩ [(x, u)]) ∧
        ∀ base : Heap, (K w.params).In base → base.Ns mainGlobals mg → FnG l.prog w (K w.params) mg base k fa fd [x] (FSp (K w.params) 1 o))
    (hsp : ∀ ns : List Int, ns.length ≤ n → o [.scr ns] = some (.bl true)) : PySem.W.WalkO q loose XP YP l.row.toRowW d [] (fun f vs => PySem.call f vs) := by
  refine Att.attach_call hn hdf ?_
  intro w s₀ s₁ mg mb fa ob pm cd doc a vs ns G Y ho hd hcd hmg hobj hints hlen hg
  have KX := hY w _ Y
  obtain ⟨fd, hb, hF⟩ := F w mg fa _ KX G.T.g hmg
  refine lawG KX G.T.g G.T.b G.T.builtins G.T.nolimit hg hobj hints (Nat.le_trans hlen hn2) hr hF hb fun H hS => ⟨rfl, H, [.scr ns], .bl true, .refl _, .cons (.scr hS) .nil, hsp ns hlen, fun v F' H' _ r => ?_⟩
  cases r
  rfl
/-- the law's def by its body -/
theorem law_ok {qual : Str} {st : Stmt} {f : Addr} {fd : FuncData} {N : List Str} {x : Str} {k m : Nat} {u : EV → Option Fl} (F : Fun K qual qual st f fd) (S : FnScope N [x] (defScope st)) (hm : N.length - 1 = m)
    (hb : ∀ (cdv : Value) (A : Around) (outer : List Env) (s : Shared) (H : Hp) (E : XK), Room k (A.deeper (envOfC qual (defScope st) s.heap.objs.size f cdv)) → A.guards = some [] →
      BOk (cxOf CX0 P w K mg base N qual (defScope st) f cdv A outer s H E).nox (defBody st) u) : FnG P w K mg base (k + 1) f fd [x] (FSp K 1 (runFn 1 m u)) := by
  refine fnG_of F S (fun vs H Q E h => h.1) fun cdv A outer s H vs Q E hr hgd h => ?_
  obtain ⟨hl, F0, ds, d, hs, r, he, q⟩ := h
  obtain ⟨t, p, run⟩ := hb cdv A outer s H E hr hgd
  refine ⟨t, p, ?_⟩
  have hds : ds.length = 1 := by rw [← r.len]; exact hl
  unfold runFn at he
  rw [if_pos hds] at he
  have s0 : SR K F0 H (evStart ds m) (L2.start N vs) F0 H := start_sr hs r (by rw [hds]; exact hm.symm)
  split at he
  · rename_i d' hu
    cases he
    exact run F0 H _ _ F0 H _ _ s0 hu fun v F' H' x rr => q v F' H' x rr
  · rename_i e' hu
    cases he
    exact run F0 H _ _ F0 H _ _ s0 hu fun σ' F' H' s' => q .non F' H' s'.ext .non
  · cases he
end

/-! ### repr -/
def reprD (d : D) : Option D := match d with
  | .lst _ => if SeqAt.shaped d.pd = true ∧ PyData.showable d.pd = true ∧ PyData.hasDict d.pd = false ∧ (PyData.shown d.pd).length ≤ 16777216 then some (.str (PyData.shown d.pd)) else none
  | .tup _ => if SeqAt.shaped d.pd = true ∧ PyData.showable d.pd = true ∧ PyData.hasDict d.pd = false ∧ (PyData.shown d.pd).length ≤ 16777216 then some (.str (PyData.shown d.pd)) else none
  | _ => none
def bRepr : List D → Option D
  | [d] => reprD d
  | _ => none
def rReprD (K : PySem.W.Frag) : List V → Hp → VK → Prop := fun xs H Q => ∃ a d, xs = [.ref a] ∧ Dp K H (.ref a) d ∧ SeqAt.shaped d = true ∧ PyData.showable d = true ∧ PyData.hasDict d = false ∧ (PyData.shown d).length ≤ sizeLine ∧ Q (.str (PyData.shown d)) H
theorem call_reprD {X : Cx} (hu : X.A.units + 100 < cLine) (hg : X.A.guards = some []) : CallR X (.builtin "repr") (rReprD X.K) := by
  intro pins s σ H vs us Q I r h
  obtain ⟨a, d, rfl, hd, h1, h2, h3, h4, q⟩ := h
  obtain ⟨as, hr⟩ := hd.reads I d (.ref a) (.ref a) rfl
  obtain ⟨u, rfl, ru⟩ := vals1 r
  cases ru
  have hdep : d.depth ≤ 64 := by
    have := h1
    unfold SeqAt.shaped at this
    rw [Bool.and_eq_true] at this
    exact of_decide_eq_true this.2
  exact repr_of_reads' hr h2 (fun z => by rw [h3] at z; cases z) hg (by omega) (fun _ _ e => e) (fun h' t tk hk => ⟨.str _, H, I.kept hk, ⟨_, rfl⟩, q⟩) h4
theorem r_repr {K : PySem.W.Frag} : CROk K (rReprD K) bRepr := by
  intro F H vs ds d Q s r ho q
  match ds, ho, r with
  | [x], ho, r =>
    obtain ⟨v, rfl, r0⟩ := r.one
    have ho : reprD x = some d := ho
    cases x with
    | lst xs =>
      obtain ⟨⟨h1, h2, h3, h4⟩, rfl⟩ := of_ite ho
      obtain ⟨a, ws, rfl, g1, rr⟩ := r0.lst_inv
      exact ⟨a, _, rfl, r0.dp, h1, h2, h3, by rw [sizeLine_eq]; exact h4, q _ F H (.refl s) (.str _) fun _ => .str _⟩
    | tup xs =>
      obtain ⟨⟨h1, h2, h3, h4⟩, rfl⟩ := of_ite ho
      obtain ⟨a, ws, rfl, g1, rr⟩ := r0.tup_inv
      exact ⟨a, _, rfl, r0.dp, h1, h2, h3, by rw [sizeLine_eq]; exact h4, q _ F H (.refl s) (.str _) fun _ => .str _⟩
    | _ => cases ho
  | [], ho, _ => cases ho
  | _ :: _ :: _, ho, _ => cases ho
/-- what the top has written -/
theorem def_mk {K : PySem.W.Frag} {h : Heap} {mg : Str → Option Value} {x qual : Str} {st : Stmt} (X : K.In h) (G : h.Ns mainGlobals mg) {f : Addr} {oc : Value} {od an : Option Addr} {sl : Array (Option Value)} {kV dc pm cd ct : Value}
    (a : PySem.W.nsIn K mainGlobals x = some (some (.ref f))) (l : K.lookup f = some ⟨oc, od, .func (PySem.W.fnOf qual qual (defArgs st) (defBody st) (defScope st) .none kV dc pm an cd ct), sl⟩) (c : PySem.W.codeIn K cd qual = true)
    (k : PySem.W.keepIn K (.ref f) = true) : DefAt K mg x qual st := ⟨f, _, PySem.W.mg_of X G a, fun_mk l c k⟩
theorem int_mk {K : PySem.W.Frag} {h : Heap} {mg : Str → Option Value} {x : Str} {i : Int} {t : Tok} (X : K.In h) (G : h.Ns mainGlobals mg) (a : PySem.W.nsIn K mainGlobals x = some (some (.int i t))) : IntAt mg x i := ⟨t, PySem.W.mg_of X G a⟩
theorem units100 {A : Around} {k : Nat} (hr : Room k A) : A.units + 100 < cLine := by
  have := hr.un
  omega
end Z


set_option maxRecDepth 100000
set_option maxHeartbeats 4000000
namespace K65
open PySem PySem.Spec PyProof.Rows L2 Z
def topS (i : Nat) : Stmt := PySem.Challenge.pw_waysflooded_k65_main_what_holds_of_conta.main.body.getD i (.Pass ⟨0, 0, 0, 0⟩)
structure Txt (K : PySem.W.Frag) (mg : Str → Option Value) : Prop where
  d_is_contact : DefAt K mg "is_contact" "is_contact" (topS 12)
  d_check_router : DefAt K mg "check_router" "check_router" (topS 14)
  d_check_tick : DefAt K mg "check_tick" "check_tick" (topS 15)
  d_leaves_at : DefAt K mg "leaves_at" "leaves_at" (topS 16)
  d_sooner : DefAt K mg "sooner" "sooner" (topS 17)
  d__law_draws : DefAt K mg "_law_draws" "_law_draws" (topS 29)
  d__law_mix : DefAt K mg "_law_mix" "_law_mix" (topS 30)
  d__law_after : DefAt K mg "_law_after" "_law_after" (topS 32)
  d__law_kept : DefAt K mg "_law_kept" "_law_kept" (topS 33)
  d_check_contacts : DefAt K mg "check_contacts" "check_contacts" (topS 13)
  d_next_row : DefAt K mg "next_row" "next_row" (topS 18)
  d_by_which : DefAt K mg "by_which" "by_which" (topS 25)
  d__law_contacts : DefAt K mg "_law_contacts" "_law_contacts" (topS 31)
  d_rows_of : DefAt K mg "rows_of" "rows_of" (topS 19)
  d_check_all : DefAt K mg "check_all" "check_all" (topS 20)
  d_latest : DefAt K mg "latest" "latest" (topS 27)
  d_foremost : DefAt K mg "foremost" "foremost" (topS 21)
  d_is_foremost : DefAt K mg "is_foremost" "is_foremost" (topS 22)
  d_within : DefAt K mg "within" "within" (topS 23)
  d_journey : DefAt K mg "journey" "journey" (topS 26)
  d_law : DefAt K mg "law" "law" (topS 34)
  c_MOST_CONTACTS : IntAt mg "MOST_CONTACTS" 40
  c_MOST_DELAY : IntAt mg "MOST_DELAY" 1000
  c_MOST_ROUTERS : IntAt mg "MOST_ROUTERS" 16
  c_MOST_START : IntAt mg "MOST_START" 20000
  c_MOST_TICK : IntAt mg "MOST_TICK" 10000
  n_abs : mg "abs" = none
  n_all : mg "all" = none
  n_enumerate : mg "enumerate" = none
  n_int : mg "int" = none
  n_len : mg "len" = none
  n_list : mg "list" = none
  n_max : mg "max" = none
  n_min : mg "min" = none
  n_range : mg "range" = none
  n_repr : mg "repr" = none
/-! ### is_contact -/
abbrev st_is_contact : Stmt := topS 12
theorem sc_is_contact : FnScope ["routers", "told", "router"] ["routers", "told"] (defScope st_is_contact) := ⟨rfl, rfl, rfl, by decide +kernel, rfl, by decide +kernel, by decide +kernel⟩
noncomputable def is_contact_s1 : EV → Option Fl :=
(sIf (tOrZ (tOf (c2 oNe (cCB bLen (aCons (cVar 1) aNil)) (cC (.int 5)))) (tOf (c2 oEq (c2 oIx (cVar 1) (cC (.int 0))) (c2 oIx (cVar 1) (cC (.int 1))))))
(sRet (cC (.bl false)))
sNx)
noncomputable def is_contact_e1 : EV → Option D :=
(cCh (cC (.int 0)) (chLink oLe (cVar 2) (chLast oLt (cVar 0))))
noncomputable def is_contact_s2 : EV → Option Fl :=
(sIf (tNotZ (tTru (cCB bAll (aCons (cLst (kComp (iTuple (cSlT (cVar 1) pNo (pAt (cC (.int 2))))) (mName 2) (fun _ => some true) is_contact_e1 [2])) aNil))))
(sRet (cC (.bl false)))
sNx)
noncomputable def is_contact_s3 : EV → Option Fl :=
(sRet (cAnd (cCh (cC (.int 0)) (chLink oLe (c2 oIx (cVar 1) (cC (.int 2))) (chLink oLe (c2 oIx (cVar 1) (cC (.int 3))) (chLast oLe (cC (.int 10000)))))) (cCh (cC (.int 1)) (chLink oLe (c2 oIx (cVar 1) (cC (.int 4))) (chLast oLe (cC (.int 1000)))))))
noncomputable def body_is_contact : EV → Option Fl :=
(sSeq is_contact_s1
(sSeq is_contact_s2
is_contact_s3))
noncomputable def m_is_contact : List D → Option D := runFn 2 1 body_is_contact
theorem ok_is_contact {P : Program} {w : World} {K : PySem.W.Frag} {mg : Str → Option Value} {base : Heap} (T : Txt K mg) : FnAt P w K mg base "is_contact" 1 2 m_is_contact := by
  refine fn_at (N := ["routers", "told", "router"]) (ps := ["routers", "told"]) T.d_is_contact sc_is_contact rfl rfl (fun _ _ _ _ _ _ us hl => match us, hl with | [_, _], _ => rfl) fun f cdv A outer s H E hr => ?_
  exact (b_cons (s_if (t_w (w_or (t_cmp (op_neD hr.units) r_ne (e_cb call_len_seq cr_len (by rfl) T.n_len boot_len (a_cons (fa := true) (fb := true) (e_var (pv 1)) a_nil)) e_int) (w_or1 (t_cmp (op_eqD hr.units) r_eq (e_ix (fa := true) (fb := true) (e_var (pv 1)) e_int) (e_ix (fa := true) (fb := true) (e_var (pv 1)) e_int)))))
(b_one (s_ret e_bl))
b_nil)
(b_cons (s_if (t_not (t_tru (e_cb (cr_all rfl) r_all (by rfl) T.n_all boot_all (a_cons (fa := true) (fb := true) (e_f (f_lc (own := [("router", 2)]) rfl sc_is_contact.nd (i_tup (e_slT (e_var (pv 1)) p_no (p_at e_int))) (by kernel_rfl) (gB fun _ _ _ _ _ => (g_name (pg_name sc_is_contact.nd rfl (Or.inl rfl)))) (tsB fun _ _ _ _ _ => ts_nil) (eB fun _ _ _ _ _ => (e_chn e_int (ch_link op_le r_le (e_var (pv 2)) (ch_last op_lt r_lt (e_var (pv 0)))))))) a_nil))))
(b_one (s_ret e_bl))
b_nil)
(b_one (s_ret (e_and (fa := true) (fb := true) (e_chn e_int (ch_link op_le r_le (e_ix (fa := true) (fb := true) (e_var (pv 1)) e_int) (ch_link op_le r_le (e_ix (fa := true) (fb := true) (e_var (pv 1)) e_int) (ch_last op_le r_le (e_gc T.c_MOST_TICK (by rfl)))))) (e_one (e_chn e_int (ch_link op_le r_le (e_ix (fa := true) (fb := true) (e_var (pv 1)) e_int) (ch_last op_le r_le (e_gc T.c_MOST_DELAY (by rfl)))))))))))
/-! ### check_router -/
abbrev st_check_router : Stmt := topS 14
theorem sc_check_router : FnScope ["routers", "router"] ["routers", "router"] (defScope st_check_router) := ⟨rfl, rfl, rfl, by decide +kernel, rfl, by decide +kernel, by decide +kernel⟩
noncomputable def check_router_s1 : EV → Option Fl :=
(sIf (tNotZ (tOf (cCh (cC (.int 0)) (chLink oLe (cVar 1) (chLast oLt (cVar 0))))))
sNo
sNx)
noncomputable def body_check_router : EV → Option Fl :=
check_router_s1
noncomputable def m_check_router : List D → Option D := runFn 2 0 body_check_router
theorem ok_check_router {P : Program} {w : World} {K : PySem.W.Frag} {mg : Str → Option Value} {base : Heap} (T : Txt K mg) : FnAt P w K mg base "check_router" 1 2 m_check_router := by
  refine fn_at (N := ["routers", "router"]) (ps := ["routers", "router"]) T.d_check_router sc_check_router rfl rfl (fun _ _ _ _ _ _ us hl => match us, hl with | [_, _], _ => rfl) fun f cdv A outer s H E hr => ?_
  exact (b_one (s_if (t_not (t_chn e_int (th_link op_le r_le (e_var (pv 1)) (th_last op_lt r_lt (e_var (pv 0))))))
(b_one s_never)
b_nil))
/-! ### check_tick -/
abbrev st_check_tick : Stmt := topS 15
theorem sc_check_tick : FnScope ["tick"] ["tick"] (defScope st_check_tick) := ⟨rfl, rfl, rfl, by decide +kernel, rfl, by decide +kernel, by decide +kernel⟩
noncomputable def check_tick_s1 : EV → Option Fl :=
(sIf (tNotZ (tOf (cCh (cC (.int 0)) (chLink oLe (cVar 0) (chLast oLe (cC (.int 20000)))))))
sNo
sNx)
noncomputable def body_check_tick : EV → Option Fl :=
check_tick_s1
noncomputable def m_check_tick : List D → Option D := runFn 1 0 body_check_tick
theorem ok_check_tick {P : Program} {w : World} {K : PySem.W.Frag} {mg : Str → Option Value} {base : Heap} (T : Txt K mg) : FnAt P w K mg base "check_tick" 1 1 m_check_tick := by
  refine fn_at (N := ["tick"]) (ps := ["tick"]) T.d_check_tick sc_check_tick rfl rfl (fun _ _ _ _ _ _ us hl => match us, hl with | [_], _ => rfl) fun f cdv A outer s H E hr => ?_
  exact (b_one (s_if (t_not (t_chn e_int (th_link op_le r_le (e_var (pv 0)) (th_last op_le r_le (e_gc T.c_MOST_START (by rfl))))))
(b_one s_never)
b_nil))
/-! ### leaves_at -/
abbrev st_leaves_at : Stmt := topS 16
theorem sc_leaves_at : FnScope ["contact", "tick"] ["contact", "tick"] (defScope st_leaves_at) := ⟨rfl, rfl, rfl, by decide +kernel, rfl, by decide +kernel, by decide +kernel⟩
noncomputable def leaves_at_s1 : EV → Option Fl :=
(sRet (cIf (tAndZ (tOf (c2 oIsNot (cVar 1) (cC .non))) (tOf (c2 oLe (cVar 1) (c2 oIx (cVar 0) (cC (.int 3)))))) (cCB bMax (aCons (cVar 1) (aCons (c2 oIx (cVar 0) (cC (.int 2))) aNil))) (cC .non)))
noncomputable def body_leaves_at : EV → Option Fl :=
leaves_at_s1
noncomputable def m_leaves_at : List D → Option D := runFn 2 0 body_leaves_at
theorem ok_leaves_at {P : Program} {w : World} {K : PySem.W.Frag} {mg : Str → Option Value} {base : Heap} (T : Txt K mg) : FnAt P w K mg base "leaves_at" 1 2 m_leaves_at := by
  refine fn_at (N := ["contact", "tick"]) (ps := ["contact", "tick"]) T.d_leaves_at sc_leaves_at rfl rfl (fun _ _ _ _ _ _ us hl => match us, hl with | [_, _], _ => rfl) fun f cdv A outer s H E hr => ?_
  exact (b_one (s_ret (e_if (fa := true) (fb := true) (t_w (w_and (t_cmp op_isnot r_isnot (e_var (pv 1)) e_non) (w_and1 (t_cmp op_le r_le (e_var (pv 1)) (e_ix (fa := true) (fb := true) (e_var (pv 0)) e_int))))) (e_cb (call_max2 rfl) cr_max2 (by rfl) T.n_max boot_max (a_cons (fa := true) (fb := true) (e_var (pv 1)) (a_cons (fa := true) (fb := true) (e_ix (fa := true) (fb := true) (e_var (pv 0)) e_int) a_nil))) e_non)))
/-! ### sooner -/
abbrev st_sooner : Stmt := topS 17
theorem sc_sooner : FnScope ["one", "two"] ["one", "two"] (defScope st_sooner) := ⟨rfl, rfl, rfl, by decide +kernel, rfl, by decide +kernel, by decide +kernel⟩
noncomputable def sooner_s1 : EV → Option Fl :=
(sIf (tOrZ (tOf (c2 oIs (cVar 0) (cC .non))) (tOf (c2 oIs (cVar 1) (cC .non))))
(sRet (cIf (tOf (c2 oIs (cVar 0) (cC .non))) (cVar 1) (cVar 0)))
sNx)
noncomputable def sooner_s2 : EV → Option Fl :=
(sRet (cCB bMin (aCons (cVar 0) (aCons (cVar 1) aNil))))
noncomputable def body_sooner : EV → Option Fl :=
(sSeq sooner_s1
sooner_s2)
noncomputable def m_sooner : List D → Option D := runFn 2 0 body_sooner
theorem ok_sooner {P : Program} {w : World} {K : PySem.W.Frag} {mg : Str → Option Value} {base : Heap} (T : Txt K mg) : FnAt P w K mg base "sooner" 1 2 m_sooner := by
  refine fn_at (N := ["one", "two"]) (ps := ["one", "two"]) T.d_sooner sc_sooner rfl rfl (fun _ _ _ _ _ _ us hl => match us, hl with | [_, _], _ => rfl) fun f cdv A outer s H E hr => ?_
  exact (b_cons (s_if (t_w (w_or (t_cmp op_isN r_is (e_var (pv 0)) e_non) (w_or1 (t_cmp op_isN r_is (e_var (pv 1)) e_non))))
(b_one (s_ret (e_if (fa := true) (fb := true) (t_cmp op_isN r_is (e_var (pv 0)) e_non) (e_var (pv 1)) (e_var (pv 0)))))
b_nil)
(b_one (s_ret (e_cb (call_min2 rfl) cr_min2 (by rfl) T.n_min boot_min (a_cons (fa := true) (fb := true) (e_var (pv 0)) (a_cons (fa := true) (fb := true) (e_var (pv 1)) a_nil))))))
/-! ### _law_draws -/
abbrev st__law_draws : Stmt := topS 29
theorem sc__law_draws : FnScope ["script", "draws", "k", "rest", "turn", "stirred"] ["script"] (defScope st__law_draws) := ⟨rfl, rfl, rfl, by decide +kernel, rfl, by decide +kernel, by decide +kernel⟩
noncomputable def _law_draws_s1 : EV → Option Fl :=
(sSetL 1 (lO (kList aNil)))
noncomputable def _law_draws_b1 : EV → Option Fl :=
(sIf (tOf (c2 oGt (cVar 3) (cC (.int 0))))
(sSeq (sApp 1 (c2 oMod (cCB bInt (aCons (cVar 3) aNil)) (cC (.int 65536))))
(sSetL 3 (lF (c2 oDiv (cVar 3) (cC (.int 65536))))))
sNx)
noncomputable def _law_draws_b2 : EV → Option Fl :=
(sSeq (sSetL 3 (lF (cCB bAbs (aCons (c2 oIx (cVar 0) (cVar 2)) aNil))))
(sIf (tOf (c2 oGe (cVar 3) (c2 oPow (cC (.int 10)) (cC (.int 18)))))
(sFor (iR1 (aCons (cC (.int 60)) aNil)) (mName 4)
_law_draws_b1)
(sSeq (sSetL 5 (lF (c2 oMod (cCB bInt (aCons (c2 oAdd (c2 oMul (cVar 3) (cC (.int 48271))) (c2 oMul (c2 oAdd (cVar 2) (cC (.int 1))) (cC (.int 69621)))) aNil)) (cC (.int 2147483647)))))
(sSeq (sSetL 5 (lF (c2 oMod (cCB bInt (aCons (c2 oAdd (c2 oAdd (c2 oMul (cVar 5) (cC (.int 16807))) (c2 oMul (cC (.int 11)) (cVar 2))) (cC (.int 5))) aNil)) (cC (.int 2147483629)))))
(sSeq (sApp 1 (c2 oMod (cCB bInt (aCons (cVar 5) aNil)) (cC (.int 65536))))
(sApp 1 (c2 oMod (cCB bInt (aCons (c2 oDiv (cVar 5) (cC (.int 65536))) aNil)) (cC (.int 32768)))))))))
noncomputable def _law_draws_s2 : EV → Option Fl :=
(sFor (iR1 (aCons (cCB bMin (aCons (cC (.int 63)) (aCons (cCB bLen (aCons (cVar 0) aNil)) aNil))) aNil)) (mName 2)
_law_draws_b2)
noncomputable def _law_draws_s3 : EV → Option Fl :=
(sFrz 1 (sRet (cVar 1)))
noncomputable def body__law_draws : EV → Option Fl :=
(sSeq _law_draws_s1
(sSeq _law_draws_s2
_law_draws_s3))
noncomputable def m__law_draws : List D → Option D := runFn 1 5 body__law_draws
theorem ok__law_draws {P : Program} {w : World} {K : PySem.W.Frag} {mg : Str → Option Value} {base : Heap} (T : Txt K mg) : FnAt P w K mg base "_law_draws" 1 1 m__law_draws := by
  refine fn_at (N := ["script", "draws", "k", "rest", "turn", "stirred"]) (ps := ["script"]) T.d__law_draws sc__law_draws rfl rfl (fun _ _ _ _ _ _ us hl => match us, hl with | [_], _ => rfl) fun f cdv A outer s H E hr => ?_
  exact (b_cons (s_set sc__law_draws.nd rfl (Or.inl rfl) (r_f (f_lst a_nil)))
(b_cons (s_for PassesOwn.never rfl (i_range1 (by rfl) T.n_range (a_cons (fa := true) (fb := true) (e_cb (call_min2 rfl) cr_min2 (by rfl) T.n_min boot_min (a_cons (fa := true) (fb := true) e_int (a_cons (fa := true) (fb := true) (e_cb call_len_seq cr_len (by rfl) T.n_len boot_len (a_cons (fa := true) (fb := true) (e_var (pv 0)) a_nil)) a_nil))) a_nil)) (g_name (pg_name sc__law_draws.nd rfl (Or.inl rfl)))
(b_cons (s_set sc__law_draws.nd rfl (Or.inl rfl) (r_e (e_cb call_abs cr_abs (by rfl) T.n_abs boot_abs (a_cons (fa := true) (fb := true) (e_ix (fa := true) (fb := true) (e_var (pv 0)) (e_var (pv 2))) a_nil))))
(b_one (s_if (t_cmp op_ge r_ge (e_var (pv 3)) (e_op (fa := true) (fb := true) op_pow r_pow e_int e_int))
(b_one (s_for PassesOwn.never rfl (i_range1 (by rfl) T.n_range (a_cons (fa := true) (fb := true) e_int a_nil)) (g_name (pg_name sc__law_draws.nd rfl (Or.inl rfl)))
(b_one (s_if (t_cmp op_gt r_gt (e_var (pv 3)) e_int)
(b_cons (s_app (pv 1) (e_op (fa := true) (fb := true) op_mod r_mod (e_cty call_int1 cr_int (by rfl) T.n_int PyProof.Rows.boot_int (a_cons (fa := true) (fb := true) (e_var (pv 3)) a_nil)) e_int))
(b_one (s_set sc__law_draws.nd rfl (Or.inl rfl) (r_e (e_op (fa := true) (fb := true) op_fdiv r_div (e_var (pv 3)) e_int)))))
b_nil))))
(b_cons (s_set sc__law_draws.nd rfl (Or.inl rfl) (r_e (e_op (fa := true) (fb := true) op_mod r_mod (e_cty call_int1 cr_int (by rfl) T.n_int PyProof.Rows.boot_int (a_cons (fa := true) (fb := true) (e_op (fa := true) (fb := true) op_add r_add (e_op (fa := true) (fb := true) op_mul r_mul (e_var (pv 3)) e_int) (e_op (fa := true) (fb := true) op_mul r_mul (e_op (fa := true) (fb := true) op_add r_add (e_var (pv 2)) e_int) e_int)) a_nil)) e_int)))
(b_cons (s_set sc__law_draws.nd rfl (Or.inl rfl) (r_e (e_op (fa := true) (fb := true) op_mod r_mod (e_cty call_int1 cr_int (by rfl) T.n_int PyProof.Rows.boot_int (a_cons (fa := true) (fb := true) (e_op (fa := true) (fb := true) op_add r_add (e_op (fa := true) (fb := true) op_add r_add (e_op (fa := true) (fb := true) op_mul r_mul (e_var (pv 5)) e_int) (e_op (fa := true) (fb := true) op_mul r_mul e_int (e_var (pv 2)))) e_int) a_nil)) e_int)))
(b_cons (s_app (pv 1) (e_op (fa := true) (fb := true) op_mod r_mod (e_cty call_int1 cr_int (by rfl) T.n_int PyProof.Rows.boot_int (a_cons (fa := true) (fb := true) (e_var (pv 5)) a_nil)) e_int))
(b_one (s_app (pv 1) (e_op (fa := true) (fb := true) op_mod r_mod (e_cty call_int1 cr_int (by rfl) T.n_int PyProof.Rows.boot_int (a_cons (fa := true) (fb := true) (e_op (fa := true) (fb := true) op_fdiv r_div (e_var (pv 5)) e_int) a_nil)) e_int))))))))))
(b_one (s_frz 1 (s_ret (e_var (pv 1)))))))
/-! ### _law_mix -/
abbrev st__law_mix : Stmt := topS 30
theorem sc__law_mix : FnScope ["draws", "k", "many", "cell"] ["draws", "k", "many"] (defScope st__law_mix) := ⟨rfl, rfl, rfl, by decide +kernel, rfl, by decide +kernel, by decide +kernel⟩
noncomputable def _law_mix_s1 : EV → Option Fl :=
(sSetL 3 (lF (cC (.int 0))))
noncomputable def _law_mix_s2 : EV → Option Fl :=
(sIf (tOf (c2 oGt (cCB bLen (aCons (cVar 0) aNil)) (cC (.int 0))))
(sSetL 3 (lF (c2 oIx (cVar 0) (c2 oMod (cCB bInt (aCons (cVar 1) aNil)) (cCB bLen (aCons (cVar 0) aNil))))))
sNx)
noncomputable def _law_mix_s3 : EV → Option Fl :=
(sIf (tOf (c2 oLt (cVar 1) (cCB bLen (aCons (cVar 0) aNil))))
(sRet (c2 oMod (cCB bInt (aCons (cVar 3) aNil)) (cVar 2)))
sNx)
noncomputable def _law_mix_s4 : EV → Option Fl :=
(sRet (c2 oMod (cCB bInt (aCons (c2 oDiv (cCB bInt (aCons (c2 oAdd (c2 oMul (cVar 3) (cC (.int 7919))) (c2 oMul (cVar 1) (cC (.int 104729)))) aNil)) (cC (.int 3))) aNil)) (cVar 2)))
noncomputable def body__law_mix : EV → Option Fl :=
(sSeq _law_mix_s1
(sSeq _law_mix_s2
(sSeq _law_mix_s3
_law_mix_s4)))
noncomputable def m__law_mix : List D → Option D := runFn 3 1 body__law_mix
theorem ok__law_mix {P : Program} {w : World} {K : PySem.W.Frag} {mg : Str → Option Value} {base : Heap} (T : Txt K mg) : FnAt P w K mg base "_law_mix" 1 3 m__law_mix := by
  refine fn_at (N := ["draws", "k", "many", "cell"]) (ps := ["draws", "k", "many"]) T.d__law_mix sc__law_mix rfl rfl (fun _ _ _ _ _ _ us hl => match us, hl with | [_, _, _], _ => rfl) fun f cdv A outer s H E hr => ?_
  exact (b_cons (s_set sc__law_mix.nd rfl (Or.inl rfl) (r_e e_int))
(b_cons (s_if (t_cmp op_gt r_gt (e_cb call_len_seq cr_len (by rfl) T.n_len boot_len (a_cons (fa := true) (fb := true) (e_var (pv 0)) a_nil)) e_int)
(b_one (s_set sc__law_mix.nd rfl (Or.inl rfl) (r_e (e_ix (fa := true) (fb := true) (e_var (pv 0)) (e_op (fa := true) (fb := true) op_mod r_mod (e_cty call_int1 cr_int (by rfl) T.n_int PyProof.Rows.boot_int (a_cons (fa := true) (fb := true) (e_var (pv 1)) a_nil)) (e_cb call_len_seq cr_len (by rfl) T.n_len boot_len (a_cons (fa := true) (fb := true) (e_var (pv 0)) a_nil)))))))
b_nil)
(b_cons (s_if (t_cmp op_lt r_lt (e_var (pv 1)) (e_cb call_len_seq cr_len (by rfl) T.n_len boot_len (a_cons (fa := true) (fb := true) (e_var (pv 0)) a_nil)))
(b_one (s_ret (e_op (fa := true) (fb := true) op_mod r_mod (e_cty call_int1 cr_int (by rfl) T.n_int PyProof.Rows.boot_int (a_cons (fa := true) (fb := true) (e_var (pv 3)) a_nil)) (e_var (pv 2)))))
b_nil)
(b_one (s_ret (e_op (fa := true) (fb := true) op_mod r_mod (e_cty call_int1 cr_int (by rfl) T.n_int PyProof.Rows.boot_int (a_cons (fa := true) (fb := true) (e_op (fa := true) (fb := true) op_fdiv r_div (e_cty call_int1 cr_int (by rfl) T.n_int PyProof.Rows.boot_int (a_cons (fa := true) (fb := true) (e_op (fa := true) (fb := true) op_add r_add (e_op (fa := true) (fb := true) op_mul r_mul (e_var (pv 3)) e_int) (e_op (fa := true) (fb := true) op_mul r_mul (e_var (pv 1)) e_int)) a_nil)) e_int) a_nil)) (e_var (pv 2))))))))
/-! ### _law_after -/
abbrev st__law_after : Stmt := topS 32
theorem sc__law_after : FnScope ["one", "two"] ["one", "two"] (defScope st__law_after) := ⟨rfl, rfl, rfl, by decide +kernel, rfl, by decide +kernel, by decide +kernel⟩
noncomputable def _law_after_s1 : EV → Option Fl :=
(sRet (cOr (c2 oIs (cVar 0) (cC .non)) (cAnd (c2 oIsNot (cVar 1) (cC .non)) (c2 oGe (cVar 0) (cVar 1)))))
noncomputable def body__law_after : EV → Option Fl :=
_law_after_s1
noncomputable def m__law_after : List D → Option D := runFn 2 0 body__law_after
theorem ok__law_after {P : Program} {w : World} {K : PySem.W.Frag} {mg : Str → Option Value} {base : Heap} (T : Txt K mg) : FnAt P w K mg base "_law_after" 1 2 m__law_after := by
  refine fn_at (N := ["one", "two"]) (ps := ["one", "two"]) T.d__law_after sc__law_after rfl rfl (fun _ _ _ _ _ _ us hl => match us, hl with | [_, _], _ => rfl) fun f cdv A outer s H E hr => ?_
  exact (b_one (s_ret (e_or (fa := true) (fb := true) (e_cmp (fa := true) (fb := true) op_isN r_is (e_var (pv 0)) e_non) (e_one (e_and (fa := true) (fb := true) (e_cmp (fa := true) (fb := true) op_isnot r_isnot (e_var (pv 1)) e_non) (e_one (e_cmp (fa := true) (fb := true) op_ge r_ge (e_var (pv 0)) (e_var (pv 1)))))))))
/-! ### _law_kept -/
abbrev st__law_kept : Stmt := topS 33
theorem sc__law_kept : FnScope ["contacts", "start", "tick", "goal", "told", "here", "now", "k", "leaves", "one", "two", "first", "last", "delay"] ["contacts", "start", "tick", "goal", "told"] (defScope st__law_kept) := ⟨rfl, rfl, rfl, by decide +kernel, rfl, by decide +kernel, by decide +kernel⟩
noncomputable def _law_kept_s1 : EV → Option Fl :=
(sPar 5 6 (lF (cVar 1)) (lF (cVar 2)))
noncomputable def _law_kept_b1 : EV → Option Fl :=
(sSeq (sAsg (c2 oIx (cVar 0) (cVar 7)) (mTup (mCons (mName 9) (mCons (mName 10) (mCons (mName 11) (mCons (mName 12) (mCons (mName 13) mNil)))))))
(sSeq (sIf (tOrZ (tOf (c2 oNe (cVar 9) (cVar 5))) (tNotZ (tOf (cCh (cCB bMax (aCons (cVar 6) (aCons (cVar 11) aNil))) (chLink oLe (cVar 8) (chLast oLe (cVar 12)))))))
(sRet (cC (.bl false)))
sNx)
(sPar 5 6 (lF (cVar 10)) (lF (c2 oAdd (cVar 8) (cVar 13))))))
noncomputable def _law_kept_s2 : EV → Option Fl :=
(sFor (iLst (cVar 4)) (mTup (mCons (mName 7) (mCons (mName 8) mNil)))
_law_kept_b1)
noncomputable def _law_kept_s3 : EV → Option Fl :=
(sRet (c2 oEq (cVar 5) (cVar 3)))
noncomputable def body__law_kept : EV → Option Fl :=
(sSeq _law_kept_s1
(sSeq _law_kept_s2
_law_kept_s3))
noncomputable def m__law_kept : List D → Option D := runFn 5 9 body__law_kept
theorem ok__law_kept {P : Program} {w : World} {K : PySem.W.Frag} {mg : Str → Option Value} {base : Heap} (T : Txt K mg) : FnAt P w K mg base "_law_kept" 1 5 m__law_kept := by
  refine fn_at (N := ["contacts", "start", "tick", "goal", "told", "here", "now", "k", "leaves", "one", "two", "first", "last", "delay"]) (ps := ["contacts", "start", "tick", "goal", "told"]) T.d__law_kept sc__law_kept rfl rfl (fun _ _ _ _ _ _ us hl => match us, hl with | [_, _, _, _, _], _ => rfl) fun f cdv A outer s H E hr => ?_
  exact (b_cons (s_par rfl sc__law_kept.nd rfl rfl (by decide) rfl rfl (r_e (e_var (pv 1))) (r_e (e_var (pv 2))) (by rfl))
(b_cons (s_for PassesOwn.never rfl (i_list (e_var (pv 4))) (g_tup rfl (gs_cons (g_name (pg_name sc__law_kept.nd rfl (Or.inl rfl))) (gs_cons (g_name (pg_name sc__law_kept.nd rfl (Or.inl rfl))) gs_nil)))
(b_cons (s_asg (e_ix (fa := true) (fb := true) (e_var (pv 0)) (e_var (pv 7))) (g_tup rfl (gs_cons (g_name (pg_name sc__law_kept.nd rfl (Or.inl rfl))) (gs_cons (g_name (pg_name sc__law_kept.nd rfl (Or.inl rfl))) (gs_cons (g_name (pg_name sc__law_kept.nd rfl (Or.inl rfl))) (gs_cons (g_name (pg_name sc__law_kept.nd rfl (Or.inl rfl))) (gs_cons (g_name (pg_name sc__law_kept.nd rfl (Or.inl rfl))) gs_nil)))))))
(b_cons (s_if (t_w (w_or (t_cmp (op_neD hr.units) r_ne (e_var (pv 9)) (e_var (pv 5))) (w_or1 (t_not (t_chn (e_cb (call_max2 rfl) cr_max2 (by rfl) T.n_max boot_max (a_cons (fa := true) (fb := true) (e_var (pv 6)) (a_cons (fa := true) (fb := true) (e_var (pv 11)) a_nil))) (th_link op_le r_le (e_var (pv 8)) (th_last op_le r_le (e_var (pv 12)))))))))
(b_one (s_ret e_bl))
b_nil)
(b_one (s_par rfl sc__law_kept.nd rfl rfl (by decide) rfl rfl (r_e (e_var (pv 10))) (r_e (e_op (fa := true) (fb := true) op_add r_add (e_var (pv 8)) (e_var (pv 13)))) (by rfl))))))
(b_one (s_ret (e_cmp (fa := true) (fb := true) (op_eqD hr.units) r_eq (e_var (pv 5)) (e_var (pv 3)))))))
/-! ### check_contacts -/
abbrev st_check_contacts : Stmt := topS 13
theorem sc_check_contacts : FnScope ["routers", "contacts", "k", "told"] ["routers", "contacts"] (defScope st_check_contacts) := ⟨rfl, rfl, rfl, by decide +kernel, rfl, by decide +kernel, by decide +kernel⟩
noncomputable def check_contacts_s1 : EV → Option Fl :=
(sIf (tNotZ (tOf (cCh (cC (.int 1)) (chLink oLe (cVar 0) (chLast oLe (cC (.int 16)))))))
sNo
sNx)
noncomputable def check_contacts_b1 : EV → Option Fl :=
(sIf (tOrZ (tOf (c2 oGe (cVar 2) (cC (.int 40)))) (tNotZ (tTru (cCB m_is_contact (aCons (cVar 0) (aCons (cVar 3) aNil))))))
sNo
sNx)
noncomputable def check_contacts_s2 : EV → Option Fl :=
(sFor (iEn (aCons (cVar 1) aNil)) (mTup (mCons (mName 2) (mCons (mName 3) mNil)))
check_contacts_b1)
noncomputable def body_check_contacts : EV → Option Fl :=
(sSeq check_contacts_s1
check_contacts_s2)
noncomputable def m_check_contacts : List D → Option D := runFn 2 2 body_check_contacts
theorem ok_check_contacts {P : Program} {w : World} {K : PySem.W.Frag} {mg : Str → Option Value} {base : Heap} (T : Txt K mg) : FnAt P w K mg base "check_contacts" 2 2 m_check_contacts := by
  refine fn_at (N := ["routers", "contacts", "k", "told"]) (ps := ["routers", "contacts"]) T.d_check_contacts sc_check_contacts rfl rfl (fun _ _ _ _ _ _ us hl => match us, hl with | [_, _], _ => rfl) fun f cdv A outer s H E hr => ?_
  exact (b_cons (s_if (t_not (t_chn e_int (th_link op_le r_le (e_var (pv 0)) (th_last op_le r_le (e_gc T.c_MOST_ROUTERS (by rfl))))))
(b_one s_never)
b_nil)
(b_one (s_for PassesOwn.never rfl (i_enum (by rfl) T.n_enumerate (a_cons (fa := true) (fb := true) (e_var (pv 1)) a_nil)) (g_tup rfl (gs_cons (g_name (pg_name sc_check_contacts.nd rfl (Or.inl rfl))) (gs_cons (g_name (pg_name sc_check_contacts.nd rfl (Or.inl rfl))) gs_nil)))
(b_one (s_if (t_w (w_or (t_cmp op_ge r_ge (e_var (pv 2)) (e_gc T.c_MOST_CONTACTS (by rfl))) (w_or1 (t_not (t_tru (e_fn (ok_is_contact T) hr (by decide) (by rfl) (a_cons (fa := true) (fb := true) (e_var (pv 0)) (a_cons (fa := true) (fb := true) (e_var (pv 3)) a_nil)) rfl (aCons_len (aCons_len (fun _ _ h => aNil_len h)))))))))
(b_one s_never)
b_nil)))))
/-! ### next_row -/
abbrev st_next_row : Stmt := topS 18
theorem sc_next_row : FnScope ["contacts", "row", "found", "contact", "leaves"] ["contacts", "row"] (defScope st_next_row) := ⟨rfl, rfl, rfl, by decide +kernel, rfl, by decide +kernel, by decide +kernel⟩
noncomputable def next_row_s1 : EV → Option Fl :=
(sSetL 2 (lO (kOf (aCons (cVar 1) aNil))))
noncomputable def next_row_b1 : EV → Option Fl :=
(sSeq (sSetL 4 (lF (cCB m_leaves_at (aCons (cVar 3) (aCons (c2 oIx (cVar 1) (c2 oIx (cVar 3) (cC (.int 0)))) aNil)))))
(sIf (tOf (c2 oIsNot (cVar 4) (cC .non)))
(sSub 2 (c2 oIx (cVar 3) (cC (.int 1))) (cCB m_sooner (aCons (cIxo 2 (c2 oIx (cVar 3) (cC (.int 1)))) (aCons (c2 oAdd (cVar 4) (c2 oIx (cVar 3) (cC (.int 4)))) aNil))))
sNx))
noncomputable def next_row_s2 : EV → Option Fl :=
(sFor (iLst (cVar 0)) (mName 3)
next_row_b1)
noncomputable def next_row_s3 : EV → Option Fl :=
(sFrz 2 (sRet (cVar 2)))
noncomputable def body_next_row : EV → Option Fl :=
(sSeq next_row_s1
(sSeq next_row_s2
next_row_s3))
noncomputable def m_next_row : List D → Option D := runFn 2 3 body_next_row
theorem ok_next_row {P : Program} {w : World} {K : PySem.W.Frag} {mg : Str → Option Value} {base : Heap} (T : Txt K mg) : FnAt P w K mg base "next_row" 2 2 m_next_row := by
  refine fn_at (N := ["contacts", "row", "found", "contact", "leaves"]) (ps := ["contacts", "row"]) T.d_next_row sc_next_row rfl rfl (fun _ _ _ _ _ _ us hl => match us, hl with | [_, _], _ => rfl) fun f cdv A outer s H E hr => ?_
  exact (b_cons (s_set sc_next_row.nd rfl (Or.inl rfl) (r_f (f_list (by rfl) T.n_list boot_list (a_cons (fa := true) (fb := true) (e_var (pv 1)) a_nil))))
(b_cons (s_for PassesOwn.never rfl (i_list (e_var (pv 0))) (g_name (pg_name sc_next_row.nd rfl (Or.inl rfl)))
(b_cons (s_set sc_next_row.nd rfl (Or.inl rfl) (r_e (e_fn (ok_leaves_at T) hr (by decide) (by rfl) (a_cons (fa := true) (fb := true) (e_var (pv 3)) (a_cons (fa := true) (fb := true) (e_ix (fa := true) (fb := true) (e_var (pv 1)) (e_ix (fa := true) (fb := true) (e_var (pv 3)) e_int)) a_nil)) rfl (aCons_len (aCons_len (fun _ _ h => aNil_len h))))))
(b_one (s_if (t_cmp op_isnot r_isnot (e_var (pv 4)) e_non)
(b_one (s_sub (pv 2) (e_ix (fa := true) (fb := true) (e_var (pv 3)) e_int) (e_fn (ok_sooner T) hr (by decide) (by rfl) (a_cons (fa := true) (fb := true) (e_ixo (pv 2) (e_ix (fa := true) (fb := true) (e_var (pv 3)) e_int)) (a_cons (fa := true) (fb := true) (e_op (fa := true) (fb := true) op_add r_add (e_var (pv 4)) (e_ix (fa := true) (fb := true) (e_var (pv 3)) e_int)) a_nil)) rfl (aCons_len (aCons_len (fun _ _ h => aNil_len h))))))
b_nil))))
(b_one (s_frz 2 (s_ret (e_var (pv 2)))))))
/-! ### by_which -/
abbrev st_by_which : Stmt := topS 25
theorem sc_by_which : FnScope ["contacts", "row", "here", "tick", "k", "contact", "leaves"] ["contacts", "row", "here", "tick"] (defScope st_by_which) := ⟨rfl, rfl, rfl, by decide +kernel, rfl, by decide +kernel, by decide +kernel⟩
noncomputable def by_which_b1 : EV → Option Fl :=
(sSeq (sSetL 6 (lF (cCB m_leaves_at (aCons (cVar 5) (aCons (c2 oIx (cVar 1) (c2 oIx (cVar 5) (cC (.int 0)))) aNil)))))
(sIf (tAndZ (tOf (c2 oEq (c2 oIx (cVar 5) (cC (.int 1))) (cVar 2))) (tAndZ (tOf (c2 oIsNot (cVar 6) (cC .non))) (tOf (c2 oEq (c2 oAdd (cVar 6) (c2 oIx (cVar 5) (cC (.int 4)))) (cVar 3)))))
(sRet (cTup (aCons (cVar 4) (aCons (cVar 6) aNil))))
sNx))
noncomputable def by_which_s1 : EV → Option Fl :=
(sFor (iEn (aCons (cVar 0) aNil)) (mTup (mCons (mName 4) (mCons (mName 5) mNil)))
by_which_b1)
noncomputable def by_which_s2 : EV → Option Fl :=
(sRet (cC .non))
noncomputable def body_by_which : EV → Option Fl :=
(sSeq by_which_s1
by_which_s2)
noncomputable def m_by_which : List D → Option D := runFn 4 3 body_by_which
theorem ok_by_which {P : Program} {w : World} {K : PySem.W.Frag} {mg : Str → Option Value} {base : Heap} (T : Txt K mg) : FnAt P w K mg base "by_which" 2 4 m_by_which := by
  refine fn_at (N := ["contacts", "row", "here", "tick", "k", "contact", "leaves"]) (ps := ["contacts", "row", "here", "tick"]) T.d_by_which sc_by_which rfl rfl (fun _ _ _ _ _ _ us hl => match us, hl with | [_, _, _, _], _ => rfl) fun f cdv A outer s H E hr => ?_
  exact (b_cons (s_for PassesOwn.never rfl (i_enum (by rfl) T.n_enumerate (a_cons (fa := true) (fb := true) (e_var (pv 0)) a_nil)) (g_tup rfl (gs_cons (g_name (pg_name sc_by_which.nd rfl (Or.inl rfl))) (gs_cons (g_name (pg_name sc_by_which.nd rfl (Or.inl rfl))) gs_nil)))
(b_cons (s_set sc_by_which.nd rfl (Or.inl rfl) (r_e (e_fn (ok_leaves_at T) hr (by decide) (by rfl) (a_cons (fa := true) (fb := true) (e_var (pv 5)) (a_cons (fa := true) (fb := true) (e_ix (fa := true) (fb := true) (e_var (pv 1)) (e_ix (fa := true) (fb := true) (e_var (pv 5)) e_int)) a_nil)) rfl (aCons_len (aCons_len (fun _ _ h => aNil_len h))))))
(b_one (s_if (t_w (w_and (t_cmp (op_eqD hr.units) r_eq (e_ix (fa := true) (fb := true) (e_var (pv 5)) e_int) (e_var (pv 2))) (w_and (t_cmp op_isnot r_isnot (e_var (pv 6)) e_non) (w_and1 (t_cmp (op_eqD hr.units) r_eq (e_op (fa := true) (fb := true) op_add r_add (e_var (pv 6)) (e_ix (fa := true) (fb := true) (e_var (pv 5)) e_int)) (e_var (pv 3)))))))
(b_one (s_ret (e_tup (a_cons (fa := true) (fb := true) (e_var (pv 4)) (a_cons (fa := true) (fb := true) (e_var (pv 6)) a_nil)))))
b_nil))))
(b_one (s_ret e_non)))
/-! ### _law_contacts -/
abbrev st__law_contacts : Stmt := topS 31
theorem sc__law_contacts : FnScope ["draws", "k", "routers", "found", "far", "t", "at", "one", "two", "first", "last"] ["draws", "k", "routers"] (defScope st__law_contacts) := ⟨rfl, rfl, rfl, by decide +kernel, rfl, by decide +kernel, by decide +kernel⟩
noncomputable def _law_contacts_s1 : EV → Option Fl :=
(sPar 3 4 (lO (kList aNil)) (lF (c2 oIx (cLst (kList (aCons (cC (.int 6)) (aCons (cC (.int 40)) (aCons (cC (.int 10001)) aNil))))) (cCB m__law_mix (aCons (cVar 0) (aCons (cVar 1) (aCons (cC (.int 3)) aNil)))))))
noncomputable def _law_contacts_b1 : EV → Option Fl :=
(sSeq (sSetL 6 (lF (c2 oAdd (c2 oAdd (cVar 1) (cC (.int 2))) (c2 oMul (cC (.int 6)) (cVar 5)))))
(sSeq (sSetL 7 (lF (cCB m__law_mix (aCons (cVar 0) (aCons (cVar 6) (aCons (cVar 2) aNil))))))
(sSeq (sSetL 8 (lF (c2 oMod (cCB bInt (aCons (c2 oAdd (c2 oAdd (cVar 7) (cC (.int 1))) (cCB m__law_mix (aCons (cVar 0) (aCons (c2 oAdd (cVar 6) (cC (.int 1))) (aCons (cCB bMax (aCons (cC (.int 1)) (aCons (c2 oSub (cVar 2) (cC (.int 1))) aNil))) aNil))))) aNil)) (cVar 2))))
(sSeq (sSetL 9 (lF (cCB m__law_mix (aCons (cVar 0) (aCons (c2 oAdd (cVar 6) (cC (.int 2))) (aCons (cVar 4) aNil))))))
(sSeq (sSetL 10 (lF (cCB bMin (aCons (cC (.int 10000)) (aCons (c2 oAdd (cVar 9) (c2 oIx (cLst (kList (aCons (cC (.int 0)) (aCons (cCB m__law_mix (aCons (cVar 0) (aCons (c2 oAdd (cVar 6) (cC (.int 3))) (aCons (cC (.int 9)) aNil)))) (aCons (cCB m__law_mix (aCons (cVar 0) (aCons (c2 oAdd (cVar 6) (cC (.int 3))) (aCons (cVar 4) aNil)))) aNil))))) (cCB m__law_mix (aCons (cVar 0) (aCons (c2 oAdd (cVar 6) (cC (.int 4))) (aCons (cC (.int 3)) aNil)))))) aNil)))))
(sApp 3 (cTup (aCons (cVar 7) (aCons (cVar 8) (aCons (cVar 9) (aCons (cVar 10) (aCons (c2 oAdd (cC (.int 1)) (cCB m__law_mix (aCons (cVar 0) (aCons (c2 oAdd (cVar 6) (cC (.int 5))) (aCons (c2 oIx (cLst (kList (aCons (cC (.int 2)) (aCons (cC (.int 9)) (aCons (cC (.int 1000)) aNil))))) (cCB m__law_mix (aCons (cVar 0) (aCons (c2 oAdd (cVar 6) (cC (.int 4))) (aCons (cC (.int 3)) aNil))))) aNil))))) aNil))))))))))))
noncomputable def _law_contacts_s2 : EV → Option Fl :=
(sFor (iR1 (aCons (c2 oMul (cCB m__law_mix (aCons (cVar 0) (aCons (c2 oAdd (cVar 1) (cC (.int 1))) (aCons (cC (.int 41)) aNil)))) (cCB bInt (aCons (c2 oGt (cVar 2) (cC (.int 1))) aNil))) aNil)) (mName 5)
_law_contacts_b1)
noncomputable def _law_contacts_s3 : EV → Option Fl :=
(sFrz 3 (sRet (cVar 3)))
noncomputable def body__law_contacts : EV → Option Fl :=
(sSeq _law_contacts_s1
(sSeq _law_contacts_s2
_law_contacts_s3))
noncomputable def m__law_contacts : List D → Option D := runFn 3 8 body__law_contacts
theorem ok__law_contacts {P : Program} {w : World} {K : PySem.W.Frag} {mg : Str → Option Value} {base : Heap} (T : Txt K mg) : FnAt P w K mg base "_law_contacts" 2 3 m__law_contacts := by
  refine fn_at (N := ["draws", "k", "routers", "found", "far", "t", "at", "one", "two", "first", "last"]) (ps := ["draws", "k", "routers"]) T.d__law_contacts sc__law_contacts rfl rfl (fun _ _ _ _ _ _ us hl => match us, hl with | [_, _, _], _ => rfl) fun f cdv A outer s H E hr => ?_
  exact (b_cons (s_par rfl sc__law_contacts.nd rfl rfl (by decide) rfl rfl (r_f (f_lst a_nil)) (r_e (e_ix (fa := true) (fb := true) (e_f (f_lst (a_cons (fa := true) (fb := true) e_int (a_cons (fa := true) (fb := true) e_int (a_cons (fa := true) (fb := true) e_int a_nil))))) (e_fn (ok__law_mix T) hr (by decide) (by rfl) (a_cons (fa := true) (fb := true) (e_var (pv 0)) (a_cons (fa := true) (fb := true) (e_var (pv 1)) (a_cons (fa := true) (fb := true) e_int a_nil))) rfl (aCons_len (aCons_len (aCons_len (fun _ _ h => aNil_len h))))))) (by rfl))
(b_cons (s_for PassesOwn.never rfl (i_range1 (by rfl) T.n_range (a_cons (fa := true) (fb := true) (e_op (fa := true) (fb := true) op_mul r_mul (e_fn (ok__law_mix T) hr (by decide) (by rfl) (a_cons (fa := true) (fb := true) (e_var (pv 0)) (a_cons (fa := true) (fb := true) (e_op (fa := true) (fb := true) op_add r_add (e_var (pv 1)) e_int) (a_cons (fa := true) (fb := true) e_int a_nil))) rfl (aCons_len (aCons_len (aCons_len (fun _ _ h => aNil_len h))))) (e_cty call_int1 cr_int (by rfl) T.n_int PyProof.Rows.boot_int (a_cons (fa := true) (fb := true) (e_cmp (fa := true) (fb := true) op_gt r_gt (e_var (pv 2)) e_int) a_nil))) a_nil)) (g_name (pg_name sc__law_contacts.nd rfl (Or.inl rfl)))
(b_cons (s_set sc__law_contacts.nd rfl (Or.inl rfl) (r_e (e_op (fa := true) (fb := true) op_add r_add (e_op (fa := true) (fb := true) op_add r_add (e_var (pv 1)) e_int) (e_op (fa := true) (fb := true) op_mul r_mul e_int (e_var (pv 5))))))
(b_cons (s_set sc__law_contacts.nd rfl (Or.inl rfl) (r_e (e_fn (ok__law_mix T) hr (by decide) (by rfl) (a_cons (fa := true) (fb := true) (e_var (pv 0)) (a_cons (fa := true) (fb := true) (e_var (pv 6)) (a_cons (fa := true) (fb := true) (e_var (pv 2)) a_nil))) rfl (aCons_len (aCons_len (aCons_len (fun _ _ h => aNil_len h)))))))
(b_cons (s_set sc__law_contacts.nd rfl (Or.inl rfl) (r_e (e_op (fa := true) (fb := true) op_mod r_mod (e_cty call_int1 cr_int (by rfl) T.n_int PyProof.Rows.boot_int (a_cons (fa := true) (fb := true) (e_op (fa := true) (fb := true) op_add r_add (e_op (fa := true) (fb := true) op_add r_add (e_var (pv 7)) e_int) (e_fn (ok__law_mix T) hr (by decide) (by rfl) (a_cons (fa := true) (fb := true) (e_var (pv 0)) (a_cons (fa := true) (fb := true) (e_op (fa := true) (fb := true) op_add r_add (e_var (pv 6)) e_int) (a_cons (fa := true) (fb := true) (e_cb (call_max2 rfl) cr_max2 (by rfl) T.n_max boot_max (a_cons (fa := true) (fb := true) e_int (a_cons (fa := true) (fb := true) (e_op (fa := true) (fb := true) op_sub r_sub (e_var (pv 2)) e_int) a_nil))) a_nil))) rfl (aCons_len (aCons_len (aCons_len (fun _ _ h => aNil_len h)))))) a_nil)) (e_var (pv 2)))))
(b_cons (s_set sc__law_contacts.nd rfl (Or.inl rfl) (r_e (e_fn (ok__law_mix T) hr (by decide) (by rfl) (a_cons (fa := true) (fb := true) (e_var (pv 0)) (a_cons (fa := true) (fb := true) (e_op (fa := true) (fb := true) op_add r_add (e_var (pv 6)) e_int) (a_cons (fa := true) (fb := true) (e_var (pv 4)) a_nil))) rfl (aCons_len (aCons_len (aCons_len (fun _ _ h => aNil_len h)))))))
(b_cons (s_set sc__law_contacts.nd rfl (Or.inl rfl) (r_e (e_cb (call_min2 rfl) cr_min2 (by rfl) T.n_min boot_min (a_cons (fa := true) (fb := true) e_int (a_cons (fa := true) (fb := true) (e_op (fa := true) (fb := true) op_add r_add (e_var (pv 9)) (e_ix (fa := true) (fb := true) (e_f (f_lst (a_cons (fa := true) (fb := true) e_int (a_cons (fa := true) (fb := true) (e_fn (ok__law_mix T) hr (by decide) (by rfl) (a_cons (fa := true) (fb := true) (e_var (pv 0)) (a_cons (fa := true) (fb := true) (e_op (fa := true) (fb := true) op_add r_add (e_var (pv 6)) e_int) (a_cons (fa := true) (fb := true) e_int a_nil))) rfl (aCons_len (aCons_len (aCons_len (fun _ _ h => aNil_len h))))) (a_cons (fa := true) (fb := true) (e_fn (ok__law_mix T) hr (by decide) (by rfl) (a_cons (fa := true) (fb := true) (e_var (pv 0)) (a_cons (fa := true) (fb := true) (e_op (fa := true) (fb := true) op_add r_add (e_var (pv 6)) e_int) (a_cons (fa := true) (fb := true) (e_var (pv 4)) a_nil))) rfl (aCons_len (aCons_len (aCons_len (fun _ _ h => aNil_len h))))) a_nil))))) (e_fn (ok__law_mix T) hr (by decide) (by rfl) (a_cons (fa := true) (fb := true) (e_var (pv 0)) (a_cons (fa := true) (fb := true) (e_op (fa := true) (fb := true) op_add r_add (e_var (pv 6)) e_int) (a_cons (fa := true) (fb := true) e_int a_nil))) rfl (aCons_len (aCons_len (aCons_len (fun _ _ h => aNil_len h))))))) a_nil)))))
(b_one (s_app (pv 3) (e_tup (a_cons (fa := true) (fb := true) (e_var (pv 7)) (a_cons (fa := true) (fb := true) (e_var (pv 8)) (a_cons (fa := true) (fb := true) (e_var (pv 9)) (a_cons (fa := true) (fb := true) (e_var (pv 10)) (a_cons (fa := true) (fb := true) (e_op (fa := true) (fb := true) op_add r_add e_int (e_fn (ok__law_mix T) hr (by decide) (by rfl) (a_cons (fa := true) (fb := true) (e_var (pv 0)) (a_cons (fa := true) (fb := true) (e_op (fa := true) (fb := true) op_add r_add (e_var (pv 6)) e_int) (a_cons (fa := true) (fb := true) (e_ix (fa := true) (fb := true) (e_f (f_lst (a_cons (fa := true) (fb := true) e_int (a_cons (fa := true) (fb := true) e_int (a_cons (fa := true) (fb := true) e_int a_nil))))) (e_fn (ok__law_mix T) hr (by decide) (by rfl) (a_cons (fa := true) (fb := true) (e_var (pv 0)) (a_cons (fa := true) (fb := true) (e_op (fa := true) (fb := true) op_add r_add (e_var (pv 6)) e_int) (a_cons (fa := true) (fb := true) e_int a_nil))) rfl (aCons_len (aCons_len (aCons_len (fun _ _ h => aNil_len h)))))) a_nil))) rfl (aCons_len (aCons_len (aCons_len (fun _ _ h => aNil_len h)))))) a_nil))))))))))))))
(b_one (s_frz 3 (s_ret (e_var (pv 3)))))))
/-! ### rows_of -/
abbrev st_rows_of : Stmt := topS 19
theorem sc_rows_of : FnScope ["routers", "contacts", "start", "tick", "rows", "_", "router"] ["routers", "contacts", "start", "tick"] (defScope st_rows_of) := ⟨rfl, rfl, rfl, by decide +kernel, rfl, by decide +kernel, by decide +kernel⟩
noncomputable def rows_of_e1 : EV → Option D :=
(cIf (tOf (c2 oEq (cVar 6) (cVar 2))) (cVar 3) (cC .non))
noncomputable def rows_of_s1 : EV → Option Fl :=
(sSetL 4 (lO (kList (aCons (cLst (kComp (iR1 (aCons (cVar 0) aNil)) (mName 6) (fun _ => some true) rows_of_e1 [6])) aNil))))
noncomputable def rows_of_b1 : EV → Option Fl :=
(sApp 4 (cCB m_next_row (aCons (cVar 1) (aCons (cIxo 4 (c1 oNeg (cC (.int 1)))) aNil))))
noncomputable def rows_of_s2 : EV → Option Fl :=
(sFor (iR1 (aCons (c2 oSub (cVar 0) (cC (.int 1))) aNil)) (mName 5)
rows_of_b1)
noncomputable def rows_of_s3 : EV → Option Fl :=
(sFrz 4 (sRet (cVar 4)))
noncomputable def body_rows_of : EV → Option Fl :=
(sSeq rows_of_s1
(sSeq rows_of_s2
rows_of_s3))
noncomputable def m_rows_of : List D → Option D := runFn 4 3 body_rows_of
theorem ok_rows_of {P : Program} {w : World} {K : PySem.W.Frag} {mg : Str → Option Value} {base : Heap} (T : Txt K mg) : FnAt P w K mg base "rows_of" 3 4 m_rows_of := by
  refine fn_at (N := ["routers", "contacts", "start", "tick", "rows", "_", "router"]) (ps := ["routers", "contacts", "start", "tick"]) T.d_rows_of sc_rows_of rfl rfl (fun _ _ _ _ _ _ us hl => match us, hl with | [_, _, _, _], _ => rfl) fun f cdv A outer s H E hr => ?_
  exact (b_cons (s_set sc_rows_of.nd rfl (Or.inl rfl) (r_f (f_lst (a_cons (fa := true) (fb := true) (e_f (f_lc (own := [("router", 6)]) rfl sc_rows_of.nd (i_range1 (by rfl) T.n_range (a_cons (fa := true) (fb := true) (e_var (pv 0)) a_nil)) (by kernel_rfl) (gB fun _ _ _ _ _ => (g_name (pg_name sc_rows_of.nd rfl (Or.inl rfl)))) (tsB fun _ _ _ _ _ => ts_nil) (eB fun _ _ _ _ _ => (e_if (fa := true) (fb := true) (t_cmp (op_eqD hr.units) r_eq (e_var (pv 6)) (e_var (pv 2))) (e_var (pv 3)) e_non)))) a_nil))))
(b_cons (s_for PassesOwn.never rfl (i_range1 (by rfl) T.n_range (a_cons (fa := true) (fb := true) (e_op (fa := true) (fb := true) op_sub r_sub (e_var (pv 0)) e_int) a_nil)) (g_name (pg_name sc_rows_of.nd rfl (Or.inl rfl)))
(b_one (s_app (pv 4) (e_fn (ok_next_row T) hr (by decide) (by rfl) (a_cons (fa := true) (fb := true) (e_var (pv 1)) (a_cons (fa := true) (fb := true) (e_ixo (pv 4) (e_neg e_int)) a_nil)) rfl (aCons_len (aCons_len (fun _ _ h => aNil_len h)))))))
(b_one (s_frz 4 (s_ret (e_var (pv 4)))))))
/-! ### check_all -/
abbrev st_check_all : Stmt := topS 20
theorem sc_check_all : FnScope ["routers", "contacts", "start", "tick"] ["routers", "contacts", "start", "tick"] (defScope st_check_all) := ⟨rfl, rfl, rfl, by decide +kernel, rfl, by decide +kernel, by decide +kernel⟩
noncomputable def check_all_s1 : EV → Option Fl :=
(sDrop (cCB m_check_contacts (aCons (cVar 0) (aCons (cVar 1) aNil))))
noncomputable def check_all_s2 : EV → Option Fl :=
(sDrop (cCB m_check_router (aCons (cVar 0) (aCons (cVar 2) aNil))))
noncomputable def check_all_s3 : EV → Option Fl :=
(sDrop (cCB m_check_tick (aCons (cVar 3) aNil)))
noncomputable def body_check_all : EV → Option Fl :=
(sSeq check_all_s1
(sSeq check_all_s2
check_all_s3))
noncomputable def m_check_all : List D → Option D := runFn 4 0 body_check_all
theorem ok_check_all {P : Program} {w : World} {K : PySem.W.Frag} {mg : Str → Option Value} {base : Heap} (T : Txt K mg) : FnAt P w K mg base "check_all" 3 4 m_check_all := by
  refine fn_at (N := ["routers", "contacts", "start", "tick"]) (ps := ["routers", "contacts", "start", "tick"]) T.d_check_all sc_check_all rfl rfl (fun _ _ _ _ _ _ us hl => match us, hl with | [_, _, _, _], _ => rfl) fun f cdv A outer s H E hr => ?_
  exact (b_cons (s_expr (e_fn (ok_check_contacts T) hr (by decide) (by rfl) (a_cons (fa := true) (fb := true) (e_var (pv 0)) (a_cons (fa := true) (fb := true) (e_var (pv 1)) a_nil)) rfl (aCons_len (aCons_len (fun _ _ h => aNil_len h)))))
(b_cons (s_expr (e_fn (ok_check_router T) hr (by decide) (by rfl) (a_cons (fa := true) (fb := true) (e_var (pv 0)) (a_cons (fa := true) (fb := true) (e_var (pv 2)) a_nil)) rfl (aCons_len (aCons_len (fun _ _ h => aNil_len h)))))
(b_one (s_expr (e_fn (ok_check_tick T) hr (by decide) (by rfl) (a_cons (fa := true) (fb := true) (e_var (pv 3)) a_nil) rfl (aCons_len (fun _ _ h => aNil_len h)))))))
/-! ### latest -/
abbrev st_latest : Stmt := topS 27
theorem sc_latest : FnScope ["routers", "contacts", "goal", "end", "found", "_", "row", "one", "two", "first", "last", "delay", "tick", "router"] ["routers", "contacts", "goal", "end"] (defScope st_latest) := ⟨rfl, rfl, rfl, by decide +kernel, rfl, by decide +kernel, by decide +kernel⟩
noncomputable def latest_s1 : EV → Option Fl :=
(sDrop (cCB m_check_contacts (aCons (cVar 0) (aCons (cVar 1) aNil))))
noncomputable def latest_s2 : EV → Option Fl :=
(sDrop (cCB m_check_router (aCons (cVar 0) (aCons (cVar 2) aNil))))
noncomputable def latest_s3 : EV → Option Fl :=
(sDrop (cCB m_check_tick (aCons (cVar 3) aNil)))
noncomputable def latest_e1 : EV → Option D :=
(cIf (tOf (c2 oEq (cVar 13) (cVar 2))) (cVar 3) (cC .non))
noncomputable def latest_s4 : EV → Option Fl :=
(sSetL 4 (lO (kComp (iR1 (aCons (cVar 0) aNil)) (mName 13) (fun _ => some true) latest_e1 [13])))
noncomputable def latest_b1 : EV → Option Fl :=
(sIf (tAndZ (tOf (c2 oIsNot (c2 oIx (cVar 6) (cVar 8)) (cC .non))) (tOf (c2 oLe (cVar 9) (c2 oSub (c2 oIx (cVar 6) (cVar 8)) (cVar 11)))))
(sSeq (sSetL 12 (lF (cCB bMin (aCons (cVar 10) (aCons (c2 oSub (c2 oIx (cVar 6) (cVar 8)) (cVar 11)) aNil)))))
(sSub 4 (cVar 7) (cIf (tOf (c2 oIs (cIxo 4 (cVar 7)) (cC .non))) (cVar 12) (cCB bMax (aCons (cIxo 4 (cVar 7)) (aCons (cVar 12) aNil))))))
sNx)
noncomputable def latest_b2 : EV → Option Fl :=
(sSeq (sSetL 6 (lF (cLst (iOwn 4))))
(sFor (iLst (cVar 1)) (mTup (mCons (mName 7) (mCons (mName 8) (mCons (mName 9) (mCons (mName 10) (mCons (mName 11) mNil))))))
latest_b1))
noncomputable def latest_s5 : EV → Option Fl :=
(sFor (iR1 (aCons (c2 oSub (cVar 0) (cC (.int 1))) aNil)) (mName 5)
latest_b2)
noncomputable def latest_s6 : EV → Option Fl :=
(sFrz 4 (sRet (cVar 4)))
noncomputable def body_latest : EV → Option Fl :=
(sSeq latest_s1
(sSeq latest_s2
(sSeq latest_s3
(sSeq latest_s4
(sSeq latest_s5
latest_s6)))))
noncomputable def m_latest : List D → Option D := runFn 4 10 body_latest
theorem ok_latest {P : Program} {w : World} {K : PySem.W.Frag} {mg : Str → Option Value} {base : Heap} (T : Txt K mg) : FnAt P w K mg base "latest" 3 4 m_latest := by
  refine fn_at (N := ["routers", "contacts", "goal", "end", "found", "_", "row", "one", "two", "first", "last", "delay", "tick", "router"]) (ps := ["routers", "contacts", "goal", "end"]) T.d_latest sc_latest rfl rfl (fun _ _ _ _ _ _ us hl => match us, hl with | [_, _, _, _], _ => rfl) fun f cdv A outer s H E hr => ?_
  exact (b_cons (s_expr (e_fn (ok_check_contacts T) hr (by decide) (by rfl) (a_cons (fa := true) (fb := true) (e_var (pv 0)) (a_cons (fa := true) (fb := true) (e_var (pv 1)) a_nil)) rfl (aCons_len (aCons_len (fun _ _ h => aNil_len h)))))
(b_cons (s_expr (e_fn (ok_check_router T) hr (by decide) (by rfl) (a_cons (fa := true) (fb := true) (e_var (pv 0)) (a_cons (fa := true) (fb := true) (e_var (pv 2)) a_nil)) rfl (aCons_len (aCons_len (fun _ _ h => aNil_len h)))))
(b_cons (s_expr (e_fn (ok_check_tick T) hr (by decide) (by rfl) (a_cons (fa := true) (fb := true) (e_var (pv 3)) a_nil) rfl (aCons_len (fun _ _ h => aNil_len h))))
(b_cons (s_setLc (own := [("router", 13)]) rfl sc_latest.nd rfl rfl (sw_true rfl rfl rfl (by decide +kernel)) (i_range1 (by rfl) T.n_range (a_cons (fa := true) (fb := true) (e_var (pv 0)) a_nil)) (by kernel_rfl) (gB fun _ _ _ _ _ => (g_name (pg_name sc_latest.nd rfl (Or.inl rfl)))) (tsB fun _ _ _ _ _ => ts_nil) (eB fun _ _ _ _ _ => (e_if (fa := true) (fb := true) (t_cmp (op_eqD hr.units) r_eq (e_var (pv 13)) (e_var (pv 2))) (e_var (pv 3)) e_non)) (hl := lc_own))
(b_cons (s_for PassesOwn.never rfl (i_range1 (by rfl) T.n_range (a_cons (fa := true) (fb := true) (e_op (fa := true) (fb := true) op_sub r_sub (e_var (pv 0)) e_int) a_nil)) (g_name (pg_name sc_latest.nd rfl (Or.inl rfl)))
(b_cons (s_set sc_latest.nd rfl (Or.inl rfl) (r_e (e_f (f_listo (pv 4) (by rfl) T.n_list boot_list))))
(b_one (s_for PassesOwn.never rfl (i_list (e_var (pv 1))) (g_tup rfl (gs_cons (g_name (pg_name sc_latest.nd rfl (Or.inl rfl))) (gs_cons (g_name (pg_name sc_latest.nd rfl (Or.inl rfl))) (gs_cons (g_name (pg_name sc_latest.nd rfl (Or.inl rfl))) (gs_cons (g_name (pg_name sc_latest.nd rfl (Or.inl rfl))) (gs_cons (g_name (pg_name sc_latest.nd rfl (Or.inl rfl))) gs_nil))))))
(b_one (s_if (t_w (w_and (t_cmp op_isnot r_isnot (e_ix (fa := true) (fb := true) (e_var (pv 6)) (e_var (pv 8))) e_non) (w_and1 (t_cmp op_le r_le (e_var (pv 9)) (e_op (fa := true) (fb := true) op_sub r_sub (e_ix (fa := true) (fb := true) (e_var (pv 6)) (e_var (pv 8))) (e_var (pv 11)))))))
(b_cons (s_set sc_latest.nd rfl (Or.inl rfl) (r_e (e_cb (call_min2 rfl) cr_min2 (by rfl) T.n_min boot_min (a_cons (fa := true) (fb := true) (e_var (pv 10)) (a_cons (fa := true) (fb := true) (e_op (fa := true) (fb := true) op_sub r_sub (e_ix (fa := true) (fb := true) (e_var (pv 6)) (e_var (pv 8))) (e_var (pv 11))) a_nil)))))
(b_one (s_sub (pv 4) (e_var (pv 7)) (e_if (fa := true) (fb := true) (t_cmp op_isN r_is (e_ixo (pv 4) (e_var (pv 7))) e_non) (e_var (pv 12)) (e_cb (call_max2 rfl) cr_max2 (by rfl) T.n_max boot_max (a_cons (fa := true) (fb := true) (e_ixo (pv 4) (e_var (pv 7))) (a_cons (fa := true) (fb := true) (e_var (pv 12)) a_nil)))))))
b_nil))))))
(b_one (s_frz 4 (s_ret (e_var (pv 4))))))))))
/-! ### foremost -/
abbrev st_foremost : Stmt := topS 21
theorem sc_foremost : FnScope ["routers", "contacts", "start", "tick"] ["routers", "contacts", "start", "tick"] (defScope st_foremost) := ⟨rfl, rfl, rfl, by decide +kernel, rfl, by decide +kernel, by decide +kernel⟩
noncomputable def foremost_s1 : EV → Option Fl :=
(sDrop (cCB m_check_all (aCons (cVar 0) (aCons (cVar 1) (aCons (cVar 2) (aCons (cVar 3) aNil))))))
noncomputable def foremost_s2 : EV → Option Fl :=
(sRet (c2 oIx (cCB m_rows_of (aCons (cVar 0) (aCons (cVar 1) (aCons (cVar 2) (aCons (cVar 3) aNil))))) (c1 oNeg (cC (.int 1)))))
noncomputable def body_foremost : EV → Option Fl :=
(sSeq foremost_s1
foremost_s2)
noncomputable def m_foremost : List D → Option D := runFn 4 0 body_foremost
theorem ok_foremost {P : Program} {w : World} {K : PySem.W.Frag} {mg : Str → Option Value} {base : Heap} (T : Txt K mg) : FnAt P w K mg base "foremost" 4 4 m_foremost := by
  refine fn_at (N := ["routers", "contacts", "start", "tick"]) (ps := ["routers", "contacts", "start", "tick"]) T.d_foremost sc_foremost rfl rfl (fun _ _ _ _ _ _ us hl => match us, hl with | [_, _, _, _], _ => rfl) fun f cdv A outer s H E hr => ?_
  exact (b_cons (s_expr (e_fn (ok_check_all T) hr (by decide) (by rfl) (a_cons (fa := true) (fb := true) (e_var (pv 0)) (a_cons (fa := true) (fb := true) (e_var (pv 1)) (a_cons (fa := true) (fb := true) (e_var (pv 2)) (a_cons (fa := true) (fb := true) (e_var (pv 3)) a_nil)))) rfl (aCons_len (aCons_len (aCons_len (aCons_len (fun _ _ h => aNil_len h)))))))
(b_one (s_ret (e_ix (fa := true) (fb := true) (e_fn (ok_rows_of T) hr (by decide) (by rfl) (a_cons (fa := true) (fb := true) (e_var (pv 0)) (a_cons (fa := true) (fb := true) (e_var (pv 1)) (a_cons (fa := true) (fb := true) (e_var (pv 2)) (a_cons (fa := true) (fb := true) (e_var (pv 3)) a_nil)))) rfl (aCons_len (aCons_len (aCons_len (aCons_len (fun _ _ h => aNil_len h)))))) (e_neg e_int)))))
/-! ### is_foremost -/
abbrev st_is_foremost : Stmt := topS 22
theorem sc_is_foremost : FnScope ["routers", "contacts", "start", "tick", "told", "due", "contact", "leaves", "router"] ["routers", "contacts", "start", "tick", "told"] (defScope st_is_foremost) := ⟨rfl, rfl, rfl, by decide +kernel, rfl, by decide +kernel, by decide +kernel⟩
noncomputable def is_foremost_s1 : EV → Option Fl :=
(sDrop (cCB m_check_all (aCons (cVar 0) (aCons (cVar 1) (aCons (cVar 2) (aCons (cVar 3) aNil))))))
noncomputable def is_foremost_s2 : EV → Option Fl :=
(sIf (tOrZ (tOf (c2 oNe (cCB bLen (aCons (cVar 4) aNil)) (cVar 0))) (tOf (c2 oNe (c2 oIx (cVar 4) (cVar 2)) (cVar 3))))
(sRet (cC (.bl false)))
sNx)
noncomputable def is_foremost_e1 : EV → Option D :=
(cIf (tOf (c2 oEq (cVar 8) (cVar 2))) (cVar 3) (cC .non))
noncomputable def is_foremost_s3 : EV → Option Fl :=
(sSetL 5 (lO (kComp (iR1 (aCons (cVar 0) aNil)) (mName 8) (fun _ => some true) is_foremost_e1 [8])))
noncomputable def is_foremost_b1 : EV → Option Fl :=
(sSeq (sSetL 7 (lF (cCB m_leaves_at (aCons (cVar 6) (aCons (c2 oIx (cVar 4) (c2 oIx (cVar 6) (cC (.int 0)))) aNil)))))
(sIf (tOf (c2 oIsNot (cVar 7) (cC .non)))
(sSub 5 (c2 oIx (cVar 6) (cC (.int 1))) (cCB m_sooner (aCons (cIxo 5 (c2 oIx (cVar 6) (cC (.int 1)))) (aCons (c2 oAdd (cVar 7) (c2 oIx (cVar 6) (cC (.int 4)))) aNil))))
sNx))
noncomputable def is_foremost_s4 : EV → Option Fl :=
(sFor (iLst (cVar 1)) (mName 6)
is_foremost_b1)
noncomputable def is_foremost_s5 : EV → Option Fl :=
(sRet (cFlat (c2 oEq (cLst (kOf (aCons (cVar 4) aNil))) (cOwn 5))))
noncomputable def body_is_foremost : EV → Option Fl :=
(sSeq is_foremost_s1
(sSeq is_foremost_s2
(sSeq is_foremost_s3
(sSeq is_foremost_s4
is_foremost_s5))))
noncomputable def m_is_foremost : List D → Option D := runFn 5 4 body_is_foremost
theorem ok_is_foremost {P : Program} {w : World} {K : PySem.W.Frag} {mg : Str → Option Value} {base : Heap} (T : Txt K mg) : FnAt P w K mg base "is_foremost" 4 5 m_is_foremost := by
  refine fn_at (N := ["routers", "contacts", "start", "tick", "told", "due", "contact", "leaves", "router"]) (ps := ["routers", "contacts", "start", "tick", "told"]) T.d_is_foremost sc_is_foremost rfl rfl (fun _ _ _ _ _ _ us hl => match us, hl with | [_, _, _, _, _], _ => rfl) fun f cdv A outer s H E hr => ?_
  exact (b_cons (s_expr (e_fn (ok_check_all T) hr (by decide) (by rfl) (a_cons (fa := true) (fb := true) (e_var (pv 0)) (a_cons (fa := true) (fb := true) (e_var (pv 1)) (a_cons (fa := true) (fb := true) (e_var (pv 2)) (a_cons (fa := true) (fb := true) (e_var (pv 3)) a_nil)))) rfl (aCons_len (aCons_len (aCons_len (aCons_len (fun _ _ h => aNil_len h)))))))
(b_cons (s_if (t_w (w_or (t_cmp (op_neD hr.units) r_ne (e_cb call_len_seq cr_len (by rfl) T.n_len boot_len (a_cons (fa := true) (fb := true) (e_var (pv 4)) a_nil)) (e_var (pv 0))) (w_or1 (t_cmp (op_neD hr.units) r_ne (e_ix (fa := true) (fb := true) (e_var (pv 4)) (e_var (pv 2))) (e_var (pv 3))))))
(b_one (s_ret e_bl))
b_nil)
(b_cons (s_setLc (own := [("router", 8)]) rfl sc_is_foremost.nd rfl rfl (sw_true rfl rfl rfl (by decide +kernel)) (i_range1 (by rfl) T.n_range (a_cons (fa := true) (fb := true) (e_var (pv 0)) a_nil)) (by kernel_rfl) (gB fun _ _ _ _ _ => (g_name (pg_name sc_is_foremost.nd rfl (Or.inl rfl)))) (tsB fun _ _ _ _ _ => ts_nil) (eB fun _ _ _ _ _ => (e_if (fa := true) (fb := true) (t_cmp (op_eqD hr.units) r_eq (e_var (pv 8)) (e_var (pv 2))) (e_var (pv 3)) e_non)) (hl := lc_own))
(b_cons (s_for PassesOwn.never rfl (i_list (e_var (pv 1))) (g_name (pg_name sc_is_foremost.nd rfl (Or.inl rfl)))
(b_cons (s_set sc_is_foremost.nd rfl (Or.inl rfl) (r_e (e_fn (ok_leaves_at T) hr (by decide) (by rfl) (a_cons (fa := true) (fb := true) (e_var (pv 6)) (a_cons (fa := true) (fb := true) (e_ix (fa := true) (fb := true) (e_var (pv 4)) (e_ix (fa := true) (fb := true) (e_var (pv 6)) e_int)) a_nil)) rfl (aCons_len (aCons_len (fun _ _ h => aNil_len h))))))
(b_one (s_if (t_cmp op_isnot r_isnot (e_var (pv 7)) e_non)
(b_one (s_sub (pv 5) (e_ix (fa := true) (fb := true) (e_var (pv 6)) e_int) (e_fn (ok_sooner T) hr (by decide) (by rfl) (a_cons (fa := true) (fb := true) (e_ixo (pv 5) (e_ix (fa := true) (fb := true) (e_var (pv 6)) e_int)) (a_cons (fa := true) (fb := true) (e_op (fa := true) (fb := true) op_add r_add (e_var (pv 7)) (e_ix (fa := true) (fb := true) (e_var (pv 6)) e_int)) a_nil)) rfl (aCons_len (aCons_len (fun _ _ h => aNil_len h))))))
b_nil))))
(b_one (s_ret (e_flat (e_cmp (fa := true) (fb := false) (op_eqD hr.units) r_eq (e_f (f_list (by rfl) T.n_list boot_list (a_cons (fa := true) (fb := true) (e_var (pv 4)) a_nil))) (e_own (pv 5))))))))))
/-! ### within -/
abbrev st_within : Stmt := topS 23
theorem sc_within : FnScope ["routers", "contacts", "start", "tick", "number", "rows"] ["routers", "contacts", "start", "tick", "number"] (defScope st_within) := ⟨rfl, rfl, rfl, by decide +kernel, rfl, by decide +kernel, by decide +kernel⟩
noncomputable def within_s1 : EV → Option Fl :=
(sDrop (cCB m_check_all (aCons (cVar 0) (aCons (cVar 1) (aCons (cVar 2) (aCons (cVar 3) aNil))))))
noncomputable def within_s2 : EV → Option Fl :=
(sIf (tNotZ (tOf (cCh (cC (.int 0)) (chLink oLe (cVar 4) (chLast oLt (cC (.int 16)))))))
sNo
sNx)
noncomputable def within_s3 : EV → Option Fl :=
(sSetL 5 (lF (cCB m_rows_of (aCons (cVar 0) (aCons (cVar 1) (aCons (cVar 2) (aCons (cVar 3) aNil)))))))
noncomputable def within_s4 : EV → Option Fl :=
(sRet (c2 oIx (cVar 5) (cCB bMin (aCons (cVar 4) (aCons (c2 oSub (cVar 0) (cC (.int 1))) aNil)))))
noncomputable def body_within : EV → Option Fl :=
(sSeq within_s1
(sSeq within_s2
(sSeq within_s3
within_s4)))
noncomputable def m_within : List D → Option D := runFn 5 1 body_within
theorem ok_within {P : Program} {w : World} {K : PySem.W.Frag} {mg : Str → Option Value} {base : Heap} (T : Txt K mg) : FnAt P w K mg base "within" 4 5 m_within := by
  refine fn_at (N := ["routers", "contacts", "start", "tick", "number", "rows"]) (ps := ["routers", "contacts", "start", "tick", "number"]) T.d_within sc_within rfl rfl (fun _ _ _ _ _ _ us hl => match us, hl with | [_, _, _, _, _], _ => rfl) fun f cdv A outer s H E hr => ?_
  exact (b_cons (s_expr (e_fn (ok_check_all T) hr (by decide) (by rfl) (a_cons (fa := true) (fb := true) (e_var (pv 0)) (a_cons (fa := true) (fb := true) (e_var (pv 1)) (a_cons (fa := true) (fb := true) (e_var (pv 2)) (a_cons (fa := true) (fb := true) (e_var (pv 3)) a_nil)))) rfl (aCons_len (aCons_len (aCons_len (aCons_len (fun _ _ h => aNil_len h)))))))
(b_cons (s_if (t_not (t_chn e_int (th_link op_le r_le (e_var (pv 4)) (th_last op_lt r_lt (e_gc T.c_MOST_ROUTERS (by rfl))))))
(b_one s_never)
b_nil)
(b_cons (s_set sc_within.nd rfl (Or.inl rfl) (r_e (e_fn (ok_rows_of T) hr (by decide) (by rfl) (a_cons (fa := true) (fb := true) (e_var (pv 0)) (a_cons (fa := true) (fb := true) (e_var (pv 1)) (a_cons (fa := true) (fb := true) (e_var (pv 2)) (a_cons (fa := true) (fb := true) (e_var (pv 3)) a_nil)))) rfl (aCons_len (aCons_len (aCons_len (aCons_len (fun _ _ h => aNil_len h))))))))
(b_one (s_ret (e_ix (fa := true) (fb := true) (e_var (pv 5)) (e_cb (call_min2 rfl) cr_min2 (by rfl) T.n_min boot_min (a_cons (fa := true) (fb := true) (e_var (pv 4)) (a_cons (fa := true) (fb := true) (e_op (fa := true) (fb := true) op_sub r_sub (e_var (pv 0)) e_int) a_nil)))))))))
/-! ### journey -/
abbrev st_journey : Stmt := topS 26
theorem sc_journey : FnScope ["routers", "contacts", "start", "goal", "tick", "rows", "number", "found", "here", "k", "leaves", "row"] ["routers", "contacts", "start", "goal", "tick"] (defScope st_journey) := ⟨rfl, rfl, rfl, by decide +kernel, rfl, by decide +kernel, by decide +kernel⟩
noncomputable def journey_s1 : EV → Option Fl :=
(sDrop (cCB m_check_contacts (aCons (cVar 0) (aCons (cVar 1) aNil))))
noncomputable def journey_s2 : EV → Option Fl :=
(sDrop (cCB m_check_router (aCons (cVar 0) (aCons (cVar 2) aNil))))
noncomputable def journey_s3 : EV → Option Fl :=
(sDrop (cCB m_check_router (aCons (cVar 0) (aCons (cVar 3) aNil))))
noncomputable def journey_s4 : EV → Option Fl :=
(sDrop (cCB m_check_tick (aCons (cVar 4) aNil)))
noncomputable def journey_s5 : EV → Option Fl :=
(sSetL 5 (lF (cCB m_rows_of (aCons (cVar 0) (aCons (cVar 1) (aCons (cVar 2) (aCons (cVar 4) aNil)))))))
noncomputable def journey_s6 : EV → Option Fl :=
(sIf (tOf (c2 oIs (c2 oIx (c2 oIx (cVar 5) (c1 oNeg (cC (.int 1)))) (cVar 3)) (cC .non)))
(sRet (cC .non))
sNx)
noncomputable def journey_e1 : EV → Option D :=
(c2 oIx (cVar 11) (cVar 3))
noncomputable def journey_s7 : EV → Option Fl :=
(sSetL 6 (lF (c2 oIndex (cLst (kComp (iLst (cVar 5)) (mName 11) (fun _ => some true) journey_e1 [11])) (c2 oIx (c2 oIx (cVar 5) (c1 oNeg (cC (.int 1)))) (cVar 3)))))
noncomputable def journey_s8 : EV → Option Fl :=
(sPar 7 8 (lO (kList aNil)) (lF (cVar 3)))
noncomputable def journey_b1 : EV → Option Fl :=
(sSeq (sAsg (cCB m_by_which (aCons (cVar 1) (aCons (c2 oIx (cVar 5) (c2 oSub (cVar 6) (cC (.int 1)))) (aCons (cVar 8) (aCons (c2 oIx (c2 oIx (cVar 5) (cVar 6)) (cVar 8)) aNil))))) (mTup (mCons (mName 9) (mCons (mName 10) mNil))))
(sSeq (sApp 7 (cTup (aCons (cVar 9) (aCons (cVar 10) aNil))))
(sPar 8 6 (lF (c2 oIx (c2 oIx (cVar 1) (cVar 9)) (cC (.int 0)))) (lF (c2 oSub (cVar 6) (cC (.int 1)))))))
noncomputable def journey_t1 : EV → Option Bool :=
(tOf (c2 oGt (cVar 6) (cC (.int 0))))
noncomputable def journey_s9 : EV → Option Fl :=
(sWhile journey_t1
journey_b1)
noncomputable def journey_s10 : EV → Option Fl :=
(sRet (cLst (kRevo 7)))
noncomputable def body_journey : EV → Option Fl :=
(sSeq journey_s1
(sSeq journey_s2
(sSeq journey_s3
(sSeq journey_s4
(sSeq journey_s5
(sSeq journey_s6
(sSeq journey_s7
(sSeq journey_s8
(sSeq journey_s9
journey_s10)))))))))
noncomputable def m_journey : List D → Option D := runFn 5 7 body_journey
theorem ok_journey {P : Program} {w : World} {K : PySem.W.Frag} {mg : Str → Option Value} {base : Heap} (T : Txt K mg) : FnAt P w K mg base "journey" 4 5 m_journey := by
  refine fn_at (N := ["routers", "contacts", "start", "goal", "tick", "rows", "number", "found", "here", "k", "leaves", "row"]) (ps := ["routers", "contacts", "start", "goal", "tick"]) T.d_journey sc_journey rfl rfl (fun _ _ _ _ _ _ us hl => match us, hl with | [_, _, _, _, _], _ => rfl) fun f cdv A outer s H E hr => ?_
  exact (b_cons (s_expr (e_fn (ok_check_contacts T) hr (by decide) (by rfl) (a_cons (fa := true) (fb := true) (e_var (pv 0)) (a_cons (fa := true) (fb := true) (e_var (pv 1)) a_nil)) rfl (aCons_len (aCons_len (fun _ _ h => aNil_len h)))))
(b_cons (s_expr (e_fn (ok_check_router T) hr (by decide) (by rfl) (a_cons (fa := true) (fb := true) (e_var (pv 0)) (a_cons (fa := true) (fb := true) (e_var (pv 2)) a_nil)) rfl (aCons_len (aCons_len (fun _ _ h => aNil_len h)))))
(b_cons (s_expr (e_fn (ok_check_router T) hr (by decide) (by rfl) (a_cons (fa := true) (fb := true) (e_var (pv 0)) (a_cons (fa := true) (fb := true) (e_var (pv 3)) a_nil)) rfl (aCons_len (aCons_len (fun _ _ h => aNil_len h)))))
(b_cons (s_expr (e_fn (ok_check_tick T) hr (by decide) (by rfl) (a_cons (fa := true) (fb := true) (e_var (pv 4)) a_nil) rfl (aCons_len (fun _ _ h => aNil_len h))))
(b_cons (s_set sc_journey.nd rfl (Or.inl rfl) (r_e (e_fn (ok_rows_of T) hr (by decide) (by rfl) (a_cons (fa := true) (fb := true) (e_var (pv 0)) (a_cons (fa := true) (fb := true) (e_var (pv 1)) (a_cons (fa := true) (fb := true) (e_var (pv 2)) (a_cons (fa := true) (fb := true) (e_var (pv 4)) a_nil)))) rfl (aCons_len (aCons_len (aCons_len (aCons_len (fun _ _ h => aNil_len h))))))))
(b_cons (s_if (t_cmp op_isN r_is (e_ix (fa := true) (fb := true) (e_ix (fa := true) (fb := true) (e_var (pv 5)) (e_neg e_int)) (e_var (pv 3))) e_non)
(b_one (s_ret e_non))
b_nil)
(b_cons (s_set sc_journey.nd rfl (Or.inl rfl) (r_e (e_index (units65 hr) (e_f (f_lc (own := [("row", 11)]) rfl sc_journey.nd (i_list (e_var (pv 5))) (by kernel_rfl) (gB fun _ _ _ _ _ => (g_name (pg_name sc_journey.nd rfl (Or.inl rfl)))) (tsB fun _ _ _ _ _ => ts_nil) (eB fun _ _ _ _ _ => (e_ix (fa := true) (fb := true) (e_var (pv 11)) (e_var (pv 3)))))) (e_ix (fa := true) (fb := true) (e_ix (fa := true) (fb := true) (e_var (pv 5)) (e_neg e_int)) (e_var (pv 3))))))
(b_cons (s_par rfl sc_journey.nd rfl rfl (by decide) rfl rfl (r_f (f_lst a_nil)) (r_e (e_var (pv 3))) (by rfl))
(b_cons (s_whl PassesOwn.never (t_cmp op_gt r_gt (e_var (pv 6)) e_int)
(b_cons (s_asg (e_fn (ok_by_which T) hr (by decide) (by rfl) (a_cons (fa := true) (fb := true) (e_var (pv 1)) (a_cons (fa := true) (fb := true) (e_ix (fa := true) (fb := true) (e_var (pv 5)) (e_op (fa := true) (fb := true) op_sub r_sub (e_var (pv 6)) e_int)) (a_cons (fa := true) (fb := true) (e_var (pv 8)) (a_cons (fa := true) (fb := true) (e_ix (fa := true) (fb := true) (e_ix (fa := true) (fb := true) (e_var (pv 5)) (e_var (pv 6))) (e_var (pv 8))) a_nil)))) rfl (aCons_len (aCons_len (aCons_len (aCons_len (fun _ _ h => aNil_len h)))))) (g_tup rfl (gs_cons (g_name (pg_name sc_journey.nd rfl (Or.inl rfl))) (gs_cons (g_name (pg_name sc_journey.nd rfl (Or.inl rfl))) gs_nil))))
(b_cons (s_app (pv 7) (e_tup (a_cons (fa := true) (fb := true) (e_var (pv 9)) (a_cons (fa := true) (fb := true) (e_var (pv 10)) a_nil))))
(b_one (s_par rfl sc_journey.nd rfl rfl (by decide) rfl rfl (r_e (e_ix (fa := true) (fb := true) (e_ix (fa := true) (fb := true) (e_var (pv 1)) (e_var (pv 9))) e_int)) (r_e (e_op (fa := true) (fb := true) op_sub r_sub (e_var (pv 6)) e_int)) (by rfl))))))
(b_one (s_ret (e_f (f_revo (pv 7))))))))))))))
/-! ### law -/
abbrev st_law : Stmt := topS 34
theorem sc_law : FnScope ["script", "draws", "routers", "contacts", "start", "tick", "told", "later", "more", "before", "number", "row", "goal", "end", "last", "router", "tries", "now", "there", "turned", "back", "known", "r", "one", "two", "first", "end_there", "delay"] ["script"] (defScope st_law) := ⟨rfl, rfl, rfl, by decide +kernel, rfl, by decide +kernel, by decide +kernel⟩
noncomputable def law_s1 : EV → Option Fl :=
(sSetL 1 (lF (cCB m__law_draws (aCons (cVar 0) aNil))))
noncomputable def law_s2 : EV → Option Fl :=
(sSetL 2 (lF (c2 oAdd (cC (.int 1)) (cCB m__law_mix (aCons (cVar 1) (aCons (cC (.int 1)) (aCons (cC (.int 16)) aNil)))))))
noncomputable def law_s3 : EV → Option Fl :=
(sSetL 3 (lF (cCB m__law_contacts (aCons (cVar 1) (aCons (cC (.int 10)) (aCons (cVar 2) aNil))))))
noncomputable def law_s4 : EV → Option Fl :=
(sPar 4 5 (lF (cCB m__law_mix (aCons (cVar 1) (aCons (cC (.int 2)) (aCons (cVar 2) aNil))))) (lF (c2 oIx (cLst (kList (aCons (cCB m__law_mix (aCons (cVar 1) (aCons (cC (.int 3)) (aCons (cC (.int 8)) aNil)))) (aCons (cCB m__law_mix (aCons (cVar 1) (aCons (cC (.int 3)) (aCons (cC (.int 12000)) aNil)))) aNil)))) (cCB m__law_mix (aCons (cVar 1) (aCons (cC (.int 4)) (aCons (cC (.int 2)) aNil)))))))
noncomputable def law_s5 : EV → Option Fl :=
(sSetL 6 (lF (cCB m_foremost (aCons (cVar 2) (aCons (cVar 3) (aCons (cVar 4) (aCons (cVar 5) aNil)))))))
noncomputable def law_s6 : EV → Option Fl :=
(sIf (tOrZ (tOf (c2 oIsNot (cCB m_is_foremost (aCons (cVar 2) (aCons (cVar 3) (aCons (cVar 4) (aCons (cVar 5) (aCons (cVar 6) aNil)))))) (cC (.bl true)))) (tOf (c2 oNe (c2 oIx (cVar 6) (cVar 4)) (cVar 5))))
(sRet (cC (.bl false)))
sNx)
noncomputable def law_s7 : EV → Option Fl :=
(sSetL 7 (lF (cCB m_foremost (aCons (cVar 2) (aCons (cVar 3) (aCons (cVar 4) (aCons (c2 oAdd (c2 oAdd (cVar 5) (cC (.int 1))) (cCB m__law_mix (aCons (cVar 1) (aCons (cC (.int 5)) (aCons (cC (.int 30)) aNil))))) aNil)))))))
noncomputable def law_s8 : EV → Option Fl :=
(sSetL 8 (lF (cCB m_foremost (aCons (cVar 2) (aCons (cLst (kCat (cLst (kSl (cVar 3) pNo (pAt (cC (.int 30))))) (cLst (kSl (cCB m__law_contacts (aCons (cVar 1) (aCons (cC (.int 400)) (aCons (cVar 2) aNil)))) pNo (pAt (cC (.int 10))))))) (aCons (cVar 4) (aCons (cVar 5) aNil)))))))
noncomputable def law_e1 : EV → Option D :=
(cVar 22)
noncomputable def law_q1 : EV → Option Bool :=
(tNotZ (tTru (cCB m__law_after (aCons (c2 oIx (cVar 7) (cVar 22)) (aCons (c2 oIx (cVar 6) (cVar 22)) aNil)))))
noncomputable def law_e2 : EV → Option D :=
(cVar 22)
noncomputable def law_q2 : EV → Option Bool :=
(tNotZ (tTru (cCB m__law_after (aCons (c2 oIx (cVar 6) (cVar 22)) (aCons (c2 oIx (cVar 8) (cVar 22)) aNil)))))
noncomputable def law_s9 : EV → Option Fl :=
(sIf (tOrZ (tOf (c2 oNe (cLst (kComp (iR1 (aCons (cVar 2) aNil)) (mName 22) law_q1 law_e1 [22])) (cLst (kList aNil)))) (tAndZ (tOf (c2 oLt (cCB bLen (aCons (cVar 3) aNil)) (cC (.int 31)))) (tOf (c2 oNe (cLst (kComp (iR1 (aCons (cVar 2) aNil)) (mName 22) law_q2 law_e2 [22])) (cLst (kList aNil))))))
(sRet (cC (.bl false)))
sNx)
noncomputable def law_s10 : EV → Option Fl :=
(sSetL 9 (lF (cC .non)))
noncomputable def law_e3 : EV → Option D :=
(cVar 22)
noncomputable def law_q3 : EV → Option Bool :=
(tNotZ (tTru (cCB m__law_after (aCons (c2 oIx (cVar 9) (cVar 22)) (aCons (c2 oIx (cVar 11) (cVar 22)) aNil)))))
noncomputable def law_b1 : EV → Option Fl :=
(sSeq (sSetL 11 (lF (cCB m_within (aCons (cVar 2) (aCons (cVar 3) (aCons (cVar 4) (aCons (cVar 5) (aCons (cVar 10) aNil))))))))
(sSeq (sIf (tAndZ (tOf (c2 oIsNot (cVar 9) (cC .non))) (tOf (c2 oNe (cLst (kComp (iR1 (aCons (cVar 2) aNil)) (mName 22) law_q3 law_e3 [22])) (cLst (kList aNil)))))
(sRet (cC (.bl false)))
sNx)
(sSetL 9 (lF (cVar 11)))))
noncomputable def law_s11 : EV → Option Fl :=
(sFor (iR1 (aCons (cC (.int 16)) aNil)) (mName 10)
law_b1)
noncomputable def law_s12 : EV → Option Fl :=
(sIf (tOf (c2 oNe (cVar 9) (cVar 6)))
(sRet (cC (.bl false)))
sNx)
noncomputable def law_b2 : EV → Option Fl :=
(sSeq (sSetL 11 (lF (cCB m_journey (aCons (cVar 2) (aCons (cVar 3) (aCons (cVar 4) (aCons (cVar 12) (aCons (cVar 5) aNil))))))))
(sSeq (sIf (tOf (c2 oNe (c2 oIs (cVar 11) (cC .non)) (c2 oIs (c2 oIx (cVar 6) (cVar 12)) (cC .non))))
(sRet (cC (.bl false)))
sNx)
(sIf (tOf (c2 oIsNot (cVar 11) (cC .non)))
(sSeq (sIf (tOrZ (tNotZ (tTru (cCB m__law_kept (aCons (cVar 3) (aCons (cVar 4) (aCons (cVar 5) (aCons (cVar 12) (aCons (cVar 11) aNil)))))))) (tOf (c2 oNe (c2 oIx (cCB m_within (aCons (cVar 2) (aCons (cVar 3) (aCons (cVar 4) (aCons (cVar 5) (aCons (cCB bLen (aCons (cVar 11) aNil)) aNil)))))) (cVar 12)) (c2 oIx (cVar 6) (cVar 12)))))
(sRet (cC (.bl false)))
sNx)
(sIf (tAndZ (tOf (c2 oNe (cVar 11) (cLst (kList aNil)))) (tOrZ (tOf (c2 oNe (c2 oAdd (c2 oIx (c2 oIx (cVar 11) (c1 oNeg (cC (.int 1)))) (cC (.int 1))) (c2 oIx (c2 oIx (cVar 3) (c2 oIx (c2 oIx (cVar 11) (c1 oNeg (cC (.int 1)))) (cC (.int 0)))) (cC (.int 4)))) (c2 oIx (cVar 6) (cVar 12)))) (tOf (c2 oEq (c2 oIx (cCB m_within (aCons (cVar 2) (aCons (cVar 3) (aCons (cVar 4) (aCons (cVar 5) (aCons (c2 oSub (cCB bLen (aCons (cVar 11) aNil)) (cC (.int 1))) aNil)))))) (cVar 12)) (c2 oIx (cVar 6) (cVar 12))))))
(sRet (cC (.bl false)))
sNx))
sNx)))
noncomputable def law_s13 : EV → Option Fl :=
(sFor (iR1 (aCons (cVar 2) aNil)) (mName 12)
law_b2)
noncomputable def law_s14 : EV → Option Fl :=
(sAsg (cTup (aCons (cCB m__law_mix (aCons (cVar 1) (aCons (cC (.int 6)) (aCons (cVar 2) aNil)))) (aCons (c2 oIx (cLst (kList (aCons (cCB m__law_mix (aCons (cVar 1) (aCons (cC (.int 7)) (aCons (cC (.int 60)) aNil)))) (aCons (cCB m__law_mix (aCons (cVar 1) (aCons (cC (.int 7)) (aCons (cC (.int 12000)) aNil)))) aNil)))) (cCB m__law_mix (aCons (cVar 1) (aCons (cC (.int 8)) (aCons (cC (.int 2)) aNil))))) aNil))) (mTup (mCons (mName 12) (mCons (mName 13) mNil))))
noncomputable def law_s15 : EV → Option Fl :=
(sSetL 14 (lF (cCB m_latest (aCons (cVar 2) (aCons (cVar 3) (aCons (cVar 12) (aCons (cVar 13) aNil)))))))
noncomputable def law_e4 : EV → Option D :=
(cVar 10)
noncomputable def law_q4 : EV → Option Bool :=
(tOf (c2 oIsNot (cVar 10) (cC .non)))
noncomputable def law_b3 : EV → Option Fl :=
(sSeq (sSetL 18 (lF (c2 oIx (cCB m_foremost (aCons (cVar 2) (aCons (cVar 3) (aCons (cVar 15) (aCons (cVar 17) aNil))))) (cVar 12))))
(sIf (tOf (c2 oNe (cAnd (c2 oIsNot (cVar 18) (cC .non)) (c2 oLe (cVar 18) (cVar 13))) (cAnd (c2 oIsNot (c2 oIx (cVar 14) (cVar 15)) (cC .non)) (c2 oLe (cVar 17) (c2 oIx (cVar 14) (cVar 15))))))
(sRet (cC (.bl false)))
sNx))
noncomputable def law_b4 : EV → Option Fl :=
(sSeq (sSetL 16 (lF (cLst (kCat (cLst (kList (aCons (cC (.int 0)) (aCons (cVar 13) (aCons (cCB m__law_mix (aCons (cVar 1) (aCons (c2 oAdd (cC (.int 700)) (cVar 15)) (aCons (cC (.int 12000)) aNil)))) aNil))))) (cLst (kComp (iLst (cLst (kList (aCons (c2 oIx (cVar 14) (cVar 15)) (aCons (c2 oAdd (cOr (c2 oIx (cVar 14) (cVar 15)) (cC (.int 0))) (cC (.int 1))) aNil))))) (mName 10) law_q4 law_e4 [10]))))))
(sFor (iLst (cVar 16)) (mName 17)
law_b3))
noncomputable def law_s16 : EV → Option Fl :=
(sFor (iR1 (aCons (cVar 2) aNil)) (mName 15)
law_b4)
noncomputable def law_e5 : EV → Option D :=
(cTup (aCons (cVar 24) (aCons (cVar 23) (aCons (c2 oSub (c2 oSub (c2 oAdd (cC (.int 10000)) (cC (.int 1000))) (cVar 26)) (cVar 27)) (aCons (c2 oSub (c2 oSub (c2 oAdd (cC (.int 10000)) (cC (.int 1000))) (cVar 25)) (cVar 27)) (aCons (cVar 27) aNil))))))
noncomputable def law_s17 : EV → Option Fl :=
(sSetL 19 (lF (cLst (kComp (iLst (cVar 3)) (mTup (mCons (mName 23) (mCons (mName 24) (mCons (mName 25) (mCons (mName 26) (mCons (mName 27) mNil)))))) (fun _ => some true) law_e5 [23, 24, 25, 26, 27]))))
noncomputable def law_e6 : EV → Option D :=
(cVar 23)
noncomputable def law_q5 : EV → Option Bool :=
(tOf (c2 oGt (c2 oIx (cVar 23) (cC (.int 3))) (cC (.int 10000))))
noncomputable def law_e7 : EV → Option D :=
(cVar 22)
noncomputable def law_q6 : EV → Option Bool :=
(tAndZ (tOf (c2 oNe (cVar 22) (cVar 12))) (tOf (c2 oNe (c2 oIx (cVar 20) (cVar 22)) (c2 oIx (cLst (kList (aCons (cC .non) (aCons (c2 oSub (cC (.int 11000)) (cOr (c2 oIx (cVar 14) (cVar 22)) (cC (.int 0)))) aNil)))) (cCB bInt (aCons (c2 oIsNot (c2 oIx (cVar 14) (cVar 22)) (cC .non)) aNil))))))
noncomputable def law_s18 : EV → Option Fl :=
(sIf (tAndZ (tOf (c2 oEq (cLst (kComp (iLst (cVar 19)) (mName 23) law_q5 law_e6 [23])) (cLst (kList aNil)))) (tOf (c2 oLe (cVar 13) (cC (.int 11000)))))
(sSeq (sSetL 20 (lF (cCB m_foremost (aCons (cVar 2) (aCons (cVar 19) (aCons (cVar 12) (aCons (c2 oSub (cC (.int 11000)) (cVar 13)) aNil)))))))
(sIf (tOf (c2 oNe (cLst (kComp (iR1 (aCons (cVar 2) aNil)) (mName 22) law_q6 law_e7 [22])) (cLst (kList aNil))))
(sRet (cC (.bl false)))
sNx))
sNx)
noncomputable def law_s19 : EV → Option Fl :=
(sSetL 21 (lF (cLst (kList (aCons (cTup (aCons (cC (.int 0)) (aCons (cC (.int 1)) (aCons (cC (.int 3)) (aCons (cC (.int 4)) (aCons (cC (.int 2)) aNil)))))) (aCons (cTup (aCons (cC (.int 1)) (aCons (cC (.int 2)) (aCons (cC (.int 5)) (aCons (cC (.int 5)) (aCons (cC (.int 1)) aNil)))))) (aCons (cTup (aCons (cC (.int 0)) (aCons (cC (.int 2)) (aCons (cC (.int 9)) (aCons (cC (.int 9)) (aCons (cC (.int 1)) aNil)))))) (aCons (cTup (aCons (cC (.int 1)) (aCons (cC (.int 2)) (aCons (cC (.int 0)) (aCons (cC (.int 4)) (aCons (cC (.int 1)) aNil)))))) aNil))))))))
noncomputable def law_s20 : EV → Option Fl :=
(sRet (cAnd (c2 oEq (cCB bRepr (aCons (cCB m_foremost (aCons (cC (.int 3)) (aCons (cVar 21) (aCons (cC (.int 0)) (aCons (cC (.int 1)) aNil))))) aNil)) (cC (.str "[1, 5, 6]"))) (cAnd (c2 oEq (cCB m_journey (aCons (cC (.int 3)) (aCons (cVar 21) (aCons (cC (.int 0)) (aCons (cC (.int 2)) (aCons (cC (.int 1)) aNil)))))) (cLst (kList (aCons (cTup (aCons (cC (.int 0)) (aCons (cC (.int 3)) aNil))) (aCons (cTup (aCons (cC (.int 1)) (aCons (cC (.int 5)) aNil))) aNil))))) (cAnd (c2 oEq (cCB m_latest (aCons (cC (.int 3)) (aCons (cVar 21) (aCons (cC (.int 2)) (aCons (cC (.int 10)) aNil))))) (cLst (kList (aCons (cC (.int 9)) (aCons (cC (.int 5)) (aCons (cC (.int 10)) aNil)))))) (c2 oEq (cCB m_journey (aCons (cC (.int 3)) (aCons (cVar 21) (aCons (cC (.int 0)) (aCons (cC (.int 2)) (aCons (cC (.int 4)) aNil)))))) (cLst (kList (aCons (cTup (aCons (cC (.int 2)) (aCons (cC (.int 9)) aNil))) aNil))))))))
noncomputable def body_law : EV → Option Fl :=
(sSeq law_s1
(sSeq law_s2
(sSeq law_s3
(sSeq law_s4
(sSeq law_s5
(sSeq law_s6
(sSeq law_s7
(sSeq law_s8
(sSeq law_s9
(sSeq law_s10
(sSeq law_s11
(sSeq law_s12
(sSeq law_s13
(sSeq law_s14
(sSeq law_s15
(sSeq law_s16
(sSeq law_s17
(sSeq law_s18
(sSeq law_s19
law_s20)))))))))))))))))))
noncomputable def m_law : List D → Option D := runFn 1 27 body_law
theorem ok_law {P : Program} {w : World} {K : PySem.W.Frag} {mg : Str → Option Value} {base : Heap} (T : Txt K mg) {f : Addr} {fd : FuncData} (F : Fun K "law" "law" st_law f fd) : FnG P w K mg base 5 f fd ["script"] (FSp K 1 m_law) := by
  refine law_ok (N := ["script", "draws", "routers", "contacts", "start", "tick", "told", "later", "more", "before", "number", "row", "goal", "end", "last", "router", "tries", "now", "there", "turned", "back", "known", "r", "one", "two", "first", "end_there", "delay"]) F sc_law rfl fun cdv A outer s H E hr hgd => ?_
  exact (b_cons (s_set sc_law.nd rfl (Or.inl rfl) (r_e (e_fn (ok__law_draws T) hr (by decide) (by rfl) (a_cons (fa := true) (fb := true) (e_var (pv 0)) a_nil) rfl (aCons_len (fun _ _ h => aNil_len h)))))
(b_cons (s_set sc_law.nd rfl (Or.inl rfl) (r_e (e_op (fa := true) (fb := true) op_add r_add e_int (e_fn (ok__law_mix T) hr (by decide) (by rfl) (a_cons (fa := true) (fb := true) (e_var (pv 1)) (a_cons (fa := true) (fb := true) e_int (a_cons (fa := true) (fb := true) e_int a_nil))) rfl (aCons_len (aCons_len (aCons_len (fun _ _ h => aNil_len h))))))))
(b_cons (s_set sc_law.nd rfl (Or.inl rfl) (r_e (e_fn (ok__law_contacts T) hr (by decide) (by rfl) (a_cons (fa := true) (fb := true) (e_var (pv 1)) (a_cons (fa := true) (fb := true) e_int (a_cons (fa := true) (fb := true) (e_var (pv 2)) a_nil))) rfl (aCons_len (aCons_len (aCons_len (fun _ _ h => aNil_len h)))))))
(b_cons (s_par rfl sc_law.nd rfl rfl (by decide) rfl rfl (r_e (e_fn (ok__law_mix T) hr (by decide) (by rfl) (a_cons (fa := true) (fb := true) (e_var (pv 1)) (a_cons (fa := true) (fb := true) e_int (a_cons (fa := true) (fb := true) (e_var (pv 2)) a_nil))) rfl (aCons_len (aCons_len (aCons_len (fun _ _ h => aNil_len h)))))) (r_e (e_ix (fa := true) (fb := true) (e_f (f_lst (a_cons (fa := true) (fb := true) (e_fn (ok__law_mix T) hr (by decide) (by rfl) (a_cons (fa := true) (fb := true) (e_var (pv 1)) (a_cons (fa := true) (fb := true) e_int (a_cons (fa := true) (fb := true) e_int a_nil))) rfl (aCons_len (aCons_len (aCons_len (fun _ _ h => aNil_len h))))) (a_cons (fa := true) (fb := true) (e_fn (ok__law_mix T) hr (by decide) (by rfl) (a_cons (fa := true) (fb := true) (e_var (pv 1)) (a_cons (fa := true) (fb := true) e_int (a_cons (fa := true) (fb := true) e_int a_nil))) rfl (aCons_len (aCons_len (aCons_len (fun _ _ h => aNil_len h))))) a_nil)))) (e_fn (ok__law_mix T) hr (by decide) (by rfl) (a_cons (fa := true) (fb := true) (e_var (pv 1)) (a_cons (fa := true) (fb := true) e_int (a_cons (fa := true) (fb := true) e_int a_nil))) rfl (aCons_len (aCons_len (aCons_len (fun _ _ h => aNil_len h))))))) (by rfl))
(b_cons (s_set sc_law.nd rfl (Or.inr rfl) (r_e (e_fn (ok_foremost T) hr (by decide) (by rfl) (a_cons (fa := true) (fb := true) (e_var (pv 2)) (a_cons (fa := true) (fb := true) (e_var (pv 3)) (a_cons (fa := true) (fb := true) (e_var (pv 4)) (a_cons (fa := true) (fb := true) (e_var (pv 5)) a_nil)))) rfl (aCons_len (aCons_len (aCons_len (aCons_len (fun _ _ h => aNil_len h))))))))
(b_cons (s_if (t_w (w_or (t_cmp op_isnot r_isnot (e_fn (ok_is_foremost T) hr (by decide) (by rfl) (a_cons (fa := true) (fb := true) (e_var (pv 2)) (a_cons (fa := true) (fb := true) (e_var (pv 3)) (a_cons (fa := true) (fb := true) (e_var (pv 4)) (a_cons (fa := true) (fb := true) (e_var (pv 5)) (a_cons (fa := true) (fb := true) (e_var (pv 6)) a_nil))))) rfl (aCons_len (aCons_len (aCons_len (aCons_len (aCons_len (fun _ _ h => aNil_len h))))))) e_bl) (w_or1 (t_cmp (op_neD hr.units) r_ne (e_ix (fa := true) (fb := true) (e_var (pv 6)) (e_var (pv 4))) (e_var (pv 5))))))
(b_one (s_ret e_bl))
b_nil)
(b_cons (s_set sc_law.nd rfl (Or.inr rfl) (r_e (e_fn (ok_foremost T) hr (by decide) (by rfl) (a_cons (fa := true) (fb := true) (e_var (pv 2)) (a_cons (fa := true) (fb := true) (e_var (pv 3)) (a_cons (fa := true) (fb := true) (e_var (pv 4)) (a_cons (fa := true) (fb := true) (e_op (fa := true) (fb := true) op_add r_add (e_op (fa := true) (fb := true) op_add r_add (e_var (pv 5)) e_int) (e_fn (ok__law_mix T) hr (by decide) (by rfl) (a_cons (fa := true) (fb := true) (e_var (pv 1)) (a_cons (fa := true) (fb := true) e_int (a_cons (fa := true) (fb := true) e_int a_nil))) rfl (aCons_len (aCons_len (aCons_len (fun _ _ h => aNil_len h)))))) a_nil)))) rfl (aCons_len (aCons_len (aCons_len (aCons_len (fun _ _ h => aNil_len h))))))))
(b_cons (s_set sc_law.nd rfl (Or.inr rfl) (r_e (e_fn (ok_foremost T) hr (by decide) (by rfl) (a_cons (fa := true) (fb := true) (e_var (pv 2)) (a_cons (fa := true) (fb := true) (e_f (f_cat (e_f (f_sl (e_var (pv 3)) p_no (p_at e_int))) (e_f (f_sl (e_fn (ok__law_contacts T) hr (by decide) (by rfl) (a_cons (fa := true) (fb := true) (e_var (pv 1)) (a_cons (fa := true) (fb := true) e_int (a_cons (fa := true) (fb := true) (e_var (pv 2)) a_nil))) rfl (aCons_len (aCons_len (aCons_len (fun _ _ h => aNil_len h))))) p_no (p_at e_int))))) (a_cons (fa := true) (fb := true) (e_var (pv 4)) (a_cons (fa := true) (fb := true) (e_var (pv 5)) a_nil)))) rfl (aCons_len (aCons_len (aCons_len (aCons_len (fun _ _ h => aNil_len h))))))))
(b_cons (s_if (t_w (w_or (t_cmp (op_neD hr.units) r_ne (e_f (f_lc (own := [("r", 22)]) rfl sc_law.nd (i_range1 (by rfl) T.n_range (a_cons (fa := true) (fb := true) (e_var (pv 2)) a_nil)) (by kernel_rfl) (gB fun _ _ _ _ _ => (g_name (pg_name sc_law.nd rfl (Or.inl rfl)))) (tsB fun _ _ _ _ _ => (ts_one (t_not (t_tru (e_fn (ok__law_after T) hr (by decide) (by rfl) (a_cons (fa := true) (fb := true) (e_ix (fa := true) (fb := true) (e_var (pv 7)) (e_var (pv 22))) (a_cons (fa := true) (fb := true) (e_ix (fa := true) (fb := true) (e_var (pv 6)) (e_var (pv 22))) a_nil)) rfl (aCons_len (aCons_len (fun _ _ h => aNil_len h)))))))) (eB fun _ _ _ _ _ => (e_var (pv 22))))) (e_f (f_lst a_nil))) (w_or1 (t_w (w_and (t_cmp op_lt r_lt (e_cb call_len_seq cr_len (by rfl) T.n_len boot_len (a_cons (fa := true) (fb := true) (e_var (pv 3)) a_nil)) e_int) (w_and1 (t_cmp (op_neD hr.units) r_ne (e_f (f_lc (own := [("r", 22)]) rfl sc_law.nd (i_range1 (by rfl) T.n_range (a_cons (fa := true) (fb := true) (e_var (pv 2)) a_nil)) (by kernel_rfl) (gB fun _ _ _ _ _ => (g_name (pg_name sc_law.nd rfl (Or.inl rfl)))) (tsB fun _ _ _ _ _ => (ts_one (t_not (t_tru (e_fn (ok__law_after T) hr (by decide) (by rfl) (a_cons (fa := true) (fb := true) (e_ix (fa := true) (fb := true) (e_var (pv 6)) (e_var (pv 22))) (a_cons (fa := true) (fb := true) (e_ix (fa := true) (fb := true) (e_var (pv 8)) (e_var (pv 22))) a_nil)) rfl (aCons_len (aCons_len (fun _ _ h => aNil_len h)))))))) (eB fun _ _ _ _ _ => (e_var (pv 22))))) (e_f (f_lst a_nil)))))))))
(b_one (s_ret e_bl))
b_nil)
(b_cons (s_set sc_law.nd rfl (Or.inr rfl) (r_e e_non))
(b_cons (s_for PassesOwn.never rfl (i_range1 (by rfl) T.n_range (a_cons (fa := true) (fb := true) e_int a_nil)) (g_name (pg_name sc_law.nd rfl (Or.inl rfl)))
(b_cons (s_set sc_law.nd rfl (Or.inr rfl) (r_e (e_fn (ok_within T) hr (by decide) (by rfl) (a_cons (fa := true) (fb := true) (e_var (pv 2)) (a_cons (fa := true) (fb := true) (e_var (pv 3)) (a_cons (fa := true) (fb := true) (e_var (pv 4)) (a_cons (fa := true) (fb := true) (e_var (pv 5)) (a_cons (fa := true) (fb := true) (e_var (pv 10)) a_nil))))) rfl (aCons_len (aCons_len (aCons_len (aCons_len (aCons_len (fun _ _ h => aNil_len h)))))))))
(b_cons (s_if (t_w (w_and (t_cmp op_isnot r_isnot (e_var (pv 9)) e_non) (w_and1 (t_cmp (op_neD hr.units) r_ne (e_f (f_lc (own := [("r", 22)]) rfl sc_law.nd (i_range1 (by rfl) T.n_range (a_cons (fa := true) (fb := true) (e_var (pv 2)) a_nil)) (by kernel_rfl) (gB fun _ _ _ _ _ => (g_name (pg_name sc_law.nd rfl (Or.inl rfl)))) (tsB fun _ _ _ _ _ => (ts_one (t_not (t_tru (e_fn (ok__law_after T) hr (by decide) (by rfl) (a_cons (fa := true) (fb := true) (e_ix (fa := true) (fb := true) (e_var (pv 9)) (e_var (pv 22))) (a_cons (fa := true) (fb := true) (e_ix (fa := true) (fb := true) (e_var (pv 11)) (e_var (pv 22))) a_nil)) rfl (aCons_len (aCons_len (fun _ _ h => aNil_len h)))))))) (eB fun _ _ _ _ _ => (e_var (pv 22))))) (e_f (f_lst a_nil))))))
(b_one (s_ret e_bl))
b_nil)
(b_one (s_set sc_law.nd rfl (Or.inr rfl) (r_e (e_var (pv 11))))))))
(b_cons (s_if (t_cmp (op_neD hr.units) r_ne (e_var (pv 9)) (e_var (pv 6)))
(b_one (s_ret e_bl))
b_nil)
(b_cons (s_for PassesOwn.never rfl (i_range1 (by rfl) T.n_range (a_cons (fa := true) (fb := true) (e_var (pv 2)) a_nil)) (g_name (pg_name sc_law.nd rfl (Or.inr rfl)))
(b_cons (s_set sc_law.nd rfl (Or.inr rfl) (r_e (e_fn (ok_journey T) hr (by decide) (by rfl) (a_cons (fa := true) (fb := true) (e_var (pv 2)) (a_cons (fa := true) (fb := true) (e_var (pv 3)) (a_cons (fa := true) (fb := true) (e_var (pv 4)) (a_cons (fa := true) (fb := true) (e_var (pv 12)) (a_cons (fa := true) (fb := true) (e_var (pv 5)) a_nil))))) rfl (aCons_len (aCons_len (aCons_len (aCons_len (aCons_len (fun _ _ h => aNil_len h)))))))))
(b_cons (s_if (t_cmp (op_neD hr.units) r_ne (e_cmp (fa := true) (fb := true) op_isN r_is (e_var (pv 11)) e_non) (e_cmp (fa := true) (fb := true) op_isN r_is (e_ix (fa := true) (fb := true) (e_var (pv 6)) (e_var (pv 12))) e_non))
(b_one (s_ret e_bl))
b_nil)
(b_one (s_if (t_cmp op_isnot r_isnot (e_var (pv 11)) e_non)
(b_cons (s_if (t_w (w_or (t_not (t_tru (e_fn (ok__law_kept T) hr (by decide) (by rfl) (a_cons (fa := true) (fb := true) (e_var (pv 3)) (a_cons (fa := true) (fb := true) (e_var (pv 4)) (a_cons (fa := true) (fb := true) (e_var (pv 5)) (a_cons (fa := true) (fb := true) (e_var (pv 12)) (a_cons (fa := true) (fb := true) (e_var (pv 11)) a_nil))))) rfl (aCons_len (aCons_len (aCons_len (aCons_len (aCons_len (fun _ _ h => aNil_len h))))))))) (w_or1 (t_cmp (op_neD hr.units) r_ne (e_ix (fa := true) (fb := true) (e_fn (ok_within T) hr (by decide) (by rfl) (a_cons (fa := true) (fb := true) (e_var (pv 2)) (a_cons (fa := true) (fb := true) (e_var (pv 3)) (a_cons (fa := true) (fb := true) (e_var (pv 4)) (a_cons (fa := true) (fb := true) (e_var (pv 5)) (a_cons (fa := true) (fb := true) (e_cb call_len_seq cr_len (by rfl) T.n_len boot_len (a_cons (fa := true) (fb := true) (e_var (pv 11)) a_nil)) a_nil))))) rfl (aCons_len (aCons_len (aCons_len (aCons_len (aCons_len (fun _ _ h => aNil_len h))))))) (e_var (pv 12))) (e_ix (fa := true) (fb := true) (e_var (pv 6)) (e_var (pv 12)))))))
(b_one (s_ret e_bl))
b_nil)
(b_one (s_if (t_w (w_and (t_cmp (op_neD hr.units) r_ne (e_var (pv 11)) (e_f (f_lst a_nil))) (w_and1 (t_w (w_or (t_cmp (op_neD hr.units) r_ne (e_op (fa := true) (fb := true) op_add r_add (e_ix (fa := true) (fb := true) (e_ix (fa := true) (fb := true) (e_var (pv 11)) (e_neg e_int)) e_int) (e_ix (fa := true) (fb := true) (e_ix (fa := true) (fb := true) (e_var (pv 3)) (e_ix (fa := true) (fb := true) (e_ix (fa := true) (fb := true) (e_var (pv 11)) (e_neg e_int)) e_int)) e_int)) (e_ix (fa := true) (fb := true) (e_var (pv 6)) (e_var (pv 12)))) (w_or1 (t_cmp (op_eqD hr.units) r_eq (e_ix (fa := true) (fb := true) (e_fn (ok_within T) hr (by decide) (by rfl) (a_cons (fa := true) (fb := true) (e_var (pv 2)) (a_cons (fa := true) (fb := true) (e_var (pv 3)) (a_cons (fa := true) (fb := true) (e_var (pv 4)) (a_cons (fa := true) (fb := true) (e_var (pv 5)) (a_cons (fa := true) (fb := true) (e_op (fa := true) (fb := true) op_sub r_sub (e_cb call_len_seq cr_len (by rfl) T.n_len boot_len (a_cons (fa := true) (fb := true) (e_var (pv 11)) a_nil)) e_int) a_nil))))) rfl (aCons_len (aCons_len (aCons_len (aCons_len (aCons_len (fun _ _ h => aNil_len h))))))) (e_var (pv 12))) (e_ix (fa := true) (fb := true) (e_var (pv 6)) (e_var (pv 12))))))))))
(b_one (s_ret e_bl))
b_nil)))
b_nil)))))
(b_cons (s_asg (e_tup (a_cons (fa := true) (fb := true) (e_fn (ok__law_mix T) hr (by decide) (by rfl) (a_cons (fa := true) (fb := true) (e_var (pv 1)) (a_cons (fa := true) (fb := true) e_int (a_cons (fa := true) (fb := true) (e_var (pv 2)) a_nil))) rfl (aCons_len (aCons_len (aCons_len (fun _ _ h => aNil_len h))))) (a_cons (fa := true) (fb := true) (e_ix (fa := true) (fb := true) (e_f (f_lst (a_cons (fa := true) (fb := true) (e_fn (ok__law_mix T) hr (by decide) (by rfl) (a_cons (fa := true) (fb := true) (e_var (pv 1)) (a_cons (fa := true) (fb := true) e_int (a_cons (fa := true) (fb := true) e_int a_nil))) rfl (aCons_len (aCons_len (aCons_len (fun _ _ h => aNil_len h))))) (a_cons (fa := true) (fb := true) (e_fn (ok__law_mix T) hr (by decide) (by rfl) (a_cons (fa := true) (fb := true) (e_var (pv 1)) (a_cons (fa := true) (fb := true) e_int (a_cons (fa := true) (fb := true) e_int a_nil))) rfl (aCons_len (aCons_len (aCons_len (fun _ _ h => aNil_len h))))) a_nil)))) (e_fn (ok__law_mix T) hr (by decide) (by rfl) (a_cons (fa := true) (fb := true) (e_var (pv 1)) (a_cons (fa := true) (fb := true) e_int (a_cons (fa := true) (fb := true) e_int a_nil))) rfl (aCons_len (aCons_len (aCons_len (fun _ _ h => aNil_len h)))))) a_nil))) (g_tup rfl (gs_cons (g_name (pg_name sc_law.nd rfl (Or.inr rfl))) (gs_cons (g_name (pg_name sc_law.nd rfl (Or.inl rfl))) gs_nil))))
(b_cons (s_set sc_law.nd rfl (Or.inr rfl) (r_e (e_fn (ok_latest T) hr (by decide) (by rfl) (a_cons (fa := true) (fb := true) (e_var (pv 2)) (a_cons (fa := true) (fb := true) (e_var (pv 3)) (a_cons (fa := true) (fb := true) (e_var (pv 12)) (a_cons (fa := true) (fb := true) (e_var (pv 13)) a_nil)))) rfl (aCons_len (aCons_len (aCons_len (aCons_len (fun _ _ h => aNil_len h))))))))
(b_cons (s_for PassesOwn.never rfl (i_range1 (by rfl) T.n_range (a_cons (fa := true) (fb := true) (e_var (pv 2)) a_nil)) (g_name (pg_name sc_law.nd rfl (Or.inl rfl)))
(b_cons (s_set sc_law.nd rfl (Or.inl rfl) (r_e (e_f (f_cat (e_f (f_lst (a_cons (fa := true) (fb := true) e_int (a_cons (fa := true) (fb := true) (e_var (pv 13)) (a_cons (fa := true) (fb := true) (e_fn (ok__law_mix T) hr (by decide) (by rfl) (a_cons (fa := true) (fb := true) (e_var (pv 1)) (a_cons (fa := true) (fb := true) (e_op (fa := true) (fb := true) op_add r_add e_int (e_var (pv 15))) (a_cons (fa := true) (fb := true) e_int a_nil))) rfl (aCons_len (aCons_len (aCons_len (fun _ _ h => aNil_len h))))) a_nil))))) (e_f (f_lc (own := [("number", 10)]) rfl sc_law.nd (i_list (e_f (f_lst (a_cons (fa := true) (fb := true) (e_ix (fa := true) (fb := true) (e_var (pv 14)) (e_var (pv 15))) (a_cons (fa := true) (fb := true) (e_op (fa := true) (fb := true) op_add r_add (e_or (fa := true) (fb := true) (e_ix (fa := true) (fb := true) (e_var (pv 14)) (e_var (pv 15))) (e_one e_int)) e_int) a_nil))))) (by kernel_rfl) (gB fun _ _ _ _ _ => (g_name (pg_name sc_law.nd rfl (Or.inl rfl)))) (tsB fun _ _ _ _ _ => (ts_one (t_cmp op_isnot r_isnot (e_var (pv 10)) e_non))) (eB fun _ _ _ _ _ => (e_var (pv 10)))))))))
(b_one (s_for PassesOwn.never rfl (i_list (e_var (pv 16))) (g_name (pg_name sc_law.nd rfl (Or.inl rfl)))
(b_cons (s_set sc_law.nd rfl (Or.inl rfl) (r_e (e_ix (fa := true) (fb := true) (e_fn (ok_foremost T) hr (by decide) (by rfl) (a_cons (fa := true) (fb := true) (e_var (pv 2)) (a_cons (fa := true) (fb := true) (e_var (pv 3)) (a_cons (fa := true) (fb := true) (e_var (pv 15)) (a_cons (fa := true) (fb := true) (e_var (pv 17)) a_nil)))) rfl (aCons_len (aCons_len (aCons_len (aCons_len (fun _ _ h => aNil_len h)))))) (e_var (pv 12)))))
(b_one (s_if (t_cmp (op_neD hr.units) r_ne (e_and (fa := true) (fb := true) (e_cmp (fa := true) (fb := true) op_isnot r_isnot (e_var (pv 18)) e_non) (e_one (e_cmp (fa := true) (fb := true) op_le r_le (e_var (pv 18)) (e_var (pv 13))))) (e_and (fa := true) (fb := true) (e_cmp (fa := true) (fb := true) op_isnot r_isnot (e_ix (fa := true) (fb := true) (e_var (pv 14)) (e_var (pv 15))) e_non) (e_one (e_cmp (fa := true) (fb := true) op_le r_le (e_var (pv 17)) (e_ix (fa := true) (fb := true) (e_var (pv 14)) (e_var (pv 15)))))))
(b_one (s_ret e_bl))
b_nil)))))))
(b_cons (s_setLc (own := [("one", 23), ("two", 24), ("first", 25), ("end_there", 26), ("delay", 27)]) rfl sc_law.nd rfl rfl (sw_true rfl rfl rfl (by decide +kernel)) (i_list (e_var (pv 3))) (by kernel_rfl) (gB fun _ _ _ _ _ => (g_tup rfl (gs_cons (g_name (pg_name sc_law.nd rfl (Or.inl rfl))) (gs_cons (g_name (pg_name sc_law.nd rfl (Or.inl rfl))) (gs_cons (g_name (pg_name sc_law.nd rfl (Or.inl rfl))) (gs_cons (g_name (pg_name sc_law.nd rfl (Or.inl rfl))) (gs_cons (g_name (pg_name sc_law.nd rfl (Or.inl rfl))) gs_nil))))))) (tsB fun _ _ _ _ _ => ts_nil) (eB fun _ _ _ _ _ => (e_tup (a_cons (fa := true) (fb := true) (e_var (pv 24)) (a_cons (fa := true) (fb := true) (e_var (pv 23)) (a_cons (fa := true) (fb := true) (e_op (fa := true) (fb := true) op_sub r_sub (e_op (fa := true) (fb := true) op_sub r_sub (e_op (fa := true) (fb := true) op_add r_add e_int e_int) (e_var (pv 26))) (e_var (pv 27))) (a_cons (fa := true) (fb := true) (e_op (fa := true) (fb := true) op_sub r_sub (e_op (fa := true) (fb := true) op_sub r_sub (e_op (fa := true) (fb := true) op_add r_add e_int e_int) (e_var (pv 25))) (e_var (pv 27))) (a_cons (fa := true) (fb := true) (e_var (pv 27)) a_nil))))))) (hl := lc_fro))
(b_cons (s_if (t_w (w_and (t_cmp (op_eqD hr.units) r_eq (e_f (f_lc (own := [("one", 23)]) rfl sc_law.nd (i_list (e_var (pv 19))) (by kernel_rfl) (gB fun _ _ _ _ _ => (g_name (pg_name sc_law.nd rfl (Or.inl rfl)))) (tsB fun _ _ _ _ _ => (ts_one (t_cmp op_gt r_gt (e_ix (fa := true) (fb := true) (e_var (pv 23)) e_int) e_int))) (eB fun _ _ _ _ _ => (e_var (pv 23))))) (e_f (f_lst a_nil))) (w_and1 (t_cmp op_le r_le (e_var (pv 13)) e_int))))
(b_cons (s_set sc_law.nd rfl (Or.inr rfl) (r_e (e_fn (ok_foremost T) hr (by decide) (by rfl) (a_cons (fa := true) (fb := true) (e_var (pv 2)) (a_cons (fa := true) (fb := true) (e_var (pv 19)) (a_cons (fa := true) (fb := true) (e_var (pv 12)) (a_cons (fa := true) (fb := true) (e_op (fa := true) (fb := true) op_sub r_sub e_int (e_var (pv 13))) a_nil)))) rfl (aCons_len (aCons_len (aCons_len (aCons_len (fun _ _ h => aNil_len h))))))))
(b_one (s_if (t_cmp (op_neD hr.units) r_ne (e_f (f_lc (own := [("r", 22)]) rfl sc_law.nd (i_range1 (by rfl) T.n_range (a_cons (fa := true) (fb := true) (e_var (pv 2)) a_nil)) (by kernel_rfl) (gB fun _ _ _ _ _ => (g_name (pg_name sc_law.nd rfl (Or.inl rfl)))) (tsB fun _ _ _ _ _ => (ts_one (t_w (w_and (t_cmp (op_neD hr.units) r_ne (e_var (pv 22)) (e_var (pv 12))) (w_and1 (t_cmp (op_neD hr.units) r_ne (e_ix (fa := true) (fb := true) (e_var (pv 20)) (e_var (pv 22))) (e_ix (fa := true) (fb := true) (e_f (f_lst (a_cons (fa := true) (fb := true) e_non (a_cons (fa := true) (fb := true) (e_op (fa := true) (fb := true) op_sub r_sub e_int (e_or (fa := true) (fb := true) (e_ix (fa := true) (fb := true) (e_var (pv 14)) (e_var (pv 22))) (e_one e_int))) a_nil)))) (e_cty call_int1 cr_int (by rfl) T.n_int PyProof.Rows.boot_int (a_cons (fa := true) (fb := true) (e_cmp (fa := true) (fb := true) op_isnot r_isnot (e_ix (fa := true) (fb := true) (e_var (pv 14)) (e_var (pv 22))) e_non) a_nil))))))))) (eB fun _ _ _ _ _ => (e_var (pv 22))))) (e_f (f_lst a_nil)))
(b_one (s_ret e_bl))
b_nil)))
b_nil)
(b_cons (s_set sc_law.nd rfl (Or.inl rfl) (r_e (e_f (f_lst (a_cons (fa := true) (fb := true) (e_tup (a_cons (fa := true) (fb := true) e_int (a_cons (fa := true) (fb := true) e_int (a_cons (fa := true) (fb := true) e_int (a_cons (fa := true) (fb := true) e_int (a_cons (fa := true) (fb := true) e_int a_nil)))))) (a_cons (fa := true) (fb := true) (e_tup (a_cons (fa := true) (fb := true) e_int (a_cons (fa := true) (fb := true) e_int (a_cons (fa := true) (fb := true) e_int (a_cons (fa := true) (fb := true) e_int (a_cons (fa := true) (fb := true) e_int a_nil)))))) (a_cons (fa := true) (fb := true) (e_tup (a_cons (fa := true) (fb := true) e_int (a_cons (fa := true) (fb := true) e_int (a_cons (fa := true) (fb := true) e_int (a_cons (fa := true) (fb := true) e_int (a_cons (fa := true) (fb := true) e_int a_nil)))))) (a_cons (fa := true) (fb := true) (e_tup (a_cons (fa := true) (fb := true) e_int (a_cons (fa := true) (fb := true) e_int (a_cons (fa := true) (fb := true) e_int (a_cons (fa := true) (fb := true) e_int (a_cons (fa := true) (fb := true) e_int a_nil)))))) a_nil))))))))
(b_one (s_ret (e_and (fa := true) (fb := true) (e_cmp (fa := true) (fb := true) (op_eqD hr.units) r_eq (e_cb (call_reprD (units100 hr) hgd) r_repr (by rfl) T.n_repr boot_repr (a_cons (fa := true) (fb := true) (e_fn (ok_foremost T) hr (by decide) (by rfl) (a_cons (fa := true) (fb := true) e_int (a_cons (fa := true) (fb := true) (e_var (pv 21)) (a_cons (fa := true) (fb := true) e_int (a_cons (fa := true) (fb := true) e_int a_nil)))) rfl (aCons_len (aCons_len (aCons_len (aCons_len (fun _ _ h => aNil_len h)))))) a_nil)) e_str) (e_and (fa := true) (fb := true) (e_cmp (fa := true) (fb := true) (op_eqD hr.units) r_eq (e_fn (ok_journey T) hr (by decide) (by rfl) (a_cons (fa := true) (fb := true) e_int (a_cons (fa := true) (fb := true) (e_var (pv 21)) (a_cons (fa := true) (fb := true) e_int (a_cons (fa := true) (fb := true) e_int (a_cons (fa := true) (fb := true) e_int a_nil))))) rfl (aCons_len (aCons_len (aCons_len (aCons_len (aCons_len (fun _ _ h => aNil_len h))))))) (e_f (f_lst (a_cons (fa := true) (fb := true) (e_tup (a_cons (fa := true) (fb := true) e_int (a_cons (fa := true) (fb := true) e_int a_nil))) (a_cons (fa := true) (fb := true) (e_tup (a_cons (fa := true) (fb := true) e_int (a_cons (fa := true) (fb := true) e_int a_nil))) a_nil))))) (e_and (fa := true) (fb := true) (e_cmp (fa := true) (fb := true) (op_eqD hr.units) r_eq (e_fn (ok_latest T) hr (by decide) (by rfl) (a_cons (fa := true) (fb := true) e_int (a_cons (fa := true) (fb := true) (e_var (pv 21)) (a_cons (fa := true) (fb := true) e_int (a_cons (fa := true) (fb := true) e_int a_nil)))) rfl (aCons_len (aCons_len (aCons_len (aCons_len (fun _ _ h => aNil_len h)))))) (e_f (f_lst (a_cons (fa := true) (fb := true) e_int (a_cons (fa := true) (fb := true) e_int (a_cons (fa := true) (fb := true) e_int a_nil)))))) (e_one (e_cmp (fa := true) (fb := true) (op_eqD hr.units) r_eq (e_fn (ok_journey T) hr (by decide) (by rfl) (a_cons (fa := true) (fb := true) e_int (a_cons (fa := true) (fb := true) (e_var (pv 21)) (a_cons (fa := true) (fb := true) e_int (a_cons (fa := true) (fb := true) e_int (a_cons (fa := true) (fb := true) e_int a_nil))))) rfl (aCons_len (aCons_len (aCons_len (aCons_len (aCons_len (fun _ _ h => aNil_len h))))))) (e_f (f_lst (a_cons (fa := true) (fb := true) (e_tup (a_cons (fa := true) (fb := true) e_int (a_cons (fa := true) (fb := true) e_int a_nil))) a_nil)))))))))))))))))))))))))))))
theorem law_end {l : PySem.W.OpenLaw} {w : World} {K : PySem.W.Frag} {h : Heap} {mg : Str → Option Value} {fa : Addr} (X : K.In h) (G : h.Ns mainGlobals mg) (hfa : mg "law" = some (.ref fa))
    (d_is_contact : DefAt K mg "is_contact" "is_contact" (topS 12))
    (d_check_router : DefAt K mg "check_router" "check_router" (topS 14))
    (d_check_tick : DefAt K mg "check_tick" "check_tick" (topS 15))
    (d_leaves_at : DefAt K mg "leaves_at" "leaves_at" (topS 16))
    (d_sooner : DefAt K mg "sooner" "sooner" (topS 17))
    (d__law_draws : DefAt K mg "_law_draws" "_law_draws" (topS 29))
    (d__law_mix : DefAt K mg "_law_mix" "_law_mix" (topS 30))
    (d__law_after : DefAt K mg "_law_after" "_law_after" (topS 32))
    (d__law_kept : DefAt K mg "_law_kept" "_law_kept" (topS 33))
    (d_check_contacts : DefAt K mg "check_contacts" "check_contacts" (topS 13))
    (d_next_row : DefAt K mg "next_row" "next_row" (topS 18))
    (d_by_which : DefAt K mg "by_which" "by_which" (topS 25))
    (d__law_contacts : DefAt K mg "_law_contacts" "_law_contacts" (topS 31))
    (d_rows_of : DefAt K mg "rows_of" "rows_of" (topS 19))
    (d_check_all : DefAt K mg "check_all" "check_all" (topS 20))
    (d_latest : DefAt K mg "latest" "latest" (topS 27))
    (d_foremost : DefAt K mg "foremost" "foremost" (topS 21))
    (d_is_foremost : DefAt K mg "is_foremost" "is_foremost" (topS 22))
    (d_within : DefAt K mg "within" "within" (topS 23))
    (d_journey : DefAt K mg "journey" "journey" (topS 26))
    (d_law : DefAt K mg "law" "law" (topS 34))
    (c_MOST_CONTACTS : IntAt mg "MOST_CONTACTS" 40)
    (c_MOST_DELAY : IntAt mg "MOST_DELAY" 1000)
    (c_MOST_ROUTERS : IntAt mg "MOST_ROUTERS" 16)
    (c_MOST_START : IntAt mg "MOST_START" 20000)
    (c_MOST_TICK : IntAt mg "MOST_TICK" 10000)
    (n_abs : mg "abs" = none)
    (n_all : mg "all" = none)
    (n_enumerate : mg "enumerate" = none)
    (n_int : mg "int" = none)
    (n_len : mg "len" = none)
    (n_list : mg "list" = none)
    (n_max : mg "max" = none)
    (n_min : mg "min" = none)
    (n_range : mg "range" = none)
    (n_repr : mg "repr" = none) :
    ∃ fd : FuncData, (∀ (s : Shared) (u : Value), BindsTo s fd ⟨[u], []⟩ [("script", u)]) ∧ ∀ base : Heap, K.In base → base.Ns mainGlobals mg → FnG l.prog w K mg base 5 fa fd ["script"] (FSp K 1 m_law) := by
  have T : Txt K mg := ⟨d_is_contact, d_check_router, d_check_tick, d_leaves_at, d_sooner, d__law_draws, d__law_mix, d__law_after, d__law_kept, d_check_contacts, d_next_row, d_by_which, d__law_contacts, d_rows_of, d_check_all, d_latest, d_foremost, d_is_foremost, d_within, d_journey, d_law, c_MOST_CONTACTS, c_MOST_DELAY, c_MOST_ROUTERS, c_MOST_START, c_MOST_TICK, n_abs, n_all, n_enumerate, n_int, n_len, n_list, n_max, n_min, n_range, n_repr⟩
  obtain ⟨f, fd, h1, F⟩ := d_law
  rw [hfa] at h1
  cases h1
  refine ⟨fd, ?_, fun base _ _ => ok_law T F⟩
  obtain ⟨oc, od, kV, doc, pm, an, cdv, ct, osl, rfl, lk, hcd⟩ := F.ex
  exact fun s u => .of_eq rfl
end K65


set_option maxRecDepth 100000
set_option maxHeartbeats 4000000
/-! ZS: what the readings come to, step by step; loops over typed lists; typed data. -/
namespace Z
open PySem PySem.Spec PyProof.Rows L2
/-! what comes first is looked at first: nothing stands under a binder -/
def q1 {α β : Type} (f : α → β) : Option α → Option β
  | some x => some (f x)
  | none => none
def qb {α β : Type} (f : α → Option β) : Option α → Option β
  | some x => f x
  | none => none
def q2 (op : D → D → Option D) : Option D → Option D → Option D
  | some x, some y => op x y
  | _, _ => none
def qIf {β : Type} (f g : EV → Option β) (ev : EV) : Option Bool → Option β
  | some true => f ev
  | some false => g ev
  | none => none
def qOr2 (x : D) (g : EV → Option D) (ev : EV) : Option Bool → Option D
  | some true => some x
  | some false => g ev
  | none => none
def qAnd2 (x : D) (g : EV → Option D) (ev : EV) : Option Bool → Option D
  | some true => g ev
  | some false => some x
  | none => none
def qOr (g : EV → Option D) (ev : EV) : Option D → Option D
  | some x => qOr2 x g ev x.tru
  | none => none
def qAnd (g : EV → Option D) (ev : EV) : Option D → Option D
  | some x => qAnd2 x g ev x.tru
  | none => none
def qFlat : Option D → Option D
  | some d => if d.flat then some d else none
  | none => none
def qCh (l : D → EV → Option D) (ev : EV) : Option D → Option D
  | some x => l x ev
  | none => none
def qLast (op : D → D → Option D) (x : D) : Option D → Option D
  | some y => (match op x y with
    | some (.bl k) => some (.bl k)
    | _ => none)
  | none => none
def qLink2 (r : D → EV → Option D) (y : D) (ev : EV) : Option D → Option D
  | some (.bl true) => r y ev
  | some (.bl false) => some (.bl false)
  | _ => none
def qLink (op : D → D → Option D) (r : D → EV → Option D) (x : D) (ev : EV) : Option D → Option D
  | some y => qLink2 r y ev (op x y)
  | none => none
def qIxo : Option L → Option D → Option D
  | some (.own xs), some (.int k) => atI xs k
  | _, _ => none
def qCons : Option D → Option (List D) → Option (List D)
  | some x, some xs => some (x :: xs)
  | _, _ => none
def qTup : Option (List D) → Option D
  | some ds => if ds.length ≤ 1000 then some (.tup ds) else none
  | none => none
def qKl : Option (List D) → Option (List D)
  | some ds => if ds.length ≤ 1000 then some ds else none
  | none => none
def qAt : Option D → Option (Option Int)
  | some (.int i) => some (some i)
  | _ => none
def qSl : Option D → Option (Option Int) → Option (Option Int) → Option (List D)
  | some (.lst xs), some a, some b => some (cutD xs a b)
  | _, _, _ => none
def qSlo : Option L → Option (Option Int) → Option (Option Int) → Option (List D)
  | some (.own xs), some a, some b => some (cutD xs a b)
  | _, _, _ => none
def qSlT : Option D → Option (Option Int) → Option (Option Int) → Option D
  | some (.tup xs), some a, some b => if ¬ (HT.sIx xs.length 0 a = 0 ∧ HT.sIx xs.length xs.length b = xs.length) then some (.tup (cutD xs a b)) else none
  | _, _, _ => none
def qRev : Option D → Option (List D)
  | some (.lst xs) => some xs.reverse
  | _ => none
def qRevo : Option L → Option (List D)
  | some (.own xs) => some xs.reverse
  | _ => none
def qCat : Option D → Option D → Option (List D)
  | some (.lst xs), some (.lst ys) => if xs.length + ys.length ≤ 16777216 then some (xs ++ ys) else none
  | _, _ => none
def qRep : Option D → Option D → Option (List D)
  | some (.lst xs), some (.int n) => if -(2 ^ 63) ≤ n ∧ n < 2 ^ 63 ∧ xs.length * n.toNat ≤ 16777216 then some (List.replicate n.toNat xs).flatten else none
  | _, _ => none
def qOf : Option (List D) → Option (List D)
  | some [.lst xs] => some xs
  | some [.tup xs] => some xs
  | _ => none
def qL : Option D → Option (List D)
  | some (.lst xs) => some xs
  | _ => none
def qT : Option D → Option (List D)
  | some (.tup xs) => some xs
  | _ => none
def qO : Option L → Option (List D)
  | some (.own xs) => some xs
  | _ => none
def qR1 : Option (List D) → Option (List D)
  | some [.int j] => if -4611686018427387904 ≤ j ∧ j < 4611686018427387904 then some (rangeD 0 j) else none
  | _ => none
def qR2 : Option (List D) → Option (List D)
  | some [.int i, .int j] => if -4611686018427387904 ≤ i ∧ i < 4611686018427387904 ∧ -4611686018427387904 ≤ j ∧ j < 4611686018427387904 then some (rangeD i j) else none
  | _ => none
def qEn : Option (List D) → Option (List D)
  | some [.lst xs] => some (enumD xs)
  | _ => none
def qZp : Option (List D) → Option (List D)
  | some [.lst xs, .lst ys] => some (zipD xs ys)
  | _ => none
def qV : Option L → Option D
  | some (.fro d) => some d
  | _ => none
def qW : Option L → Option D
  | some (.own xs) => some (.lst xs)
  | _ => none
def qSet (i : Nat) (ev : EV) : Option L → Option Fl
  | some l => some (.nx (ev.set i l))
  | none => none
def qPar (i j : Nat) (ev : EV) : Option L → Option L → Option Fl
  | some l, some m => some (.nx ((ev.set i l).set j m))
  | _, _ => none
def qPar3 (i j o : Nat) (ev : EV) : Option L → Option L → Option L → Option Fl
  | some l, some m, some n => some (.nx (((ev.set i l).set j m).set o n))
  | _, _, _ => none
def qNx : Option EV → Option Fl
  | some e => some (.nx e)
  | none => none
def qAsg (mm : D → EV → Option EV) (ev : EV) : Option D → Option Fl
  | some d => qNx (mm d ev)
  | none => none
def qMs (ms : List D → EV → Option EV) (ds : List D) : Option EV → Option EV
  | some ev => ms ds ev
  | none => none
def qApp (i : Nat) (ev : EV) : Option L → Option D → Option Fl
  | some (.own xs), some d => if xs.length < 16777216 then some (.nx (ev.set i (.own (xs ++ [d])))) else none
  | _, _ => none
def qExt (i : Nat) (ev : EV) : Option L → Option D → Option Fl
  | some (.own xs), some (.lst ys) => if xs.length + ys.length ≤ 16777216 then some (.nx (ev.set i (.own (xs ++ ys)))) else none
  | _, _ => none
def qSub2 (i : Nat) (ev : EV) (xs : List D) (d : D) : Option Nat → Option Fl
  | some j => some (.nx (ev.set i (.own (xs.set j d))))
  | none => none
def qSub (i : Nat) (ev : EV) : Option L → Option D → Option D → Option Fl
  | some (.own xs), some (.int n), some d => qSub2 i ev xs d (ixN xs.length n)
  | _, _, _ => none
def qFor (mm : D → EV → Option EV) (u : EV → Option Fl) (ev : EV) : Option (List D) → Option Fl
  | some ds => forGo mm u ds ev
  | none => none
def qSeq (v : EV → Option Fl) : Option Fl → Option Fl
  | some (.nx e) => v e
  | some (.rt d) => some (.rt d)
  | some (.bk e) => some (.bk e)
  | some (.ct e) => some (.ct e)
  | none => none
def qFrz (i : Nat) (ev : EV) : Option L → EV
  | some (.own xs) => ev.set i (.fro (.lst xs))
  | _ => ev
section
variable {α β : Type} {f : α → β} {fb : α → Option β} {x : α} {d y z : D} {ds es : List D} {ev : EV} {i j o k : Nat} {a b : Int} {op : D → D → Option D} {u v : EV → Option β} {g : EV → Option D} {l m n : L} {c : Bool} {r : D → EV → Option D}
@[simp] theorem q1_s : q1 f (some x) = some (f x) := .trans rfl rfl
@[simp] theorem qb_s : qb fb (some x) = fb x := .trans rfl rfl
@[simp] theorem q2_s : q2 op (some y) (some z) = op y z := .trans rfl rfl
@[simp] theorem qIf_t : qIf u v ev (some true) = u ev := .trans rfl rfl
@[simp] theorem qIf_f : qIf u v ev (some false) = v ev := .trans rfl rfl
theorem qIf_b : qIf u v ev (some c) = if c then u ev else v ev := by cases c <;> rfl
@[simp] theorem qOr2_t : qOr2 y g ev (some true) = some y := .trans rfl rfl
@[simp] theorem qOr2_f : qOr2 y g ev (some false) = g ev := .trans rfl rfl
@[simp] theorem qAnd2_t : qAnd2 y g ev (some true) = g ev := .trans rfl rfl
@[simp] theorem qAnd2_f : qAnd2 y g ev (some false) = some y := .trans rfl rfl
@[simp] theorem qOr_s : qOr g ev (some y) = qOr2 y g ev y.tru := .trans rfl rfl
@[simp] theorem qAnd_s : qAnd g ev (some y) = qAnd2 y g ev y.tru := .trans rfl rfl
@[simp] theorem qFlat_s : qFlat (some y) = if y.flat then some y else none := .trans rfl rfl
@[simp] theorem qCh_s : qCh r ev (some y) = r y ev := .trans rfl rfl
@[simp] theorem qLast_s : qLast op z (some y) = (match op z y with | some (.bl k) => some (.bl k) | _ => none) := .trans rfl rfl
@[simp] theorem qLink_s : qLink op r z ev (some y) = qLink2 r y ev (op z y) := .trans rfl rfl
@[simp] theorem qLink2_t : qLink2 r y ev (some (.bl true)) = r y ev := .trans rfl rfl
@[simp] theorem qLink2_f : qLink2 r y ev (some (.bl false)) = some (.bl false) := .trans rfl rfl
theorem qLink2_b : qLink2 r y ev (some (.bl c)) = if c then r y ev else some (.bl false) := by cases c <;> rfl
@[simp] theorem qIxo_s : qIxo (some (.own ds)) (some (.int a)) = atI ds a := .trans rfl rfl
@[simp] theorem qCons_s : qCons (some y) (some ds) = some (y :: ds) := .trans rfl rfl
@[simp] theorem qTup_s : qTup (some ds) = if ds.length ≤ 1000 then some (.tup ds) else none := .trans rfl rfl
@[simp] theorem qKl_s : qKl (some ds) = if ds.length ≤ 1000 then some ds else none := .trans rfl rfl
@[simp] theorem qAt_s : qAt (some (.int a)) = some (some a) := .trans rfl rfl
@[simp] theorem qSl_s {p q : Option Int} : qSl (some (.lst ds)) (some p) (some q) = some (cutD ds p q) := .trans rfl rfl
@[simp] theorem qSlo_s {p q : Option Int} : qSlo (some (.own ds)) (some p) (some q) = some (cutD ds p q) := .trans rfl rfl
@[simp] theorem qSlT_s {p q : Option Int} : qSlT (some (.tup ds)) (some p) (some q) = if ¬ (HT.sIx ds.length 0 p = 0 ∧ HT.sIx ds.length ds.length q = ds.length) then some (.tup (cutD ds p q)) else none := .trans rfl rfl
@[simp] theorem qRev_s : qRev (some (.lst ds)) = some ds.reverse := .trans rfl rfl
@[simp] theorem qRevo_s : qRevo (some (.own ds)) = some ds.reverse := .trans rfl rfl
@[simp] theorem qCat_s : qCat (some (.lst ds)) (some (.lst es)) = if ds.length + es.length ≤ 16777216 then some (ds ++ es) else none := .trans rfl rfl
@[simp] theorem qRep_s : qRep (some (.lst ds)) (some (.int a)) = if -(2 ^ 63) ≤ a ∧ a < 2 ^ 63 ∧ ds.length * a.toNat ≤ 16777216 then some (List.replicate a.toNat ds).flatten else none := .trans rfl rfl
@[simp] theorem qOf_l : qOf (some [.lst ds]) = some ds := .trans rfl rfl
@[simp] theorem qOf_t : qOf (some [.tup ds]) = some ds := .trans rfl rfl
@[simp] theorem qL_s : qL (some (.lst ds)) = some ds := .trans rfl rfl
@[simp] theorem qT_s : qT (some (.tup ds)) = some ds := .trans rfl rfl
@[simp] theorem qO_s : qO (some (.own ds)) = some ds := .trans rfl rfl
@[simp] theorem qR1_s : qR1 (some [.int a]) = if -4611686018427387904 ≤ a ∧ a < 4611686018427387904 then some (rangeD 0 a) else none := .trans rfl rfl
@[simp] theorem qR2_s : qR2 (some [.int a, .int b]) = if -4611686018427387904 ≤ a ∧ a < 4611686018427387904 ∧ -4611686018427387904 ≤ b ∧ b < 4611686018427387904 then some (rangeD a b) else none := .trans rfl rfl
@[simp] theorem qEn_s : qEn (some [.lst ds]) = some (enumD ds) := .trans rfl rfl
@[simp] theorem qZp_s : qZp (some [.lst ds, .lst es]) = some (zipD ds es) := .trans rfl rfl
@[simp] theorem qV_s : qV (some (.fro y)) = some y := .trans rfl rfl
@[simp] theorem qW_s : qW (some (.own ds)) = some (.lst ds) := .trans rfl rfl
@[simp] theorem qSet_s : qSet i ev (some l) = some (.nx (ev.set i l)) := .trans rfl rfl
@[simp] theorem qPar_s : qPar i j ev (some l) (some m) = some (.nx ((ev.set i l).set j m)) := .trans rfl rfl
@[simp] theorem qPar3_s : qPar3 i j o ev (some l) (some m) (some n) = some (.nx (((ev.set i l).set j m).set o n)) := .trans rfl rfl
@[simp] theorem qNx_s : qNx (some ev) = some (.nx ev) := .trans rfl rfl
@[simp] theorem qAsg_s {mm : D → EV → Option EV} : qAsg mm ev (some y) = qNx (mm y ev) := .trans rfl rfl
@[simp] theorem qMs_s {ms : List D → EV → Option EV} : qMs ms ds (some ev) = ms ds ev := .trans rfl rfl
@[simp] theorem qApp_s : qApp i ev (some (.own ds)) (some y) = if ds.length < 16777216 then some (.nx (ev.set i (.own (ds ++ [y])))) else none := .trans rfl rfl
@[simp] theorem qExt_s : qExt i ev (some (.own ds)) (some (.lst es)) = if ds.length + es.length ≤ 16777216 then some (.nx (ev.set i (.own (ds ++ es)))) else none := .trans rfl rfl
@[simp] theorem qSub_s : qSub i ev (some (.own ds)) (some (.int a)) (some y) = qSub2 i ev ds y (ixN ds.length a) := .trans rfl rfl
@[simp] theorem qSub2_s : qSub2 i ev ds y (some j) = some (.nx (ev.set i (.own (ds.set j y)))) := .trans rfl rfl
@[simp] theorem qFor_s {mm : D → EV → Option EV} {w : EV → Option Fl} : qFor mm w ev (some ds) = forGo mm w ds ev := .trans rfl rfl
@[simp] theorem qSeq_n {w : EV → Option Fl} : qSeq w (some (.nx ev)) = w ev := .trans rfl rfl
@[simp] theorem qSeq_r {w : EV → Option Fl} : qSeq w (some (.rt y)) = some (.rt y) := .trans rfl rfl
@[simp] theorem qSeq_b {w : EV → Option Fl} : qSeq w (some (.bk ev)) = some (.bk ev) := .trans rfl rfl
@[simp] theorem qSeq_c {w : EV → Option Fl} : qSeq w (some (.ct ev)) = some (.ct ev) := .trans rfl rfl
@[simp] theorem qFrz_o : qFrz i ev (some (.own ds)) = ev.set i (.fro (.lst ds)) := .trans rfl rfl
@[simp] theorem qFrz_f : qFrz i ev (some (.fro y)) = ev := .trans rfl rfl
end
section
variable {ev : EV} {i j o n m : Nat} {f g h : EV → Option D} {p q : EV → Option Bool} {u v : EV → Option Fl} {k : EV → Option (List D)} {op : D → D → Option D}
@[simp] theorem v_var : cVar i ev = qV ev[i]? := by
  unfold cVar qV
  split <;> simp_all
@[simp] theorem v_own : cOwn i ev = qW ev[i]? := by
  unfold cOwn qW
  split <;> simp_all
@[simp] theorem v_c {d : D} : cC d ev = some d := .trans rfl rfl
@[simp] theorem v_c2 : c2 op f g ev = q2 op (f ev) (g ev) := by
  unfold c2 q2
  cases f ev <;> cases g ev <;> rfl
@[simp] theorem v_c1 {op : D → Option D} : c1 op f ev = qb op (f ev) := by
  unfold c1 qb
  cases f ev <;> rfl
@[simp] theorem v_flat : cFlat f ev = qFlat (f ev) := by
  unfold cFlat qFlat
  cases f ev <;> rfl
@[simp] theorem v_or : cOr f g ev = qOr g ev (f ev) := by
  unfold cOr qOr
  cases f ev with
  | none => rfl
  | some x =>
    show x.tru.bind _ = qOr2 x g ev x.tru
    rcases x.tru with _ | _ | _ <;> rfl
@[simp] theorem v_and : cAnd f g ev = qAnd g ev (f ev) := by
  unfold cAnd qAnd
  cases f ev with
  | none => rfl
  | some x =>
    show x.tru.bind _ = qAnd2 x g ev x.tru
    rcases x.tru with _ | _ | _ <;> rfl
@[simp] theorem v_tand : tAndZ p q ev = qIf q (fun _ => some false) ev (p ev) := by
  unfold tAndZ
  rcases p ev with _ | _ | _ <;> rfl
@[simp] theorem v_tor : tOrZ p q ev = qIf (fun _ => some true) q ev (p ev) := by
  unfold tOrZ
  rcases p ev with _ | _ | _ <;> rfl
@[simp] theorem v_tnot : tNotZ p ev = q1 not (p ev) := by
  unfold tNotZ
  rcases p ev with _ | _ | _ <;> rfl
@[simp] theorem v_ttru : tTru f ev = qb D.tru (f ev) := by
  unfold tTru
  cases f ev <;> rfl
@[simp] theorem v_tof : tOf f ev = asB (f ev) := .trans rfl rfl
@[simp] theorem v_asB {b : Bool} : asB (some (.bl b)) = some b := .trans rfl rfl
@[simp] theorem v_if : cIf p f g ev = qIf f g ev (p ev) := by
  unfold cIf
  rcases p ev with _ | _ | _ <;> rfl
@[simp] theorem v_ch {l : D → EV → Option D} : cCh f l ev = qCh l ev (f ev) := by
  unfold cCh
  cases f ev <;> rfl
@[simp] theorem v_chlast {x : D} : chLast op g x ev = qLast op x (g ev) := by
  unfold chLast
  cases g ev <;> rfl
@[simp] theorem v_chlink {x : D} {r : D → EV → Option D} : chLink op g r x ev = qLink op r x ev (g ev) := by
  unfold chLink qLink
  cases g ev with
  | none => rfl
  | some y =>
    show (match op x y with | some (.bl true) => r y ev | some (.bl false) => some (.bl false) | _ => none) = qLink2 r y ev (op x y)
    unfold qLink2
    split <;> simp_all
@[simp] theorem v_ixo : cIxo i g ev = qIxo ev[i]? (g ev) := by
  unfold cIxo qIxo
  split <;> simp_all
@[simp] theorem v_anil : aNil ev = some [] := .trans rfl rfl
@[simp] theorem v_acons : aCons f k ev = qCons (f ev) (k ev) := by
  unfold aCons
  cases f ev <;> cases k ev <;> rfl
@[simp] theorem v_tup : cTup k ev = qTup (k ev) := by
  unfold cTup
  cases k ev <;> rfl
@[simp] theorem v_lst : cLst k ev = q1 D.lst (k ev) := by
  unfold cLst
  cases k ev <;> rfl
@[simp] theorem v_klist : kList k ev = qKl (k ev) := by
  unfold kList
  cases k ev <;> rfl
@[simp] theorem v_pno : pNo ev = some none := .trans rfl rfl
@[simp] theorem v_pat : pAt f ev = qAt (f ev) := by
  unfold pAt qAt
  split <;> simp_all
@[simp] theorem v_ksl {l r : EV → Option (Option Int)} : kSl f l r ev = qSl (f ev) (l ev) (r ev) := by
  unfold kSl qSl
  rcases f ev with _ | _ | _ | _ | _ | _ | _ | _ <;> cases l ev <;> cases r ev <;> rfl
@[simp] theorem v_kslo {l r : EV → Option (Option Int)} : kSlo i l r ev = qSlo ev[i]? (l ev) (r ev) := by
  unfold kSlo qSlo
  rcases ev[i]? with _ | _ | _ | _ <;> cases l ev <;> cases r ev <;> rfl
@[simp] theorem v_slT {l r : EV → Option (Option Int)} : cSlT f l r ev = qSlT (f ev) (l ev) (r ev) := by
  unfold cSlT qSlT
  rcases f ev with _ | _ | _ | _ | _ | _ | _ | _ <;> cases l ev <;> cases r ev <;> rfl
@[simp] theorem v_krev : kRev f ev = qRev (f ev) := by
  unfold kRev qRev
  split <;> simp_all
@[simp] theorem v_krevo : kRevo i ev = qRevo ev[i]? := by
  unfold kRevo qRevo
  split <;> simp_all
@[simp] theorem v_kcat : kCat f g ev = qCat (f ev) (g ev) := by
  unfold kCat qCat
  split <;> simp_all
@[simp] theorem v_krep : kRep f g ev = qRep (f ev) (g ev) := by
  unfold kRep qRep
  split <;> simp_all
@[simp] theorem v_cb {b : List D → Option D} : cCB b k ev = qb b (k ev) := by
  unfold cCB
  cases k ev <;> rfl
@[simp] theorem v_kof : kOf k ev = qOf (k ev) := by
  unfold kOf qOf
  split <;> simp_all
@[simp] theorem v_ilst : iLst f ev = qL (f ev) := by
  unfold iLst qL
  split <;> simp_all
@[simp] theorem v_ituple : iTuple f ev = qT (f ev) := by
  unfold iTuple qT
  split <;> simp_all
@[simp] theorem v_iown : iOwn i ev = qO ev[i]? := by
  unfold iOwn qO
  split <;> simp_all
@[simp] theorem v_ir1 : iR1 k ev = qR1 (k ev) := by
  unfold iR1 qR1
  split <;> simp_all
@[simp] theorem v_ir2 : iR2 k ev = qR2 (k ev) := by
  unfold iR2 qR2
  split <;> simp_all
@[simp] theorem v_ien : iEn k ev = qEn (k ev) := by
  unfold iEn qEn
  split <;> simp_all
@[simp] theorem v_izp : iZp k ev = qZp (k ev) := by
  unfold iZp qZp
  split <;> simp_all
@[simp] theorem v_mname {d : D} : mName i d ev = some (ev.set i (.fro d)) := .trans rfl rfl
@[simp] theorem v_mnil : mNil [] ev = some ev := .trans rfl rfl
@[simp] theorem v_mcons {mm : D → EV → Option EV} {ms : List D → EV → Option EV} {d : D} {ds : List D} : mCons mm ms (d :: ds) ev = qMs ms ds (mm d ev) := by
  show (mm d ev).bind _ = _
  cases mm d ev <;> rfl
@[simp] theorem v_mtup {ms : List D → EV → Option EV} {ds : List D} : mTup ms (.tup ds) ev = ms ds ev := .trans rfl rfl
@[simp] theorem v_lf : lF f ev = q1 L.fro (f ev) := by
  unfold lF
  cases f ev <;> rfl
@[simp] theorem v_lo : lO k ev = q1 L.own (k ev) := by
  unfold lO
  cases k ev <;> rfl
@[simp] theorem v_setl {l : EV → Option L} : sSetL i l ev = qSet i ev (l ev) := by
  unfold sSetL
  cases l ev <;> rfl
@[simp] theorem v_par {a b : EV → Option L} : sPar i j a b ev = qPar i j ev (a ev) (b ev) := by
  unfold sPar
  cases a ev <;> cases b ev <;> rfl
@[simp] theorem v_par3 {a b c : EV → Option L} : sPar3 i j o a b c ev = qPar3 i j o ev (a ev) (b ev) (c ev) := by
  unfold sPar3
  cases a ev <;> cases b ev <;> cases c ev <;> rfl
@[simp] theorem v_asg {mm : D → EV → Option EV} : sAsg f mm ev = qAsg mm ev (f ev) := by
  unfold sAsg
  cases f ev with
  | none => rfl
  | some d =>
    show (mm d ev).map Fl.nx = qNx (mm d ev)
    cases mm d ev <;> rfl
@[simp] theorem v_app : sApp i f ev = qApp i ev ev[i]? (f ev) := by
  unfold sApp qApp
  rcases ev[i]? with _ | _ | _ | xs
  · rfl
  · rfl
  · rfl
  · cases f ev with
    | none =>
      show (if xs.length < 16777216 then none else none) = none
      split <;> rfl
    | some d => rfl
@[simp] theorem v_ext : sExt i f ev = qExt i ev ev[i]? (f ev) := by
  unfold sExt qExt
  split <;> simp_all
@[simp] theorem v_sub : sSub i g f ev = qSub i ev ev[i]? (g ev) (f ev) := by
  unfold sSub qSub
  split
  · rename_i xs n d h1 h2 h3
    first
      | rw [h1, h2, h3]
      | skip
    show (ixN xs.length n).map _ = qSub2 i ev xs d (ixN xs.length n)
    cases ixN xs.length n <;> rfl
  · simp_all
@[simp] theorem v_drop : sDrop f ev = q1 (fun _ => Fl.nx ev) (f ev) := by
  unfold sDrop
  cases f ev <;> rfl
@[simp] theorem v_sif : sIf p u v ev = qIf u v ev (p ev) := by
  unfold sIf
  rcases p ev with _ | _ | _ <;> rfl
@[simp] theorem v_for {fi : EV → Option (List D)} {mm : D → EV → Option EV} : sFor fi mm u ev = qFor mm u ev (fi ev) := by
  unfold sFor
  cases fi ev <;> rfl
@[simp] theorem v_nx : sNx ev = some (.nx ev) := .trans rfl rfl
@[simp] theorem v_bk : sBk ev = some (.bk ev) := .trans rfl rfl
@[simp] theorem v_ct : sCt ev = some (.ct ev) := .trans rfl rfl
@[simp] theorem v_ret : sRet f ev = q1 Fl.rt (f ev) := by
  unfold sRet
  cases f ev <;> rfl
@[simp] theorem v_frz : sFrz i u ev = u (evFrz ev i) := .trans rfl rfl
@[simp] theorem v_evfrz : evFrz ev i = qFrz i ev ev[i]? := by
  unfold evFrz qFrz
  split <;> simp_all
@[simp] theorem v_wnil : evWipe ev [] = ev := .trans rfl rfl
@[simp] theorem v_wcons {vs : List Nat} : evWipe ev (i :: vs) = (evWipe ev vs).set i .un := .trans rfl rfl
/-- a block: its first statement is known -/
theorem seq_nx {e : EV} (h : u ev = some (.nx e)) : sSeq u v ev = v e := by
  unfold sSeq
  rw [h]
  rfl
theorem seq_rt {d : D} (h : u ev = some (.rt d)) : sSeq u v ev = some (.rt d) := by
  unfold sSeq
  rw [h]
  rfl
@[simp] theorem v_seq : sSeq u v ev = qSeq v (u ev) := by
  unfold sSeq
  rcases u ev with _ | _ | _ | _ | _ <;> rfl
/-! ops -/
@[simp] theorem v_add {a b : Int} : oAdd (.int a) (.int b) = some (.int (a + b)) := .trans rfl rfl
@[simp] theorem v_osub {a b : Int} : oSub (.int a) (.int b) = some (.int (a - b)) := .trans rfl rfl
@[simp] theorem v_mul {a b : Int} : oMul (.int a) (.int b) = if (-(2 ^ 64) < a ∧ a < 2 ^ 64) ∨ (-(2 ^ 64) < b ∧ b < 2 ^ 64) then some (.int (a * b)) else none := .trans rfl rfl
@[simp] theorem v_div {a b : Int} : oDiv (.int a) (.int b) = if 0 < b ∧ b < 1073741824 then some (.int (a / b)) else none := .trans rfl rfl
@[simp] theorem v_mod {a b : Int} : oMod (.int a) (.int b) = if 0 < b then some (.int (a % b)) else none := .trans rfl rfl
theorem pow18i : (10 : Int) ^ (18 : Int).toNat = 1000000000000000000 := by decide +kernel
theorem pow18 : ∃ b : Int, oPow (.int 10) (.int 18) = some (.int b) ∧ b < 4611686018427387904 := by
  refine ⟨(10 : Int) ^ (18 : Int).toNat, ?_, by rw [pow18i]; decide⟩
  show (if (0 : Int) ≤ 18 ∧ (18 : Int) ≤ 1000000 ∧ (10 : Int).natAbs < 2 ^ 64 then some (D.int ((10 : Int) ^ (18 : Int).toNat)) else none) = _
  rw [if_pos ⟨by decide, by decide, by decide⟩]
@[simp] theorem v_lt {a b : Int} : oLt (.int a) (.int b) = some (.bl (decide (a < b))) := .trans rfl rfl
@[simp] theorem v_le {a b : Int} : oLe (.int a) (.int b) = some (.bl (decide (a ≤ b))) := .trans rfl rfl
@[simp] theorem v_gt {a b : Int} : oGt (.int a) (.int b) = some (.bl (decide (b < a))) := .trans rfl rfl
@[simp] theorem v_ge {a b : Int} : oGe (.int a) (.int b) = some (.bl (decide (b ≤ a))) := .trans rfl rfl
@[simp] theorem v_neg {a : Int} : oNeg (.int a) = some (.int (-a)) := .trans rfl rfl
@[simp] theorem v_is {d : D} : oIs d .non = some (.bl d.isNon) := by cases d <;> rfl
@[simp] theorem v_isnot {d : D} : oIsNot d .non = some (.bl (!d.isNon)) := by cases d <;> rfl
@[simp] theorem v_isnotb {a b : Bool} : oIsNot (.bl a) (.bl b) = some (.bl (!decide (a = b))) := .trans rfl rfl
@[simp] theorem v_isNon : D.isNon .non = true := .trans rfl rfl
@[simp] theorem v_isNonI {a : Int} : D.isNon (.int a) = false := .trans rfl rfl
@[simp] theorem v_isNonL {xs : List D} : D.isNon (.lst xs) = false := .trans rfl rfl
@[simp] theorem v_isNonT {xs : List D} : D.isNon (.tup xs) = false := .trans rfl rfl
@[simp] theorem v_isNonB {b : Bool} : D.isNon (.bl b) = false := .trans rfl rfl
@[simp] theorem v_tru0 : D.tru .non = some false := .trans rfl rfl
@[simp] theorem v_truB {b : Bool} : D.tru (.bl b) = some b := .trans rfl rfl
@[simp] theorem v_truI {a : Int} : D.tru (.int a) = some (a != 0) := .trans rfl rfl
@[simp] theorem v_truL {xs : List D} : D.tru (.lst xs) = some (!xs.isEmpty) := .trans rfl rfl
@[simp] theorem v_truT {xs : List D} : D.tru (.tup xs) = some (!xs.isEmpty) := .trans rfl rfl
@[simp] theorem v_flat0 : D.flat .non = true := .trans rfl rfl
@[simp] theorem v_flatB {b : Bool} : D.flat (.bl b) = true := .trans rfl rfl
@[simp] theorem v_flatI {a : Int} : D.flat (.int a) = true := .trans rfl rfl
@[simp] theorem v_flatS {a : Str} : D.flat (.str a) = true := .trans rfl rfl
@[simp] theorem v_not {d : D} : oNot d = q1 (fun k => D.bl (!k)) d.tru := by
  unfold oNot
  cases d.tru <;> rfl
@[simp] theorem v_ixl {xs : List D} {a : Int} : oIx (.lst xs) (.int a) = atI xs a := .trans rfl rfl
@[simp] theorem v_ixt {xs : List D} {a : Int} : oIx (.tup xs) (.int a) = atI xs a := .trans rfl rfl
@[simp] theorem v_ixs {xs : List Int} {a : Int} : oIx (.scr xs) (.int a) = (atI xs a).map .int := .trans rfl rfl
@[simp] theorem v_blen {xs : List D} : bLen [.lst xs] = some (.int xs.length) := .trans rfl rfl
@[simp] theorem v_blent {xs : List D} : bLen [.tup xs] = some (.int xs.length) := .trans rfl rfl
@[simp] theorem v_blens {xs : List Int} : bLen [.scr xs] = some (.int xs.length) := .trans rfl rfl
@[simp] theorem v_bint {a : Int} : bInt [.int a] = some (.int a) := .trans rfl rfl
@[simp] theorem v_bintb {b : Bool} : bInt [.bl b] = some (.int (if b then 1 else 0)) := .trans rfl rfl
@[simp] theorem v_babs {a : Int} : bAbs [.int a] = some (.int (if a < 0 then -a else a)) := .trans rfl rfl
@[simp] theorem v_bmax {a b : Int} : bMax [.int a, .int b] = some (.int (if b > a then b else a)) := .trans rfl rfl
@[simp] theorem v_bmin {a b : Int} : bMin [.int a, .int b] = some (.int (if b < a then b else a)) := .trans rfl rfl
@[simp] theorem v_ball {xs : List D} : bAll [.lst xs] = q1 (fun bs => D.bl (bs.all id)) (asBs xs) := by
  show (asBs xs).map _ = _
  cases asBs xs <;> rfl
@[simp] theorem v_bany {xs : List D} : bAny [.lst xs] = q1 (fun bs => D.bl (bs.any id)) (asBs xs) := by
  show (asBs xs).map _ = _
  cases asBs xs <;> rfl
@[simp] theorem v_bsum {xs : List D} : bSum [.lst xs] = q1 (fun bs => D.int bs.sum) (asIs xs) := by
  show (asIs xs).map _ = _
  cases asIs xs <;> rfl
theorem asBs_map {α : Type} (f : α → Bool) : ∀ xs : List α, asBs (xs.map fun x => D.bl (f x)) = some (xs.map f)
  | [] => rfl
  | x :: xs => by
    show (asBs (xs.map fun x => D.bl (f x))).map (f x :: ·) = _
    rw [asBs_map f xs]
    rfl
theorem asIs_map {α : Type} (f : α → Int) : ∀ xs : List α, asIs (xs.map fun x => D.int (f x)) = some (xs.map f)
  | [] => rfl
  | x :: xs => by
    show (asIs (xs.map fun x => D.int (f x))).map (f x :: ·) = _
    rw [asIs_map f xs]
    rfl
/-! items by place -/
theorem atI_n {α : Type} {xs : List α} {j : Nat} : atI xs (j : Int) = xs[j]? := by
  unfold atI ixN
  by_cases h : j < xs.length
  · rw [if_pos (by omega), if_pos (by omega)]
    rfl
  · rw [if_pos (by omega), if_neg (by omega)]
    simp only [Option.bind_none]
    exact (List.getElem?_eq_none (by omega)).symm
@[simp] theorem atI_0 {α : Type} {x : α} {xs : List α} : atI (x :: xs) 0 = some x := atI_n (j := 0)
@[simp] theorem atI_1 {α : Type} {x y : α} {xs : List α} : atI (x :: y :: xs) 1 = some y := atI_n (j := 1)
@[simp] theorem atI_2 {α : Type} {x y z : α} {xs : List α} : atI (x :: y :: z :: xs) 2 = some z := atI_n (j := 2)
@[simp] theorem atI_3 {α : Type} {x y z a : α} {xs : List α} : atI (x :: y :: z :: a :: xs) 3 = some a := atI_n (j := 3)
@[simp] theorem atI_4 {α : Type} {x y z a b : α} {xs : List α} : atI (x :: y :: z :: a :: b :: xs) 4 = some b := atI_n (j := 4)
theorem atI_back {α : Type} {xs : List α} (h : xs ≠ []) : atI xs (-1) = xs.getLast? := by
  have hl : 0 < xs.length := List.length_pos_iff.mpr h
  unfold atI ixN
  rw [if_neg (by decide), if_pos (by omega), List.getLast?_eq_getElem?]
  show xs[(-1 + (xs.length : Int)).toNat]? = _
  congr 1
  omega
theorem ixN_n {n j : Nat} (h : j < n) : ixN n (j : Int) = some j := by
  unfold ixN
  rw [if_pos (by omega), if_pos (by omega)]
  rfl
theorem cut_to {α : Type} {xs : List α} {k : Nat} : cutD xs none (some (k : Int)) = xs.take k := by
  unfold cutD
  rw [HT.sIx_none, HT.sIx_nat, List.drop_zero, Nat.sub_zero, ← List.take_eq_take_min]
theorem cut_from {α : Type} {xs : List α} {k : Nat} : cutD xs (some (k : Int)) none = xs.drop k := by
  unfold cutD
  rw [HT.sIx_none, HT.sIx_nat]
  by_cases h : k ≤ xs.length
  · rw [Nat.min_eq_left h, List.take_of_length_le (by rw [List.length_drop]; omega)]
  · rw [Nat.min_eq_right (by omega), Nat.sub_self, List.take_zero, List.drop_eq_nil_of_le (by omega)]
/-! ranges -/
theorem rangeD_n (n : Nat) : rangeD 0 (n : Int) = (List.range n).map fun k : Nat => D.int (k : Int) := by
  unfold rangeD
  rw [Int.sub_zero, Int.toNat_natCast]
  apply List.map_congr_left
  intro k _
  rw [Int.zero_add]
theorem rangeD_eq (j : Int) : rangeD 0 j = (List.range j.toNat).map fun k : Nat => D.int (k : Int) := by
  unfold rangeD
  rw [Int.sub_zero]
  apply List.map_congr_left
  intro k _
  rw [Int.zero_add]
/-! comprehensions -/
theorem compGo_map {α : Type} {enc : α → D} {F : D → Option (Option D)} {r : α → D} : ∀ {xs : List α}, (∀ x ∈ xs, F (enc x) = some (some (r x))) → compGo F (xs.map enc) = some (xs.map r)
  | [], _ => rfl
  | x :: xs, h => by
    show (F (enc x)).bind _ = _
    rw [h x List.mem_cons_self, Option.bind_some, compGo_map (r := r) fun y hy => h y (List.mem_cons_of_mem _ hy)]
    rfl
theorem compGo_filter {α : Type} {enc : α → D} {F : D → Option (Option D)} {r : α → D} {P : α → Bool} : ∀ {xs : List α}, (∀ x ∈ xs, F (enc x) = some (if P x then some (r x) else none)) → compGo F (xs.map enc) = some ((xs.filter P).map r)
  | [], _ => rfl
  | x :: xs, h => by
    show (F (enc x)).bind _ = _
    rw [h x List.mem_cons_self, Option.bind_some, compGo_filter (r := r) (P := P) fun y hy => h y (List.mem_cons_of_mem _ hy), List.filter_cons]
    cases P x <;> rfl
theorem v_comp {fi : EV → Option (List D)} {mm : D → EV → Option EV} {vs : List Nat} {ds : List D} (h : fi ev = some ds) (hl : ds.length ≤ 16777216) :
    kComp fi mm p f vs ev = compGo (fun d => (mm d (evWipe ev vs)).bind fun ev' => (p ev').bind fun b => if b then (f ev').map some else some none) ds := by
  unfold kComp
  rw [h, Option.bind_some, if_pos hl]
def qC2 (f : EV → Option D) (e : EV) : Option Bool → Option (Option D)
  | some true => q1 some (f e)
  | some false => some none
  | none => none
def qC1 (p : EV → Option Bool) (f : EV → Option D) : Option EV → Option (Option D)
  | some e => qC2 f e (p e)
  | none => none
@[simp] theorem qC2_t {e : EV} : qC2 f e (some true) = q1 some (f e) := .trans rfl rfl
@[simp] theorem qC2_f {e : EV} : qC2 f e (some false) = some none := .trans rfl rfl
theorem qC2_b {e : EV} {b : Bool} : qC2 f e (some b) = if b then q1 some (f e) else some none := by cases b <;> rfl
@[simp] theorem qC1_s {e : EV} : qC1 p f (some e) = qC2 f e (p e) := .trans rfl rfl
theorem comp_map {α : Type} {enc : α → D} {r : α → D} {fi : EV → Option (List D)} {mm : D → EV → Option EV} {vs : List Nat} {xs : List α} (h : fi ev = some (xs.map enc)) (hl : xs.length ≤ 16777216)
    (hx : ∀ x ∈ xs, qC1 p f (mm (enc x) (evWipe ev vs)) = some (some (r x))) : kComp fi mm p f vs ev = some (xs.map r) := by
  rw [v_comp h (by rw [List.length_map]; exact hl)]
  refine compGo_map fun x hm => Eq.trans ?_ (hx x hm)
  rcases mm (enc x) (evWipe ev vs) with _ | e
  · rfl
  · show (p e).bind _ = qC2 f e (p e)
    rcases p e with _ | _ | _
    · rfl
    · rfl
    · show (f e).map some = q1 some (f e)
      cases f e <;> rfl
theorem comp_filter {α : Type} {enc : α → D} {r : α → D} {P : α → Bool} {fi : EV → Option (List D)} {mm : D → EV → Option EV} {vs : List Nat} {xs : List α} (h : fi ev = some (xs.map enc)) (hl : xs.length ≤ 16777216)
    (hx : ∀ x ∈ xs, qC1 p f (mm (enc x) (evWipe ev vs)) = some (if P x then some (r x) else none)) : kComp fi mm p f vs ev = some ((xs.filter P).map r) := by
  rw [v_comp h (by rw [List.length_map]; exact hl)]
  refine compGo_filter fun x hm => Eq.trans ?_ (hx x hm)
  rcases mm (enc x) (evWipe ev vs) with _ | e
  · rfl
  · show (p e).bind _ = qC2 f e (p e)
    rcases p e with _ | _ | _
    · rfl
    · rfl
    · show (f e).map some = q1 some (f e)
      cases f e <;> rfl
/-! loops -/
theorem for_nil {mm : D → EV → Option EV} : forGo mm u [] ev = some (.nx ev) := rfl
theorem for_cons {mm : D → EV → Option EV} {d : D} {ds : List D} : forGo mm u (d :: ds) ev = (mm d ev).bind fun e1 => (u e1).bind fun r => (match r with
    | .nx e => forGo mm u ds e
    | .ct e => forGo mm u ds e
    | .bk e => some (.nx e)
    | .rt d => some (.rt d)) := rfl
/-- a for that goes on to its end: R by what has been taken -/
theorem for_run {α : Type} {enc : α → D} {mm : D → EV → Option EV} (R : List α → EV → Prop) : ∀ {xs pre : List α} {ev : EV}, R pre ev →
    (∀ (pre' : List α) (a : α) (post : List α) (ev' : EV), pre' ++ a :: post = pre ++ xs → R pre' ev' → ∃ e1 e2, mm (enc a) ev' = some e1 ∧ (u e1 = some (.nx e2) ∨ u e1 = some (.ct e2)) ∧ R (pre' ++ [a]) e2) →
    ∃ ev', forGo mm u (xs.map enc) ev = some (.nx ev') ∧ R (pre ++ xs) ev'
  | [], pre, ev, h0, _ => ⟨ev, rfl, by rw [List.append_nil]; exact h0⟩
  | x :: xs, pre, ev, h0, hs => by
    obtain ⟨e1, e2, h1, h2, h3⟩ := hs pre x xs ev rfl h0
    obtain ⟨ev', h4, h5⟩ := for_run R (xs := xs) (pre := pre ++ [x]) h3 fun pre' a post ev' e r => hs pre' a post ev' (by rw [e, List.append_assoc]; rfl) r
    refine ⟨ev', ?_, by rw [List.append_assoc] at h5; exact h5⟩
    rw [List.map_cons, for_cons, h1, Option.bind_some]
    rcases h2 with h2 | h2 <;> rw [h2, Option.bind_some] <;> exact h4
theorem for_run0 {α : Type} {enc : α → D} {mm : D → EV → Option EV} (R : List α → EV → Prop) {xs : List α} {ev : EV} (h0 : R [] ev)
    (hs : ∀ (pre : List α) (a : α) (post : List α) (ev' : EV), pre ++ a :: post = xs → R pre ev' → ∃ e1 e2, mm (enc a) ev' = some e1 ∧ (u e1 = some (.nx e2) ∨ u e1 = some (.ct e2)) ∧ R (pre ++ [a]) e2) :
    ∃ ev', forGo mm u (xs.map enc) ev = some (.nx ev') ∧ R xs ev' := for_run R h0 hs
/-- .. with more behind -/
theorem for_more {α : Type} {enc : α → D} {mm : D → EV → Option EV} (R : List α → EV → Prop) : ∀ {xs pre : List α} {ev : EV}, R pre ev →
    (∀ (pre' : List α) (a : α) (post : List α) (ev' : EV), pre' ++ a :: post = pre ++ xs → R pre' ev' → ∃ e1 e2, mm (enc a) ev' = some e1 ∧ (u e1 = some (.nx e2) ∨ u e1 = some (.ct e2)) ∧ R (pre' ++ [a]) e2) →
    ∃ ev', (∀ ys, forGo mm u (xs.map enc ++ ys) ev = forGo mm u ys ev') ∧ R (pre ++ xs) ev'
  | [], pre, ev, h0, _ => ⟨ev, fun _ => rfl, by rw [List.append_nil]; exact h0⟩
  | x :: xs, pre, ev, h0, hs => by
    obtain ⟨e1, e2, h1, h2, h3⟩ := hs pre x xs ev rfl h0
    obtain ⟨ev', h4, h5⟩ := for_more R (xs := xs) (pre := pre ++ [x]) h3 fun pre' a post ev' e r => hs pre' a post ev' (by rw [e, List.append_assoc]; rfl) r
    refine ⟨ev', fun ys => ?_, by rw [List.append_assoc] at h5; exact h5⟩
    rw [List.map_cons, List.cons_append, for_cons, h1, Option.bind_some]
    rcases h2 with h2 | h2 <;> rw [h2, Option.bind_some] <;> exact h4 ys
/-- a for that returns at an item -/
theorem for_ret {α : Type} {enc : α → D} {mm : D → EV → Option EV} (R : List α → EV → Prop) {xs post : List α} {a : α} {ev : EV} {d : D} (h0 : R [] ev)
    (hs : ∀ (pre' : List α) (b : α) (post' : List α) (ev' : EV), pre' ++ b :: post' = xs → R pre' ev' → ∃ e1 e2, mm (enc b) ev' = some e1 ∧ (u e1 = some (.nx e2) ∨ u e1 = some (.ct e2)) ∧ R (pre' ++ [b]) e2)
    (hr : ∀ ev', R xs ev' → ∃ e1, mm (enc a) ev' = some e1 ∧ u e1 = some (.rt d)) : forGo mm u ((xs ++ a :: post).map enc) ev = some (.rt d) := by
  obtain ⟨ev', h1, h2⟩ := for_more (enc := enc) (mm := mm) (u := u) R (xs := xs) (pre := []) h0 hs
  obtain ⟨e1, h3, h4⟩ := hr ev' h2
  rw [List.map_append, h1, List.map_cons, for_cons, h3, Option.bind_some, h4]
  rfl
/-- a while by a measure -/
theorem while_run {t : EV → Option Bool} (R : EV → Prop) (μ : EV → Nat) (hs : ∀ ev, R ev → (t ev = some false) ∨ (t ev = some true ∧ ∃ e, (u ev = some (.nx e) ∨ u ev = some (.ct e)) ∧ R e ∧ μ e < μ ev)) :
    ∀ {ev : EV}, R ev → ∃ e, sWhile t u ev = some (.nx e) ∧ R e ∧ t e = some false := by
  have go : ∀ (n : Nat) (ev : EV), R ev → μ ev < n → ∃ e, whileGo t u n ev = some (.nx e) ∧ R e ∧ t e = some false := by
    intro n
    induction n with
    | zero => exact fun ev _ h => absurd h (Nat.not_lt_zero _)
    | succ n ih =>
      intro ev h0 hn
      unfold whileGo
      rcases hs ev h0 with ht | ⟨ht, e, hu, hr, hm⟩
      · exact ⟨ev, by rw [ht]; rfl, h0, ht⟩
      · obtain ⟨e', h1, h2, h3⟩ := ih e hr (by omega)
        refine ⟨e', ?_, h2, h3⟩
        rw [ht, Option.bind_some, if_pos rfl]
        rcases hu with hu | hu <;> rw [hu, Option.bind_some] <;> exact h1
  intro ev h0
  obtain ⟨e, h1, h2, h3⟩ := go (μ ev + 1) ev h0 (Nat.lt_succ_self _)
  exact ⟨e, sWhile_of h1, h2, h3⟩
theorem run_fn {n m : Nat} {ds : List D} {d : D} (hn : ds.length = n) (h : u (evStart ds m) = some (.rt d)) : runFn n m u ds = some d := by
  unfold runFn
  rw [if_pos hn, h]
theorem run_fnN {n m : Nat} {ds : List D} {e : EV} (hn : ds.length = n) (h : u (evStart ds m) = some (.nx e)) : runFn n m u ds = some .non := by
  unfold runFn
  rw [if_pos hn, h]
@[simp] theorem v_start {ds : List D} {m : Nat} : evStart ds m = ds.map .fro ++ List.replicate m .un := .trans rfl rfl
end

/-! ### typed data -/
/-- none or an int -/
def encO : Option Int → D
  | none => .non
  | some i => .int i
@[simp] theorem encO_none : encO none = .non := .trans rfl rfl
@[simp] theorem encO_some {i : Int} : encO (some i) = .int i := .trans rfl rfl
theorem isNon_encO (o : Option Int) : (encO o).isNon = o.isNone := by cases o <;> rfl
structure EE {α : Type} [DecidableEq α] (n : Nat) (enc : α → D) : Prop where
  lay : ∀ a, (enc a).pd.canLay0 = true
  dep : ∀ a, (enc a).pd.depth ≤ n
  eqv : ∀ a b, PyData.eqv (enc a).pd (enc b).pd = decide (a = b)
theorem EE.shaped {α : Type} [DecidableEq α] {n : Nat} {enc : α → D} (e : EE n enc) (hn : n ≤ 64) (a : α) : SeqAt.shaped (enc a).pd = true := by
  unfold SeqAt.shaped
  rw [e.lay a, Bool.true_and]
  exact decide_eq_true (Nat.le_trans (e.dep a) hn)
theorem EE.eqD {α : Type} [DecidableEq α] {n : Nat} {enc : α → D} (e : EE n enc) (hn : n ≤ 64) (a b : α) : eqD (enc a) (enc b) = some (decide (a = b)) := by
  unfold Z.eqD
  rw [if_pos ⟨e.shaped hn a, e.shaped hn b⟩, e.eqv]
theorem EE.oEq {α : Type} [DecidableEq α] {n : Nat} {enc : α → D} (e : EE n enc) (hn : n ≤ 64) (a b : α) : oEq (enc a) (enc b) = some (.bl (decide (a = b))) := by
  unfold Z.oEq
  rw [e.eqD hn]
  rfl
theorem EE.oNe {α : Type} [DecidableEq α] {n : Nat} {enc : α → D} (e : EE n enc) (hn : n ≤ 64) (a b : α) : oNe (enc a) (enc b) = some (.bl (!decide (a = b))) := by
  unfold Z.oNe
  rw [e.eqD hn]
  rfl
theorem EE.int : EE 0 D.int := ⟨fun _ => rfl, fun _ => Nat.le_refl _, fun a b => by
  show (a == b) = decide (a = b)
  rw [Bool.beq_eq_decide_eq]⟩
theorem EE.bl : EE 0 D.bl := ⟨fun _ => rfl, fun _ => Nat.le_refl _, fun a b => by
  show (a == b) = decide (a = b)
  rw [Bool.beq_eq_decide_eq]⟩
theorem EE.opt : EE 0 encO := ⟨fun a => by cases a <;> rfl, fun a => by cases a <;> exact Nat.le_refl _, fun a b => by
  cases a <;> cases b
  · rfl
  · rfl
  · rfl
  · rename_i a b
    show (a == b) = decide (some a = some b)
    rw [Bool.beq_eq_decide_eq]
    simp⟩
theorem EE.list {α : Type} [DecidableEq α] {n : Nat} {enc : α → D} (e : EE n enc) : EE (n + 1) (fun xs : List α => D.lst (xs.map enc)) := by
  refine ⟨fun xs => ?_, fun xs => ?_, fun xs => ?_⟩
  · show PyData.canLayAll0 (D.pdL (xs.map enc)) = true
    induction xs with
    | nil => rfl
    | cons x xs ih =>
      show ((enc x).pd.canLay0 && PyData.canLayAll0 (D.pdL (xs.map enc))) = true
      rw [e.lay, ih]
      rfl
  · show PyData.depthAll (D.pdL (xs.map enc)) + 1 ≤ n + 1
    apply Nat.succ_le_succ
    induction xs with
    | nil => exact Nat.zero_le _
    | cons x xs ih =>
      show max (enc x).pd.depth (PyData.depthAll (D.pdL (xs.map enc))) ≤ n
      exact Nat.max_le.mpr ⟨e.dep x, ih⟩
  · induction xs with
    | nil =>
      intro ys
      cases ys with
      | nil => rfl
      | cons y ys => rfl
    | cons x xs ih =>
      intro ys
      cases ys with
      | nil => rfl
      | cons y ys =>
        show (PyData.eqv (enc x).pd (enc y).pd && PyData.eqvAll (D.pdL (xs.map enc)) (D.pdL (ys.map enc))) = _
        have ih' : PyData.eqvAll (D.pdL (xs.map enc)) (D.pdL (ys.map enc)) = decide (xs = ys) := ih ys
        rw [e.eqv, ih', ← Bool.decide_and]
        congr 1
        rw [List.cons.injEq]
theorem EE.tup2 {α β : Type} [DecidableEq α] [DecidableEq β] {n m : Nat} {enc : α → D} {enc' : β → D} (e : EE n enc) (e' : EE m enc') : EE (max n m + 1) (fun p : α × β => D.tup [enc p.1, enc' p.2]) := by
  refine ⟨fun p => ?_, fun p => ?_, fun p q => ?_⟩
  · show ((enc p.1).pd.canLay0 && ((enc' p.2).pd.canLay0 && true)) = true
    rw [e.lay, e'.lay]
    rfl
  · show max (enc p.1).pd.depth (max (enc' p.2).pd.depth 0) + 1 ≤ max n m + 1
    have h1 := e.dep p.1
    have h2 := e'.dep p.2
    omega
  · show (PyData.eqv (enc p.1).pd (enc q.1).pd && (PyData.eqv (enc' p.2).pd (enc' q.2).pd && true)) = _
    rw [e.eqv, e'.eqv, Bool.and_true, ← Bool.decide_and]
    congr 1
    rw [Prod.ext_iff]
theorem pdL_map {α : Type} {enc : α → D} : ∀ xs : List α, D.pdL (xs.map enc) = xs.map fun x => (enc x).pd
  | [] => rfl
  | x :: xs => by
    show (enc x).pd :: D.pdL (xs.map enc) = _
    rw [pdL_map xs]
    rfl
theorem EE.index {α : Type} [DecidableEq α] {n : Nat} {enc : α → D} (e : EE n enc) (hn : n ≤ 63) (xs : List α) (y : α) : oIndex (.lst (xs.map enc)) (enc y) = (xs.findIdx? fun x => decide (x = y)).map fun j => D.int (j : Nat) := by
  have h1 := e.list.shaped (by omega) xs
  have h2 := e.shaped (by omega) y
  have h1' : SeqAt.shaped (.list (D.pdL (xs.map enc))) = true := h1
  unfold oIndex
  simp only
  rw [if_pos ⟨h1', h2⟩, pdL_map, List.findIdx?_map]
  congr 2
  funext x
  exact e.eqv x y
theorem EE.mem {α : Type} [DecidableEq α] {n : Nat} {enc : α → D} (e : EE n enc) (hn : n ≤ 63) (xs : List α) (y : α) : memD (enc y) (xs.map enc) = some (decide (y ∈ xs)) := by
  have h1 := e.list.shaped (by omega) xs
  have h2 := e.shaped (by omega) y
  have h1' : SeqAt.shaped (.list (D.pdL (xs.map enc))) = true := h1
  unfold memD
  rw [if_pos ⟨h2, h1'⟩, pdL_map]
  congr 1
  rw [List.any_map, Bool.eq_iff_iff, List.any_eq_true, decide_eq_true_iff]
  constructor
  · rintro ⟨x, hx, h⟩
    have h' : PyData.eqv (enc x).pd (enc y).pd = true := h
    rw [e.eqv] at h'
    rw [← of_decide_eq_true h']
    exact hx
  · intro h
    refine ⟨y, h, ?_⟩
    show PyData.eqv (enc y).pd (enc y).pd = true
    rw [e.eqv]
    exact decide_eq_true rfl
@[simp] theorem oEq_int {a b : Int} : oEq (.int a) (.int b) = some (.bl (decide (a = b))) := EE.int.oEq (by decide) a b
@[simp] theorem oNe_int {a b : Int} : oNe (.int a) (.int b) = some (.bl (!decide (a = b))) := EE.int.oNe (by decide) a b
@[simp] theorem oEq_bl {a b : Bool} : oEq (.bl a) (.bl b) = some (.bl (decide (a = b))) := EE.bl.oEq (by decide) a b
@[simp] theorem oNe_bl {a b : Bool} : oNe (.bl a) (.bl b) = some (.bl (!decide (a = b))) := EE.bl.oNe (by decide) a b
@[simp] theorem oEq_opt {a b : Option Int} : oEq (encO a) (encO b) = some (.bl (decide (a = b))) := EE.opt.oEq (by decide) a b
@[simp] theorem oNe_opt {a b : Option Int} : oNe (encO a) (encO b) = some (.bl (!decide (a = b))) := EE.opt.oNe (by decide) a b
end Z


set_option maxRecDepth 100000
set_option maxHeartbeats 4000000
namespace K65
open PySem PySem.Spec PyProof.Rows L2 Z
/-! ### draws -/
def mix (dr : List Int) (k many : Int) : Int :=
  if k < (dr.length : Int) then (dr.getD (k % (dr.length : Int)).toNat 0) % many
  else (((if 0 < dr.length then dr.getD (k % (dr.length : Int)).toNat 0 else 0) * 7919 + k * 104729) / 3) % many
theorem mix_nonneg {dr : List Int} {k many : Int} (hm : 0 < many) : 0 ≤ mix dr k many := by
  unfold mix
  split <;> exact Int.emod_nonneg _ (by omega)
theorem mix_lt {dr : List Int} {k many : Int} (hm : 0 < many) : mix dr k many < many := by
  unfold mix
  split <;> exact Int.emod_lt_of_pos _ hm
theorem atI_draw {dr : List Int} {k : Int} (h : 0 < dr.length) : atI (dr.map D.int) (k % (dr.length : Int)) = some (.int (dr.getD (k % (dr.length : Int)).toNat 0)) := by
  have h1 : 0 ≤ k % (dr.length : Int) := Int.emod_nonneg _ (by omega)
  have h2 : k % (dr.length : Int) < dr.length := Int.emod_lt_of_pos _ (by omega)
  obtain ⟨j, hj⟩ := Int.eq_ofNat_of_zero_le h1
  rw [hj] at h2 ⊢
  have h3 : j < dr.length := by omega
  rw [atI_n, List.getElem?_map, List.getElem?_eq_getElem h3, Int.toNat_natCast, List.getD_eq_getElem?_getD, List.getElem?_eq_getElem h3]
  rfl
theorem mix_eq {dr : List Int} {k many : Int} (hm : 0 < many) : m__law_mix [.lst (dr.map .int), .int k, .int many] = some (.int (mix dr k many)) := by
  refine run_fn rfl ?_
  simp [body__law_mix, _law_mix_s1, _law_mix_s2, _law_mix_s3, _law_mix_s4, hm]
  by_cases h : 0 < dr.length
  · simp [h, atI_draw h]
    by_cases hk : k < dr.length <;> simp [hk, hm, mix, h]
  · have h0 : dr.length = 0 := by omega
    simp [h0]
    by_cases hk : k < 0
    · simp [hk, hm, mix, h0]
    · simp [hk, hm, mix, h0]
theorem map_snoc (acc : List Int) (i : Int) : acc.map D.int ++ [D.int i] = (acc ++ [i]).map D.int := by simp
/-- the place of an item in a range -/
theorem range_at {n : Nat} {pre post : List Nat} {a : Nat} (h : pre ++ a :: post = List.range n) : a = pre.length ∧ pre.length < n := by
  have hl := congrArg List.length h
  simp at hl
  have e1 : (List.range n)[pre.length]? = some a := by rw [← h]; simp
  rw [List.getElem?_range (by omega)] at e1
  cases e1
  exact ⟨rfl, by omega⟩
theorem r60 : rangeD 0 60 = (List.range 60).map fun k : Nat => D.int (k : Int) := rangeD_n 60
/-- one cell's digits -/
theorem digits_ok {s0 s2 s4 s5 : L} {x : Int} {acc : List Int} (ha : acc.length ≤ 4000) : ∃ (acc2 : List Int) (i3 : Int) (i4 : L), acc2.length ≤ acc.length + 60 ∧
    forGo (mName 4) _law_draws_b1 ((List.range 60).map fun k : Nat => D.int (k : Int)) [s0, .own (acc.map .int), s2, .fro (.int x), s4, s5] = some (.nx [s0, .own (acc2.map .int), s2, .fro (.int i3), i4, s5]) := by
  obtain ⟨ev2, g1, acc2, i3, i4, rfl, g3⟩ := for_run0 (u := _law_draws_b1) (mm := mName 4) (enc := fun k : Nat => D.int (k : Int)) (xs := List.range 60)
    (ev := [s0, .own (acc.map .int), s2, .fro (.int x), s4, s5])
    (fun p2 ev => ∃ (acc2 : List Int) (i3 : Int) (i4 : L), ev = [s0, .own (acc2.map .int), s2, .fro (.int i3), i4, s5] ∧ acc2.length ≤ acc.length + p2.length)
    ⟨acc, _, s4, rfl, Nat.le_refl _⟩ (by
      intro p2 b post2 ev2 he2 hR2
      obtain ⟨acc2, i3, i4, rfl, hl2⟩ := hR2
      obtain ⟨_, hp2⟩ := range_at he2
      have hlen : acc2.length < 16777216 := by omega
      by_cases hp : 0 < i3
      · refine ⟨_, [s0, .own ((acc2 ++ [i3 % 65536]).map .int), s2, .fro (.int (i3 / 65536)), .fro (.int b), s5], rfl, .inl ?_, _, _, _, rfl, ?_⟩
        · simp [_law_draws_b1, hp, hlen]
        · simp
          omega
      · refine ⟨_, [s0, .own (acc2.map .int), s2, .fro (.int i3), .fro (.int b), s5], rfl, .inl ?_, acc2, i3, _, rfl, ?_⟩
        · simp [_law_draws_b1, hp]
        · simp
          omega)
  exact ⟨acc2, i3, i4, by simpa using g3, g1⟩
theorem st_a {s0 s1 s2 s4 s5 : L} {y p a : Int} (h : (y * 48271 + (p + 1) * 69621) % 2147483647 = a) :
    (sSetL 5 (lF (c2 oMod (cCB bInt (aCons (c2 oAdd (c2 oMul (cVar 3) (cC (.int 48271))) (c2 oMul (c2 oAdd (cVar 2) (cC (.int 1))) (cC (.int 69621)))) aNil)) (cC (.int 2147483647))))) [s0, s1, .fro (.int p), .fro (.int y), s4, s5] = some (.nx [s0, s1, .fro (.int p), .fro (.int y), s4, .fro (.int a)]) := by
  simp [h]
theorem st_b {s0 s1 s2 s4 s5 : L} {y p a c : Int} (h : (a * 16807 + 11 * p + 5) % 2147483629 = c) :
    (sSetL 5 (lF (c2 oMod (cCB bInt (aCons (c2 oAdd (c2 oAdd (c2 oMul (cVar 5) (cC (.int 16807))) (c2 oMul (cC (.int 11)) (cVar 2))) (cC (.int 5))) aNil)) (cC (.int 2147483629))))) [s0, s1, .fro (.int p), .fro (.int y), s4, .fro (.int a)] = some (.nx [s0, s1, .fro (.int p), .fro (.int y), s4, .fro (.int c)]) := by
  simp [h]
theorem st_c {s0 s1 s2 s3 s4 s5 : L} {a : Int} {acc : List Int} (hl : acc.length < 16777216) :
    (sApp 1 (c2 oMod (cCB bInt (aCons (cVar 5) aNil)) (cC (.int 65536)))) [s0, .own (acc.map .int), s2, s3, s4, .fro (.int a)] = some (.nx [s0, .own ((acc ++ [a % 65536]).map .int), s2, s3, s4, .fro (.int a)]) := by
  simp [hl]
theorem st_d {s0 s1 s2 s3 s4 s5 : L} {a : Int} {acc : List Int} (hl : acc.length < 16777216) :
    (sApp 1 (c2 oMod (cCB bInt (aCons (c2 oDiv (cVar 5) (cC (.int 65536))) aNil)) (cC (.int 32768)))) [s0, .own (acc.map .int), s2, s3, s4, .fro (.int a)] = some (.nx [s0, .own ((acc ++ [a / 65536 % 32768]).map .int), s2, s3, s4, .fro (.int a)]) := by
  simp [hl]
theorem st_e {ns : List Int} {p : Nat} {x y : Int} {s1 s3 s4 s5 : L} (hx : atI ns (p : Int) = some x) (hy : (if x < 0 then -x else x) = y) :
    (sSetL 3 (lF (cCB bAbs (aCons (c2 oIx (cVar 0) (cVar 2)) aNil)))) [.fro (.scr ns), s1, .fro (.int p), s3, s4, s5] = some (.nx [.fro (.scr ns), s1, .fro (.int p), .fro (.int y), s4, s5]) := by
  simp [hx, hy]
theorem st_f {s0 s1 s2 s4 s5 : L} {y b : Int} (hp : oPow (.int 10) (.int 18) = some (.int b)) : (tOf (c2 oGe (cVar 3) (c2 oPow (cC (.int 10)) (cC (.int 18))))) [s0, s1, s2, .fro (.int y), s4, s5] = some (decide (b ≤ y)) := by
  simp [hp]
theorem cell_small {ns : List Int} {p : Nat} {x y b : Int} {acc : List Int} {j2 j3 j4 j5 : L} (hp : oPow (.int 10) (.int 18) = some (.int b)) (hx : atI ns (p : Int) = some x) (hy : (if x < 0 then -x else x) = y) (h0 : y < b) (ha : acc.length ≤ 4000) :
    ∃ a b c : Int, _law_draws_b2 [.fro (.scr ns), .own (acc.map .int), .fro (.int p), j3, j4, j5] = some (.nx [.fro (.scr ns), .own ((acc ++ [a] ++ [b]).map .int), .fro (.int p), .fro (.int y), j4, .fro (.int c)]) := by
  have hl : acc.length < 16777216 := by omega
  obtain ⟨a1, h1⟩ : ∃ a1, (y * 48271 + ((p : Int) + 1) * 69621) % 2147483647 = a1 := ⟨_, rfl⟩
  obtain ⟨a2, h2⟩ : ∃ a2, (a1 * 16807 + 11 * (p : Int) + 5) % 2147483629 = a2 := ⟨_, rfl⟩
  refine ⟨a2 % 65536, a2 / 65536 % 32768, a2, ?_⟩
  have hl2 : (acc ++ [a2 % 65536]).length < 16777216 := by
    rw [List.length_append]
    show acc.length + 1 < _
    omega
  unfold _law_draws_b2
  rw [seq_nx (st_e hx hy), v_sif, st_f hp, decide_eq_false (by omega), qIf_f, seq_nx (st_a h1), seq_nx (st_b h2), seq_nx (st_c hl), st_d hl2]
  all_goals exact j4
theorem cell_big {ns : List Int} {p : Nat} {x y b : Int} {acc : List Int} {j2 j3 j4 j5 : L} (hp : oPow (.int 10) (.int 18) = some (.int b)) (hx : atI ns (p : Int) = some x) (hy : (if x < 0 then -x else x) = y) (h0 : b ≤ y) (ha : acc.length ≤ 4000) :
    ∃ (acc2 : List Int) (i3 : Int) (i4 : L), acc2.length ≤ acc.length + 60 ∧ _law_draws_b2 [.fro (.scr ns), .own (acc.map .int), .fro (.int p), j3, j4, j5] = some (.nx [.fro (.scr ns), .own (acc2.map .int), .fro (.int p), .fro (.int i3), i4, j5]) := by
  obtain ⟨acc2, i3, i4, g3, g1⟩ := digits_ok (s0 := .fro (.scr ns)) (s2 := .fro (.int p)) (s4 := j4) (s5 := j5) (x := y) (acc := acc) ha
  refine ⟨acc2, i3, i4, g3, ?_⟩
  simp only [_law_draws_b2]
  simp [hx, hy, hp, h0, r60, g1]
theorem draws_ok (ns : List Int) (hn : ns.length ≤ 63) : ∃ dr : List Int, m__law_draws [.scr ns] = some (.lst (dr.map .int)) := by
  obtain ⟨b, hp, hb⟩ := pow18
  obtain ⟨ev', h1, acc, j2, j3, j4, j5, rfl, h3⟩ := for_run0 (u := _law_draws_b2) (mm := mName 2) (enc := fun k : Nat => D.int (k : Int)) (xs := List.range ns.length)
    (ev := [.fro (.scr ns), .own [], .un, .un, .un, .un])
    (fun pre ev => ∃ (acc : List Int) (j2 j3 j4 j5 : L), ev = [.fro (.scr ns), .own (acc.map .int), j2, j3, j4, j5] ∧ acc.length ≤ 60 * pre.length)
    ⟨[], .un, .un, .un, .un, rfl, Nat.le_refl _⟩ (by
      intro pre a post ev he hR
      obtain ⟨acc, j2, j3, j4, j5, rfl, hl⟩ := hR
      obtain ⟨rfl, hlt⟩ := range_at he
      have hx : atI ns ((pre.length : Nat) : Int) = some ns[pre.length] := by rw [atI_n, List.getElem?_eq_getElem hlt]
      generalize ns[pre.length] = x at hx
      obtain ⟨y, hy⟩ : ∃ y, (if x < 0 then -x else x) = y := ⟨_, rfl⟩
      by_cases h : b ≤ y
      · obtain ⟨acc2, i3, i4, g3, g1⟩ := cell_big (j2 := j2) (j3 := j3) (j4 := j4) (j5 := j5) (acc := acc) hp hx hy h (by omega)
        refine ⟨_, _, rfl, .inl g1, acc2, _, _, _, _, rfl, ?_⟩
        rw [List.length_append]
        show acc2.length ≤ 60 * (pre.length + 1)
        omega
      · obtain ⟨c1, c2, c3, g1⟩ := cell_small (j2 := j2) (j3 := j3) (j4 := j4) (j5 := j5) (acc := acc) hp hx hy (by omega) (by omega)
        refine ⟨_, _, rfl, .inl g1, acc ++ [c1] ++ [c2], _, _, _, _, rfl, ?_⟩
        simp only [List.length_append, List.length_singleton]
        omega)
  refine ⟨acc, run_fn rfl ?_⟩
  have hm : bMin [.int 63, .int (ns.length : Int)] = some (.int (ns.length : Int)) := by
    rw [v_bmin]
    congr 2
    split <;> omega
  have hb : (ns.length : Int) < 4611686018427387904 := by omega
  have hb' : -4611686018427387904 ≤ (ns.length : Int) := by omega
  simp [-v_bmin, body__law_draws, _law_draws_s1, _law_draws_s2, _law_draws_s3, hm, hb, hb', rangeD_n, h1]
end K65


set_option maxRecDepth 100000
set_option maxHeartbeats 4000000
namespace K65
open PySem PySem.Spec PyProof.Rows L2 Z
/-! ### contacts: data, what the defs come to -/
structure Ct where
  one : Nat
  two : Nat
  fst : Int
  lst : Int
  dly : Int
deriving DecidableEq
abbrev Row := List (Option Int)
def encC (c : Ct) : D := .tup [.int c.one, .int c.two, .int c.fst, .int c.lst, .int c.dly]
def encR (r : Row) : D := .lst (r.map encO)
structure Good (n : Nat) (c : Ct) : Prop where
  one : c.one < n
  two : c.two < n
  ne : c.one ≠ c.two
  f0 : 0 ≤ c.fst
  fl : c.fst ≤ c.lst
  l1 : c.lst ≤ 10000
  d1 : 1 ≤ c.dly
  d2 : c.dly ≤ 1000
def leaves (c : Ct) : Option Int → Option Int
  | none => none
  | some t => if t ≤ c.lst then some (max t c.fst) else none
def sooner : Option Int → Option Int → Option Int
  | none, b => b
  | some a, none => some a
  | some a, some b => some (min a b)
def stepR (row found : Row) (c : Ct) : Row := match leaves c (row.getD c.one none) with
  | none => found
  | some l => found.set c.two (sooner (found.getD c.two none) (some (l + c.dly)))
def nextRow (cs : List Ct) (row : Row) : Row := cs.foldl (stepR row) row
def row0 (n start : Nat) (tick : Int) : Row := (List.range n).map fun r => if r = start then some tick else none
def rowK (cs : List Ct) (r0 : Row) : Nat → Row
  | 0 => r0
  | k + 1 => nextRow cs (rowK cs r0 k)
theorem maxI (a b : Int) : (if b > a then b else a) = max a b := by
  rw [Int.max_def]
  split <;> split <;> omega
theorem minI (a b : Int) : (if b < a then b else a) = min a b := by
  rw [Int.min_def]
  split <;> split <;> omega
theorem stepR_len {row found : Row} {c : Ct} : (stepR row found c).length = found.length := by
  unfold stepR
  split
  · rfl
  · rw [List.length_set]
theorem foldR_len {row : Row} : ∀ {cs : List Ct} {found : Row}, (cs.foldl (stepR row) found).length = found.length
  | [], _ => rfl
  | c :: cs, found => by rw [List.foldl_cons, foldR_len, stepR_len]
theorem nextRow_len {cs : List Ct} {row : Row} : (nextRow cs row).length = row.length := foldR_len
theorem row0_len {n start : Nat} {tick : Int} : (row0 n start tick).length = n := by
  unfold row0
  rw [List.length_map, List.length_range]
theorem rowK_len {cs : List Ct} {r0 : Row} : ∀ k : Nat, (rowK cs r0 k).length = r0.length
  | 0 => rfl
  | k + 1 => by
    show (nextRow cs (rowK cs r0 k)).length = _
    rw [nextRow_len, rowK_len k]
theorem atR {r : Row} {j : Nat} (h : j < r.length) : atI (r.map encO) (j : Int) = some (encO (r.getD j none)) := by
  rw [atI_n, List.getElem?_map, List.getD_eq_getElem?_getD, List.getElem?_eq_getElem h]
  rfl
theorem m_leaves (c : Ct) (t : Option Int) : m_leaves_at [encC c, encO t] = some (encO (leaves c t)) := by
  refine run_fn rfl ?_
  cases t with
  | none => simp [body_leaves_at, leaves_at_s1, encC, leaves]
  | some t =>
    by_cases h : t ≤ c.lst
    · simp [body_leaves_at, leaves_at_s1, encC, leaves, h, maxI]
    · simp [body_leaves_at, leaves_at_s1, encC, leaves, h]
theorem m_sooner_eq (a b : Option Int) : m_sooner [encO a, encO b] = some (encO (sooner a b)) := by
  refine run_fn rfl ?_
  cases a with
  | none => simp [body_sooner, sooner_s1, sooner_s2, sooner]
  | some a =>
    cases b with
    | none => simp [body_sooner, sooner_s1, sooner_s2, sooner]
    | some b => simp [body_sooner, sooner_s1, sooner_s2, sooner, minI]
/-- a turn of next_row and is_foremost -/
theorem turn_next {row found : Row} {c : Ct} {s0 s1 s4 : L} {n : Nat} (hr : row.length = n) (hf : found.length = n) (hc : Good n c) :
    ∃ s4' : L, next_row_b1 [s0, .fro (encR row), .own (found.map encO), .fro (encC c), s4] = some (.nx [s0, .fro (encR row), .own ((stepR row found c).map encO), .fro (encC c), s4']) := by
  have h1 : c.one < row.length := by rw [hr]; exact hc.one
  have h2 : c.two < found.length := by rw [hf]; exact hc.two
  have e1 := atR h1
  have e2 := atR h2
  obtain ⟨x, hx⟩ : ∃ x, row.getD c.one none = x := ⟨_, rfl⟩
  obtain ⟨y, hy⟩ : ∃ y, found.getD c.two none = y := ⟨_, rfl⟩
  unfold stepR
  rw [hx] at e1 ⊢
  rw [hy] at e2 ⊢
  have hl := m_leaves c x
  cases h : leaves c x with
  | none =>
    rw [h] at hl
    refine ⟨.fro .non, ?_⟩
    unfold encC at hl ⊢
    simp at hl
    simp [next_row_b1, encR, e1, hl]
  | some l =>
    rw [h] at hl
    have hs := m_sooner_eq y (some (l + c.dly))
    refine ⟨.fro (.int l), ?_⟩
    have e3 : ixN (found.map encO).length (c.two : Int) = some c.two := ixN_n (by rw [List.length_map]; exact h2)
    unfold encC at hl ⊢
    simp at hl hs e3
    simp [next_row_b1, encR, e1, e2, hl, hs, e3, List.map_set]
theorem m_next {cs : List Ct} {row : Row} {n : Nat} (hr : row.length = n) (hc : ∀ c ∈ cs, Good n c) : m_next_row [.lst (cs.map encC), encR row] = some (encR (nextRow cs row)) := by
  obtain ⟨ev', h1, j3, j4, rfl⟩ := for_run0 (u := next_row_b1) (mm := mName 3) (enc := encC) (xs := cs)
    (ev := [.fro (.lst (cs.map encC)), .fro (encR row), .own (row.map encO), .un, .un])
    (fun pre ev => ∃ (j3 j4 : L), ev = [.fro (.lst (cs.map encC)), .fro (encR row), .own ((pre.foldl (stepR row) row).map encO), j3, j4])
    ⟨.un, .un, rfl⟩ (by
      intro pre a post ev he hR
      obtain ⟨j3, j4, rfl⟩ := hR
      obtain ⟨s4, h⟩ := turn_next (row := row) (found := pre.foldl (stepR row) row) (c := a) (s0 := .fro (.lst (cs.map encC))) (s1 := j3) (s4 := j4) hr (by rw [foldR_len, hr]) (hc a (by rw [← he]; simp))
      refine ⟨_, _, rfl, .inl h, .fro (encC a), s4, ?_⟩
      rw [List.foldl_append]
      rfl)
  refine run_fn rfl ?_
  unfold encR at h1
  simp [body_next_row, next_row_s1, next_row_s2, next_row_s3, encR, h1, nextRow]
end K65


set_option maxRecDepth 100000
set_option maxHeartbeats 4000000
namespace K65
open PySem PySem.Spec PyProof.Rows L2 Z
theorem m_check_router_ok {n r : Nat} (h : r < n) : m_check_router [.int n, .int r] = some .non := by
  refine run_fnN (e := [.fro (.int n), .fro (.int r)]) rfl ?_
  simp [body_check_router, check_router_s1, h]
theorem m_check_tick_ok {t : Int} (h0 : 0 ≤ t) (h1 : t ≤ 20000) : m_check_tick [.int t] = some .non := by
  refine run_fnN (e := [.fro (.int t)]) rfl ?_
  simp [body_check_tick, check_tick_s1, h0, h1]
theorem m_is_contact_ok {n : Nat} {c : Ct} (h : Good n c) : m_is_contact [.int n, encC c] = some (.bl true) := by
  refine run_fn rfl ?_
  have h1 := h.one
  have h2 := h.two
  have h3 := h.ne
  have h4 := h.f0
  have h5 := h.fl
  have h6 := h.l1
  have h7 := h.d1
  have h8 := h.d2
  have hk : kComp (iTuple (cSlT (cVar 1) pNo (pAt (cC (.int 2))))) (mName 2) (fun _ => some true) is_contact_e1 [2] [.fro (.int n), .fro (encC c), .un] = some [.bl true, .bl true] := by
    rw [comp_map (enc := fun x : Nat => D.int (x : Int)) (r := fun _ => D.bl true) (xs := [c.one, c.two])]
    · rfl
    · simp [encC, HT.sIx, Z.cutD]
    · show 2 ≤ 16777216
      decide
    · intro x hx
      have hx' : x < n := by
        rcases List.mem_cons.mp hx with e | e
        · omega
        · rcases List.mem_cons.mp e with e | e
          · omega
          · cases e
      simp [is_contact_e1, hx']
  have hk2 : oEq (.int (c.one : Int)) (.int (c.two : Int)) = some (.bl false) := by
    rw [oEq_int, decide_eq_false (by omega)]
  unfold encC at hk ⊢
  simp [-oEq_int, body_is_contact, is_contact_s1, is_contact_s2, is_contact_s3, hk, hk2, asBs, h4, h5, h6, h7, h8]
theorem m_check_contacts_ok {n : Nat} {cs : List Ct} (h1 : 1 ≤ n) (h2 : n ≤ 16) (hc : ∀ c ∈ cs, Good n c) (hl : cs.length ≤ 40) : m_check_contacts [.int n, .lst (cs.map encC)] = some .non := by
  have hen : enumD (cs.map encC) = (cs.zipIdx).map (fun p : Ct × Nat => D.tup [.int (p.2 : Nat), encC p.1]) := by
    unfold enumD
    rw [List.zipIdx_map, List.map_map]
    rfl
  obtain ⟨ev', h3, j2, j3, rfl⟩ := for_run0 (u := check_contacts_b1) (mm := mTup (mCons (mName 2) (mCons (mName 3) mNil))) (enc := fun p : Ct × Nat => D.tup [.int (p.2 : Nat), encC p.1]) (xs := cs.zipIdx)
    (ev := [.fro (.int n), .fro (.lst (cs.map encC)), .un, .un])
    (fun pre ev => ∃ (j2 j3 : L), ev = [.fro (.int n), .fro (.lst (cs.map encC)), j2, j3])
    ⟨.un, .un, rfl⟩ (by
      intro pre a post ev he hR
      obtain ⟨j2, j3, rfl⟩ := hR
      obtain ⟨c, i⟩ := a
      have hm : (c, i) ∈ cs.zipIdx := by rw [← he]; simp
      have hi : i < 40 := by
        have := List.snd_lt_of_mem_zipIdx hm
        omega
      have hg := m_is_contact_ok (hc c (List.fst_mem_of_mem_zipIdx hm))
      have hi' : oGe (.int (i : Int)) (.int 40) = some (.bl false) := by
        rw [v_ge, decide_eq_false (by omega)]
      refine ⟨[.fro (.int n), .fro (.lst (cs.map encC)), .fro (.int i), .fro (encC c)], _, by simp, .inl ?_, .fro (.int i), .fro (encC c), rfl⟩
      simp [-v_ge, check_contacts_b1, hi', hg])
  refine run_fnN (e := [.fro (.int n), .fro (.lst (cs.map encC)), j2, j3]) rfl ?_
  have g1 : (1 : Int) ≤ n := by omega
  have g2 : (n : Int) ≤ 16 := by omega
  simp [body_check_contacts, check_contacts_s1, check_contacts_s2, g1, g2, hen, h3]
end K65


set_option maxRecDepth 100000
set_option maxHeartbeats 4000000
namespace K65
open PySem PySem.Spec PyProof.Rows L2 Z
theorem row0_enc {n start : Nat} {t : Int} : (row0 n start t).map encO = (List.range n).map fun r : Nat => if r = start then D.int t else D.non := by
  unfold row0
  rw [List.map_map]
  apply List.map_congr_left
  intro r _
  show encO (if r = start then some t else none) = _
  split <;> rfl
def rowsOf (n : Nat) (cs : List Ct) (start : Nat) (t : Int) : List Row := (List.range n).map (rowK cs (row0 n start t))
theorem rowsOf_snoc {k : Nat} {cs : List Ct} {r0 : Row} : (List.range (k + 1)).map (rowK cs r0) = (List.range k).map (rowK cs r0) ++ [rowK cs r0 k] := by
  rw [List.range_succ, List.map_append]
  rfl
theorem m_rows {n start : Nat} {cs : List Ct} {t : Int} (hn : 1 ≤ n) (h16 : n ≤ 16) (hc : ∀ c ∈ cs, Good n c) : m_rows_of [.int n, .lst (cs.map encC), .int start, .int t] = some (.lst ((rowsOf n cs start t).map encR)) := by
  have hl : (row0 n start t).length = n := row0_len
  have hk : kComp (iR1 (aCons (cVar 0) aNil)) (mName 6) (fun _ => some true) rows_of_e1 [6] [.fro (.int n), .fro (.lst (cs.map encC)), .fro (.int start), .fro (.int t), .un, .un, .un] = some ((row0 n start t).map encO) := by
    rw [comp_map (enc := fun x : Nat => D.int (x : Int)) (r := fun r : Nat => if r = start then D.int t else D.non) (xs := List.range n), row0_enc]
    · have h1 : -4611686018427387904 ≤ (n : Int) ∧ (n : Int) < 4611686018427387904 := by omega
      simp [h1, rangeD_n]
    · rw [List.length_range]
      omega
    · intro x _
      by_cases hx : x = start
      · simp [rows_of_e1, hx]
      · have hx' : oEq (.int (x : Int)) (.int (start : Int)) = some (.bl false) := by
          rw [oEq_int, decide_eq_false (by omega)]
        simp [-oEq_int, rows_of_e1, hx, hx']
  obtain ⟨ev', h1, j5, rfl⟩ := for_run0 (u := rows_of_b1) (mm := mName 5) (enc := fun k : Nat => D.int (k : Int)) (xs := List.range (n - 1))
    (ev := [.fro (.int n), .fro (.lst (cs.map encC)), .fro (.int start), .fro (.int t), .own [encR (row0 n start t)], .un, .un])
    (fun pre ev => ∃ (j5 : L), ev = [.fro (.int n), .fro (.lst (cs.map encC)), .fro (.int start), .fro (.int t), .own (((List.range (pre.length + 1)).map (rowK cs (row0 n start t))).map encR), j5, .un])
    ⟨.un, rfl⟩ (by
      intro pre a post ev he hR
      obtain ⟨j5, rfl⟩ := hR
      obtain ⟨rfl, hlt⟩ := range_at he
      have hx : atI (((List.range (pre.length + 1)).map (rowK cs (row0 n start t))).map encR) (-1) = some (encR (rowK cs (row0 n start t) pre.length)) := by
        rw [atI_back (by simp), List.getLast?_map, rowsOf_snoc, List.getLast?_concat]
        rfl
      have hm := m_next (cs := cs) (row := rowK cs (row0 n start t) pre.length) (n := n) (by rw [rowK_len, hl]) hc
      have hlen : (((List.range (pre.length + 1)).map (rowK cs (row0 n start t))).map encR).length < 16777216 := by
        rw [List.length_map, List.length_map, List.length_range]
        omega
      refine ⟨_, [.fro (.int n), .fro (.lst (cs.map encC)), .fro (.int start), .fro (.int t), .own (((List.range (pre.length + 1 + 1)).map (rowK cs (row0 n start t))).map encR), .fro (.int pre.length), .un], rfl, .inl ?_, .fro (.int pre.length), by rw [List.length_append]; rfl⟩
      rw [show (List.range (pre.length + 1 + 1)).map (rowK cs (row0 n start t)) = (List.range (pre.length + 1)).map (rowK cs (row0 n start t)) ++ [nextRow cs (rowK cs (row0 n start t) pre.length)] from rowsOf_snoc]
      generalize (List.range (pre.length + 1)).map (rowK cs (row0 n start t)) = rs at hx hlen ⊢
      generalize rowK cs (row0 n start t) pre.length = r at hx hm ⊢
      rw [List.length_map] at hlen
      simp [rows_of_b1, hx, hm, hlen])
  refine run_fn rfl ?_
  rw [List.length_range, Nat.sub_add_cancel hn] at h1
  have h2 : rangeD 0 ((n : Int) - 1) = (List.range (n - 1)).map fun k : Nat => D.int (k : Int) := by
    rw [rangeD_eq, show ((n : Int) - 1).toNat = n - 1 by omega]
  have h3 : -4611686018427387904 ≤ (n : Int) - 1 ∧ (n : Int) - 1 < 4611686018427387904 := by omega
  unfold encR at h1 ⊢
  simp [body_rows_of, rows_of_s1, rows_of_s2, rows_of_s3, hk, h2, h3, h1, rowsOf, encR]
theorem m_check_all_ok {n start : Nat} {cs : List Ct} {t : Int} (hn : 1 ≤ n) (h16 : n ≤ 16) (hc : ∀ c ∈ cs, Good n c) (hl : cs.length ≤ 40) (hs : start < n) (h0 : 0 ≤ t) (h1 : t ≤ 20000) :
    m_check_all [.int n, .lst (cs.map encC), .int start, .int t] = some .non := by
  refine run_fnN (e := [.fro (.int n), .fro (.lst (cs.map encC)), .fro (.int start), .fro (.int t)]) rfl ?_
  simp [body_check_all, check_all_s1, check_all_s2, check_all_s3, m_check_contacts_ok hn h16 hc hl, m_check_router_ok hs, m_check_tick_ok h0 h1]
def fore (n : Nat) (cs : List Ct) (start : Nat) (t : Int) (k : Nat) : Row := rowK cs (row0 n start t) k
theorem m_foremost_eq {n start : Nat} {cs : List Ct} {t : Int} (hn : 1 ≤ n) (h16 : n ≤ 16) (hc : ∀ c ∈ cs, Good n c) (hl : cs.length ≤ 40) (hs : start < n) (h0 : 0 ≤ t) (h1 : t ≤ 20000) :
    m_foremost [.int n, .lst (cs.map encC), .int start, .int t] = some (encR (fore n cs start t (n - 1))) := by
  refine run_fn rfl ?_
  have hr := m_rows (start := start) (t := t) hn h16 hc
  have hx : atI ((rowsOf n cs start t).map encR) (-1) = some (encR (fore n cs start t (n - 1))) := by
    unfold rowsOf
    rw [atI_back (by simp; omega), List.getLast?_map, show n = (n - 1) + 1 by omega, rowsOf_snoc, List.getLast?_concat]
    rfl
  simp [body_foremost, foremost_s1, foremost_s2, m_check_all_ok hn h16 hc hl hs h0 h1, hr, hx]
theorem m_within_eq {n start k : Nat} {cs : List Ct} {t : Int} (hn : 1 ≤ n) (h16 : n ≤ 16) (hc : ∀ c ∈ cs, Good n c) (hl : cs.length ≤ 40) (hs : start < n) (h0 : 0 ≤ t) (h1 : t ≤ 20000) (hk : k < 16) :
    m_within [.int n, .lst (cs.map encC), .int start, .int t, .int k] = some (encR (fore n cs start t (min k (n - 1)))) := by
  refine run_fn rfl ?_
  have hr := m_rows (start := start) (t := t) hn h16 hc
  have hm : bMin [.int (k : Int), .int ((n : Int) - 1)] = some (.int ((min k (n - 1) : Nat) : Int)) := by
    have e : (if (n : Int) - 1 < (k : Int) then (n : Int) - 1 else (k : Int)) = ((min k (n - 1) : Nat) : Int) := by split <;> omega
    rw [v_bmin, e]
  have hx : atI ((rowsOf n cs start t).map encR) ((min k (n - 1) : Nat) : Int) = some (encR (fore n cs start t (min k (n - 1)))) := by
    unfold rowsOf
    rw [atI_n, List.getElem?_map, List.getElem?_map, List.getElem?_range (by omega)]
    rfl
  have hk' : (k : Int) < 16 := by omega
  generalize min k (n - 1) = j at hm hx ⊢
  simp [-v_bmin, body_within, within_s1, within_s2, within_s3, within_s4, m_check_all_ok hn h16 hc hl hs h0 h1, hr, hm, hx, hk']
/-- is_foremost -/
def dueOf (n : Nat) (cs : List Ct) (start : Nat) (t : Int) (told : Row) : Row := cs.foldl (stepR told) (row0 n start t)
theorem is_b1 {row found : Row} {c : Ct} {s0 s1 s2 s3 s7 s8 : L} {n : Nat} (hr : row.length = n) (hf : found.length = n) (hc : Good n c) :
    ∃ s7' : L, is_foremost_b1 [s0, s1, s2, s3, .fro (encR row), .own (found.map encO), .fro (encC c), s7, s8] = some (.nx [s0, s1, s2, s3, .fro (encR row), .own ((stepR row found c).map encO), .fro (encC c), s7', s8]) := by
  have h1 : c.one < row.length := by rw [hr]; exact hc.one
  have h2 : c.two < found.length := by rw [hf]; exact hc.two
  have e1 := atR h1
  have e2 := atR h2
  obtain ⟨x, hx⟩ : ∃ x, row.getD c.one none = x := ⟨_, rfl⟩
  obtain ⟨y, hy⟩ : ∃ y, found.getD c.two none = y := ⟨_, rfl⟩
  unfold stepR
  rw [hx] at e1 ⊢
  rw [hy] at e2 ⊢
  have hl := m_leaves c x
  cases h : leaves c x with
  | none =>
    rw [h] at hl
    refine ⟨.fro .non, ?_⟩
    unfold encC at hl ⊢
    simp at hl
    simp [is_foremost_b1, encR, e1, hl]
  | some l =>
    rw [h] at hl
    have hs := m_sooner_eq y (some (l + c.dly))
    refine ⟨.fro (.int l), ?_⟩
    have e3 : ixN (found.map encO).length (c.two : Int) = some c.two := ixN_n (by rw [List.length_map]; exact h2)
    unfold encC at hl ⊢
    simp at hl hs e3
    simp [is_foremost_b1, encR, e1, e2, hl, hs, e3, List.map_set]
theorem EE.row : EE 1 (fun r : Row => D.lst (r.map encO)) := EE.opt.list
theorem m_is_foremost_eq {n start : Nat} {cs : List Ct} {t : Int} {told : Row} (hn : 1 ≤ n) (h16 : n ≤ 16) (hc : ∀ c ∈ cs, Good n c) (hl : cs.length ≤ 40) (hs : start < n) (h0 : 0 ≤ t) (h1 : t ≤ 20000) (ht : told.length = n)
    (hst : told.getD start none = some t) : m_is_foremost [.int n, .lst (cs.map encC), .int start, .int t, encR told] = some (.bl (decide (told = dueOf n cs start t told))) := by
  have hk : kComp (iR1 (aCons (cVar 0) aNil)) (mName 8) (fun _ => some true) is_foremost_e1 [8] [.fro (.int n), .fro (.lst (cs.map encC)), .fro (.int start), .fro (.int t), .fro (encR told), .un, .un, .un, .un] = some ((row0 n start t).map encO) := by
    rw [comp_map (enc := fun x : Nat => D.int (x : Int)) (r := fun r : Nat => if r = start then D.int t else D.non) (xs := List.range n), row0_enc]
    · have h1 : -4611686018427387904 ≤ (n : Int) ∧ (n : Int) < 4611686018427387904 := by omega
      simp [h1, rangeD_n]
    · rw [List.length_range]
      omega
    · intro x _
      by_cases hx : x = start
      · simp [is_foremost_e1, hx]
      · have hx' : oEq (.int (x : Int)) (.int (start : Int)) = some (.bl false) := by
          rw [oEq_int, decide_eq_false (by omega)]
        simp [-oEq_int, is_foremost_e1, hx, hx']
  obtain ⟨ev', h3, j6, j7, rfl⟩ := for_run0 (u := is_foremost_b1) (mm := mName 6) (enc := encC) (xs := cs)
    (ev := [.fro (.int n), .fro (.lst (cs.map encC)), .fro (.int start), .fro (.int t), .fro (encR told), .own ((row0 n start t).map encO), .un, .un, .un])
    (fun pre ev => ∃ (j6 j7 : L), ev = [.fro (.int n), .fro (.lst (cs.map encC)), .fro (.int start), .fro (.int t), .fro (encR told), .own ((pre.foldl (stepR told) (row0 n start t)).map encO), j6, j7, .un])
    ⟨.un, .un, rfl⟩ (by
      intro pre a post ev he hR
      obtain ⟨j6, j7, rfl⟩ := hR
      obtain ⟨s7, h⟩ := is_b1 (row := told) (found := pre.foldl (stepR told) (row0 n start t)) (c := a) (s0 := .fro (.int n)) (s1 := .fro (.lst (cs.map encC))) (s2 := .fro (.int start)) (s3 := .fro (.int t)) (s7 := j7) (s8 := .un) ht (by rw [foldR_len, row0_len]) (hc a (by rw [← he]; simp))
      refine ⟨_, _, rfl, .inl h, .fro (encC a), s7, ?_⟩
      rw [List.foldl_append]
      rfl)
  refine run_fn rfl ?_
  have hx : atI (told.map encO) (start : Int) = some (.int t) := by
    rw [atR (by rw [ht]; exact hs), hst]
    rfl
  have hq := EE.row.oEq (by decide) told (dueOf n cs start t told)
  unfold encR at h3 hk ⊢
  unfold dueOf at hq ⊢
  simp [body_is_foremost, is_foremost_s1, is_foremost_s2, is_foremost_s3, is_foremost_s4, is_foremost_s5, m_check_all_ok hn h16 hc hl hs h0 h1, ht, hx, hk, h3, hq]
end K65


set_option maxRecDepth 100000
set_option maxHeartbeats 4000000
namespace K65
open PySem PySem.Spec PyProof.Rows L2 Z
/-! ### by_which, journeys, latest -/
def bw (row : Row) (here : Nat) (t : Int) (c : Ct) : Option Int := match leaves c (row.getD c.one none) with
  | none => none
  | some l => if c.two = here ∧ l + c.dly = t then some l else none
theorem eqT {a b : Int} (h : a = b) : oEq (.int a) (.int b) = some (.bl true) := by rw [oEq_int, decide_eq_true h]
theorem eqF {a b : Int} (h : a ≠ b) : oEq (.int a) (.int b) = some (.bl false) := by rw [oEq_int, decide_eq_false h]
theorem bw_some {row : Row} {here n i : Nat} {t l : Int} {c : Ct} {s0 s4 s6 : L} (hr : row.length = n) (hc : Good n c) (hb : bw row here t c = some l) :
    by_which_b1 [s0, .fro (encR row), .fro (.int here), .fro (.int t), .fro (.int i), .fro (encC c), s6] = some (.rt (.tup [.int i, .int l])) := by
  have h1 : c.one < row.length := by rw [hr]; exact hc.one
  have e1 := atR h1
  obtain ⟨x, hx⟩ : ∃ x, row.getD c.one none = x := ⟨_, rfl⟩
  unfold bw at hb
  rw [hx] at e1 hb
  have hl := m_leaves c x
  cases h : leaves c x with
  | none =>
    rw [h] at hb
    cases hb
  | some l' =>
    rw [h] at hb hl
    obtain ⟨⟨h2, h3⟩, rfl⟩ := of_ite hb
    unfold encC at hl ⊢
    simp at hl
    simp [-oEq_int, by_which_b1, encR, e1, hl, eqT (show (c.two : Int) = (here : Int) by omega), eqT h3]
theorem bw_none {row : Row} {here n i : Nat} {t : Int} {c : Ct} {s0 s4 s6 : L} (hr : row.length = n) (hc : Good n c) (hb : bw row here t c = none) :
    ∃ s6' : L, by_which_b1 [s0, .fro (encR row), .fro (.int here), .fro (.int t), .fro (.int i), .fro (encC c), s6] = some (.nx [s0, .fro (encR row), .fro (.int here), .fro (.int t), .fro (.int i), .fro (encC c), s6']) := by
  have h1 : c.one < row.length := by rw [hr]; exact hc.one
  have e1 := atR h1
  obtain ⟨x, hx⟩ : ∃ x, row.getD c.one none = x := ⟨_, rfl⟩
  unfold bw at hb
  rw [hx] at e1 hb
  have hl := m_leaves c x
  by_cases h2 : c.two = here
  · cases h : leaves c x with
    | none =>
      rw [h] at hl
      refine ⟨.fro .non, ?_⟩
      unfold encC at hl ⊢
      simp at hl
      simp [-oEq_int, by_which_b1, encR, e1, hl, eqT (show (c.two : Int) = (here : Int) by omega)]
    | some l' =>
      rw [h] at hb hl
      have h3 : ¬ l' + c.dly = t := fun h3 => by
        have hb' : (if c.two = here ∧ l' + c.dly = t then some l' else none) = none := hb
        rw [if_pos ⟨h2, h3⟩] at hb'
        cases hb'
      refine ⟨.fro (.int l'), ?_⟩
      unfold encC at hl ⊢
      simp at hl
      simp [-oEq_int, by_which_b1, encR, e1, hl, eqT (show (c.two : Int) = (here : Int) by omega), eqF h3]
  · have h2' : oEq (.int (c.two : Int)) (.int (here : Int)) = some (.bl false) := by
      rw [oEq_int, decide_eq_false (by omega)]
    refine ⟨.fro (encO (leaves c x)), ?_⟩
    unfold encC at hl ⊢
    simp [-oEq_int, by_which_b1, encR, e1, hl, h2']
theorem zip_split {α : Type} {xs : List α} {k : Nat} (h : k < xs.length) : xs.zipIdx = (xs.take k).zipIdx ++ (xs[k], k) :: (xs.drop (k + 1)).zipIdx (k + 1) := by
  conv => lhs; rw [← List.take_append_drop k xs, List.zipIdx_append, List.drop_eq_getElem_cons h]
  rw [List.length_take, Nat.min_eq_left (Nat.le_of_lt h), List.zipIdx_cons, Nat.zero_add]
theorem m_by_which_eq {cs : List Ct} {row : Row} {here n k : Nat} {t l : Int} (hr : row.length = n) (hc : ∀ c ∈ cs, Good n c) (hk : k < cs.length) (hb : bw row here t cs[k] = some l) (hno : ∀ (j : Nat) (hj : j < k), bw row here t (cs[j]'(by omega)) = none) :
    m_by_which [.lst (cs.map encC), encR row, .int here, .int t] = some (.tup [.int k, .int l]) := by
  refine run_fn rfl ?_
  have hen : enumD (cs.map encC) = (cs.zipIdx).map (fun p : Ct × Nat => D.tup [.int (p.2 : Nat), encC p.1]) := by
    unfold enumD
    rw [List.zipIdx_map, List.map_map]
    rfl
  have h3 : forGo (mTup (mCons (mName 4) (mCons (mName 5) mNil))) by_which_b1 (cs.zipIdx.map (fun p : Ct × Nat => D.tup [.int (p.2 : Nat), encC p.1])) [.fro (.lst (cs.map encC)), .fro (encR row), .fro (.int here), .fro (.int t), .un, .un, .un] = some (.rt (.tup [.int k, .int l])) := by
    rw [zip_split hk]
    refine for_ret (enc := fun p : Ct × Nat => D.tup [.int (p.2 : Nat), encC p.1]) (fun pre ev => ∃ (j4 j5 j6 : L), ev = [.fro (.lst (cs.map encC)), .fro (encR row), .fro (.int here), .fro (.int t), j4, j5, j6]) ⟨.un, .un, .un, rfl⟩ ?_ ?_
    · rintro pre ⟨c, i⟩ post ev he ⟨j4, j5, j6, rfl⟩
      have hm : (c, i) ∈ (cs.take k).zipIdx := by rw [← he]; simp
      have hi : i < k := by
        have := List.snd_lt_of_mem_zipIdx hm
        rw [List.length_take] at this
        omega
      have hci : c = cs[i]'(by omega) := by
        obtain ⟨_, h2⟩ := List.mem_zipIdx' hm
        rw [h2, List.getElem_take]
      have hg : Good n c := hc c (by rw [hci]; exact List.getElem_mem _)
      have hn := hno i hi
      rw [← hci] at hn
      obtain ⟨s6', ht⟩ := bw_none (s0 := .fro (.lst (cs.map encC))) (s4 := j4) (s6 := j6) (i := i) hr hg hn
      exact ⟨_, _, by simp, .inl ht, _, _, _, rfl⟩
    · rintro ev ⟨j4, j5, j6, rfl⟩
      have hg : Good n cs[k] := hc _ (List.getElem_mem _)
      have ht := bw_some (s0 := .fro (.lst (cs.map encC))) (s4 := j4) (s6 := j6) (i := k) hr hg hb
      exact ⟨_, by simp, ht⟩
  simp [body_by_which, by_which_s1, by_which_s2, hen, h3]
end K65


set_option maxRecDepth 100000
set_option maxHeartbeats 4000000
namespace K65
open PySem PySem.Spec PyProof.Rows L2 Z
/-! ### the plain law: rows of ticks -/
/-- not later; none is never -/
def ole : Option Int → Option Int → Prop
  | _, none => True
  | none, some _ => False
  | some a, some b => a ≤ b
theorem ole_refl : ∀ a : Option Int, ole a a
  | none => trivial
  | some a => Int.le_refl a
theorem ole_trans : ∀ {a b c : Option Int}, ole a b → ole b c → ole a c
  | _, _, none, _, _ => by simp [ole]
  | none, none, some _, _, h => h
  | some _, none, some _, _, h => h.elim
  | none, some _, some _, h, _ => h.elim
  | some _, some _, some _, h1, h2 => Int.le_trans h1 h2
theorem ole_antisymm : ∀ {a b : Option Int}, ole a b → ole b a → a = b
  | none, none, _, _ => rfl
  | none, some _, h, _ => h.elim
  | some _, none, _, h => h.elim
  | some a, some b, h1, h2 => by rw [Int.le_antisymm h1 h2]
theorem ole_some {a : Option Int} {b : Int} (h : ole a (some b)) : ∃ a', a = some a' ∧ a' ≤ b := by
  cases a with
  | none => exact h.elim
  | some a => exact ⟨a, rfl, h⟩
theorem ole_of {a : Option Int} {b : Option Int} (h : ∀ t, b = some t → ∃ t', a = some t' ∧ t' ≤ t) : ole a b := by
  cases b with
  | none => simp [ole]
  | some b =>
    obtain ⟨t', rfl, h2⟩ := h b rfl
    exact h2
theorem sooner_l (a b : Option Int) : ole (sooner a b) a := by
  cases a <;> cases b <;> simp [sooner, ole] <;> omega
theorem sooner_r (a b : Option Int) : ole (sooner a b) b := by
  cases a <;> cases b <;> simp [sooner, ole] <;> omega
theorem sooner_or (a b : Option Int) : sooner a b = a ∨ sooner a b = b := by
  cases a <;> cases b <;> simp [sooner] <;> omega
theorem ole_sooner {a b c : Option Int} (h1 : ole c a) (h2 : ole c b) : ole c (sooner a b) := by
  rcases sooner_or a b with e | e <;> rw [e] <;> assumption
def rle (a b : Row) : Prop := ∀ j, ole (a.getD j none) (b.getD j none)
theorem rle_refl (a : Row) : rle a a := fun j => ole_refl _
theorem rle_trans {a b c : Row} (h1 : rle a b) (h2 : rle b c) : rle a c := fun j => ole_trans (h1 j) (h2 j)
theorem row_ext {a b : Row} (hl : a.length = b.length) (h : ∀ j, j < a.length → a.getD j none = b.getD j none) : a = b := by
  apply List.ext_getElem hl
  intro i h1 h2
  have := h i h1
  rw [List.getD_eq_getElem?_getD, List.getD_eq_getElem?_getD, List.getElem?_eq_getElem h1, List.getElem?_eq_getElem h2] at this
  exact this
theorem getD_set {a : Row} {i j : Nat} {x : Option Int} (h : i < a.length) : (a.set i x).getD j none = if j = i then x else a.getD j none := by
  rw [List.getD_eq_getElem?_getD, List.getD_eq_getElem?_getD]
  by_cases e : j = i
  · subst e
    rw [if_pos rfl, List.getElem?_set_self h]
    rfl
  · rw [if_neg e, List.getElem?_set_ne (Ne.symm e)]
theorem getD_none {a : Row} {j : Nat} (h : a.length ≤ j) : a.getD j none = none := by
  rw [List.getD_eq_getElem?_getD, List.getElem?_eq_none h]
  rfl
theorem leaves_some {c : Ct} {t l : Int} (h : leaves c (some t) = some l) : t ≤ c.lst ∧ l = max t c.fst := by
  unfold leaves at h
  obtain ⟨h1, h2⟩ := of_ite h
  exact ⟨h1, h2.symm⟩
theorem leaves_inv {c : Ct} {o : Option Int} {l : Int} (h : leaves c o = some l) : ∃ t, o = some t ∧ t ≤ c.lst ∧ l = max t c.fst := by
  cases o with
  | none => cases h
  | some t => exact ⟨t, rfl, leaves_some h⟩
theorem leaves_mono {c : Ct} {o o' : Option Int} {l : Int} (h : leaves c o = some l) (ho : ole o' o) : ∃ l', leaves c o' = some l' ∧ l' ≤ l := by
  obtain ⟨t, rfl, h1, rfl⟩ := leaves_inv h
  obtain ⟨t', rfl, h2⟩ := ole_some ho
  exact ⟨max t' c.fst, if_pos (by omega), by omega⟩
section
variable {n : Nat} {cs : List Ct}
/-! one step -/
theorem stepR_le {row found : Row} {c : Ct} (h2 : c.two < found.length) : rle (stepR row found c) found := by
  intro j
  unfold stepR
  split
  · exact ole_refl _
  · rw [getD_set h2]
    split
    · rename_i e
      rw [e]
      exact sooner_l _ _
    · exact ole_refl _
theorem fold_le {row : Row} : ∀ {cs : List Ct} {found : Row}, found.length = n → (∀ c ∈ cs, Good n c) → rle (cs.foldl (stepR row) found) found
  | [], found, _, _ => rle_refl _
  | c :: cs, found, hf, hc => by
    rw [List.foldl_cons]
    exact rle_trans (fold_le (by rw [stepR_len, hf]) fun c' h => hc c' (List.mem_cons_of_mem _ h)) (stepR_le (by rw [hf]; exact (hc c List.mem_cons_self).two))
theorem fold_cand {row : Row} : ∀ {cs : List Ct} {found : Row}, found.length = n → (∀ c ∈ cs, Good n c) → ∀ c ∈ cs, ∀ l, leaves c (row.getD c.one none) = some l → ole ((cs.foldl (stepR row) found).getD c.two none) (some (l + c.dly))
  | [], found, _, _, c, h, _, _ => nomatch h
  | d :: cs, found, hf, hc, c, h, l, hl => by
    rw [List.foldl_cons]
    have hd : d.two < found.length := by rw [hf]; exact (hc d List.mem_cons_self).two
    have hrest : ∀ c' ∈ cs, Good n c' := fun c' h => hc c' (List.mem_cons_of_mem _ h)
    rcases List.mem_cons.mp h with rfl | h
    · refine ole_trans (fold_le (by rw [stepR_len, hf]) hrest _) ?_
      unfold stepR
      rw [hl]
      show ole ((found.set c.two _).getD c.two none) _
      rw [getD_set hd, if_pos rfl]
      exact sooner_r _ _
    · exact fold_cand (by rw [stepR_len, hf]) hrest c h l hl
theorem fold_src {row : Row} : ∀ {cs : List Ct} {found : Row}, found.length = n → (∀ c ∈ cs, Good n c) → ∀ (j : Nat) (t : Int), (cs.foldl (stepR row) found).getD j none = some t →
    found.getD j none = some t ∨ ∃ c ∈ cs, c.two = j ∧ ∃ l, leaves c (row.getD c.one none) = some l ∧ t = l + c.dly
  | [], found, _, _, j, t, h => .inl h
  | d :: cs, found, hf, hc, j, t, h => by
    rw [List.foldl_cons] at h
    have hd : d.two < found.length := by rw [hf]; exact (hc d List.mem_cons_self).two
    rcases fold_src (by rw [stepR_len, hf]) (fun c' h => hc c' (List.mem_cons_of_mem _ h)) j t h with h | ⟨c, h1, h2⟩
    · unfold stepR at h
      split at h
      · exact .inl h
      · rename_i l hl
        rw [getD_set hd] at h
        split at h
        · rename_i e
          rcases sooner_or (found.getD d.two none) (some (l + d.dly)) with z | z
          · rw [z] at h
            rw [e]
            exact .inl h
          · rw [z] at h
            cases h
            exact .inr ⟨d, List.mem_cons_self, e.symm, l, hl, rfl⟩
        · exact .inl h
    · exact .inr ⟨c, List.mem_cons_of_mem _ h1, h2⟩
theorem next_le {row : Row} (hf : row.length = n) (hc : ∀ c ∈ cs, Good n c) : rle (nextRow cs row) row := fold_le hf hc
theorem next_cand {row : Row} (hf : row.length = n) (hc : ∀ c ∈ cs, Good n c) {c : Ct} (h : c ∈ cs) {l : Int} (hl : leaves c (row.getD c.one none) = some l) : ole ((nextRow cs row).getD c.two none) (some (l + c.dly)) := fold_cand hf hc c h l hl
theorem next_src {row : Row} (hf : row.length = n) (hc : ∀ c ∈ cs, Good n c) {j : Nat} {t : Int} (h : (nextRow cs row).getD j none = some t) :
    row.getD j none = some t ∨ ∃ c ∈ cs, c.two = j ∧ ∃ l, leaves c (row.getD c.one none) = some l ∧ t = l + c.dly := fold_src hf hc j t h
/-- more contacts, sooner rows: no later -/
theorem next_mono {row row' : Row} {cs' : List Ct} (hf : row.length = n) (hf' : row'.length = n) (hc : ∀ c ∈ cs, Good n c) (hc' : ∀ c ∈ cs', Good n c) (hs : ∀ c ∈ cs, c ∈ cs') (h : rle row' row) : rle (nextRow cs' row') (nextRow cs row) := by
  intro j
  refine ole_of fun t ht => ?_
  rcases next_src hf hc ht with h1 | ⟨c, h1, rfl, l, h2, rfl⟩
  · have h2 := h j
    rw [h1] at h2
    exact ole_some (ole_trans (next_le hf' hc' j) h2)
  · obtain ⟨l', h3, h4⟩ := leaves_mono h2 (h c.one)
    obtain ⟨t', h5, h6⟩ := ole_some (next_cand hf' hc' (hs c h1) h3)
    exact ⟨t', h5, by omega⟩
theorem rowK_mono {r0 r0' : Row} {cs' : List Ct} (hf : r0.length = n) (hf' : r0'.length = n) (hc : ∀ c ∈ cs, Good n c) (hc' : ∀ c ∈ cs', Good n c) (hs : ∀ c ∈ cs, c ∈ cs') (h : rle r0' r0) : ∀ k, rle (rowK cs' r0' k) (rowK cs r0 k)
  | 0 => h
  | k + 1 => next_mono (by rw [rowK_len, hf]) (by rw [rowK_len, hf']) hc hc' hs (rowK_mono hf hf' hc hc' hs h k)
theorem rowK_down {r0 : Row} (hf : r0.length = n) (hc : ∀ c ∈ cs, Good n c) {i : Nat} : ∀ {k : Nat}, i ≤ k → rle (rowK cs r0 k) (rowK cs r0 i)
  | 0, h => by
    have : i = 0 := by omega
    subst this
    exact rle_refl _
  | k + 1, h => by
    by_cases e : i = k + 1
    · subst e
      exact rle_refl _
    · exact rle_trans (next_le (by rw [rowK_len, hf]) hc) (rowK_down hf hc (by omega))
theorem row0_get {start r : Nat} {t : Int} (h : r < n) : (row0 n start t).getD r none = if r = start then some t else none := by
  unfold row0
  rw [List.getD_eq_getElem?_getD, List.getElem?_map, List.getElem?_range h]
  rfl
theorem row0_inv {start r : Nat} {t x : Int} (h : (row0 n start t).getD r none = some x) : r = start ∧ x = t := by
  by_cases hr : r < n
  · rw [row0_get hr] at h
    obtain ⟨h1, h2⟩ := of_ite h
    exact ⟨h1, h2.symm⟩
  · rw [getD_none (by rw [row0_len]; omega)] at h
    cases h
/-- no tick ahead of the first one -/
theorem rowK_ge {start : Nat} {t : Int} (hc : ∀ c ∈ cs, Good n c) : ∀ (k r : Nat) (x : Int), (rowK cs (row0 n start t) k).getD r none = some x → t ≤ x
  | 0, r, x, h => by
    have := (row0_inv h).2
    omega
  | k + 1, r, x, h => by
    rcases next_src (by rw [rowK_len, row0_len]) hc h with h | ⟨c, h1, h2, l, h3, rfl⟩
    · exact rowK_ge hc k r x h
    · obtain ⟨s, h4, h5, rfl⟩ := leaves_inv h3
      have := rowK_ge hc k _ _ h4
      have := (hc c h1).d1
      omega
theorem rowK_start {start : Nat} {t : Int} (hc : ∀ c ∈ cs, Good n c) (hs : start < n) (k : Nat) : (rowK cs (row0 n start t) k).getD start none = some t := by
  have h := rowK_down (r0 := row0 n start t) row0_len hc (Nat.zero_le k) start
  have e : (rowK cs (row0 n start t) 0).getD start none = some t := by
    show (row0 n start t).getD start none = some t
    rw [row0_get hs, if_pos rfl]
  rw [e] at h
  obtain ⟨x, h1, h2⟩ := ole_some h
  have h3 := rowK_ge hc k start x h1
  rw [h1]
  congr 1
  omega
/-! no more than n - 1 steps tell anything new -/
theorem pigeon : ∀ {n : Nat} {R : List Nat}, R.Nodup → (∀ q ∈ R, q < n) → R.length ≤ n
  | 0, [], _, _ => Nat.le_refl _
  | 0, q :: _, _, h => absurd (h q List.mem_cons_self) (Nat.not_lt_zero q)
  | n + 1, R, hn, h => by
    have h1 : (R.filter (· ≠ n)).length ≤ n := pigeon (hn.filter _) fun q hq => by
      have h2 := List.mem_filter.mp hq
      have h3 := h q h2.1
      have h4 : q ≠ n := by simpa using h2.2
      omega
    have h5 : R.length ≤ (R.filter (· ≠ n)).length + 1 := by
      clear h1 h
      induction R with
      | nil => exact Nat.zero_le _
      | cons q R ih =>
        have hn' := List.nodup_cons.mp hn
        by_cases e : q = n
        · have : R.filter (· ≠ n) = R := List.filter_eq_self.mpr fun x hx => by
            have : x ≠ n := fun z => hn'.1 (by rw [e, ← z]; exact hx)
            simpa using this
          rw [List.filter_cons_of_neg (by simp [e]), this]
          exact Nat.le_refl _
        · rw [List.filter_cons_of_pos (by simp [e]), List.length_cons, List.length_cons]
          have := ih hn'.2
          omega
    omega
/-- what is told first at step k comes over k + 1 unlike routers -/
theorem chain {r0 : Row} {start : Nat} {t : Int} (hc : ∀ c ∈ cs, Good n c) : ∀ (k r : Nat) (x : Int), (rowK cs (row0 n start t) k).getD r none = some x → (k = 0 ∨ (rowK cs (row0 n start t) (k - 1)).getD r none ≠ some x) →
    ∃ R : List Nat, R.Nodup ∧ R.length = k + 1 ∧ ∀ q ∈ R, q < n ∧ ∃ i, i ≤ k ∧ ∃ y, y ≤ x ∧ (rowK cs (row0 n start t) i).getD q none = some y
  | 0, r, x, h, _ => by
    have hr : r < n := by
      apply Nat.lt_of_not_le
      intro z
      rw [getD_none (by rw [rowK_len, row0_len]; exact z)] at h
      cases h
    exact ⟨[r], by simp, rfl, fun q hq => by
      have e : q = r := by simpa using hq
      subst e
      exact ⟨hr, 0, Nat.le_refl _, x, Int.le_refl _, h⟩⟩
  | k + 1, r, x, h, hf => by
    have hf' : (rowK cs (row0 n start t) k).getD r none ≠ some x := by
      rcases hf with z | z
      · cases z
      · exact z
    have hlen : (rowK cs (row0 n start t) k).length = n := by rw [rowK_len, row0_len]
    rcases next_src hlen hc h with z | ⟨c, h1, rfl, l, h3, rfl⟩
    · exact absurd z hf'
    · obtain ⟨s, h4, h5, rfl⟩ := leaves_inv h3
      have hg := hc c h1
      have hd := hg.d1
      have fresh : k = 0 ∨ (rowK cs (row0 n start t) (k - 1)).getD c.one none ≠ some s := by
        cases k with
        | zero => exact .inl rfl
        | succ k =>
          refine .inr fun z => ?_
          have hl : leaves c ((rowK cs (row0 n start t) k).getD c.one none) = some (max s c.fst) := by
            have z' : (rowK cs (row0 n start t) k).getD c.one none = some s := z
            rw [z']
            exact if_pos h5
          have h6 := next_cand (by rw [rowK_len, row0_len]) hc h1 hl
          have h7 := rowK_down (r0 := row0 n start t) row0_len hc (Nat.le_succ (k + 1)) c.two
          rw [h] at h7
          exact hf' (ole_antisymm h6 h7)
      obtain ⟨R, g1, g2, g3⟩ := chain (r0 := r0) hc k c.one s h4 fresh
      refine ⟨c.two :: R, List.nodup_cons.mpr ⟨fun hm => ?_, g1⟩, by rw [List.length_cons, g2], fun q hq => ?_⟩
      · obtain ⟨_, i, hi, y, hy, he⟩ := g3 c.two hm
        have h7 := rowK_down (r0 := row0 n start t) row0_len hc (show i ≤ k + 1 by omega) c.two
        rw [h, he] at h7
        have h8 : max s c.fst + c.dly ≤ y := h7
        omega
      · rcases List.mem_cons.mp hq with rfl | hq
        · exact ⟨hg.two, k + 1, Nat.le_refl _, _, Int.le_refl _, h⟩
        · obtain ⟨a1, i, a2, y, a3, a4⟩ := g3 q hq
          exact ⟨a1, i, by omega, y, by omega, a4⟩
theorem rowK_fix {start : Nat} {t : Int} (hn : 1 ≤ n) (hc : ∀ c ∈ cs, Good n c) : nextRow cs (rowK cs (row0 n start t) (n - 1)) = rowK cs (row0 n start t) (n - 1) := by
  have hlen : ∀ k, (rowK cs (row0 n start t) k).length = n := fun k => by rw [rowK_len, row0_len]
  apply row_ext (by rw [nextRow_len])
  intro j hj
  have e : nextRow cs (rowK cs (row0 n start t) (n - 1)) = rowK cs (row0 n start t) n := by
    rw [show n = (n - 1) + 1 by omega]
    rfl
  rw [e]
  refine ole_antisymm (rowK_down row0_len hc (by omega) j) (ole_of fun x hx => ?_)
  by_cases h : (rowK cs (row0 n start t) (n - 1)).getD j none = some x
  · exact ⟨x, h, Int.le_refl _⟩
  · obtain ⟨R, g1, g2, g3⟩ := chain (r0 := []) hc n j x hx (.inr h)
    have := pigeon g1 fun q hq => (g3 q hq).1
    omega
end
end K65


set_option maxRecDepth 100000
set_option maxHeartbeats 4000000
namespace K65
open PySem PySem.Spec PyProof.Rows L2 Z
section
variable {n : Nat} {cs : List Ct}
/-! the paper: is_foremost -/
theorem fold_mono {row : Row} : ∀ {cs : List Ct} {found found' : Row}, found.length = n → found'.length = n → (∀ c ∈ cs, Good n c) → rle found' found → rle (cs.foldl (stepR row) found') (cs.foldl (stepR row) found) := by
  intro cs found found' hf hf' hc h j
  refine ole_of fun t ht => ?_
  rcases fold_src hf hc j t ht with h1 | ⟨c, h1, rfl, l, h2, rfl⟩
  · have h2 := h j
    rw [h1] at h2
    exact ole_some (ole_trans (fold_le hf' hc j) h2)
  · exact ole_some (fold_cand hf' hc c h1 l h2)
/-- where a tick was told first -/
theorem first_told {r0 : Row} {r : Nat} {x : Int} : ∀ {k : Nat}, (rowK cs r0 k).getD r none = some x → ∃ i, i ≤ k ∧ (rowK cs r0 i).getD r none = some x ∧ (i = 0 ∨ (rowK cs r0 (i - 1)).getD r none ≠ some x)
  | 0, h => ⟨0, Nat.le_refl _, h, .inl rfl⟩
  | k + 1, h => by
    by_cases e : (rowK cs r0 k).getD r none = some x
    · obtain ⟨i, h1, h2⟩ := first_told e
      exact ⟨i, by omega, h2⟩
    · exact ⟨k + 1, Nat.le_refl _, h, .inr e⟩
theorem due_eq {start : Nat} {t : Int} (hn : 1 ≤ n) (hc : ∀ c ∈ cs, Good n c) (hs : start < n) : fore n cs start t (n - 1) = dueOf n cs start t (fore n cs start t (n - 1)) := by
  have hl : (fore n cs start t (n - 1)).length = n := by
    unfold fore
    rw [rowK_len, row0_len]
  have hfix : nextRow cs (fore n cs start t (n - 1)) = fore n cs start t (n - 1) := rowK_fix hn hc
  have hst : (fore n cs start t (n - 1)).getD start none = some t := rowK_start hc hs _
  have h0 : rle (fore n cs start t (n - 1)) (row0 n start t) := rowK_down row0_len hc (Nat.zero_le _)
  apply row_ext
  · unfold dueOf
    rw [hl, foldR_len, row0_len]
  intro j hj
  refine ole_antisymm ?_ ?_
  · have := fold_mono (row := fore n cs start t (n - 1)) row0_len hl hc h0 j
    unfold nextRow at hfix
    rw [hfix] at this
    exact this
  · refine ole_of fun x hx => ?_
    unfold fore at hx
    obtain ⟨i, h1, h2, h3⟩ := first_told hx
    cases i with
    | zero =>
      have h2' : (row0 n start t).getD j none = some x := h2
      have := fold_le (row := fore n cs start t (n - 1)) (found := row0 n start t) row0_len hc j
      rw [h2'] at this
      exact ole_some this
    | succ i =>
      have h3' : (rowK cs (row0 n start t) i).getD j none ≠ some x := by
        rcases h3 with z | z
        · cases z
        · exact z
      rcases next_src (by rw [rowK_len, row0_len]) hc h2 with z | ⟨c, g1, rfl, l, g2, rfl⟩
      · exact absurd z h3'
      · obtain ⟨l', g3, g4⟩ := leaves_mono g2 (rowK_down (r0 := row0 n start t) row0_len hc (show i ≤ n - 1 by omega) c.one)
        have := fold_cand (row := fore n cs start t (n - 1)) (found := row0 n start t) row0_len hc c g1 l' g3
        obtain ⟨x', g5, g6⟩ := ole_some this
        exact ⟨x', g5, by omega⟩
/-! ways of contacts -/
/-- from r at a tick, by contacts and the ticks at which they are left, to g by t -/
def Pth (cs : List Ct) : Nat → Int → List (Ct × Int) → Nat → Int → Prop
  | r, now, [], g, t => r = g ∧ now ≤ t
  | r, now, (c, l) :: w, g, t => c ∈ cs ∧ c.one = r ∧ now ≤ l ∧ c.fst ≤ l ∧ l ≤ c.lst ∧ Pth cs c.two (l + c.dly) w g t
theorem Pth.snoc {c : Ct} {l : Int} (h1 : c ∈ cs) (h3 : c.fst ≤ l) (h4 : l ≤ c.lst) : ∀ {w : List (Ct × Int)} {r : Nat} {now : Int}, Pth cs r now w c.one l → Pth cs r now (w ++ [(c, l)]) c.two (l + c.dly)
  | [], _, _, h => ⟨h1, h.1.symm, h.2, h3, h4, rfl, Int.le_refl _⟩
  | (_, _) :: _, _, _, ⟨a1, a2, a3, a4, a5, h⟩ => ⟨a1, a2, a3, a4, a5, h.snoc h1 h3 h4⟩
theorem Pth.unsnoc {c : Ct} {l : Int} {g : Nat} {t : Int} : ∀ {w : List (Ct × Int)} {r : Nat} {now : Int}, Pth cs r now (w ++ [(c, l)]) g t → Pth cs r now w c.one l ∧ c ∈ cs ∧ c.fst ≤ l ∧ l ≤ c.lst ∧ c.two = g ∧ l + c.dly ≤ t
  | [], _, _, ⟨a1, a2, a3, a4, a5, h⟩ => ⟨⟨a2.symm, a3⟩, a1, a4, a5, h.1, h.2⟩
  | (_, _) :: _, _, _, ⟨a1, a2, a3, a4, a5, h⟩ => by
    obtain ⟨h1, h2⟩ := Pth.unsnoc h
    exact ⟨⟨a1, a2, a3, a4, a5, h1⟩, h2⟩
theorem Pth.late {g : Nat} {t t' : Int} (ht : t ≤ t') : ∀ {w : List (Ct × Int)} {r : Nat} {now : Int}, Pth cs r now w g t → Pth cs r now w g t'
  | [], _, _, h => ⟨h.1, by have := h.2; omega⟩
  | (_, _) :: _, _, _, ⟨a1, a2, a3, a4, a5, h⟩ => ⟨a1, a2, a3, a4, a5, h.late ht⟩
theorem fore_pth {r : Nat} {now : Int} (hc : ∀ c ∈ cs, Good n c) : ∀ (k g : Nat) (t : Int), (fore n cs r now k).getD g none = some t → ∃ w : List (Ct × Int), w.length ≤ k ∧ Pth cs r now w g t
  | 0, g, t, h => by
    obtain ⟨h1, h2⟩ := row0_inv h
    exact ⟨[], Nat.le_refl _, h1.symm, by omega⟩
  | k + 1, g, t, h => by
    rcases next_src (by rw [rowK_len, row0_len]) hc h with h | ⟨c, h1, rfl, l, h2, rfl⟩
    · obtain ⟨w, h1, h2⟩ := fore_pth hc k g t h
      exact ⟨w, by omega, h2⟩
    · obtain ⟨s, h3, h4, rfl⟩ := leaves_inv h2
      obtain ⟨w, h5, h6⟩ := fore_pth hc k _ _ h3
      have := (hc c h1).fl
      exact ⟨w ++ [(c, max s c.fst)], by simp; omega, (h6.late (by omega)).snoc h1 (by omega) (by omega)⟩
theorem pth_fore {r : Nat} {now : Int} (hc : ∀ c ∈ cs, Good n c) (hr : r < n) : ∀ (k : Nat) (w : List (Ct × Int)) (g : Nat) (t : Int), w.length ≤ k → Pth cs r now w g t → ∃ t', (fore n cs r now k).getD g none = some t' ∧ t' ≤ t := by
  intro k
  induction k with
  | zero =>
    intro w g t hw h
    have : w = [] := List.length_eq_zero_iff.mp (by omega)
    subst this
    obtain ⟨rfl, h2⟩ := h
    refine ⟨now, ?_, h2⟩
    show (row0 n r now).getD r none = some now
    rw [row0_get hr, if_pos rfl]
  | succ k ih =>
    intro w g t hw h
    rcases List.eq_nil_or_concat w with rfl | ⟨w', x, rfl⟩
    · obtain ⟨rfl, h2⟩ := h
      exact ⟨now, rowK_start hc hr _, h2⟩
    · obtain ⟨c, l⟩ := x
      rw [List.concat_eq_append] at h hw
      obtain ⟨h1, h2, h3, h4, rfl, h5⟩ := Pth.unsnoc h
      obtain ⟨s, g1, g2⟩ := ih w' c.one l (by simp at hw; omega) h1
      have hl : leaves c ((rowK cs (row0 n r now) k).getD c.one none) = some (max s c.fst) := by
        have g1' : (rowK cs (row0 n r now) k).getD c.one none = some s := g1
        rw [g1']
        exact if_pos (by omega)
      obtain ⟨t', g3, g4⟩ := ole_some (next_cand (by rw [rowK_len, row0_len]) hc h2 hl)
      exact ⟨t', g3, by omega⟩
/-! latest -/
def later : Option Int → Int → Option Int
  | none, v => some v
  | some a, v => some (max a v)
def stepL (row found : Row) (c : Ct) : Row := match row.getD c.two none with
  | none => found
  | some y => if c.fst ≤ y - c.dly then found.set c.one (later (found.getD c.one none) (min c.lst (y - c.dly))) else found
def nextL (cs : List Ct) (row : Row) : Row := cs.foldl (stepL row) row
def latK (cs : List Ct) (r0 : Row) : Nat → Row
  | 0 => r0
  | k + 1 => nextL cs (latK cs r0 k)
theorem stepL_len {row found : Row} {c : Ct} : (stepL row found c).length = found.length := by
  unfold stepL
  split
  · rfl
  · split
    · rw [List.length_set]
    · rfl
theorem foldL_len {row : Row} : ∀ {cs : List Ct} {found : Row}, (cs.foldl (stepL row) found).length = found.length
  | [], _ => rfl
  | c :: cs, found => by rw [List.foldl_cons, foldL_len, stepL_len]
theorem latK_len {r0 : Row} : ∀ k : Nat, (latK cs r0 k).length = r0.length
  | 0 => rfl
  | k + 1 => by
    show (cs.foldl (stepL _) _).length = _
    rw [foldL_len, latK_len k]
/-- turned round in time -/
def flipO (z : Int) : Option Int → Option Int := Option.map (z - ·)
def flipC (c : Ct) : Ct := ⟨c.two, c.one, 11000 - c.lst - c.dly, 11000 - c.fst - c.dly, c.dly⟩
theorem flipC_good {c : Ct} (h : Good n c) (h2 : 11000 - c.fst - c.dly ≤ 10000) : Good n (flipC c) := by
  have h3 := h.l1
  have h4 := h.d1
  have h5 := h.d2
  have h6 := h.fl
  have h7 := h.f0
  exact ⟨h.two, h.one, fun e => h.ne e.symm, by show 0 ≤ 11000 - c.lst - c.dly; omega, by show 11000 - c.lst - c.dly ≤ 11000 - c.fst - c.dly; omega, h2, h4, h5⟩
theorem flip_getD {z : Int} {row : Row} {j : Nat} : (row.map (flipO z)).getD j none = flipO z (row.getD j none) := by
  rw [List.getD_eq_getElem?_getD, List.getD_eq_getElem?_getD, List.getElem?_map]
  cases row[j]? <;> rfl
theorem flip_step {row found : Row} {c : Ct} : stepR (row.map (flipO 11000)) (found.map (flipO 11000)) (flipC c) = (stepL row found c).map (flipO 11000) := by
  unfold stepR stepL
  rw [flip_getD, flip_getD]
  show (match leaves (flipC c) (flipO 11000 (row.getD c.two none)) with
    | none => _
    | some l => _) = _
  cases h : row.getD c.two none with
  | none => rfl
  | some y =>
    show (match (if 11000 - y ≤ 11000 - c.fst - c.dly then some (max (11000 - y) (11000 - c.lst - c.dly)) else none) with
      | none => _
      | some l => _) = _
    by_cases h2 : c.fst ≤ y - c.dly
    · rw [if_pos (show 11000 - y ≤ 11000 - c.fst - c.dly by omega)]
      show List.set _ c.one (sooner (flipO 11000 (found.getD c.one none)) (some (max (11000 - y) (11000 - c.lst - c.dly) + c.dly))) = List.map _ (if c.fst ≤ y - c.dly then _ else _)
      rw [if_pos h2, List.map_set]
      congr 1
      cases found.getD c.one none with
      | none =>
        show some _ = some _
        congr 1
        show max (11000 - y) (11000 - c.lst - c.dly) + c.dly = 11000 - min c.lst (y - c.dly)
        omega
      | some a =>
        show some _ = some _
        congr 1
        show min (11000 - a) (max (11000 - y) (11000 - c.lst - c.dly) + c.dly) = 11000 - max a (min c.lst (y - c.dly))
        omega
    · rw [if_neg (show ¬ 11000 - y ≤ 11000 - c.fst - c.dly by omega)]
      show _ = List.map _ (if c.fst ≤ y - c.dly then _ else _)
      rw [if_neg h2]
theorem flip_fold {row : Row} : ∀ {cs : List Ct} {found : Row}, (cs.map flipC).foldl (stepR (row.map (flipO 11000))) (found.map (flipO 11000)) = (cs.foldl (stepL row) found).map (flipO 11000)
  | [], _ => rfl
  | c :: cs, found => by
    rw [List.map_cons, List.foldl_cons, List.foldl_cons, flip_step]
    exact flip_fold
theorem flip_row0 {goal : Nat} {z e : Int} : (row0 n goal e).map (flipO z) = row0 n goal (z - e) := by
  unfold row0
  rw [List.map_map]
  apply List.map_congr_left
  intro r _
  show flipO z (if r = goal then some e else none) = _
  split <;> rfl
theorem flip_latK {goal : Nat} {e : Int} : ∀ k : Nat, rowK (cs.map flipC) (row0 n goal (11000 - e)) k = (latK cs (row0 n goal e) k).map (flipO 11000)
  | 0 => flip_row0.symm
  | k + 1 => by
    show nextRow _ (rowK (cs.map flipC) (row0 n goal (11000 - e)) k) = _
    rw [flip_latK k]
    exact flip_fold
/-! latest ticks by ways -/
def oge (a b : Option Int) : Prop := match b with
  | none => True
  | some y => ∃ x, a = some x ∧ y ≤ x
theorem foldL_ge {row : Row} : ∀ {cs : List Ct} {found : Row}, found.length = n → (∀ c ∈ cs, Good n c) → ∀ j, oge ((cs.foldl (stepL row) found).getD j none) (found.getD j none)
  | [], found, _, _, j => by
    show oge (found.getD j none) _
    unfold oge
    split
    · trivial
    · rename_i y h
      exact ⟨y, h, Int.le_refl _⟩
  | c :: cs, found, hf, hc, j => by
    rw [List.foldl_cons]
    have h1 : c.one < found.length := by rw [hf]; exact (hc c List.mem_cons_self).one
    have ih := foldL_ge (row := row) (cs := cs) (found := stepL row found c) (by rw [stepL_len, hf]) (fun c' h => hc c' (List.mem_cons_of_mem _ h)) j
    have step : oge ((stepL row found c).getD j none) (found.getD j none) := by
      unfold stepL
      split
      · unfold oge
        split
        · trivial
        · rename_i y h
          exact ⟨y, h, Int.le_refl _⟩
      · split
        · rw [getD_set h1]
          split
          · rename_i e
            subst e
            unfold oge
            split
            · trivial
            · rename_i y h
              rw [h]
              exact ⟨_, rfl, by omega⟩
          · unfold oge
            split
            · trivial
            · rename_i y h
              exact ⟨y, h, Int.le_refl _⟩
        · unfold oge
          split
          · trivial
          · rename_i y h
            exact ⟨y, h, Int.le_refl _⟩
    unfold oge at ih step ⊢
    split
    · trivial
    · rename_i y h
      rw [h] at step
      obtain ⟨x, h2, h3⟩ := step
      rw [h2] at ih
      obtain ⟨x', h4, h5⟩ := ih
      exact ⟨x', h4, by omega⟩
theorem foldL_cand {row : Row} : ∀ {cs : List Ct} {found : Row}, found.length = n → (∀ c ∈ cs, Good n c) → ∀ c ∈ cs, ∀ y, row.getD c.two none = some y → c.fst ≤ y - c.dly → ∃ x, (cs.foldl (stepL row) found).getD c.one none = some x ∧ min c.lst (y - c.dly) ≤ x
  | [], _, _, _, _, h, _, _, _ => nomatch h
  | d :: cs, found, hf, hc, c, h, y, hy, hle => by
    rw [List.foldl_cons]
    have h1 : d.one < found.length := by rw [hf]; exact (hc d List.mem_cons_self).one
    have hrest : ∀ c' ∈ cs, Good n c' := fun c' h => hc c' (List.mem_cons_of_mem _ h)
    rcases List.mem_cons.mp h with rfl | h
    · have g := foldL_ge (row := row) (cs := cs) (found := stepL row found c) (by rw [stepL_len, hf]) hrest c.one
      have e : (stepL row found c).getD c.one none = later (found.getD c.one none) (min c.lst (y - c.dly)) := by
        unfold stepL
        rw [hy]
        show (if c.fst ≤ y - c.dly then _ else found).getD c.one none = _
        rw [if_pos hle, getD_set h1, if_pos rfl]
      rw [e] at g
      cases hq : found.getD c.one none with
      | none =>
        rw [hq] at g
        obtain ⟨x, g1, g2⟩ := g
        exact ⟨x, g1, g2⟩
      | some a =>
        rw [hq] at g
        obtain ⟨x, g1, g2⟩ := g
        exact ⟨x, g1, by have : max a (min c.lst (y - c.dly)) ≤ x := g2; omega⟩
    · exact foldL_cand (by rw [stepL_len, hf]) hrest c h y hy hle
theorem foldL_src {row : Row} : ∀ {cs : List Ct} {found : Row}, found.length = n → (∀ c ∈ cs, Good n c) → ∀ (j : Nat) (x : Int), (cs.foldl (stepL row) found).getD j none = some x →
    found.getD j none = some x ∨ ∃ c ∈ cs, c.one = j ∧ ∃ y, row.getD c.two none = some y ∧ c.fst ≤ y - c.dly ∧ x = min c.lst (y - c.dly)
  | [], found, _, _, j, t, h => .inl h
  | d :: cs, found, hf, hc, j, t, h => by
    rw [List.foldl_cons] at h
    have hd : d.one < found.length := by rw [hf]; exact (hc d List.mem_cons_self).one
    rcases foldL_src (by rw [stepL_len, hf]) (fun c' h => hc c' (List.mem_cons_of_mem _ h)) j t h with h | ⟨c, h1, h2⟩
    · unfold stepL at h
      split at h
      · exact .inl h
      · rename_i y hy
        split at h
        · rename_i hle
          rw [getD_set hd] at h
          split at h
          · rename_i e
            cases hq : found.getD d.one none with
            | none =>
              rw [hq] at h
              cases h
              exact .inr ⟨d, List.mem_cons_self, e.symm, y, hy, hle, rfl⟩
            | some a =>
              rw [hq] at h
              have h' : some (max a (min d.lst (y - d.dly))) = some t := h
              by_cases hm : min d.lst (y - d.dly) ≤ a
              · rw [Int.max_eq_left hm] at h'
                rw [e]
                exact .inl (hq.trans h')
              · rw [Int.max_eq_right (by omega)] at h'
                cases h'
                exact .inr ⟨d, List.mem_cons_self, e.symm, y, hy, hle, rfl⟩
          · exact .inl h
        · exact .inl h
    · exact .inr ⟨c, List.mem_cons_of_mem _ h1, h2⟩
theorem lat_pth {goal : Nat} {e : Int} (hc : ∀ c ∈ cs, Good n c) : ∀ (k r : Nat) (x now : Int), (latK cs (row0 n goal e) k).getD r none = some x → now ≤ x → ∃ w : List (Ct × Int), w.length ≤ k ∧ Pth cs r now w goal e
  | 0, r, x, now, h, hx => by
    obtain ⟨h1, h2⟩ := row0_inv h
    exact ⟨[], Nat.le_refl _, h1, by omega⟩
  | k + 1, r, x, now, h, hx => by
    rcases foldL_src (by rw [latK_len, row0_len]) hc r x h with h | ⟨c, h1, rfl, y, h2, h3, rfl⟩
    · obtain ⟨w, g1, g2⟩ := lat_pth hc k r x now h hx
      exact ⟨w, by omega, g2⟩
    · have hf := (hc c h1).fl
      obtain ⟨w, g1, g2⟩ := lat_pth hc k c.two y (max now c.fst + c.dly) h2 (by omega)
      exact ⟨(c, max now c.fst) :: w, by simp; omega, h1, rfl, by omega, by omega, by omega, g2⟩
theorem pth_lat {goal : Nat} {e : Int} (hg : goal < n) (hc : ∀ c ∈ cs, Good n c) : ∀ (k : Nat) (w : List (Ct × Int)) (r : Nat) (now : Int), w.length ≤ k → Pth cs r now w goal e → ∃ x, (latK cs (row0 n goal e) k).getD r none = some x ∧ now ≤ x := by
  intro k
  induction k with
  | zero =>
    intro w r now hw h
    have : w = [] := List.length_eq_zero_iff.mp (by omega)
    subst this
    obtain ⟨rfl, h2⟩ := h
    refine ⟨e, ?_, h2⟩
    show (row0 n r e).getD r none = some e
    rw [row0_get hg, if_pos rfl]
  | succ k ih =>
    intro w r now hw h
    cases w with
    | nil =>
      obtain ⟨x, h1, h2⟩ := ih [] r now (Nat.zero_le _) h
      have := foldL_ge (row := latK cs (row0 n goal e) k) (cs := cs) (found := latK cs (row0 n goal e) k) (by rw [latK_len, row0_len]) hc r
      rw [h1] at this
      obtain ⟨x', h3, h4⟩ := this
      exact ⟨x', h3, by omega⟩
    | cons p w =>
      obtain ⟨c, l⟩ := p
      obtain ⟨h1, rfl, h3, h4, h5, h6⟩ := h
      obtain ⟨y, g1, g2⟩ := ih w c.two (l + c.dly) (by simp at hw; omega) h6
      obtain ⟨x, g3, g4⟩ := foldL_cand (row := latK cs (row0 n goal e) k) (found := latK cs (row0 n goal e) k) (by rw [latK_len, row0_len]) hc c h1 y g1 (by omega)
      exact ⟨x, g3, by omega⟩
/-- the two tell the same -/
theorem fore_lat {r goal k : Nat} {now e : Int} (hc : ∀ c ∈ cs, Good n c) (hr : r < n) (hg : goal < n) :
    (∃ t, (fore n cs r now k).getD goal none = some t ∧ t ≤ e) ↔ ∃ x, (latK cs (row0 n goal e) k).getD r none = some x ∧ now ≤ x := by
  constructor
  · rintro ⟨t, h1, h2⟩
    obtain ⟨w, h3, h4⟩ := fore_pth hc k goal t h1
    exact pth_lat hg hc k w r now h3 (h4.late h2)
  · rintro ⟨x, h1, h2⟩
    obtain ⟨w, h3, h4⟩ := lat_pth hc k r x now h1 h2
    exact pth_fore hc hr k w goal e h3 h4
end
end K65


set_option maxRecDepth 100000
set_option maxHeartbeats 4000000
namespace K65
open PySem PySem.Spec PyProof.Rows L2 Z
theorem m_after {a b : Option Int} (h : ole b a) : m__law_after [encO a, encO b] = some (.bl true) := by
  refine run_fn rfl ?_
  cases a with
  | none => simp [body__law_after, _law_after_s1]
  | some a =>
    obtain ⟨b', rfl, hb⟩ := ole_some h
    simp [body__law_after, _law_after_s1, hb]
theorem lat_turn {row found : Row} {c : Ct} {s0 s1 s2 s3 s5 s7 s8 s9 s10 s11 s12 s13 : L} {n : Nat} (hr : row.length = n) (hf : found.length = n) (hc : Good n c) :
    ∃ s12' : L, latest_b1 [s0, s1, s2, s3, .own (found.map encO), s5, .fro (encR row), .fro (.int c.one), .fro (.int c.two), .fro (.int c.fst), .fro (.int c.lst), .fro (.int c.dly), s12, s13] = some (.nx [s0, s1, s2, s3, .own ((stepL row found c).map encO), s5, .fro (encR row), .fro (.int c.one), .fro (.int c.two), .fro (.int c.fst), .fro (.int c.lst), .fro (.int c.dly), s12', s13]) := by
  have h1 : c.two < row.length := by rw [hr]; exact hc.two
  have h2 : c.one < found.length := by rw [hf]; exact hc.one
  have e1 := atR h1
  have e2 := atR h2
  obtain ⟨x, hx⟩ : ∃ x, row.getD c.two none = x := ⟨_, rfl⟩
  obtain ⟨y, hy⟩ : ∃ y, found.getD c.one none = y := ⟨_, rfl⟩
  unfold stepL
  rw [hx] at e1 ⊢
  rw [hy] at e2 ⊢
  have e3 : ixN (found.map encO).length (c.one : Int) = some c.one := ixN_n (by rw [List.length_map]; exact h2)
  rw [List.length_map] at e3
  cases x with
  | none =>
    refine ⟨s12, ?_⟩
    simp [latest_b1, encR, e1]
  | some x =>
    by_cases hle : c.fst ≤ x - c.dly
    · have hm : bMin [.int c.lst, .int (x - c.dly)] = some (.int (min c.lst (x - c.dly))) := by rw [v_bmin, minI]
      refine ⟨.fro (.int (min c.lst (x - c.dly))), ?_⟩
      show latest_b1 _ = some (.nx [s0, s1, s2, s3, .own ((if c.fst ≤ x - c.dly then _ else found).map encO), s5, _, _, _, _, _, _, _, s13])
      rw [if_pos hle]
      generalize min c.lst (x - c.dly) = m at hm ⊢
      cases y with
      | none => simp [-v_bmin, latest_b1, encR, e1, e2, e3, hle, hm, later, List.map_set]
      | some y => simp [-v_bmin, latest_b1, encR, e1, e2, e3, hle, hm, later, maxI, List.map_set]
    · refine ⟨s12, ?_⟩
      show latest_b1 _ = some (.nx [s0, s1, s2, s3, .own ((if c.fst ≤ x - c.dly then _ else found).map encO), s5, _, _, _, _, _, _, _, s13])
      rw [if_neg hle]
      simp [latest_b1, encR, e1, hle]
theorem m_latest_eq {n goal : Nat} {cs : List Ct} {t : Int} (hn : 1 ≤ n) (h16 : n ≤ 16) (hc : ∀ c ∈ cs, Good n c) (hl : cs.length ≤ 40) (hs : goal < n) (h0 : 0 ≤ t) (h1 : t ≤ 20000) :
    m_latest [.int n, .lst (cs.map encC), .int goal, .int t] = some (encR (latK cs (row0 n goal t) (n - 1))) := by
  have hk : kComp (iR1 (aCons (cVar 0) aNil)) (mName 13) (fun _ => some true) latest_e1 [13] [.fro (.int n), .fro (.lst (cs.map encC)), .fro (.int goal), .fro (.int t), .un, .un, .un, .un, .un, .un, .un, .un, .un, .un] = some ((row0 n goal t).map encO) := by
    rw [comp_map (enc := fun x : Nat => D.int (x : Int)) (r := fun r : Nat => if r = goal then D.int t else D.non) (xs := List.range n), row0_enc]
    · have h1 : -4611686018427387904 ≤ (n : Int) ∧ (n : Int) < 4611686018427387904 := by omega
      simp [h1, rangeD_n]
    · rw [List.length_range]
      omega
    · intro x _
      by_cases hx : x = goal
      · simp [latest_e1, hx]
      · have hx' : oEq (.int (x : Int)) (.int (goal : Int)) = some (.bl false) := by
          rw [oEq_int, decide_eq_false (by omega)]
        simp [-oEq_int, latest_e1, hx, hx']
  obtain ⟨ev', h3, j5, j6, j7, j8, j9, j10, j11, j12, rfl⟩ := for_run0 (u := latest_b2) (mm := mName 5) (enc := fun k : Nat => D.int (k : Int)) (xs := List.range (n - 1))
    (ev := [.fro (.int n), .fro (.lst (cs.map encC)), .fro (.int goal), .fro (.int t), .own ((row0 n goal t).map encO), .un, .un, .un, .un, .un, .un, .un, .un, .un])
    (fun pre ev => ∃ (j5 j6 j7 j8 j9 j10 j11 j12 : L), ev = [.fro (.int n), .fro (.lst (cs.map encC)), .fro (.int goal), .fro (.int t), .own ((latK cs (row0 n goal t) pre.length).map encO), j5, j6, j7, j8, j9, j10, j11, j12, .un])
    ⟨.un, .un, .un, .un, .un, .un, .un, .un, rfl⟩ (by
      intro pre a post ev he hR
      obtain ⟨j5, j6, j7, j8, j9, j10, j11, j12, rfl⟩ := hR
      have hrl : (latK cs (row0 n goal t) pre.length).length = n := by rw [latK_len, row0_len]
      obtain ⟨ev2, g3, i7, i8, i9, i10, i11, i12, rfl⟩ := for_run0 (u := latest_b1) (mm := mTup (mCons (mName 7) (mCons (mName 8) (mCons (mName 9) (mCons (mName 10) (mCons (mName 11) mNil)))))) (enc := encC) (xs := cs)
        (ev := [.fro (.int n), .fro (.lst (cs.map encC)), .fro (.int goal), .fro (.int t), .own ((latK cs (row0 n goal t) pre.length).map encO), .fro (.int a), .fro (encR (latK cs (row0 n goal t) pre.length)), j7, j8, j9, j10, j11, j12, .un])
        (fun pre2 ev => ∃ (i7 i8 i9 i10 i11 i12 : L), ev = [.fro (.int n), .fro (.lst (cs.map encC)), .fro (.int goal), .fro (.int t), .own ((pre2.foldl (stepL (latK cs (row0 n goal t) pre.length)) (latK cs (row0 n goal t) pre.length)).map encO), .fro (.int a), .fro (encR (latK cs (row0 n goal t) pre.length)), i7, i8, i9, i10, i11, i12, .un])
        ⟨j7, j8, j9, j10, j11, j12, rfl⟩ (by
          intro pre2 c post2 ev he2 hR
          obtain ⟨i7, i8, i9, i10, i11, i12, rfl⟩ := hR
          obtain ⟨s12, h⟩ := lat_turn (row := latK cs (row0 n goal t) pre.length) (found := pre2.foldl (stepL (latK cs (row0 n goal t) pre.length)) (latK cs (row0 n goal t) pre.length)) (c := c)
            (s0 := .fro (.int n)) (s1 := .fro (.lst (cs.map encC))) (s2 := .fro (.int goal)) (s3 := .fro (.int t)) (s5 := .fro (.int a)) (s7 := .un) (s8 := .un) (s9 := .un) (s10 := .un) (s11 := .un) (s12 := i12) (s13 := .un) hrl (by rw [foldL_len, hrl]) (hc c (by rw [← he2]; simp))
          refine ⟨_, _, ?_, .inl h, .fro (.int c.one), .fro (.int c.two), .fro (.int c.fst), .fro (.int c.lst), .fro (.int c.dly), s12, ?_⟩
          · simp [encC]
          · rw [List.foldl_append]
            rfl)
      refine ⟨_, [.fro (.int n), .fro (.lst (cs.map encC)), .fro (.int goal), .fro (.int t), .own ((nextL cs (latK cs (row0 n goal t) pre.length)).map encO), .fro (.int a), .fro (encR (latK cs (row0 n goal t) pre.length)), i7, i8, i9, i10, i11, i12, .un], rfl, .inl ?_, .fro (.int a), .fro (encR (latK cs (row0 n goal t) pre.length)), i7, i8, i9, i10, i11, i12, by rw [List.length_append]; rfl⟩
      unfold encR at g3 ⊢
      unfold nextL
      simp [latest_b2, g3])
  refine run_fn rfl ?_
  rw [List.length_range] at h3
  have h2 : rangeD 0 ((n : Int) - 1) = (List.range (n - 1)).map fun k : Nat => D.int (k : Int) := by
    rw [rangeD_eq, show ((n : Int) - 1).toNat = n - 1 by omega]
  have h4 : -4611686018427387904 ≤ (n : Int) - 1 ∧ (n : Int) - 1 < 4611686018427387904 := by omega
  unfold encR at ⊢
  simp [body_latest, latest_s1, latest_s2, latest_s3, latest_s4, latest_s5, latest_s6, m_check_contacts_ok hn h16 hc hl, m_check_router_ok hs, m_check_tick_ok h0 h1, hk, h2, h4, h3]
end K65


set_option maxRecDepth 100000
set_option maxHeartbeats 4000000
namespace K65
open PySem PySem.Spec PyProof.Rows L2 Z
theorem mod2 {a n : Int} (h1 : n ≤ a) (h2 : a < 2 * n) : a % n = a - n := by
  have h := Int.add_mul_emod_self_left (a - n) n 1
  rw [Int.mul_one, Int.sub_add_cancel] at h
  rw [h]
  exact Int.emod_eq_of_lt (by omega) (by omega)
theorem mod_ne {n one y : Int} (h0 : 0 ≤ one) (h1 : one < n) (h2 : 0 ≤ y) (h3 : y < n - 1) : (one + 1 + y) % n ≠ one := by
  by_cases h : one + 1 + y < n
  · rw [Int.emod_eq_of_lt (by omega) h]
    omega
  · rw [mod2 (by omega) (by omega)]
    omega
theorem three {w : Int} (h0 : 0 ≤ w) (h1 : w < 3) : w = 0 ∨ w = 1 ∨ w = 2 := by omega
theorem con_turn {dr : List Int} {k far : Int} {n t : Nat} {acc : List Ct} {s6 s7 s8 s9 s10 : L} (hn : 2 ≤ n) (hf0 : 0 < far) (hf1 : far ≤ 10001) (ha : acc.length < 16777216) :
    ∃ (c : Ct) (i6 i7 i8 i9 i10 : L), Good n c ∧ _law_contacts_b1 [.fro (.lst (dr.map .int)), .fro (.int k), .fro (.int n), .own (acc.map encC), .fro (.int far), .fro (.int t), s6, s7, s8, s9, s10]
      = some (.nx [.fro (.lst (dr.map .int)), .fro (.int k), .fro (.int n), .own ((acc ++ [c]).map encC), .fro (.int far), .fro (.int t), i6, i7, i8, i9, i10]) := by
  have hn0 : (0 : Int) < n := by omega
  have hn1 : (0 : Int) < (n : Int) - 1 := by omega
  obtain ⟨at', hat⟩ : ∃ at', k + 2 + 6 * (t : Int) = at' := ⟨_, rfl⟩
  have a0 := mix_nonneg (dr := dr) (k := at') hn0
  have a1 := mix_lt (dr := dr) (k := at') hn0
  obtain ⟨one, e1⟩ := Int.eq_ofNat_of_zero_le a0
  have m1 := mix_eq (dr := dr) (k := at') hn0
  rw [e1] at a0 a1 m1
  have b0 := mix_nonneg (dr := dr) (k := at' + 1) hn1
  have b1 := mix_lt (dr := dr) (k := at' + 1) hn1
  have m2 := mix_eq (dr := dr) (k := at' + 1) hn1
  generalize mix dr (at' + 1) ((n : Int) - 1) = y at b0 b1 m2
  have hmx : bMax [.int 1, .int ((n : Int) - 1)] = some (.int ((n : Int) - 1)) := by
    have : (if (n : Int) - 1 > 1 then (n : Int) - 1 else 1) = (n : Int) - 1 := by split <;> omega
    rw [v_bmax, this]
  have c0 := mod_ne a0 a1 b0 b1
  have c1 := Int.emod_nonneg ((one : Int) + 1 + y) (show (n : Int) ≠ 0 by omega)
  have c2 := Int.emod_lt_of_pos ((one : Int) + 1 + y) hn0
  obtain ⟨two, e2⟩ := Int.eq_ofNat_of_zero_le c1
  rw [e2] at c0 c1 c2
  have d0 := mix_nonneg (dr := dr) (k := at' + 2) hf0
  have d1 := mix_lt (dr := dr) (k := at' + 2) hf0
  have m3 := mix_eq (dr := dr) (k := at' + 2) hf0
  generalize mix dr (at' + 2) far = fst at d0 d1 m3
  have f0 := mix_nonneg (dr := dr) (k := at' + 3) (many := 9) (by decide)
  have m4 := mix_eq (dr := dr) (k := at' + 3) (many := 9) (by decide)
  generalize mix dr (at' + 3) 9 = o1 at f0 m4
  have g0 := mix_nonneg (dr := dr) (k := at' + 3) hf0
  have m5 := mix_eq (dr := dr) (k := at' + 3) hf0
  generalize mix dr (at' + 3) far = o2 at g0 m5
  have w0 := mix_nonneg (dr := dr) (k := at' + 4) (many := 3) (by decide)
  have w1 := mix_lt (dr := dr) (k := at' + 4) (many := 3) (by decide)
  have m6 := mix_eq (dr := dr) (k := at' + 4) (many := 3) (by decide)
  generalize mix dr (at' + 4) 3 = w at w0 w1 m6
  obtain ⟨off, dm, hoff, hdm, o0, q0, q1⟩ : ∃ off dm : Int, atI [D.int 0, D.int o1, D.int o2] w = some (D.int off) ∧ atI [D.int 2, D.int 9, D.int 1000] w = some (D.int dm) ∧ 0 ≤ off ∧ 0 < dm ∧ dm ≤ 1000 := by
    rcases three w0 w1 with rfl | rfl | rfl
    · exact ⟨0, 2, rfl, rfl, by omega, by omega, by omega⟩
    · exact ⟨o1, 9, rfl, rfl, by omega, by omega, by omega⟩
    · exact ⟨o2, 1000, rfl, rfl, by omega, by omega, by omega⟩
  have hmin : bMin [.int 10000, .int (fst + off)] = some (.int (min 10000 (fst + off))) := by rw [v_bmin, minI]
  obtain ⟨lst, hl⟩ : ∃ lst, min 10000 (fst + off) = lst := ⟨_, rfl⟩
  rw [hl] at hmin
  have r0 := mix_nonneg (dr := dr) (k := at' + 5) q0
  have r1 := mix_lt (dr := dr) (k := at' + 5) q0
  have m7 := mix_eq (dr := dr) (k := at' + 5) q0
  generalize mix dr (at' + 5) dm = d at r0 r1 m7
  refine ⟨⟨one, two, fst, lst, 1 + d⟩, .fro (.int at'), .fro (.int one), .fro (.int two), .fro (.int fst), .fro (.int lst), ⟨by show one < n; omega, by show two < n; omega, fun e => c0 (by rw [show one = two from e]), d0, by show fst ≤ lst; omega, by show lst ≤ 10000; omega, by show 1 ≤ 1 + d; omega, by show 1 + d ≤ 1000; omega⟩, ?_⟩
  have e2' : ((one : Int) + 1 + y) % (n : Int) = (two : Int) := e2
  simp [-v_bmin, -v_bmax, _law_contacts_b1, hat, m1, hmx, m2, hn0, show 0 < n by omega, e2', m3, m4, m5, m6, hoff, hdm, hmin, m7, ha, encC]
theorem contacts_ok {dr : List Int} {k : Int} {n : Nat} (hn : 1 ≤ n) (h16 : n ≤ 16) :
    ∃ cs : List Ct, m__law_contacts [.lst (dr.map .int), .int k, .int n] = some (.lst (cs.map encC)) ∧ (∀ c ∈ cs, Good n c) ∧ cs.length ≤ 40 := by
  have w0 := mix_nonneg (dr := dr) (k := k) (many := 3) (by decide)
  have w1 := mix_lt (dr := dr) (k := k) (many := 3) (by decide)
  have m1 := mix_eq (dr := dr) (k := k) (many := 3) (by decide)
  generalize mix dr k 3 = w at w0 w1 m1
  obtain ⟨far, hfar, f0, f1⟩ : ∃ far : Int, atI [D.int 6, D.int 40, D.int 10001] w = some (D.int far) ∧ 0 < far ∧ far ≤ 10001 := by
    rcases three w0 w1 with rfl | rfl | rfl
    · exact ⟨6, rfl, by omega, by omega⟩
    · exact ⟨40, rfl, by omega, by omega⟩
    · exact ⟨10001, rfl, by omega, by omega⟩
  have v0 := mix_nonneg (dr := dr) (k := k + 1) (many := 41) (by decide)
  have v1 := mix_lt (dr := dr) (k := k + 1) (many := 41) (by decide)
  have m2 := mix_eq (dr := dr) (k := k + 1) (many := 41) (by decide)
  generalize mix dr (k + 1) 41 = v at v0 v1 m2
  obtain ⟨m, rfl⟩ := Int.eq_ofNat_of_zero_le v0
  obtain ⟨q, hq, hq2, hq3⟩ : ∃ q : Nat, ((m : Int) * (if (1 : Int) < n then 1 else 0)) = (q : Int) ∧ q ≤ 40 ∧ (0 < q → 2 ≤ n) := by
    by_cases h : (1 : Int) < n
    · exact ⟨m, by rw [if_pos h, Int.mul_one], by omega, by omega⟩
    · exact ⟨0, by rw [if_neg h, Int.mul_zero]; rfl, by omega, by omega⟩
  obtain ⟨ev', h3, cs, j5, j6, j7, j8, j9, j10, rfl, hc, hl⟩ := for_run0 (u := _law_contacts_b1) (mm := mName 5) (enc := fun k : Nat => D.int (k : Int)) (xs := List.range q)
    (ev := [.fro (.lst (dr.map .int)), .fro (.int k), .fro (.int n), .own [], .fro (.int far), .un, .un, .un, .un, .un, .un])
    (fun pre ev => ∃ (cs : List Ct) (j5 j6 j7 j8 j9 j10 : L), ev = [.fro (.lst (dr.map .int)), .fro (.int k), .fro (.int n), .own (cs.map encC), .fro (.int far), j5, j6, j7, j8, j9, j10] ∧ (∀ c ∈ cs, Good n c) ∧ cs.length = pre.length)
    ⟨[], .un, .un, .un, .un, .un, .un, rfl, (fun _ h => nomatch h), rfl⟩ (by
      intro pre a post ev he hR
      obtain ⟨cs, j5, j6, j7, j8, j9, j10, rfl, hc, hl⟩ := hR
      obtain ⟨rfl, hlt⟩ := range_at he
      obtain ⟨c, i6, i7, i8, i9, i10, hg, h⟩ := con_turn (dr := dr) (k := k) (t := pre.length) (acc := cs) (s6 := j6) (s7 := j7) (s8 := j8) (s9 := j9) (s10 := j10) (hq3 (by omega)) f0 f1 (by omega)
      refine ⟨_, _, rfl, .inl h, cs ++ [c], .fro (.int pre.length), i6, i7, i8, i9, i10, rfl, ?_, by rw [List.length_append, List.length_append, hl]; rfl⟩
      intro c' hc'
      rcases List.mem_append.mp hc' with h | h
      · exact hc c' h
      · rw [List.mem_singleton.mp h]
        exact hg)
  rw [List.length_range] at hl
  refine ⟨cs, run_fn rfl ?_, hc, by omega⟩
  have h4 : -4611686018427387904 ≤ (q : Int) ∧ (q : Int) < 4611686018427387904 := by omega
  have h5 : -18446744073709551616 < (m : Int) := by omega
  have h6 : (m : Int) < 18446744073709551616 := by omega
  simp [body__law_contacts, _law_contacts_s1, _law_contacts_s2, _law_contacts_s3, m1, hfar, m2, hq, h5, h6, h4, rangeD_n, h3]
end K65


set_option maxRecDepth 100000
set_option maxHeartbeats 4000000
namespace K65
open PySem PySem.Spec PyProof.Rows L2 Z
/-! ### journeys -/
def encJ (p : Nat × Int) : D := .tup [.int p.1, .int p.2]
def Kept (cs : List Ct) : Nat → Int → List (Nat × Int) → Nat → Int → Prop
  | h, now, [], g, t => h = g ∧ now = t
  | h, now, (i, l) :: J, g, t => ∃ c, cs[i]? = some c ∧ c.one = h ∧ max now c.fst ≤ l ∧ l ≤ c.lst ∧ Kept cs c.two (l + c.dly) J g t
theorem Kept.last {cs : List Ct} {g : Nat} {t : Int} {i : Nat} {l : Int} : ∀ {J : List (Nat × Int)} {h : Nat} {now : Int}, Kept cs h now (J ++ [(i, l)]) g t → ∃ c, cs[i]? = some c ∧ l + c.dly = t
  | [], _, _, ⟨c, h1, _, _, _, h2⟩ => ⟨c, h1, h2.2⟩
  | (_, _) :: _, _, _, ⟨_, _, _, _, _, h⟩ => h.last
/-- `_law_kept` -/
theorem kept_go {cs : List Ct} {g : Nat} {t : Int} {s0 s1 s2 s3 s4 : L} {n : Nat} (hcs : s0 = .fro (.lst (cs.map encC))) : ∀ {J : List (Nat × Int)} {h : Nat} {now : Int} {s7 s8 s9 s10 s11 s12 s13 : L}, Kept cs h now J g t →
    ∃ i7 i8 i9 i10 i11 i12 i13 : L, forGo (mTup (mCons (mName 7) (mCons (mName 8) mNil))) _law_kept_b1 (J.map encJ) [s0, s1, s2, s3, s4, .fro (.int h), .fro (.int now), s7, s8, s9, s10, s11, s12, s13]
      = some (.nx [s0, s1, s2, s3, s4, .fro (.int g), .fro (.int t), i7, i8, i9, i10, i11, i12, i13])
  | [], h, now, _, _, _, _, _, _, _, hk => by
    obtain ⟨rfl, rfl⟩ := hk
    exact ⟨_, _, _, _, _, _, _, rfl⟩
  | (i, l) :: J, h, now, s7, s8, s9, s10, s11, s12, s13, hk => by
    obtain ⟨c, h1, h2, h3, h4, h5⟩ := hk
    obtain ⟨i7, i8, i9, i10, i11, i12, i13, ih⟩ := kept_go (s1 := s1) (s2 := s2) (s3 := s3) (s4 := s4) (n := n) hcs (s7 := .fro (.int i)) (s8 := .fro (.int l)) (s9 := .fro (.int c.one)) (s10 := .fro (.int c.two)) (s11 := .fro (.int c.fst)) (s12 := .fro (.int c.lst)) (s13 := .fro (.int c.dly)) h5
    refine ⟨i7, i8, i9, i10, i11, i12, i13, ?_⟩
    have hat : atI (cs.map encC) (i : Int) = some (D.tup [.int c.one, .int c.two, .int c.fst, .int c.lst, .int c.dly]) := by rw [atI_n, List.getElem?_map, h1]; rfl
    have hm : bMax [.int now, .int c.fst] = some (.int (max now c.fst)) := by rw [v_bmax, maxI]
    have hne : oNe (.int (c.one : Int)) (.int (h : Int)) = some (.bl false) := by rw [oNe_int, h2, decide_eq_true rfl]; rfl
    generalize max now c.fst = m at hm h3
    subst hcs
    rw [List.map_cons, for_cons]
    have hb : _law_kept_b1 [.fro (.lst (cs.map encC)), s1, s2, s3, s4, .fro (.int h), .fro (.int now), .fro (.int i), .fro (.int l), s9, s10, s11, s12, s13] = some (.nx [.fro (.lst (cs.map encC)), s1, s2, s3, s4, .fro (.int c.two), .fro (.int (l + c.dly)), .fro (.int i), .fro (.int l), .fro (.int c.one), .fro (.int c.two), .fro (.int c.fst), .fro (.int c.lst), .fro (.int c.dly)]) := by
      simp [-v_bmax, -oNe_int, _law_kept_b1, hat, hm, hne, h3, h4]
    have ht : mTup (mCons (mName 7) (mCons (mName 8) mNil)) (encJ (i, l)) [.fro (.lst (cs.map encC)), s1, s2, s3, s4, .fro (.int h), .fro (.int now), s7, s8, s9, s10, s11, s12, s13] = some [.fro (.lst (cs.map encC)), s1, s2, s3, s4, .fro (.int h), .fro (.int now), .fro (.int i), .fro (.int l), s9, s10, s11, s12, s13] := by
      simp [encJ]
    rw [ht, Option.bind_some, hb]
    exact ih
theorem m_kept {cs : List Ct} {start g : Nat} {tick t : Int} {J : List (Nat × Int)} (hk : Kept cs start tick J g t) : m__law_kept [.lst (cs.map encC), .int start, .int tick, .int g, .lst (J.map encJ)] = some (.bl true) := by
  refine run_fn rfl ?_
  obtain ⟨i7, i8, i9, i10, i11, i12, i13, h⟩ := kept_go (s0 := .fro (.lst (cs.map encC))) (s1 := .fro (.int start)) (s2 := .fro (.int tick)) (s3 := .fro (.int g)) (s4 := .fro (.lst (J.map encJ))) (n := 0) rfl (s7 := .un) (s8 := .un) (s9 := .un) (s10 := .un) (s11 := .un) (s12 := .un) (s13 := .un) hk
  simp [body__law_kept, _law_kept_s1, _law_kept_s2, _law_kept_s3, h]
/-- the first that tells -/
theorem bw_least {cs : List Ct} {row : Row} {here : Nat} {s : Int} : (∃ c ∈ cs, ∃ l, bw row here s c = some l) → ∃ (k : Nat) (hk : k < cs.length) (l : Int), bw row here s cs[k] = some l ∧ ∀ (j : Nat) (hj : j < k), bw row here s (cs[j]'(by omega)) = none := by
  induction cs with
  | nil =>
    rintro ⟨c, h, _⟩
    cases h
  | cons d cs ih =>
    intro h
    cases hd : bw row here s d with
    | some l => exact ⟨0, Nat.succ_pos _, l, hd, fun j hj => absurd hj (Nat.not_lt_zero _)⟩
    | none =>
      obtain ⟨c, h1, l, h2⟩ := h
      rcases List.mem_cons.mp h1 with rfl | h1
      · rw [hd] at h2
        cases h2
      · obtain ⟨k, hk, l', h3, h4⟩ := ih ⟨c, h1, l, h2⟩
        refine ⟨k + 1, Nat.succ_lt_succ hk, l', h3, fun j hj => ?_⟩
        cases j with
        | zero => exact hd
        | succ j => exact h4 j (by omega)
theorem bw_inv {row : Row} {here : Nat} {s l : Int} {c : Ct} (h : bw row here s c = some l) : leaves c (row.getD c.one none) = some l ∧ c.two = here ∧ l + c.dly = s := by
  unfold bw at h
  split at h
  · cases h
  · rename_i l' e
    obtain ⟨⟨h2, h3⟩, rfl⟩ := of_ite h
    exact ⟨e, h2, h3⟩
/-- one hop back -/
theorem hop {n start : Nat} {cs : List Ct} {t s : Int} {k h : Nat} (hc : ∀ c ∈ cs, Good n c) (h1 : (fore n cs start t (k + 1)).getD h none = some s) (h2 : (fore n cs start t k).getD h none ≠ some s) :
    ∃ (i : Nat) (hi : i < cs.length) (l s' : Int), bw (fore n cs start t k) h s cs[i] = some l ∧ (∀ (j : Nat) (hj : j < i), bw (fore n cs start t k) h s (cs[j]'(by omega)) = none) ∧
      (fore n cs start t k).getD cs[i].one none = some s' ∧ l = max s' cs[i].fst ∧ l ≤ cs[i].lst ∧ (k = 0 ∨ (fore n cs start t (k - 1)).getD cs[i].one none ≠ some s') := by
  have hx : ∃ c ∈ cs, ∃ l, bw (fore n cs start t k) h s c = some l := by
    rcases next_src (by rw [rowK_len, row0_len]) hc h1 with g | ⟨c, g1, g2, l, g3, g4⟩
    · exact absurd g h2
    · refine ⟨c, g1, l, ?_⟩
      have g3' : leaves c ((fore n cs start t k).getD c.one none) = some l := g3
      unfold bw
      rw [g3']
      exact if_pos ⟨g2, g4.symm⟩
  obtain ⟨i, hi, l, h3, h4⟩ := bw_least hx
  obtain ⟨h5, h6, h7⟩ := bw_inv h3
  obtain ⟨s', h8, h9, h10⟩ := leaves_inv h5
  have hfl := (hc _ (List.getElem_mem hi)).fl
  refine ⟨i, hi, l, s', h3, h4, h8, h10, by omega, ?_⟩
  cases k with
  | zero => exact .inl rfl
  | succ k =>
    refine .inr fun h11 => h2 ?_
    have h11' : (fore n cs start t k).getD cs[i].one none = some s' := h11
    have h12 : leaves cs[i] ((fore n cs start t k).getD cs[i].one none) = some l := by rw [h11', ← h8]; exact h5
    have h13 := next_cand (n := n) (row := fore n cs start t k) (by unfold fore; rw [rowK_len, row0_len]) hc (List.getElem_mem hi) h12
    rw [h6, h7] at h13
    have h14 : ole ((fore n cs start t (k + 1)).getD h none) (some s) := h13
    have h15 := rowK_down (r0 := row0 n start t) (i := k + 1) (k := k + 1 + 1) row0_len hc (by omega) h
    have h16 : (rowK cs (row0 n start t) (k + 1 + 1)).getD h none = some s := h1
    rw [h16] at h15
    exact ole_antisymm h14 h15
def num6 (ev : EV) : Nat := match ev[6]? with
  | some (L.fro (D.int k)) => k.toNat
  | _ => 0
theorem m_journey_none {n start goal : Nat} {cs : List Ct} {t : Int} (hn : 1 ≤ n) (h16 : n ≤ 16) (hc : ∀ c ∈ cs, Good n c) (hl : cs.length ≤ 40) (hs : start < n) (hg : goal < n) (h0 : 0 ≤ t) (h1 : t ≤ 20000)
    (hno : (fore n cs start t (n - 1)).getD goal none = none) : m_journey [.int n, .lst (cs.map encC), .int start, .int goal, .int t] = some .non := by
  refine run_fn rfl ?_
  have hr := m_rows (start := start) (t := t) hn h16 hc
  have hx : atI ((rowsOf n cs start t).map encR) (-1) = some (D.lst ((fore n cs start t (n - 1)).map encO)) := by
    unfold rowsOf
    rw [atI_back (by simp; omega), List.getLast?_map, show n = (n - 1) + 1 by omega, rowsOf_snoc, List.getLast?_concat]
    rfl
  have hx2 : atI ((fore n cs start t (n - 1)).map encO) (goal : Int) = some .non := by
    rw [atR (by unfold fore; rw [rowK_len, row0_len]; exact hg), hno]
    rfl
  simp [body_journey, journey_s1, journey_s2, journey_s3, journey_s4, journey_s5, journey_s6, m_check_contacts_ok hn h16 hc hl, m_check_router_ok hs, m_check_router_ok hg, m_check_tick_ok h0 h1, hr, hx, hx2]
theorem first_idx {n goal : Nat} {τ : Int} {f : Nat → Row} (hn : 1 ≤ n) (h : (f (n - 1)).getD goal none = some τ) : ∃ N, N < n ∧ (((List.range n).map f).map (·.getD goal none)).findIdx? (fun x => decide (x = some τ)) = some N ∧ (f N).getD goal none = some τ ∧ ∀ j, j < N → (f j).getD goal none ≠ some τ := by
  have hex : ∃ x ∈ (((List.range n).map f).map (·.getD goal none)), decide (x = some τ) = true := by
    refine ⟨some τ, ?_, decide_eq_true rfl⟩
    rw [List.map_map]
    exact List.mem_map.mpr ⟨n - 1, List.mem_range.mpr (by omega), h⟩
  cases hq : (((List.range n).map f).map (·.getD goal none)).findIdx? (fun x => decide (x = some τ)) with
  | none =>
    obtain ⟨x, hx, hx2⟩ := hex
    rw [List.findIdx?_eq_none_iff.mp hq x hx] at hx2
    cases hx2
  | some N =>
    obtain ⟨h1, h2, h3⟩ := List.findIdx?_eq_some_iff_getElem.mp hq
    have hN : N < n := by simpa using h1
    refine ⟨N, hN, rfl, by simpa using h2, fun j hj => ?_⟩
    have := h3 j hj
    simpa using this
theorem m_journey_some {n start goal : Nat} {cs : List Ct} {t τ : Int} (hn : 1 ≤ n) (h16 : n ≤ 16) (hc : ∀ c ∈ cs, Good n c) (hl : cs.length ≤ 40) (hs : start < n) (hg : goal < n) (h0 : 0 ≤ t) (h1 : t ≤ 20000)
    (hsome : (fore n cs start t (n - 1)).getD goal none = some τ) : ∃ J : List (Nat × Int), m_journey [.int n, .lst (cs.map encC), .int start, .int goal, .int t] = some (.lst (J.map encJ)) ∧
      Kept cs start t J goal τ ∧ J.length < n ∧ (fore n cs start t J.length).getD goal none = some τ ∧ ∀ j, j < J.length → (fore n cs start t j).getD goal none ≠ some τ := by
  have hr := m_rows (start := start) (t := t) hn h16 hc
  have hx : atI ((rowsOf n cs start t).map encR) (-1) = some (D.lst ((fore n cs start t (n - 1)).map encO)) := by
    unfold rowsOf
    rw [atI_back (by simp; omega), List.getLast?_map, show n = (n - 1) + 1 by omega, rowsOf_snoc, List.getLast?_concat]
    rfl
  have hxk : ∀ k : Nat, k < n → atI ((rowsOf n cs start t).map encR) (k : Int) = some (encR (fore n cs start t k)) := by
    intro k hk
    unfold rowsOf
    rw [atI_n, List.getElem?_map, List.getElem?_map, List.getElem?_range hk]
    rfl
  have hlen : ∀ k, (fore n cs start t k).length = n := fun k => by unfold fore; rw [rowK_len, row0_len]
  have hxr : ∀ (k h : Nat), h < n → atI ((fore n cs start t k).map encO) (h : Int) = some (encO ((fore n cs start t k).getD h none)) := fun k h hh => atR (by rw [hlen]; exact hh)
  have hx2 : atI ((fore n cs start t (n - 1)).map encO) (goal : Int) = some (.int τ) := by
    rw [hxr _ _ hg, hsome]
    rfl
  obtain ⟨N, hN, hN1, hN2, hN3⟩ := first_idx (f := fore n cs start t) hn hsome
  have hk : kComp (iLst (cVar 5)) (mName 11) (fun _ => some true) journey_e1 [11] [.fro (.int n), .fro (.lst (cs.map encC)), .fro (.int start), .fro (.int goal), .fro (.int t), .fro (.lst ((rowsOf n cs start t).map encR)), .un, .un, .un, .un, .un, .un]
      = some (((rowsOf n cs start t).map (·.getD goal none)).map encO) := by
    rw [comp_map (enc := encR) (r := fun r : Row => encO (r.getD goal none)) (xs := rowsOf n cs start t)]
    · rw [List.map_map]
      rfl
    · simp
    · unfold rowsOf
      rw [List.length_map, List.length_range]
      omega
    · intro x hx
      unfold rowsOf at hx
      obtain ⟨k, hk1, rfl⟩ := List.mem_map.mp hx
      have := hxr k goal hg
      unfold fore at this
      simp [journey_e1, encR, this]
  have hidx : oIndex (.lst (((rowsOf n cs start t).map (·.getD goal none)).map encO)) (.int τ) = some (.int N) := by
    have := EE.opt.index (by decide) ((rowsOf n cs start t).map (·.getD goal none)) (some τ)
    unfold rowsOf at this ⊢
    have hN1' : (((List.range n).map (rowK cs (row0 n start t))).map (·.getD goal none)).findIdx? (fun x => decide (x = some τ)) = some N := hN1
    rw [hN1'] at this
    exact this
  obtain ⟨e, h3, ⟨k, h, F, s, j9, j10, he, g1, g2, g3, g4, g5⟩, h4⟩ := while_run (u := journey_b1) (t := journey_t1)
    (fun ev => ∃ (k h : Nat) (F : List (Nat × Int)) (s : Int) (j9 j10 : L), ev = [.fro (.int n), .fro (.lst (cs.map encC)), .fro (.int start), .fro (.int goal), .fro (.int t), .fro (.lst ((rowsOf n cs start t).map encR)), .fro (.int k), .own (F.map encJ), .fro (.int h), j9, j10, .un] ∧
      (fore n cs start t k).getD h none = some s ∧ (k = 0 ∨ (fore n cs start t (k - 1)).getD h none ≠ some s) ∧ Kept cs h s F.reverse goal τ ∧ F.length + k = N ∧ h < n)
    num6
    (by
      rintro ev ⟨k, h, F, s, j9, j10, rfl, g1, g2, g3, g4, g5⟩
      cases k with
      | zero =>
        left
        simp [journey_t1]
      | succ k =>
        right
        have g2' : (fore n cs start t k).getD h none ≠ some s := by
          rcases g2 with g2 | g2
          · cases g2
          · exact g2
        obtain ⟨i, hi, l, s', q1, q2, q3, q4, q5, q6⟩ := hop hc g1 g2'
        obtain ⟨q7, q8, q9⟩ := bw_inv q1
        have hgood := hc _ (List.getElem_mem hi)
        refine ⟨by simp [journey_t1], [.fro (.int n), .fro (.lst (cs.map encC)), .fro (.int start), .fro (.int goal), .fro (.int t), .fro (.lst ((rowsOf n cs start t).map encR)), .fro (.int k), .own ((F ++ [(i, l)]).map encJ), .fro (.int cs[i].one), .fro (.int i), .fro (.int l), .un], .inl ?_, ⟨k, cs[i].one, F ++ [(i, l)], s', _, _, rfl, q3, q6, ?_, by rw [List.length_append]; show F.length + 1 + k = N; omega, hgood.one⟩, ?_⟩
        · have hb : m_by_which [.lst (cs.map encC), .lst ((fore n cs start t k).map encO), .int h, .int s] = some (.tup [.int i, .int l]) := m_by_which_eq (cs := cs) (row := fore n cs start t k) (here := h) (n := n) (k := i) (t := s) (l := l) (hlen k) hc hi q1 q2
          have e1 : atI ((rowsOf n cs start t).map encR) (k : Int) = some (D.lst ((fore n cs start t k).map encO)) := hxk k (by omega)
          have e2 : atI ((rowsOf n cs start t).map encR) ((k + 1 : Nat) : Int) = some (D.lst ((fore n cs start t (k + 1)).map encO)) := hxk (k + 1) (by omega)
          have e3 := hxr (k + 1) h g5
          rw [g1] at e3
          have e4 : atI (cs.map encC) (i : Int) = some (D.tup [.int cs[i].one, .int cs[i].two, .int cs[i].fst, .int cs[i].lst, .int cs[i].dly]) := by rw [atI_n, List.getElem?_map, List.getElem?_eq_getElem hi]; rfl
          have hF : F.length < 16777216 := by omega
          rw [show ((k + 1 : Nat) : Int) = (k : Int) + 1 by omega] at e2 ⊢
          generalize cs[i] = c at e4 ⊢
          simp [journey_b1, encJ, e1, e2, e3, e4, hb, hF]
        · rw [List.reverse_append]
          refine ⟨cs[i], List.getElem?_eq_getElem hi, rfl, by omega, q5, ?_⟩
          rw [q8, q9]
          exact g3
        · show (k : Int).toNat < ((k + 1 : Nat) : Int).toNat
          omega)
    (ev := [.fro (.int n), .fro (.lst (cs.map encC)), .fro (.int start), .fro (.int goal), .fro (.int t), .fro (.lst ((rowsOf n cs start t).map encR)), .fro (.int N), .own [], .fro (.int goal), .un, .un, .un])
    ⟨N, goal, [], τ, .un, .un, rfl, hN2, by
      cases N with
      | zero => exact .inl rfl
      | succ N => exact .inr (hN3 N (Nat.lt_succ_self _)), ⟨rfl, rfl⟩, Nat.zero_add _, hg⟩
  subst he
  have hk0 : k = 0 := by
    simp [journey_t1] at h4
    omega
  subst hk0
  obtain ⟨rfl, rfl⟩ := row0_inv g1
  have hFl : F.reverse.length = N := by rw [List.length_reverse]; omega
  refine ⟨F.reverse, run_fn rfl ?_, g3, by rw [hFl]; exact hN, by rw [hFl]; exact hN2, by rw [hFl]; exact hN3⟩
  generalize (rowsOf n cs h s).map (·.getD goal none) = gs at hk hidx
  simp [body_journey, journey_s1, journey_s2, journey_s3, journey_s4, journey_s5, journey_s6, journey_s7, journey_s8, journey_s9, journey_s10, m_check_contacts_ok hn h16 hc hl, m_check_router_ok hs, m_check_router_ok hg, m_check_tick_ok h0 h1, hr, hx, hx2, hk, hidx, h3]
end K65


set_option maxRecDepth 100000
set_option maxHeartbeats 8000000
namespace K65
open PySem PySem.Spec PyProof.Rows L2 Z
theorem ne_nil : oNe (.lst []) (.lst []) = some (.bl false) := EE.int.list.oNe (by decide) [] []
theorem eq_nil : oEq (.lst []) (.lst []) = some (.bl true) := EE.int.list.oEq (by decide) [] []
theorem EE.nat : EE 0 (fun i : Nat => D.int (i : Int)) := ⟨fun _ => rfl, fun _ => Nat.le_refl _, fun a b => by
  show ((a : Int) == (b : Int)) = decide (a = b)
  rw [Bool.beq_eq_decide_eq]
  exact decide_eq_decide.mpr ⟨fun h => by omega, fun h => by omega⟩⟩
theorem comp_none {α : Type} {enc : α → D} {fi : EV → Option (List D)} {mm : D → EV → Option EV} {p : EV → Option Bool} {f : EV → Option D} {ev : EV} {vs : List Nat} {xs : List α} (h : fi ev = some (xs.map enc)) (hl : xs.length ≤ 16777216)
    (hx : ∀ x ∈ xs, qC1 p f (mm (enc x) (evWipe ev vs)) = some none) : kComp fi mm p f vs ev = some [] := by
  have := comp_filter (r := fun _ => D.non) (P := fun _ => false) h hl (fun x hm => hx x hm)
  rw [this]
  simp
theorem fore_len {n start : Nat} {cs : List Ct} {t : Int} {k : Nat} : (fore n cs start t k).length = n := by
  unfold fore
  rw [rowK_len, row0_len]
theorem fore_at {n start : Nat} {cs : List Ct} {t : Int} {k r : Nat} (h : r < n) : atI ((fore n cs start t k).map encO) (r : Int) = some (encO ((fore n cs start t k).getD r none)) := atR (by rw [fore_len]; exact h)
theorem two {w : Int} (h0 : 0 ≤ w) (h1 : w < 2) : w = 0 ∨ w = 1 := by omega
theorem rng {n : Nat} (h : n ≤ 16) : -4611686018427387904 ≤ (n : Int) ∧ (n : Int) < 4611686018427387904 := by omega
structure Cx (n : Nat) (cs : List Ct) (start : Nat) (tick : Int) : Prop where
  hn : 1 ≤ n
  h16 : n ≤ 16
  hc : ∀ c ∈ cs, Good n c
  hl : cs.length ≤ 40
  hs : start < n
  h0 : 0 ≤ tick
  h1 : tick ≤ 12000
section
variable {ns dr : List Int} {n start : Nat} {cs : List Ct} {tick : Int}

theorem ls6 (X : Cx n cs start tick) : law_s6 [.fro (.scr ns), .fro (.lst (dr.map .int)), .fro (.int n), .fro (.lst (cs.map encC)), .fro (.int start), .fro (.int tick), .fro (encR (fore n cs start tick (n - 1))), .un, .un, .un, .un, .un, .un, .un, .un, .un, .un, .un, .un, .un, .un, .un, .un, .un, .un, .un, .un, .un] = some (.nx [.fro (.scr ns), .fro (.lst (dr.map .int)), .fro (.int n), .fro (.lst (cs.map encC)), .fro (.int start), .fro (.int tick), .fro (encR (fore n cs start tick (n - 1))), .un, .un, .un, .un, .un, .un, .un, .un, .un, .un, .un, .un, .un, .un, .un, .un, .un, .un, .un, .un, .un]) := by
  have h1 := m_is_foremost_eq X.hn X.h16 X.hc X.hl X.hs X.h0 (by have := X.h1; omega) fore_len (rowK_start X.hc X.hs (n - 1))
  rw [decide_eq_true (due_eq X.hn X.hc X.hs)] at h1
  have h2 : atI ((fore n cs start tick (n - 1)).map encO) (start : Int) = some (.int tick) := by
    rw [fore_at X.hs]
    exact congrArg (fun o => some (encO o)) (rowK_start X.hc X.hs (n - 1))
  unfold encR at h1 ⊢
  generalize fore n cs start tick (n - 1) = told at h1 h2 ⊢
  simp [law_s6, h1, h2]

theorem cpa {ev : EV} {a b : Row} (ha : a.length = n) (hb : b.length = n) (h16 : n ≤ 16) (hle : rle b a) (h2 : ev[2]? = some (.fro (.int n))) (h3 : ev[7]? = some (.fro (encR a))) (h4 : ev[6]? = some (.fro (encR b))) (h5 : 22 < ev.length) :
    kComp (iR1 (aCons (cVar 2) aNil)) (mName 22) law_q1 law_e1 [22] ev = some [] := by
  refine comp_none (enc := fun x : Nat => D.int (x : Int)) (xs := List.range n) ?_ (by rw [List.length_range]; omega) fun r hr => ?_
  · have := rng h16
    simp [h2, this, rangeD_n]
  · have hr' := List.mem_range.mp hr
    have e1 := atR (r := a) (j := r) (by rw [ha]; exact hr')
    have e2 := atR (r := b) (j := r) (by rw [hb]; exact hr')
    have e3 := m_after (hle r)
    have g1 : (List.set (List.set ev 22 L.un) 22 (.fro (.int r)))[7]? = some (.fro (encR a)) := by rw [List.getElem?_set_ne (by decide), List.getElem?_set_ne (by decide), h3]
    have g2 : (List.set (List.set ev 22 L.un) 22 (.fro (.int r)))[6]? = some (.fro (encR b)) := by rw [List.getElem?_set_ne (by decide), List.getElem?_set_ne (by decide), h4]
    have g3 : (List.set (List.set ev 22 L.un) 22 (.fro (.int r)))[22]? = some (.fro (.int r)) := by rw [List.getElem?_set_self (by rw [List.length_set]; exact h5)]
    show qC1 law_q1 law_e1 (some (List.set (List.set ev 22 L.un) 22 (.fro (.int r)))) = some none
    generalize List.set (List.set ev 22 L.un) 22 (.fro (.int r)) = ev2 at g1 g2 g3 ⊢
    generalize a.getD r none = x at e1 e3
    generalize b.getD r none = y at e2 e3
    unfold encR at g1 g2
    simp [law_q1, law_e1, g1, g2, g3, e1, e2, e3]

theorem cpb {ev : EV} {a b : Row} (ha : a.length = n) (hb : b.length = n) (h16 : n ≤ 16) (hle : rle b a) (h2 : ev[2]? = some (.fro (.int n))) (h3 : ev[6]? = some (.fro (encR a))) (h4 : ev[8]? = some (.fro (encR b))) (h5 : 22 < ev.length) :
    kComp (iR1 (aCons (cVar 2) aNil)) (mName 22) law_q2 law_e2 [22] ev = some [] := by
  refine comp_none (enc := fun x : Nat => D.int (x : Int)) (xs := List.range n) ?_ (by rw [List.length_range]; omega) fun r hr => ?_
  · have := rng h16
    simp [h2, this, rangeD_n]
  · have hr' := List.mem_range.mp hr
    have e1 := atR (r := a) (j := r) (by rw [ha]; exact hr')
    have e2 := atR (r := b) (j := r) (by rw [hb]; exact hr')
    have e3 := m_after (hle r)
    have g1 : (List.set (List.set ev 22 L.un) 22 (.fro (.int r)))[6]? = some (.fro (encR a)) := by rw [List.getElem?_set_ne (by decide), List.getElem?_set_ne (by decide), h3]
    have g2 : (List.set (List.set ev 22 L.un) 22 (.fro (.int r)))[8]? = some (.fro (encR b)) := by rw [List.getElem?_set_ne (by decide), List.getElem?_set_ne (by decide), h4]
    have g3 : (List.set (List.set ev 22 L.un) 22 (.fro (.int r)))[22]? = some (.fro (.int r)) := by rw [List.getElem?_set_self (by rw [List.length_set]; exact h5)]
    show qC1 law_q2 law_e2 (some (List.set (List.set ev 22 L.un) 22 (.fro (.int r)))) = some none
    generalize List.set (List.set ev 22 L.un) 22 (.fro (.int r)) = ev2 at g1 g2 g3 ⊢
    generalize a.getD r none = x at e1 e3
    generalize b.getD r none = y at e2 e3
    unfold encR at g1 g2
    simp [law_q2, law_e2, g1, g2, g3, e1, e2, e3]

theorem cpc {ev : EV} {a b : Row} (ha : a.length = n) (hb : b.length = n) (h16 : n ≤ 16) (hle : rle b a) (h2 : ev[2]? = some (.fro (.int n))) (h3 : ev[9]? = some (.fro (encR a))) (h4 : ev[11]? = some (.fro (encR b))) (h5 : 22 < ev.length) :
    kComp (iR1 (aCons (cVar 2) aNil)) (mName 22) law_q3 law_e3 [22] ev = some [] := by
  refine comp_none (enc := fun x : Nat => D.int (x : Int)) (xs := List.range n) ?_ (by rw [List.length_range]; omega) fun r hr => ?_
  · have := rng h16
    simp [h2, this, rangeD_n]
  · have hr' := List.mem_range.mp hr
    have e1 := atR (r := a) (j := r) (by rw [ha]; exact hr')
    have e2 := atR (r := b) (j := r) (by rw [hb]; exact hr')
    have e3 := m_after (hle r)
    have g1 : (List.set (List.set ev 22 L.un) 22 (.fro (.int r)))[9]? = some (.fro (encR a)) := by rw [List.getElem?_set_ne (by decide), List.getElem?_set_ne (by decide), h3]
    have g2 : (List.set (List.set ev 22 L.un) 22 (.fro (.int r)))[11]? = some (.fro (encR b)) := by rw [List.getElem?_set_ne (by decide), List.getElem?_set_ne (by decide), h4]
    have g3 : (List.set (List.set ev 22 L.un) 22 (.fro (.int r)))[22]? = some (.fro (.int r)) := by rw [List.getElem?_set_self (by rw [List.length_set]; exact h5)]
    show qC1 law_q3 law_e3 (some (List.set (List.set ev 22 L.un) 22 (.fro (.int r)))) = some none
    generalize List.set (List.set ev 22 L.un) 22 (.fro (.int r)) = ev2 at g1 g2 g3 ⊢
    generalize a.getD r none = x at e1 e3
    generalize b.getD r none = y at e2 e3
    unfold encR at g1 g2
    simp [law_q3, law_e3, g1, g2, g3, e1, e2, e3]

theorem ls9 {late more : Row} (X : Cx n cs start tick) (hl : late.length = n) (hm : more.length = n) (h1 : rle (fore n cs start tick (n - 1)) late) (h2 : cs.length < 31 → rle more (fore n cs start tick (n - 1))) : law_s9 [.fro (.scr ns), .fro (.lst (dr.map .int)), .fro (.int n), .fro (.lst (cs.map encC)), .fro (.int start), .fro (.int tick), .fro (encR (fore n cs start tick (n - 1))), .fro (encR late), .fro (encR more), .un, .un, .un, .un, .un, .un, .un, .un, .un, .un, .un, .un, .un, .un, .un, .un, .un, .un, .un] = some (.nx [.fro (.scr ns), .fro (.lst (dr.map .int)), .fro (.int n), .fro (.lst (cs.map encC)), .fro (.int start), .fro (.int tick), .fro (encR (fore n cs start tick (n - 1))), .fro (encR late), .fro (encR more), .un, .un, .un, .un, .un, .un, .un, .un, .un, .un, .un, .un, .un, .un, .un, .un, .un, .un, .un]) := by
  have g1 := cpa (ev := [.fro (.scr ns), .fro (.lst (dr.map .int)), .fro (.int n), .fro (.lst (cs.map encC)), .fro (.int start), .fro (.int tick), .fro (encR (fore n cs start tick (n - 1))), .fro (encR late), .fro (encR more), .un, .un, .un, .un, .un, .un, .un, .un, .un, .un, .un, .un, .un, .un, .un, .un, .un, .un, .un]) hl fore_len X.h16 h1 rfl rfl rfl (show 22 < 28 by decide)
  by_cases h : cs.length < 31
  · have g2 := cpb (ev := [.fro (.scr ns), .fro (.lst (dr.map .int)), .fro (.int n), .fro (.lst (cs.map encC)), .fro (.int start), .fro (.int tick), .fro (encR (fore n cs start tick (n - 1))), .fro (encR late), .fro (encR more), .un, .un, .un, .un, .un, .un, .un, .un, .un, .un, .un, .un, .un, .un, .un, .un, .un, .un, .un]) fore_len hm X.h16 (h2 h) rfl rfl rfl (show 22 < 28 by decide)
    have h' : (cs.length : Int) < 31 := by omega
    simp [law_s9, g1, g2, ne_nil, h']
  · have h' : ¬ (cs.length : Int) < 31 := by omega
    simp [law_s9, g1, ne_nil, h']

theorem ls11 {late more : Row} (X : Cx n cs start tick) : ∃ j10 j11 : L, law_s11 [.fro (.scr ns), .fro (.lst (dr.map .int)), .fro (.int n), .fro (.lst (cs.map encC)), .fro (.int start), .fro (.int tick), .fro (encR (fore n cs start tick (n - 1))), .fro (encR late), .fro (encR more), .fro .non, .un, .un, .un, .un, .un, .un, .un, .un, .un, .un, .un, .un, .un, .un, .un, .un, .un, .un] = some (.nx [.fro (.scr ns), .fro (.lst (dr.map .int)), .fro (.int n), .fro (.lst (cs.map encC)), .fro (.int start), .fro (.int tick), .fro (encR (fore n cs start tick (n - 1))), .fro (encR late), .fro (encR more), .fro (encR (fore n cs start tick (n - 1))), j10, j11, .un, .un, .un, .un, .un, .un, .un, .un, .un, .un, .un, .un, .un, .un, .un, .un]) := by
  have hr : rangeD 0 16 = (List.range 16).map fun k : Nat => D.int (k : Int) := rangeD_n 16
  obtain ⟨ev', h1, j9, j10, j11, rfl, h2⟩ := for_run0 (u := law_b1) (mm := mName 10) (enc := fun k : Nat => D.int (k : Int)) (xs := List.range 16)
    (ev := [.fro (.scr ns), .fro (.lst (dr.map .int)), .fro (.int n), .fro (.lst (cs.map encC)), .fro (.int start), .fro (.int tick), .fro (encR (fore n cs start tick (n - 1))), .fro (encR late), .fro (encR more), .fro .non, .un, .un, .un, .un, .un, .un, .un, .un, .un, .un, .un, .un, .un, .un, .un, .un, .un, .un])
    (fun pre ev => ∃ j9 j10 j11 : L, ev = [.fro (.scr ns), .fro (.lst (dr.map .int)), .fro (.int n), .fro (.lst (cs.map encC)), .fro (.int start), .fro (.int tick), .fro (encR (fore n cs start tick (n - 1))), .fro (encR late), .fro (encR more), j9, j10, j11, .un, .un, .un, .un, .un, .un, .un, .un, .un, .un, .un, .un, .un, .un, .un, .un] ∧ j9 = (if pre.length = 0 then .fro .non else .fro (encR (fore n cs start tick (min (pre.length - 1) (n - 1))))))
    ⟨_, _, _, rfl, rfl⟩ (by
      intro pre a post ev he hR
      obtain ⟨j9, j10, j11, rfl, hj⟩ := hR
      obtain ⟨rfl, hlt⟩ := range_at he
      have hw := m_within_eq (k := pre.length) X.hn X.h16 X.hc X.hl X.hs X.h0 (by have := X.h1; omega) hlt
      refine ⟨_, [.fro (.scr ns), .fro (.lst (dr.map .int)), .fro (.int n), .fro (.lst (cs.map encC)), .fro (.int start), .fro (.int tick), .fro (encR (fore n cs start tick (n - 1))), .fro (encR late), .fro (encR more), .fro (encR (fore n cs start tick (min pre.length (n - 1)))), .fro (.int pre.length), .fro (encR (fore n cs start tick (min pre.length (n - 1)))), .un, .un, .un, .un, .un, .un, .un, .un, .un, .un, .un, .un, .un, .un, .un, .un], rfl, .inl ?_, _, _, _, rfl, ?_⟩
      · by_cases h : pre.length = 0
        · rw [if_pos h] at hj
          subst hj
          simp [law_b1, hw]
        · rw [if_neg h] at hj
          subst hj
          have g := cpc (ev := [.fro (.scr ns), .fro (.lst (dr.map .int)), .fro (.int n), .fro (.lst (cs.map encC)), .fro (.int start), .fro (.int tick), .fro (encR (fore n cs start tick (n - 1))), .fro (encR late), .fro (encR more), .fro (encR (fore n cs start tick (min (pre.length - 1) (n - 1)))), .fro (.int pre.length), .fro (encR (fore n cs start tick (min pre.length (n - 1)))), .un, .un, .un, .un, .un, .un, .un, .un, .un, .un, .un, .un, .un, .un, .un, .un]) fore_len fore_len X.h16 (rowK_down (r0 := row0 n start tick) row0_len X.hc (show min (pre.length - 1) (n - 1) ≤ min pre.length (n - 1) by omega)) rfl rfl rfl (show 22 < 28 by decide)
          generalize fore n cs start tick (min (pre.length - 1) (n - 1)) = r1 at g ⊢
          generalize fore n cs start tick (min pre.length (n - 1)) = r2 at g hw ⊢
          generalize fore n cs start tick (n - 1) = told at g ⊢
          unfold encR at hw g ⊢
          simp [law_b1, hw, g, ne_nil]
      · rw [List.length_append, if_neg (by simp)]
        simp)
  refine ⟨j10, j11, ?_⟩
  rw [List.length_range, if_neg (by decide), show min (16 - 1) (n - 1) = n - 1 by have := X.h16; omega] at h2
  subst h2
  simp [law_s11, hr, h1]

theorem ls12 {late more : Row} {j10 j11 : L} : law_s12 [.fro (.scr ns), .fro (.lst (dr.map .int)), .fro (.int n), .fro (.lst (cs.map encC)), .fro (.int start), .fro (.int tick), .fro (encR (fore n cs start tick (n - 1))), .fro (encR late), .fro (encR more), .fro (encR (fore n cs start tick (n - 1))), j10, j11, .un, .un, .un, .un, .un, .un, .un, .un, .un, .un, .un, .un, .un, .un, .un, .un] = some (.nx [.fro (.scr ns), .fro (.lst (dr.map .int)), .fro (.int n), .fro (.lst (cs.map encC)), .fro (.int start), .fro (.int tick), .fro (encR (fore n cs start tick (n - 1))), .fro (encR late), .fro (encR more), .fro (encR (fore n cs start tick (n - 1))), j10, j11, .un, .un, .un, .un, .un, .un, .un, .un, .un, .un, .un, .un, .un, .un, .un, .un]) := by
  have h := EE.row.oNe (by decide) (fore n cs start tick (n - 1)) (fore n cs start tick (n - 1))
  rw [decide_eq_true rfl] at h
  generalize fore n cs start tick (n - 1) = told at h ⊢
  unfold encR
  simp [law_s12, h]

end
end K65


set_option maxRecDepth 100000
set_option maxHeartbeats 8000000
namespace K65
open PySem PySem.Spec PyProof.Rows L2 Z
theorem EE.jrn : EE 1 (fun p : Nat × Int => D.tup [.int p.1, .int p.2]) := EE.nat.tup2 EE.int
theorem j_nil (J : List (Nat × Int)) : oNe (.lst (J.map encJ)) (.lst []) = some (.bl (!decide (J = []))) := EE.jrn.list.oNe (by decide) J []
theorem j_eq (J J' : List (Nat × Int)) : oEq (.lst (J.map encJ)) (.lst (J'.map encJ)) = some (.bl (decide (J = J'))) := EE.jrn.list.oEq (by decide) J J'
section
variable {ns dr : List Int} {n start : Nat} {cs : List Ct} {tick : Int}

theorem b2_turn {late more : Row} {goal : Nat} {j10 j11 : L} (X : Cx n cs start tick) (hg : goal < n) : ∃ i11 : L, law_b2 [.fro (.scr ns), .fro (.lst (dr.map .int)), .fro (.int n), .fro (.lst (cs.map encC)), .fro (.int start), .fro (.int tick), .fro (encR (fore n cs start tick (n - 1))), .fro (encR late), .fro (encR more), .fro (encR (fore n cs start tick (n - 1))), j10, j11, .fro (.int goal), .un, .un, .un, .un, .un, .un, .un, .un, .un, .un, .un, .un, .un, .un, .un] = some (.nx [.fro (.scr ns), .fro (.lst (dr.map .int)), .fro (.int n), .fro (.lst (cs.map encC)), .fro (.int start), .fro (.int tick), .fro (encR (fore n cs start tick (n - 1))), .fro (encR late), .fro (encR more), .fro (encR (fore n cs start tick (n - 1))), j10, i11, .fro (.int goal), .un, .un, .un, .un, .un, .un, .un, .un, .un, .un, .un, .un, .un, .un, .un]) := by
  have ht : tick ≤ 20000 := by have := X.h1; omega
  have e1 := fore_at (n := n) (start := start) (cs := cs) (t := tick) (k := n - 1) hg
  cases hq : (fore n cs start tick (n - 1)).getD goal none with
  | none =>
    rw [hq] at e1
    have hj := m_journey_none X.hn X.h16 X.hc X.hl X.hs hg X.h0 ht hq
    refine ⟨.fro .non, ?_⟩
    generalize fore n cs start tick (n - 1) = told at e1 ⊢
    unfold encR
    simp [law_b2, hj, e1]
  | some τ =>
    rw [hq] at e1
    obtain ⟨J, hj, hk, h1, h2, h3⟩ := m_journey_some X.hn X.h16 X.hc X.hl X.hs hg X.h0 ht hq
    have hk' := m_kept hk
    have hw := m_within_eq (k := J.length) X.hn X.h16 X.hc X.hl X.hs X.h0 ht (by have := X.h16; omega)
    rw [show min J.length (n - 1) = J.length by omega] at hw
    have e2 := fore_at (n := n) (start := start) (cs := cs) (t := tick) (k := J.length) hg
    rw [h2] at e2
    refine ⟨.fro (.lst (J.map encJ)), ?_⟩
    have hJ := j_nil J
    by_cases h : J = []
    · rw [decide_eq_true h] at hJ
      generalize fore n cs start tick (n - 1) = told at e1 ⊢
      generalize fore n cs start tick J.length = r2 at e2 hw ⊢
      unfold encR at hw ⊢
      simp [law_b2, hj, e1, e2, hk', hw, hJ]
    · rw [decide_eq_false h] at hJ
      rcases List.eq_nil_or_concat J with rfl | ⟨J', ⟨i, l⟩, hJe⟩
      · exact absurd rfl h
      · rw [List.concat_eq_append] at hJe
        have hl : 0 < J.length := by rw [hJe]; simp
        rw [hJe] at hk
        obtain ⟨c, h4, h5⟩ := hk.last
        have hlast : atI (J.map encJ) (-1) = some (.tup [.int i, .int l]) := by
          rw [atI_back (by simpa using h), hJe, List.map_append]
          show List.getLast? (_ ++ [encJ (i, l)]) = _
          rw [List.getLast?_concat]
          rfl
        have hat : atI (cs.map encC) (i : Int) = some (D.tup [.int c.one, .int c.two, .int c.fst, .int c.lst, .int c.dly]) := by rw [atI_n, List.getElem?_map, h4]; rfl
        have hw2 := m_within_eq (k := J.length - 1) X.hn X.h16 X.hc X.hl X.hs X.h0 ht (by have := X.h16; omega)
        rw [show min (J.length - 1) (n - 1) = J.length - 1 by omega, show ((J.length - 1 : Nat) : Int) = (J.length : Int) - 1 by omega] at hw2
        have e3 := fore_at (n := n) (start := start) (cs := cs) (t := tick) (k := J.length - 1) hg
        have hne := h3 (J.length - 1) (by omega)
        have hq3 : oEq (encO ((fore n cs start tick (J.length - 1)).getD goal none)) (.int τ) = some (.bl false) := by
          have := EE.opt.oEq (by decide) ((fore n cs start tick (J.length - 1)).getD goal none) (some τ)
          rw [decide_eq_false hne] at this
          exact this
        generalize (fore n cs start tick (J.length - 1)).getD goal none = y at e3 hq3
        generalize fore n cs start tick (n - 1) = told at e1 ⊢
        generalize fore n cs start tick (J.length - 1) = r3 at e3 hw2 ⊢
        generalize fore n cs start tick J.length = r2 at e2 hw ⊢
        unfold encR at hw hw2 ⊢
        simp [law_b2, hj, e1, e2, hk', hw, hJ, hlast, hat, h5, hw2, e3, hq3]

theorem ls13 {late more : Row} {j10 j11 : L} (X : Cx n cs start tick) : ∃ i11 i12 : L, law_s13 [.fro (.scr ns), .fro (.lst (dr.map .int)), .fro (.int n), .fro (.lst (cs.map encC)), .fro (.int start), .fro (.int tick), .fro (encR (fore n cs start tick (n - 1))), .fro (encR late), .fro (encR more), .fro (encR (fore n cs start tick (n - 1))), j10, j11, .un, .un, .un, .un, .un, .un, .un, .un, .un, .un, .un, .un, .un, .un, .un, .un] = some (.nx [.fro (.scr ns), .fro (.lst (dr.map .int)), .fro (.int n), .fro (.lst (cs.map encC)), .fro (.int start), .fro (.int tick), .fro (encR (fore n cs start tick (n - 1))), .fro (encR late), .fro (encR more), .fro (encR (fore n cs start tick (n - 1))), j10, i11, i12, .un, .un, .un, .un, .un, .un, .un, .un, .un, .un, .un, .un, .un, .un, .un]) := by
  obtain ⟨ev', h1, i11, i12, rfl⟩ := for_run0 (u := law_b2) (mm := mName 12) (enc := fun k : Nat => D.int (k : Int)) (xs := List.range n)
    (ev := [.fro (.scr ns), .fro (.lst (dr.map .int)), .fro (.int n), .fro (.lst (cs.map encC)), .fro (.int start), .fro (.int tick), .fro (encR (fore n cs start tick (n - 1))), .fro (encR late), .fro (encR more), .fro (encR (fore n cs start tick (n - 1))), j10, j11, .un, .un, .un, .un, .un, .un, .un, .un, .un, .un, .un, .un, .un, .un, .un, .un])
    (fun pre ev => ∃ i11 i12 : L, ev = [.fro (.scr ns), .fro (.lst (dr.map .int)), .fro (.int n), .fro (.lst (cs.map encC)), .fro (.int start), .fro (.int tick), .fro (encR (fore n cs start tick (n - 1))), .fro (encR late), .fro (encR more), .fro (encR (fore n cs start tick (n - 1))), j10, i11, i12, .un, .un, .un, .un, .un, .un, .un, .un, .un, .un, .un, .un, .un, .un, .un])
    ⟨_, _, rfl⟩ (by
      intro pre a post ev he hR
      obtain ⟨i11, i12, rfl⟩ := hR
      obtain ⟨rfl, hlt⟩ := range_at he
      obtain ⟨k11, h⟩ := b2_turn (ns := ns) (dr := dr) (late := late) (more := more) (j10 := j10) (j11 := i11) X hlt
      exact ⟨_, _, rfl, .inl h, _, _, rfl⟩)
  refine ⟨i11, i12, ?_⟩
  have := rng X.h16
  simp [law_s13, this, rangeD_n, h1]

theorem ls14 {late more : Row} {j10 j11 j12 : L} (X : Cx n cs start tick) : ∃ (goal : Nat) (ende : Int), goal < n ∧ 0 ≤ ende ∧ ende ≤ 12000 ∧ law_s14 [.fro (.scr ns), .fro (.lst (dr.map .int)), .fro (.int n), .fro (.lst (cs.map encC)), .fro (.int start), .fro (.int tick), .fro (encR (fore n cs start tick (n - 1))), .fro (encR late), .fro (encR more), .fro (encR (fore n cs start tick (n - 1))), j10, j11, j12, .un, .un, .un, .un, .un, .un, .un, .un, .un, .un, .un, .un, .un, .un, .un] = some (.nx [.fro (.scr ns), .fro (.lst (dr.map .int)), .fro (.int n), .fro (.lst (cs.map encC)), .fro (.int start), .fro (.int tick), .fro (encR (fore n cs start tick (n - 1))), .fro (encR late), .fro (encR more), .fro (encR (fore n cs start tick (n - 1))), j10, j11, .fro (.int goal), .fro (.int ende), .un, .un, .un, .un, .un, .un, .un, .un, .un, .un, .un, .un, .un, .un]) := by
  have hn0 : (0 : Int) < n := by have := X.hn; omega
  have a0 := mix_nonneg (dr := dr) (k := 6) hn0
  have a1 := mix_lt (dr := dr) (k := 6) hn0
  have m1 := mix_eq (dr := dr) (k := 6) hn0
  generalize mix dr 6 n = goal at a0 a1 m1
  obtain ⟨goal, rfl⟩ := Int.eq_ofNat_of_zero_le a0
  have b0 := mix_nonneg (dr := dr) (k := 7) (many := 60) (by decide)
  have b1 := mix_lt (dr := dr) (k := 7) (many := 60) (by decide)
  have m2 := mix_eq (dr := dr) (k := 7) (many := 60) (by decide)
  generalize mix dr 7 60 = o1 at b0 b1 m2
  have c0 := mix_nonneg (dr := dr) (k := 7) (many := 12000) (by decide)
  have c1 := mix_lt (dr := dr) (k := 7) (many := 12000) (by decide)
  have m3 := mix_eq (dr := dr) (k := 7) (many := 12000) (by decide)
  generalize mix dr 7 12000 = o2 at c0 c1 m3
  have w0 := mix_nonneg (dr := dr) (k := 8) (many := 2) (by decide)
  have w1 := mix_lt (dr := dr) (k := 8) (many := 2) (by decide)
  have m4 := mix_eq (dr := dr) (k := 8) (many := 2) (by decide)
  generalize mix dr 8 2 = w at w0 w1 m4
  obtain ⟨ende, he, e0, e1⟩ : ∃ ende : Int, atI [D.int o1, D.int o2] w = some (D.int ende) ∧ 0 ≤ ende ∧ ende ≤ 12000 := by
    rcases two w0 w1 with rfl | rfl
    · exact ⟨o1, rfl, by omega, by omega⟩
    · exact ⟨o2, rfl, by omega, by omega⟩
  refine ⟨goal, ende, by omega, e0, e1, ?_⟩
  have m1' : m__law_mix [.lst (dr.map .int), .int 6, .int (n : Int)] = some (.int (goal : Int)) := m1
  generalize fore n cs start tick (n - 1) = told
  simp [law_s14, m1', m2, m3, m4, he]

theorem latK_bd {goal : Nat} {e : Int} (hc : ∀ c ∈ cs, Good n c) (he : 0 ≤ e) : ∀ (k r : Nat) (x : Int), (latK cs (row0 n goal e) k).getD r none = some x → 0 ≤ x ∧ x ≤ e
  | 0, r, x, h => by
    obtain ⟨_, h2⟩ := row0_inv h
    omega
  | k + 1, r, x, h => by
    rcases foldL_src (by rw [latK_len, row0_len]) hc r x h with h | ⟨c, h1, rfl, y, h2, h3, rfl⟩
    · exact latK_bd hc he k r x h
    · obtain ⟨h4, h5⟩ := latK_bd hc he k c.two y h2
      have f0 := (hc c h1).f0
      have f1 := (hc c h1).fl
      have f2 := (hc c h1).d1
      omega
theorem lat_len {goal : Nat} {e : Int} {k : Nat} : (latK cs (row0 n goal e) k).length = n := by rw [latK_len, row0_len]

/-- what came first and what is left: the same at every tick -/
theorem b3_turn {late more last : Row} {goal r : Nat} {ende now : Int} {ts : List Int} {j10 j11 k18 : L} (X : Cx n cs start tick) (hg : goal < n) (hr : r < n) (hlast : last = latK cs (row0 n goal ende) (n - 1)) (h0 : 0 ≤ now) (h1 : now ≤ 20000) :
    ∃ i18 : L, law_b3 [.fro (.scr ns), .fro (.lst (dr.map .int)), .fro (.int n), .fro (.lst (cs.map encC)), .fro (.int start), .fro (.int tick), .fro (encR (fore n cs start tick (n - 1))), .fro (encR late), .fro (encR more), .fro (encR (fore n cs start tick (n - 1))), j10, j11, .fro (.int goal), .fro (.int ende), .fro (encR last), .fro (.int r), .fro (.lst (ts.map .int)), .fro (.int now), k18, .un, .un, .un, .un, .un, .un, .un, .un, .un] = some (.nx [.fro (.scr ns), .fro (.lst (dr.map .int)), .fro (.int n), .fro (.lst (cs.map encC)), .fro (.int start), .fro (.int tick), .fro (encR (fore n cs start tick (n - 1))), .fro (encR late), .fro (encR more), .fro (encR (fore n cs start tick (n - 1))), j10, j11, .fro (.int goal), .fro (.int ende), .fro (encR last), .fro (.int r), .fro (.lst (ts.map .int)), .fro (.int now), i18, .un, .un, .un, .un, .un, .un, .un, .un, .un]) := by
  have hf := m_foremost_eq (start := r) (t := now) X.hn X.h16 X.hc X.hl hr h0 h1
  have e1 := fore_at (n := n) (start := r) (cs := cs) (t := now) (k := n - 1) hg
  have e2 : atI (last.map encO) (r : Int) = some (encO (last.getD r none)) := atR (by rw [hlast, lat_len]; exact hr)
  have hfl := fore_lat (k := n - 1) (now := now) (e := ende) X.hc hr hg
  rw [← hlast] at hfl
  generalize (fore n cs r now (n - 1)).getD goal none = a at e1 hfl
  generalize fore n cs r now (n - 1) = ra at e1 hf
  generalize last.getD r none = b at e2 hfl
  refine ⟨.fro (encO a), ?_⟩
  generalize fore n cs start tick (n - 1) = told
  unfold encR at hf ⊢
  cases a with
  | none =>
    cases b with
    | none => simp [law_b3, hf, e1, e2]
    | some b =>
      have hb : ¬ now ≤ b := fun h => by
        obtain ⟨t, h2, _⟩ := hfl.mpr ⟨b, rfl, h⟩
        cases h2
      simp [law_b3, hf, e1, e2, hb]
  | some a =>
    cases b with
    | none =>
      have ha : ¬ a ≤ ende := fun h => by
        obtain ⟨t, h2, _⟩ := hfl.mp ⟨a, rfl, h⟩
        cases h2
      simp [law_b3, hf, e1, e2, ha]
    | some b =>
      by_cases ha : a ≤ ende
      · obtain ⟨t, h2, hb⟩ := hfl.mp ⟨a, rfl, ha⟩
        cases h2
        simp [law_b3, hf, e1, e2, ha, hb]
      · have hb : ¬ now ≤ b := fun h => by
          obtain ⟨t, h2, h3⟩ := hfl.mpr ⟨b, rfl, h⟩
          cases h2
          exact ha h3
        simp [law_b3, hf, e1, e2, ha, hb]

theorem tries_ok {late more last : Row} {goal r : Nat} {ende : Int} {j10 j11 k16 k17 k18 : L} (X : Cx n cs start tick) (hr : r < n) (he0 : 0 ≤ ende) (he1 : ende ≤ 12000) (hlast : last = latK cs (row0 n goal ende) (n - 1)) :
    ∃ ts : List Int, (∀ t ∈ ts, 0 ≤ t ∧ t ≤ 20000) ∧ (sSetL 16 (lF (cLst (kCat (cLst (kList (aCons (cC (.int 0)) (aCons (cVar 13) (aCons (cCB m__law_mix (aCons (cVar 1) (aCons (c2 oAdd (cC (.int 700)) (cVar 15)) (aCons (cC (.int 12000)) aNil)))) aNil))))) (cLst (kComp (iLst (cLst (kList (aCons (c2 oIx (cVar 14) (cVar 15)) (aCons (c2 oAdd (cOr (c2 oIx (cVar 14) (cVar 15)) (cC (.int 0))) (cC (.int 1))) aNil))))) (mName 10) law_q4 law_e4 [10]))))))
      [.fro (.scr ns), .fro (.lst (dr.map .int)), .fro (.int n), .fro (.lst (cs.map encC)), .fro (.int start), .fro (.int tick), .fro (encR (fore n cs start tick (n - 1))), .fro (encR late), .fro (encR more), .fro (encR (fore n cs start tick (n - 1))), j10, j11, .fro (.int goal), .fro (.int ende), .fro (encR last), .fro (.int r), k16, k17, k18, .un, .un, .un, .un, .un, .un, .un, .un, .un] = some (.nx [.fro (.scr ns), .fro (.lst (dr.map .int)), .fro (.int n), .fro (.lst (cs.map encC)), .fro (.int start), .fro (.int tick), .fro (encR (fore n cs start tick (n - 1))), .fro (encR late), .fro (encR more), .fro (encR (fore n cs start tick (n - 1))), j10, j11, .fro (.int goal), .fro (.int ende), .fro (encR last), .fro (.int r), .fro (.lst (ts.map .int)), k17, k18, .un, .un, .un, .un, .un, .un, .un, .un, .un]) := by
  have e2 : atI (last.map encO) (r : Int) = some (encO (last.getD r none)) := atR (by rw [hlast, lat_len]; exact hr)
  have hbd := latK_bd (goal := goal) (e := ende) X.hc he0 (n - 1) r
  rw [← hlast] at hbd
  have m0 := mix_nonneg (dr := dr) (k := 700 + (r : Int)) (many := 12000) (by decide)
  have m1 := mix_lt (dr := dr) (k := 700 + (r : Int)) (many := 12000) (by decide)
  have m2 := mix_eq (dr := dr) (k := 700 + (r : Int)) (many := 12000) (by decide)
  generalize mix dr (700 + (r : Int)) 12000 = w at m0 m1 m2
  generalize last.getD r none = b at e2 hbd
  generalize fore n cs start tick (n - 1) = told
  cases b with
  | none =>
    refine ⟨[0, ende, w, 1], ?_, ?_⟩
    · intro t ht
      simp at ht
      omega
    · have hk : kComp (iLst (cLst (kList (aCons (c2 oIx (cVar 14) (cVar 15)) (aCons (c2 oAdd (cOr (c2 oIx (cVar 14) (cVar 15)) (cC (.int 0))) (cC (.int 1))) aNil))))) (mName 10) law_q4 law_e4 [10]
          [.fro (.scr ns), .fro (.lst (dr.map .int)), .fro (.int n), .fro (.lst (cs.map encC)), .fro (.int start), .fro (.int tick), .fro (encR told), .fro (encR late), .fro (encR more), .fro (encR told), j10, j11, .fro (.int goal), .fro (.int ende), .fro (encR last), .fro (.int r), k16, k17, k18, .un, .un, .un, .un, .un, .un, .un, .un, .un] = some [.int 1] := by
        rw [comp_filter (enc := encO) (r := encO) (P := Option.isSome) (xs := [none, some 1])]
        · rfl
        · unfold encR
          simp [e2]
        · decide
        · intro x _
          cases x with
          | none => simp [law_q4, law_e4]
          | some x => simp [law_q4, law_e4]
      unfold encR at hk ⊢
      simp [e2, m2, hk]
  | some b =>
    obtain ⟨b0, b1⟩ := hbd b rfl
    refine ⟨[0, ende, w, b, b + 1], ?_, ?_⟩
    · intro t ht
      simp at ht
      omega
    · have hk : kComp (iLst (cLst (kList (aCons (c2 oIx (cVar 14) (cVar 15)) (aCons (c2 oAdd (cOr (c2 oIx (cVar 14) (cVar 15)) (cC (.int 0))) (cC (.int 1))) aNil))))) (mName 10) law_q4 law_e4 [10]
          [.fro (.scr ns), .fro (.lst (dr.map .int)), .fro (.int n), .fro (.lst (cs.map encC)), .fro (.int start), .fro (.int tick), .fro (encR told), .fro (encR late), .fro (encR more), .fro (encR told), j10, j11, .fro (.int goal), .fro (.int ende), .fro (encR last), .fro (.int r), k16, k17, k18, .un, .un, .un, .un, .un, .un, .un, .un, .un] = some [.int b, .int (b + 1)] := by
        rw [comp_filter (enc := encO) (r := encO) (P := Option.isSome) (xs := [some b, some (b + 1)])]
        · rfl
        · unfold encR
          by_cases hb : b = 0
          · subst hb
            simp [e2]
          · have hb' : (b != 0) = true := bne_iff_ne.mpr hb
            simp [e2, hb']
        · exact (show 2 ≤ 16777216 by decide)
        · intro x _
          cases x with
          | none => simp [law_q4, law_e4]
          | some x => simp [law_q4, law_e4]
      unfold encR at hk ⊢
      simp [e2, m2, hk]

theorem b4_turn {late more last : Row} {goal r : Nat} {ende : Int} {j10 j11 k16 k17 k18 : L} (X : Cx n cs start tick) (hg : goal < n) (hr : r < n) (he0 : 0 ≤ ende) (he1 : ende ≤ 12000) (hlast : last = latK cs (row0 n goal ende) (n - 1)) :
    ∃ i16 i17 i18 : L, law_b4 [.fro (.scr ns), .fro (.lst (dr.map .int)), .fro (.int n), .fro (.lst (cs.map encC)), .fro (.int start), .fro (.int tick), .fro (encR (fore n cs start tick (n - 1))), .fro (encR late), .fro (encR more), .fro (encR (fore n cs start tick (n - 1))), j10, j11, .fro (.int goal), .fro (.int ende), .fro (encR last), .fro (.int r), k16, k17, k18, .un, .un, .un, .un, .un, .un, .un, .un, .un] = some (.nx [.fro (.scr ns), .fro (.lst (dr.map .int)), .fro (.int n), .fro (.lst (cs.map encC)), .fro (.int start), .fro (.int tick), .fro (encR (fore n cs start tick (n - 1))), .fro (encR late), .fro (encR more), .fro (encR (fore n cs start tick (n - 1))), j10, j11, .fro (.int goal), .fro (.int ende), .fro (encR last), .fro (.int r), i16, i17, i18, .un, .un, .un, .un, .un, .un, .un, .un, .un]) := by
  obtain ⟨ts, hts, h1⟩ := tries_ok (ns := ns) (dr := dr) (late := late) (more := more) (j10 := j10) (j11 := j11) (k16 := k16) (k17 := k17) (k18 := k18) X hr he0 he1 hlast
  obtain ⟨ev', h2, i17, i18, rfl⟩ := for_run0 (u := law_b3) (mm := mName 17) (enc := D.int) (xs := ts)
    (ev := [.fro (.scr ns), .fro (.lst (dr.map .int)), .fro (.int n), .fro (.lst (cs.map encC)), .fro (.int start), .fro (.int tick), .fro (encR (fore n cs start tick (n - 1))), .fro (encR late), .fro (encR more), .fro (encR (fore n cs start tick (n - 1))), j10, j11, .fro (.int goal), .fro (.int ende), .fro (encR last), .fro (.int r), .fro (.lst (ts.map .int)), k17, k18, .un, .un, .un, .un, .un, .un, .un, .un, .un])
    (fun pre ev => ∃ i17 i18 : L, ev = [.fro (.scr ns), .fro (.lst (dr.map .int)), .fro (.int n), .fro (.lst (cs.map encC)), .fro (.int start), .fro (.int tick), .fro (encR (fore n cs start tick (n - 1))), .fro (encR late), .fro (encR more), .fro (encR (fore n cs start tick (n - 1))), j10, j11, .fro (.int goal), .fro (.int ende), .fro (encR last), .fro (.int r), .fro (.lst (ts.map .int)), i17, i18, .un, .un, .un, .un, .un, .un, .un, .un, .un])
    ⟨_, _, rfl⟩ (by
      intro pre a post ev he hR
      obtain ⟨i17, i18, rfl⟩ := hR
      obtain ⟨q0, q1⟩ := hts a (by rw [← he]; simp)
      obtain ⟨l18, h⟩ := b3_turn (ns := ns) (dr := dr) (late := late) (more := more) (j10 := j10) (j11 := j11) (ts := ts) (k18 := i18) (now := a) X hg hr hlast q0 q1
      exact ⟨_, _, rfl, .inl h, _, _, rfl⟩)
  refine ⟨.fro (.lst (ts.map .int)), i17, i18, ?_⟩
  unfold law_b4
  rw [seq_nx h1]
  simp [h2]

theorem ls16 {late more last : Row} {goal : Nat} {ende : Int} {j10 j11 : L} (X : Cx n cs start tick) (hg : goal < n) (he0 : 0 ≤ ende) (he1 : ende ≤ 12000) (hlast : last = latK cs (row0 n goal ende) (n - 1)) :
    ∃ k15 k16 k17 k18 : L, law_s16 [.fro (.scr ns), .fro (.lst (dr.map .int)), .fro (.int n), .fro (.lst (cs.map encC)), .fro (.int start), .fro (.int tick), .fro (encR (fore n cs start tick (n - 1))), .fro (encR late), .fro (encR more), .fro (encR (fore n cs start tick (n - 1))), j10, j11, .fro (.int goal), .fro (.int ende), .fro (encR last), .un, .un, .un, .un, .un, .un, .un, .un, .un, .un, .un, .un, .un] = some (.nx [.fro (.scr ns), .fro (.lst (dr.map .int)), .fro (.int n), .fro (.lst (cs.map encC)), .fro (.int start), .fro (.int tick), .fro (encR (fore n cs start tick (n - 1))), .fro (encR late), .fro (encR more), .fro (encR (fore n cs start tick (n - 1))), j10, j11, .fro (.int goal), .fro (.int ende), .fro (encR last), k15, k16, k17, k18, .un, .un, .un, .un, .un, .un, .un, .un, .un]) := by
  obtain ⟨ev', h2, k15, k16, k17, k18, rfl⟩ := for_run0 (u := law_b4) (mm := mName 15) (enc := fun k : Nat => D.int (k : Int)) (xs := List.range n)
    (ev := [.fro (.scr ns), .fro (.lst (dr.map .int)), .fro (.int n), .fro (.lst (cs.map encC)), .fro (.int start), .fro (.int tick), .fro (encR (fore n cs start tick (n - 1))), .fro (encR late), .fro (encR more), .fro (encR (fore n cs start tick (n - 1))), j10, j11, .fro (.int goal), .fro (.int ende), .fro (encR last), .un, .un, .un, .un, .un, .un, .un, .un, .un, .un, .un, .un, .un])
    (fun pre ev => ∃ k15 k16 k17 k18 : L, ev = [.fro (.scr ns), .fro (.lst (dr.map .int)), .fro (.int n), .fro (.lst (cs.map encC)), .fro (.int start), .fro (.int tick), .fro (encR (fore n cs start tick (n - 1))), .fro (encR late), .fro (encR more), .fro (encR (fore n cs start tick (n - 1))), j10, j11, .fro (.int goal), .fro (.int ende), .fro (encR last), k15, k16, k17, k18, .un, .un, .un, .un, .un, .un, .un, .un, .un])
    ⟨_, _, _, _, rfl⟩ (by
      intro pre a post ev he hR
      obtain ⟨k15, k16, k17, k18, rfl⟩ := hR
      obtain ⟨rfl, hlt⟩ := range_at he
      obtain ⟨i16, i17, i18, h⟩ := b4_turn (ns := ns) (dr := dr) (late := late) (more := more) (j10 := j10) (j11 := j11) (k16 := k16) (k17 := k17) (k18 := k18) X hg hlt he0 he1 hlast
      exact ⟨_, _, rfl, .inl h, _, _, _, _, rfl⟩)
  refine ⟨k15, k16, k17, k18, ?_⟩
  have := rng X.h16
  simp [law_s16, this, rangeD_n, h2]

end
end K65


set_option maxRecDepth 100000
set_option maxHeartbeats 8000000
namespace K65
open PySem PySem.Spec PyProof.Rows L2 Z
theorem EE.ct : EE 1 encC := by
  refine ⟨fun _ => rfl, fun _ => Nat.le_refl _, fun a b => ?_⟩
  show ((a.one : Int) == (b.one : Int) && ((a.two : Int) == (b.two : Int) && (a.fst == b.fst && (a.lst == b.lst && (a.dly == b.dly && true))))) = decide (a = b)
  cases a
  cases b
  rw [Bool.eq_iff_iff]
  simp
  omega
theorem c_nil (xs : List Ct) : oEq (.lst (xs.map encC)) (.lst []) = some (.bl (decide (xs = []))) := EE.ct.list.oEq (by decide) xs []
section
variable {ns dr : List Int} {n start : Nat} {cs : List Ct} {tick : Int}
theorem ls15 {late more : Row} {goal : Nat} {ende : Int} {j10 j11 : L} (X : Cx n cs start tick) (hg : goal < n) (he0 : 0 ≤ ende) (he1 : ende ≤ 12000) : law_s15 [.fro (.scr ns), .fro (.lst (dr.map .int)), .fro (.int n), .fro (.lst (cs.map encC)), .fro (.int start), .fro (.int tick), .fro (encR (fore n cs start tick (n - 1))), .fro (encR late), .fro (encR more), .fro (encR (fore n cs start tick (n - 1))), j10, j11, .fro (.int goal), .fro (.int ende), .un, .un, .un, .un, .un, .un, .un, .un, .un, .un, .un, .un, .un, .un] = some (.nx [.fro (.scr ns), .fro (.lst (dr.map .int)), .fro (.int n), .fro (.lst (cs.map encC)), .fro (.int start), .fro (.int tick), .fro (encR (fore n cs start tick (n - 1))), .fro (encR late), .fro (encR more), .fro (encR (fore n cs start tick (n - 1))), j10, j11, .fro (.int goal), .fro (.int ende), .fro (encR (latK cs (row0 n goal ende) (n - 1))), .un, .un, .un, .un, .un, .un, .un, .un, .un, .un, .un, .un, .un]) := by
  have h := m_latest_eq X.hn X.h16 X.hc X.hl hg he0 (by omega)
  generalize fore n cs start tick (n - 1) = told
  generalize latK cs (row0 n goal ende) (n - 1) = last at h ⊢
  simp [law_s15, h]

theorem ls17 {late more last : Row} {goal : Nat} {ende : Int} {j10 j11 k15 k16 k17 k18 : L} (X : Cx n cs start tick) : law_s17 [.fro (.scr ns), .fro (.lst (dr.map .int)), .fro (.int n), .fro (.lst (cs.map encC)), .fro (.int start), .fro (.int tick), .fro (encR (fore n cs start tick (n - 1))), .fro (encR late), .fro (encR more), .fro (encR (fore n cs start tick (n - 1))), j10, j11, .fro (.int goal), .fro (.int ende), .fro (encR last), k15, k16, k17, k18, .un, .un, .un, .un, .un, .un, .un, .un, .un] = some (.nx [.fro (.scr ns), .fro (.lst (dr.map .int)), .fro (.int n), .fro (.lst (cs.map encC)), .fro (.int start), .fro (.int tick), .fro (encR (fore n cs start tick (n - 1))), .fro (encR late), .fro (encR more), .fro (encR (fore n cs start tick (n - 1))), j10, j11, .fro (.int goal), .fro (.int ende), .fro (encR last), k15, k16, k17, k18, .fro (.lst ((cs.map flipC).map encC)), .un, .un, .un, .un, .un, .un, .un, .un]) := by
  have hk : kComp (iLst (cVar 3)) (mTup (mCons (mName 23) (mCons (mName 24) (mCons (mName 25) (mCons (mName 26) (mCons (mName 27) mNil)))))) (fun _ => some true) law_e5 [23, 24, 25, 26, 27]
      [.fro (.scr ns), .fro (.lst (dr.map .int)), .fro (.int n), .fro (.lst (cs.map encC)), .fro (.int start), .fro (.int tick), .fro (encR (fore n cs start tick (n - 1))), .fro (encR late), .fro (encR more), .fro (encR (fore n cs start tick (n - 1))), j10, j11, .fro (.int goal), .fro (.int ende), .fro (encR last), k15, k16, k17, k18, .un, .un, .un, .un, .un, .un, .un, .un, .un] = some (cs.map fun c => encC (flipC c)) := by
    rw [comp_map (enc := encC) (r := fun c => encC (flipC c)) (xs := cs)]
    · simp
    · have := X.hl
      omega
    · intro c _
      simp [law_e5, encC, flipC]
  generalize fore n cs start tick (n - 1) = told at hk ⊢
  rw [List.map_map]
  simp [law_s17, hk]

theorem ls18 {late more last : Row} {goal : Nat} {ende : Int} {j10 j11 k15 k16 k17 k18 : L} (X : Cx n cs start tick) (hg : goal < n) (he0 : 0 ≤ ende) (he1 : ende ≤ 12000) (hlast : last = latK cs (row0 n goal ende) (n - 1)) :
    ∃ k20 : L, law_s18 [.fro (.scr ns), .fro (.lst (dr.map .int)), .fro (.int n), .fro (.lst (cs.map encC)), .fro (.int start), .fro (.int tick), .fro (encR (fore n cs start tick (n - 1))), .fro (encR late), .fro (encR more), .fro (encR (fore n cs start tick (n - 1))), j10, j11, .fro (.int goal), .fro (.int ende), .fro (encR last), k15, k16, k17, k18, .fro (.lst ((cs.map flipC).map encC)), .un, .un, .un, .un, .un, .un, .un, .un] = some (.nx [.fro (.scr ns), .fro (.lst (dr.map .int)), .fro (.int n), .fro (.lst (cs.map encC)), .fro (.int start), .fro (.int tick), .fro (encR (fore n cs start tick (n - 1))), .fro (encR late), .fro (encR more), .fro (encR (fore n cs start tick (n - 1))), j10, j11, .fro (.int goal), .fro (.int ende), .fro (encR last), k15, k16, k17, k18, .fro (.lst ((cs.map flipC).map encC)), k20, .un, .un, .un, .un, .un, .un, .un]) := by
  have hk : kComp (iLst (cVar 19)) (mName 23) law_q5 law_e6 [23] [.fro (.scr ns), .fro (.lst (dr.map .int)), .fro (.int n), .fro (.lst (cs.map encC)), .fro (.int start), .fro (.int tick), .fro (encR (fore n cs start tick (n - 1))), .fro (encR late), .fro (encR more), .fro (encR (fore n cs start tick (n - 1))), j10, j11, .fro (.int goal), .fro (.int ende), .fro (encR last), k15, k16, k17, k18, .fro (.lst ((cs.map flipC).map encC)), .un, .un, .un, .un, .un, .un, .un, .un] = some (((cs.map flipC).filter fun c => decide (10000 < c.lst)).map encC) := by
    rw [comp_filter (enc := encC) (r := encC) (P := fun c => decide (10000 < c.lst)) (xs := cs.map flipC)]
    · simp
    · rw [List.length_map]
      have := X.hl
      omega
    · intro c _
      by_cases h : 10000 < c.lst
      · simp [law_q5, law_e6, encC, h]
      · simp [law_q5, law_e6, encC, h]
  have hq := c_nil ((cs.map flipC).filter fun c => decide (10000 < c.lst))
  by_cases hnil : ((cs.map flipC).filter fun c => decide (10000 < c.lst)) = []
  · rw [decide_eq_true hnil] at hq
    by_cases he : ende ≤ 11000
    · have hgood : ∀ c ∈ cs.map flipC, Good n c := by
        intro c hc
        obtain ⟨c', hc', rfl⟩ := List.mem_map.mp hc
        refine flipC_good (X.hc c' hc') ?_
        have := List.filter_eq_nil_iff.mp hnil _ hc
        have h3 : ¬ 10000 < (flipC c').lst := by simpa using this
        have h4 : (flipC c').lst = 11000 - c'.fst - c'.dly := rfl
        omega
      have hf := m_foremost_eq (start := goal) (t := 11000 - ende) X.hn X.h16 hgood (by rw [List.length_map]; exact X.hl) hg (by omega) (by omega)
      have hfl : fore n (cs.map flipC) goal (11000 - ende) (n - 1) = last.map (flipO 11000) := by
        rw [hlast]
        exact flip_latK (n - 1)
      rw [hfl] at hf
      have hln : last.length = n := by rw [hlast, lat_len]
      have hk2 : kComp (iR1 (aCons (cVar 2) aNil)) (mName 22) law_q6 law_e7 [22] [.fro (.scr ns), .fro (.lst (dr.map .int)), .fro (.int n), .fro (.lst (cs.map encC)), .fro (.int start), .fro (.int tick), .fro (encR (fore n cs start tick (n - 1))), .fro (encR late), .fro (encR more), .fro (encR (fore n cs start tick (n - 1))), j10, j11, .fro (.int goal), .fro (.int ende), .fro (encR last), k15, k16, k17, k18, .fro (.lst ((cs.map flipC).map encC)), .fro (encR (last.map (flipO 11000))), .un, .un, .un, .un, .un, .un, .un] = some [] := by
        refine comp_none (enc := fun x : Nat => D.int (x : Int)) (xs := List.range n) ?_ (by rw [List.length_range]; have := X.h16; omega) fun r hr => ?_
        · have := rng X.h16
          simp [this, rangeD_n]
        · have hr' := List.mem_range.mp hr
          have e1 := atR (r := last) (j := r) (by rw [hln]; exact hr')
          have e2 := atR (r := last.map (flipO 11000)) (j := r) (by rw [List.length_map, hln]; exact hr')
          rw [flip_getD] at e2
          generalize last.getD r none = x at e1 e2
          generalize hm : last.map (flipO 11000) = back at e2 ⊢
          generalize fore n cs start tick (n - 1) = told
          by_cases hrg : r = goal
          · have hrg' : oNe (.int (r : Int)) (.int (goal : Int)) = some (.bl false) := by rw [oNe_int, decide_eq_true (by omega)]; rfl
            unfold encR
            simp [-oNe_int, law_q6, law_e7, hrg']
          · have hrg' : oNe (.int (r : Int)) (.int (goal : Int)) = some (.bl true) := by rw [oNe_int, decide_eq_false (by omega)]; rfl
            unfold encR
            cases x with
            | none =>
              have e2' : atI (back.map encO) (r : Int) = some .non := e2
              have hnn : oNe .non .non = some (.bl false) := EE.opt.oNe (by decide) none none
              simp [-oNe_int, law_q6, law_e7, hrg', e1, e2', hnn]
            | some x =>
              have e2' : atI (back.map encO) (r : Int) = some (.int (11000 - x)) := e2
              have hxx : oNe (.int (11000 - x)) (.int (11000 - x)) = some (.bl false) := by rw [oNe_int, decide_eq_true rfl]; rfl
              by_cases hx : x = 0
              · subst hx
                simp [-oNe_int, law_q6, law_e7, hrg', e1, e2'] at hxx ⊢
                simp [hxx]
              · have hx' : (x != 0) = true := bne_iff_ne.mpr hx
                simp [-oNe_int, law_q6, law_e7, hrg', e1, e2', hx', hxx]
      refine ⟨.fro (encR (last.map (flipO 11000))), ?_⟩
      generalize hm : cs.map flipC = fc at hk hq hf hk2 ⊢
      generalize (fc.filter fun c => decide (10000 < c.lst)) = xs at hk hq
      generalize fore n cs start tick (n - 1) = told at hk hk2 ⊢
      generalize last.map (flipO 11000) = back at hf hk2 ⊢
      simp [law_s18, hk, hq, he, hf, hk2, ne_nil]
    · refine ⟨.un, ?_⟩
      generalize hm : cs.map flipC = fc at hk hq ⊢
      generalize (fc.filter fun c => decide (10000 < c.lst)) = xs at hk hq
      generalize fore n cs start tick (n - 1) = told at hk ⊢
      simp [law_s18, hk, hq, he]
  · rw [decide_eq_false hnil] at hq
    refine ⟨.un, ?_⟩
    generalize hm : cs.map flipC = fc at hk hq ⊢
    generalize (fc.filter fun c => decide (10000 < c.lst)) = xs at hk hq
    generalize fore n cs start tick (n - 1) = told at hk ⊢
    simp [law_s18, hk, hq]

end
end K65


set_option maxRecDepth 100000
set_option maxHeartbeats 8000000
namespace K65
open PySem PySem.Spec PyProof.Rows L2 Z
def known : List Ct := [⟨0, 1, 3, 4, 2⟩, ⟨1, 2, 5, 5, 1⟩, ⟨0, 2, 9, 9, 1⟩, ⟨1, 2, 0, 4, 1⟩]
theorem known_good : ∀ c ∈ known, Good 3 c := by
  intro c hc
  unfold known at hc
  simp only [List.mem_cons, List.not_mem_nil, or_false] at hc
  rcases hc with rfl | rfl | rfl | rfl <;> exact ⟨by decide, by decide, by decide, by decide, by decide, by decide, by decide, by decide⟩
theorem known_f1 : fore 3 known 0 1 2 = [some 1, some 5, some 6] := by decide +kernel
theorem known_f2 : fore 3 known 0 4 2 = [some 4, some 6, some 10] := by decide +kernel
theorem known_l : latK known (row0 3 2 10) 2 = [some 9, some 5, some 10] := by decide +kernel
theorem known_fr : m_foremost [.int 3, .lst (known.map encC), .int 0, .int 1] = some (.lst [.int 1, .int 5, .int 6]) := by
  have h := m_foremost_eq (n := 3) (start := 0) (cs := known) (t := 1) (by decide) (by decide) known_good (by decide) (by decide) (by decide) (by decide)
  rw [show 3 - 1 = 2 by decide, known_f1] at h
  exact h
theorem known_rp : bRepr [.lst [.int 1, .int 5, .int 6]] = some (.str "[1, 5, 6]") := by
  show reprD (.lst [.int 1, .int 5, .int 6]) = _
  unfold reprD
  simp only
  rw [if_pos (by refine ⟨?_, ?_, ?_, ?_⟩ <;> decide +kernel)]
  congr 2
theorem known_st : oEq (.str "[1, 5, 6]") (.str "[1, 5, 6]") = some (.bl true) := by
  unfold Z.oEq Z.eqD
  rw [if_pos (by refine ⟨?_, ?_⟩ <;> decide +kernel)]
  congr 2
theorem known_lt : m_latest [.int 3, .lst (known.map encC), .int 2, .int 10] = some (.lst [.int 9, .int 5, .int 10]) := by
  have h := m_latest_eq (n := 3) (goal := 2) (cs := known) (t := 10) (by decide) (by decide) known_good (by decide) (by decide) (by decide) (by decide)
  rw [show 3 - 1 = 2 by decide, known_l] at h
  exact h
theorem known_j1 : m_journey [.int 3, .lst (known.map encC), .int 0, .int 2, .int 1] = some (.lst [.tup [.int 0, .int 3], .tup [.int 1, .int 5]]) := by
  obtain ⟨J, h1, h2, h3, h4, h5⟩ := m_journey_some (n := 3) (start := 0) (goal := 2) (cs := known) (t := 1) (τ := 6) (by decide) (by decide) known_good (by decide) (by decide) (by decide) (by decide) (by decide)
    (by rw [show 3 - 1 = 2 by decide, known_f1]; rfl)
  have e0 : (fore 3 known 0 1 0).getD 2 none = none := by decide +kernel
  have e1 : (fore 3 known 0 1 1).getD 2 none = some 10 := by decide +kernel
  have hJ : J = [(0, 3), (1, 5)] := by
    match J, h2, h3, h4 with
    | [], _, _, h4 =>
      rw [show ([] : List (Nat × Int)).length = 0 from rfl, e0] at h4
      cases h4
    | [_], _, _, h4 =>
      rw [show ∀ x : Nat × Int, [x].length = 1 from fun _ => rfl, e1] at h4
      cases h4
    | (i, l) :: (j, m) :: [], ⟨c, g1, g2, g3, g4, d, g5, g6, g7, g8, g9, g10⟩, _, _ =>
      have hi : i < 4 := (List.getElem?_eq_some_iff.mp g1).1
      have hj : j < 4 := (List.getElem?_eq_some_iff.mp g5).1
      have hi' : i = 0 ∨ i = 1 ∨ i = 2 ∨ i = 3 := by omega
      have hj' : j = 0 ∨ j = 1 ∨ j = 2 ∨ j = 3 := by omega
      rcases hi' with rfl | rfl | rfl | rfl <;> rcases hj' with rfl | rfl | rfl | rfl <;> cases g1 <;> cases g5 <;> simp at g2 g3 g4 g6 g7 g8 g9 g10 ⊢ <;> omega
    | _ :: _ :: _ :: _, _, h3, _ =>
      simp at h3
      omega
  rw [hJ] at h1
  exact h1
theorem known_j2 : m_journey [.int 3, .lst (known.map encC), .int 0, .int 2, .int 4] = some (.lst [.tup [.int 2, .int 9]]) := by
  obtain ⟨J, h1, h2, h3, h4, h5⟩ := m_journey_some (n := 3) (start := 0) (goal := 2) (cs := known) (t := 4) (τ := 10) (by decide) (by decide) known_good (by decide) (by decide) (by decide) (by decide) (by decide)
    (by rw [show 3 - 1 = 2 by decide, known_f2]; rfl)
  have e0 : (fore 3 known 0 4 0).getD 2 none = none := by decide +kernel
  have e1 : (fore 3 known 0 4 1).getD 2 none = some 10 := by decide +kernel
  have hJ : J = [(2, 9)] := by
    match J, h2, h3, h4, h5 with
    | [], _, _, h4, _ =>
      rw [show ([] : List (Nat × Int)).length = 0 from rfl, e0] at h4
      cases h4
    | [(i, l)], ⟨c, g1, g2, g3, g4, g5, g6⟩, _, h4, _ =>
      have hi : i < 4 := (List.getElem?_eq_some_iff.mp g1).1
      have hi' : i = 0 ∨ i = 1 ∨ i = 2 ∨ i = 3 := by omega
      rcases hi' with rfl | rfl | rfl | rfl <;> cases g1 <;> simp at g2 g3 g4 g5 g6 ⊢ <;> omega
    | _ :: _ :: _, _, _, _, h5 =>
      exact absurd e1 (h5 1 (by simp))
  rw [hJ] at h1
  exact h1
section
variable {ns dr : List Int} {n start : Nat} {cs : List Ct} {tick : Int}

theorem ls19 {late more last : Row} {goal : Nat} {ende : Int} {j10 j11 k15 k16 k17 k18 k20 : L} : law_s19 [.fro (.scr ns), .fro (.lst (dr.map .int)), .fro (.int n), .fro (.lst (cs.map encC)), .fro (.int start), .fro (.int tick), .fro (encR (fore n cs start tick (n - 1))), .fro (encR late), .fro (encR more), .fro (encR (fore n cs start tick (n - 1))), j10, j11, .fro (.int goal), .fro (.int ende), .fro (encR last), k15, k16, k17, k18, .fro (.lst ((cs.map flipC).map encC)), k20, .un, .un, .un, .un, .un, .un, .un] = some (.nx [.fro (.scr ns), .fro (.lst (dr.map .int)), .fro (.int n), .fro (.lst (cs.map encC)), .fro (.int start), .fro (.int tick), .fro (encR (fore n cs start tick (n - 1))), .fro (encR late), .fro (encR more), .fro (encR (fore n cs start tick (n - 1))), j10, j11, .fro (.int goal), .fro (.int ende), .fro (encR last), k15, k16, k17, k18, .fro (.lst ((cs.map flipC).map encC)), k20, .fro (.lst (known.map encC)), .un, .un, .un, .un, .un, .un]) := by
  generalize cs.map flipC = fc
  generalize fore n cs start tick (n - 1) = told
  simp [law_s19, known, encC]

theorem ls20 {late more last : Row} {goal : Nat} {ende : Int} {j10 j11 k15 k16 k17 k18 k20 : L} : law_s20 [.fro (.scr ns), .fro (.lst (dr.map .int)), .fro (.int n), .fro (.lst (cs.map encC)), .fro (.int start), .fro (.int tick), .fro (encR (fore n cs start tick (n - 1))), .fro (encR late), .fro (encR more), .fro (encR (fore n cs start tick (n - 1))), j10, j11, .fro (.int goal), .fro (.int ende), .fro (encR last), k15, k16, k17, k18, .fro (.lst ((cs.map flipC).map encC)), k20, .fro (.lst (known.map encC)), .un, .un, .un, .un, .un, .un] = some (.rt (.bl true)) := by
  generalize cs.map flipC = fc
  generalize fore n cs start tick (n - 1) = told
  have h1 := known_fr
  have h2 := known_j1
  have h3 := known_lt
  have h4 := known_j2
  have q2 : oEq (.lst [.tup [.int 0, .int 3], .tup [.int 1, .int 5]]) (.lst [.tup [.int 0, .int 3], .tup [.int 1, .int 5]]) = some (.bl true) := j_eq [(0, 3), (1, 5)] [(0, 3), (1, 5)]
  have q3 : oEq (.lst [.int 9, .int 5, .int 10]) (.lst [.int 9, .int 5, .int 10]) = some (.bl true) := EE.int.list.oEq (by decide) [9, 5, 10] [9, 5, 10]
  have q4 : oEq (.lst [.tup [.int 2, .int 9]]) (.lst [.tup [.int 2, .int 9]]) = some (.bl true) := j_eq [(2, 9)] [(2, 9)]
  generalize known.map encC = kn at h1 h2 h3 h4 ⊢
  simp [law_s20, h1, h2, h3, h4, known_rp, known_st, q2, q3, q4]

theorem ls1 (h : m__law_draws [.scr ns] = some (.lst (dr.map .int))) : law_s1 [.fro (.scr ns), .un, .un, .un, .un, .un, .un, .un, .un, .un, .un, .un, .un, .un, .un, .un, .un, .un, .un, .un, .un, .un, .un, .un, .un, .un, .un, .un] = some (.nx [.fro (.scr ns), .fro (.lst (dr.map .int)), .un, .un, .un, .un, .un, .un, .un, .un, .un, .un, .un, .un, .un, .un, .un, .un, .un, .un, .un, .un, .un, .un, .un, .un, .un, .un]) := by
  simp [law_s1, h]
theorem ls2 : ∃ n : Nat, 1 ≤ n ∧ n ≤ 16 ∧ law_s2 [.fro (.scr ns), .fro (.lst (dr.map .int)), .un, .un, .un, .un, .un, .un, .un, .un, .un, .un, .un, .un, .un, .un, .un, .un, .un, .un, .un, .un, .un, .un, .un, .un, .un, .un] = some (.nx [.fro (.scr ns), .fro (.lst (dr.map .int)), .fro (.int n), .un, .un, .un, .un, .un, .un, .un, .un, .un, .un, .un, .un, .un, .un, .un, .un, .un, .un, .un, .un, .un, .un, .un, .un, .un]) := by
  have a0 := mix_nonneg (dr := dr) (k := 1) (many := 16) (by decide)
  have a1 := mix_lt (dr := dr) (k := 1) (many := 16) (by decide)
  have m1 := mix_eq (dr := dr) (k := 1) (many := 16) (by decide)
  generalize mix dr 1 16 = v at a0 a1 m1
  obtain ⟨v, rfl⟩ := Int.eq_ofNat_of_zero_le a0
  refine ⟨1 + v, by omega, by omega, ?_⟩
  simp [law_s2, m1]

theorem ls3 (h : m__law_contacts [.lst (dr.map .int), .int 10, .int n] = some (.lst (cs.map encC))) : law_s3 [.fro (.scr ns), .fro (.lst (dr.map .int)), .fro (.int n), .un, .un, .un, .un, .un, .un, .un, .un, .un, .un, .un, .un, .un, .un, .un, .un, .un, .un, .un, .un, .un, .un, .un, .un, .un] = some (.nx [.fro (.scr ns), .fro (.lst (dr.map .int)), .fro (.int n), .fro (.lst (cs.map encC)), .un, .un, .un, .un, .un, .un, .un, .un, .un, .un, .un, .un, .un, .un, .un, .un, .un, .un, .un, .un, .un, .un, .un, .un]) := by
  simp [law_s3, h]
theorem ls4 (hn : 1 ≤ n) : ∃ (start : Nat) (tick : Int), start < n ∧ 0 ≤ tick ∧ tick < 12000 ∧ law_s4 [.fro (.scr ns), .fro (.lst (dr.map .int)), .fro (.int n), .fro (.lst (cs.map encC)), .un, .un, .un, .un, .un, .un, .un, .un, .un, .un, .un, .un, .un, .un, .un, .un, .un, .un, .un, .un, .un, .un, .un, .un] = some (.nx [.fro (.scr ns), .fro (.lst (dr.map .int)), .fro (.int n), .fro (.lst (cs.map encC)), .fro (.int start), .fro (.int tick), .un, .un, .un, .un, .un, .un, .un, .un, .un, .un, .un, .un, .un, .un, .un, .un, .un, .un, .un, .un, .un, .un]) := by
  have hn0 : (0 : Int) < n := by omega
  have a0 := mix_nonneg (dr := dr) (k := 2) hn0
  have a1 := mix_lt (dr := dr) (k := 2) hn0
  have m1 := mix_eq (dr := dr) (k := 2) hn0
  generalize mix dr 2 n = goal at a0 a1 m1
  obtain ⟨start, rfl⟩ := Int.eq_ofNat_of_zero_le a0
  have b0 := mix_nonneg (dr := dr) (k := 3) (many := 8) (by decide)
  have b1 := mix_lt (dr := dr) (k := 3) (many := 8) (by decide)
  have m2 := mix_eq (dr := dr) (k := 3) (many := 8) (by decide)
  generalize mix dr 3 8 = o1 at b0 b1 m2
  have c0 := mix_nonneg (dr := dr) (k := 3) (many := 12000) (by decide)
  have c1 := mix_lt (dr := dr) (k := 3) (many := 12000) (by decide)
  have m3 := mix_eq (dr := dr) (k := 3) (many := 12000) (by decide)
  generalize mix dr 3 12000 = o2 at c0 c1 m3
  have w0 := mix_nonneg (dr := dr) (k := 4) (many := 2) (by decide)
  have w1 := mix_lt (dr := dr) (k := 4) (many := 2) (by decide)
  have m4 := mix_eq (dr := dr) (k := 4) (many := 2) (by decide)
  generalize mix dr 4 2 = w at w0 w1 m4
  obtain ⟨tick, he, e0, e1⟩ : ∃ tick : Int, atI [D.int o1, D.int o2] w = some (D.int tick) ∧ 0 ≤ tick ∧ tick < 12000 := by
    rcases two w0 w1 with rfl | rfl
    · exact ⟨o1, rfl, by omega, by omega⟩
    · exact ⟨o2, rfl, by omega, by omega⟩
  have m1' : m__law_mix [.lst (dr.map .int), .int 2, .int (n : Int)] = some (.int (start : Int)) := m1
  refine ⟨start, tick, by omega, e0, e1, ?_⟩
  simp [law_s4, m1', m2, m3, m4, he]

theorem ls5 (X : Cx n cs start tick) : law_s5 [.fro (.scr ns), .fro (.lst (dr.map .int)), .fro (.int n), .fro (.lst (cs.map encC)), .fro (.int start), .fro (.int tick), .un, .un, .un, .un, .un, .un, .un, .un, .un, .un, .un, .un, .un, .un, .un, .un, .un, .un, .un, .un, .un, .un] = some (.nx [.fro (.scr ns), .fro (.lst (dr.map .int)), .fro (.int n), .fro (.lst (cs.map encC)), .fro (.int start), .fro (.int tick), .fro (encR (fore n cs start tick (n - 1))), .un, .un, .un, .un, .un, .un, .un, .un, .un, .un, .un, .un, .un, .un, .un, .un, .un, .un, .un, .un, .un]) := by
  have h := m_foremost_eq X.hn X.h16 X.hc X.hl X.hs X.h0 (by have := X.h1; omega)
  generalize fore n cs start tick (n - 1) = told at h ⊢
  simp [law_s5, h]

theorem ls7 (X : Cx n cs start tick) : ∃ late : Row, late.length = n ∧ rle (fore n cs start tick (n - 1)) late ∧ law_s7 [.fro (.scr ns), .fro (.lst (dr.map .int)), .fro (.int n), .fro (.lst (cs.map encC)), .fro (.int start), .fro (.int tick), .fro (encR (fore n cs start tick (n - 1))), .un, .un, .un, .un, .un, .un, .un, .un, .un, .un, .un, .un, .un, .un, .un, .un, .un, .un, .un, .un, .un] = some (.nx [.fro (.scr ns), .fro (.lst (dr.map .int)), .fro (.int n), .fro (.lst (cs.map encC)), .fro (.int start), .fro (.int tick), .fro (encR (fore n cs start tick (n - 1))), .fro (encR late), .un, .un, .un, .un, .un, .un, .un, .un, .un, .un, .un, .un, .un, .un, .un, .un, .un, .un, .un, .un]) := by
  have a0 := mix_nonneg (dr := dr) (k := 5) (many := 30) (by decide)
  have a1 := mix_lt (dr := dr) (k := 5) (many := 30) (by decide)
  have m1 := mix_eq (dr := dr) (k := 5) (many := 30) (by decide)
  generalize mix dr 5 30 = v at a0 a1 m1
  have h1 := X.h1
  have h0 := X.h0
  have h := m_foremost_eq (t := tick + 1 + v) X.hn X.h16 X.hc X.hl X.hs (by omega) (by omega)
  refine ⟨fore n cs start (tick + 1 + v) (n - 1), fore_len, ?_, ?_⟩
  · refine rowK_mono row0_len row0_len X.hc X.hc (fun _ h => h) ?_ _
    intro j
    refine ole_of fun x hx => ?_
    obtain ⟨e1, e2⟩ := row0_inv hx
    refine ⟨tick, ?_, by omega⟩
    rw [e1, row0_get X.hs, if_pos rfl]
  · generalize fore n cs start tick (n - 1) = told
    generalize fore n cs start (tick + 1 + v) (n - 1) = late at h ⊢
    simp [law_s7, m1, h]

theorem ls8 {late : Row} (X : Cx n cs start tick) : ∃ more : Row, more.length = n ∧ (cs.length < 31 → rle more (fore n cs start tick (n - 1))) ∧ law_s8 [.fro (.scr ns), .fro (.lst (dr.map .int)), .fro (.int n), .fro (.lst (cs.map encC)), .fro (.int start), .fro (.int tick), .fro (encR (fore n cs start tick (n - 1))), .fro (encR late), .un, .un, .un, .un, .un, .un, .un, .un, .un, .un, .un, .un, .un, .un, .un, .un, .un, .un, .un, .un] = some (.nx [.fro (.scr ns), .fro (.lst (dr.map .int)), .fro (.int n), .fro (.lst (cs.map encC)), .fro (.int start), .fro (.int tick), .fro (encR (fore n cs start tick (n - 1))), .fro (encR late), .fro (encR more), .un, .un, .un, .un, .un, .un, .un, .un, .un, .un, .un, .un, .un, .un, .un, .un, .un, .un, .un]) := by
  obtain ⟨ex, hx, hg, hl⟩ := contacts_ok (dr := dr) (k := 400) X.hn X.h16
  have hcut : Z.cutD (cs.map encC) none (some 30) = (cs.take 30).map encC := by
    rw [List.map_take]
    exact cut_to (k := 30)
  have hcut2 : Z.cutD (ex.map encC) none (some 10) = (ex.take 10).map encC := by
    rw [List.map_take]
    exact cut_to (k := 10)
  have hgood : ∀ c ∈ cs.take 30 ++ ex.take 10, Good n c := by
    intro c hc
    rcases List.mem_append.mp hc with h | h
    · exact X.hc c (List.mem_of_mem_take h)
    · exact hg c (List.mem_of_mem_take h)
  have hlen : (cs.take 30 ++ ex.take 10).length ≤ 40 := by
    rw [List.length_append, List.length_take, List.length_take]
    omega
  have h := m_foremost_eq X.hn X.h16 hgood hlen X.hs X.h0 (by have := X.h1; omega)
  refine ⟨fore n (cs.take 30 ++ ex.take 10) start tick (n - 1), fore_len, fun h31 => ?_, ?_⟩
  · refine rowK_mono row0_len row0_len X.hc hgood (fun c hc => ?_) (rle_refl _) _
    rw [List.take_of_length_le (by omega)]
    exact List.mem_append_left _ hc
  · generalize fore n cs start tick (n - 1) = told
    generalize fore n (cs.take 30 ++ ex.take 10) start tick (n - 1) = more at h ⊢
    have hl2 : ((cs.take 30).map encC).length + ((ex.take 10).map encC).length ≤ 16777216 := by
      rw [List.length_map, List.length_map, List.length_take, List.length_take]
      omega
    rw [List.map_append] at h
    generalize (cs.take 30).map encC = xs at hcut h hl2
    generalize (ex.take 10).map encC = ys at hcut2 h hl2
    simp [law_s8, hx, hcut, hcut2, h, hl2]

theorem ls10 {late more : Row} : law_s10 [.fro (.scr ns), .fro (.lst (dr.map .int)), .fro (.int n), .fro (.lst (cs.map encC)), .fro (.int start), .fro (.int tick), .fro (encR (fore n cs start tick (n - 1))), .fro (encR late), .fro (encR more), .un, .un, .un, .un, .un, .un, .un, .un, .un, .un, .un, .un, .un, .un, .un, .un, .un, .un, .un] = some (.nx [.fro (.scr ns), .fro (.lst (dr.map .int)), .fro (.int n), .fro (.lst (cs.map encC)), .fro (.int start), .fro (.int tick), .fro (encR (fore n cs start tick (n - 1))), .fro (encR late), .fro (encR more), .fro .non, .un, .un, .un, .un, .un, .un, .un, .un, .un, .un, .un, .un, .un, .un, .un, .un, .un, .un]) := by
  generalize fore n cs start tick (n - 1) = told
  simp [law_s10]
end
theorem law_true : ∀ ns : List Int, ns.length ≤ 63 → m_law [.scr ns] = some (.bl true) := by
  intro ns hns
  refine run_fn rfl ?_
  obtain ⟨dr, hdr⟩ := draws_ok ns hns
  obtain ⟨n, hn, h16, h2⟩ := ls2 (ns := ns) (dr := dr)
  obtain ⟨cs, h3, hc, hl⟩ := contacts_ok (dr := dr) (k := 10) hn h16
  obtain ⟨start, tick, hs, ht0, ht1, h4⟩ := ls4 (ns := ns) (dr := dr) (cs := cs) hn
  have X : Cx n cs start tick := ⟨hn, h16, hc, hl, hs, ht0, by omega⟩
  obtain ⟨late, hlate, hle, h7⟩ := ls7 (ns := ns) (dr := dr) X
  obtain ⟨more, hmore, hle2, h8⟩ := ls8 (ns := ns) (dr := dr) (late := late) X
  have h9 := ls9 (ns := ns) (dr := dr) X hlate hmore hle hle2
  obtain ⟨j10, j11, h11⟩ := ls11 (ns := ns) (dr := dr) (late := late) (more := more) X
  obtain ⟨i11, i12, h13⟩ := ls13 (ns := ns) (dr := dr) (late := late) (more := more) (j10 := j10) (j11 := j11) X
  obtain ⟨goal, ende, hg, he0, he1, h14⟩ := ls14 (ns := ns) (dr := dr) (late := late) (more := more) (j10 := j10) (j11 := i11) (j12 := i12) X
  have h15 := ls15 (ns := ns) (dr := dr) (late := late) (more := more) (j10 := j10) (j11 := i11) X hg he0 he1
  obtain ⟨k15, k16, k17, k18, h16'⟩ := ls16 (ns := ns) (dr := dr) (late := late) (more := more) (j10 := j10) (j11 := i11) X hg he0 he1 rfl
  have h17 := ls17 (ns := ns) (dr := dr) (late := late) (more := more) (last := latK cs (row0 n goal ende) (n - 1)) (goal := goal) (ende := ende) (j10 := j10) (j11 := i11) (k15 := k15) (k16 := k16) (k17 := k17) (k18 := k18) X
  obtain ⟨k20, h18⟩ := ls18 (ns := ns) (dr := dr) (late := late) (more := more) (j10 := j10) (j11 := i11) (k15 := k15) (k16 := k16) (k17 := k17) (k18 := k18) X hg he0 he1 rfl
  have h1 := ls1 (ns := ns) (dr := dr) hdr
  have h3' := ls3 (ns := ns) (dr := dr) (n := n) (cs := cs) h3
  have h5 := ls5 (ns := ns) (dr := dr) X
  have h6 := ls6 (ns := ns) (dr := dr) X
  show body_law [.fro (.scr ns), .un, .un, .un, .un, .un, .un, .un, .un, .un, .un, .un, .un, .un, .un, .un, .un, .un, .un, .un, .un, .un, .un, .un, .un, .un, .un, .un] = some (.rt (.bl true))
  unfold body_law
  rw [seq_nx h1, seq_nx h2, seq_nx h3', seq_nx h4, seq_nx h5, seq_nx h6, seq_nx h7, seq_nx h8, seq_nx h9, seq_nx ls10, seq_nx h11, seq_nx ls12, seq_nx h13, seq_nx h14, seq_nx h15, seq_nx h16', seq_nx h17, seq_nx h18, seq_nx ls19]
  exact ls20
end K65


open PySem PySem.W PyProof.Rows
set_option maxHeartbeats 0 in
theorem PySem.Challenge.cw_waysflooded_k65_main_what_holds_of_conta_holds : PySem.Challenge.rw_waysflooded_k65_main_what_holds_of_conta.Holds := by
  w_on; o_law; k_head; (case hw => w_witness2)
  k_fill
  refine Z.walkG (l := PySem.Challenge.rw_waysflooded_k65_main_what_holds_of_conta) (n := 63) (k := 5) (x := "script") (o := K65.m_law) rfl (by decide) rfl ⟨rfl, by decide, by decide⟩ (fun w h Y => PySem.W.kIn_of Y) ?F K65.law_true
  case F =>
    intro w mg fa h KX G hmg
    refine K65.law_end KX G hmg ?d_is_contact ?d_check_router ?d_check_tick ?d_leaves_at ?d_sooner ?d__law_draws ?d__law_mix ?d__law_after ?d__law_kept ?d_check_contacts ?d_next_row ?d_by_which ?d__law_contacts ?d_rows_of ?d_check_all ?d_latest ?d_foremost ?d_is_foremost ?d_within ?d_journey ?d_law ?c_MOST_CONTACTS ?c_MOST_DELAY ?c_MOST_ROUTERS ?c_MOST_START ?c_MOST_TICK ?n_abs ?n_all ?n_enumerate ?n_int ?n_len ?n_list ?n_max ?n_min ?n_range ?n_repr
    (case d_is_contact => refine' Z.def_mk KX G ?a ?l ?c ?k; (case a => k_is); (case l => k_is); (case c => k_is); (case k => k_is))
    (case d_check_router => refine' Z.def_mk KX G ?a ?l ?c ?k; (case a => k_is); (case l => k_is); (case c => k_is); (case k => k_is))
    (case d_check_tick => refine' Z.def_mk KX G ?a ?l ?c ?k; (case a => k_is); (case l => k_is); (case c => k_is); (case k => k_is))
    (case d_leaves_at => refine' Z.def_mk KX G ?a ?l ?c ?k; (case a => k_is); (case l => k_is); (case c => k_is); (case k => k_is))
    (case d_sooner => refine' Z.def_mk KX G ?a ?l ?c ?k; (case a => k_is); (case l => k_is); (case c => k_is); (case k => k_is))
    (case d__law_draws => refine' Z.def_mk KX G ?a ?l ?c ?k; (case a => k_is); (case l => k_is); (case c => k_is); (case k => k_is))
    (case d__law_mix => refine' Z.def_mk KX G ?a ?l ?c ?k; (case a => k_is); (case l => k_is); (case c => k_is); (case k => k_is))
    (case d__law_after => refine' Z.def_mk KX G ?a ?l ?c ?k; (case a => k_is); (case l => k_is); (case c => k_is); (case k => k_is))
    (case d__law_kept => refine' Z.def_mk KX G ?a ?l ?c ?k; (case a => k_is); (case l => k_is); (case c => k_is); (case k => k_is))
    (case d_check_contacts => refine' Z.def_mk KX G ?a ?l ?c ?k; (case a => k_is); (case l => k_is); (case c => k_is); (case k => k_is))
    (case d_next_row => refine' Z.def_mk KX G ?a ?l ?c ?k; (case a => k_is); (case l => k_is); (case c => k_is); (case k => k_is))
    (case d_by_which => refine' Z.def_mk KX G ?a ?l ?c ?k; (case a => k_is); (case l => k_is); (case c => k_is); (case k => k_is))
    (case d__law_contacts => refine' Z.def_mk KX G ?a ?l ?c ?k; (case a => k_is); (case l => k_is); (case c => k_is); (case k => k_is))
    (case d_rows_of => refine' Z.def_mk KX G ?a ?l ?c ?k; (case a => k_is); (case l => k_is); (case c => k_is); (case k => k_is))
    (case d_check_all => refine' Z.def_mk KX G ?a ?l ?c ?k; (case a => k_is); (case l => k_is); (case c => k_is); (case k => k_is))
    (case d_latest => refine' Z.def_mk KX G ?a ?l ?c ?k; (case a => k_is); (case l => k_is); (case c => k_is); (case k => k_is))
    (case d_foremost => refine' Z.def_mk KX G ?a ?l ?c ?k; (case a => k_is); (case l => k_is); (case c => k_is); (case k => k_is))
    (case d_is_foremost => refine' Z.def_mk KX G ?a ?l ?c ?k; (case a => k_is); (case l => k_is); (case c => k_is); (case k => k_is))
    (case d_within => refine' Z.def_mk KX G ?a ?l ?c ?k; (case a => k_is); (case l => k_is); (case c => k_is); (case k => k_is))
    (case d_journey => refine' Z.def_mk KX G ?a ?l ?c ?k; (case a => k_is); (case l => k_is); (case c => k_is); (case k => k_is))
    (case d_law => refine' Z.def_mk KX G ?a ?l ?c ?k; (case a => k_is); (case l => k_is); (case c => k_is); (case k => k_is))
    (case c_MOST_CONTACTS => refine' Z.int_mk KX G ?a; (case a => k_is))
    (case c_MOST_DELAY => refine' Z.int_mk KX G ?a; (case a => k_is))
    (case c_MOST_ROUTERS => refine' Z.int_mk KX G ?a; (case a => k_is))
    (case c_MOST_START => refine' Z.int_mk KX G ?a; (case a => k_is))
    (case c_MOST_TICK => refine' Z.int_mk KX G ?a; (case a => k_is))
    (case n_abs => refine' PySem.W.mg_none_of KX G ?a; (case a => k_is))
    (case n_all => refine' PySem.W.mg_none_of KX G ?a; (case a => k_is))
    (case n_enumerate => refine' PySem.W.mg_none_of KX G ?a; (case a => k_is))
    (case n_int => refine' PySem.W.mg_none_of KX G ?a; (case a => k_is))
    (case n_len => refine' PySem.W.mg_none_of KX G ?a; (case a => k_is))
    (case n_list => refine' PySem.W.mg_none_of KX G ?a; (case a => k_is))
    (case n_max => refine' PySem.W.mg_none_of KX G ?a; (case a => k_is))
    (case n_min => refine' PySem.W.mg_none_of KX G ?a; (case a => k_is))
    (case n_range => refine' PySem.W.mg_none_of KX G ?a; (case a => k_is))
    (case n_repr => refine' PySem.W.mg_none_of KX G ?a; (case a => k_is))

