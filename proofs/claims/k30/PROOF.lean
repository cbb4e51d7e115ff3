import PyProof.Rows.All
import Wide.All
import OpenK.AllK
import Wide.FinOn
import HandS.ForMost
import HandS.Walk
import HandS.TupAny
import HandS.TupMul
import HandS.Rev
import HandS.Conv
import HandS.IsInst
import HandS.Style
import HandS.Wide
import HandS.Zip
import PySem.Challenge.RW_breathrows_k30_the_least_and_the_greates
set_option Elab.async false
set_option linter.all false
set_option maxRecDepth 100000
set_option maxHeartbeats 4000000
/-! The data layer, part A: plain data, how a heap bears it, what a slot owns, the state of a frame. -/
namespace DL
open PySem PySem.Spec PyProof.Rows L2

/-- plain data, without a heap -/
inductive D where
  | non | bl (b : Bool) | int (i : Int) | str (x : Str) | tup (ds : List D) | lst (ds : List D)
  /-- the law's own request: read by places alone -/
  | scr (ns : List Int)

theorem same_seqT {K : PySem.W.Frag} {H H' : Hp} {a : Addr} {xs : List V} (e : Same H H') (h : SqT K H a xs) : SqT K H' a xs := by
  rcases h with (h | ⟨o, h⟩) | h
  · exact .inl (.inl (e _ _ h))
  · exact .inl (.inr ⟨o, e _ _ h⟩)
  · exact .inr h

mutual
/-- the value v bears the data d, all of it in the heap Z (that nobody writes) -/
inductive Rep (K : PySem.W.Frag) (Z : Hp) : V → D → Prop
  | non : Rep K Z .non .non
  | bl (b : Bool) : Rep K Z (.bl b) (.bl b)
  | int (i : Int) : Rep K Z (.int i) (.int i)
  | str (x : Str) : Rep K Z (.str x) (.str x)
  | tup {a : Addr} {vs : List V} {ds : List D} : SqT K Z a vs → Reps K Z vs ds → Rep K Z (.ref a) (.tup ds)
  | lst {a : Addr} {vs : List V} {ds : List D} : Z a = some (.lst vs) → Reps K Z vs ds → Rep K Z (.ref a) (.lst ds)
  | scr {a : Addr} {ns : List Int} : SqL K Z a (ns.map V.int) → Rep K Z (.ref a) (.scr ns)
inductive Reps (K : PySem.W.Frag) (Z : Hp) : List V → List D → Prop
  | nil : Reps K Z [] []
  | cons {v : V} {vs : List V} {d : D} {ds : List D} : Rep K Z v d → Reps K Z vs ds → Reps K Z (v :: vs) (d :: ds)
end
mutual
theorem Rep.mono {K : PySem.W.Frag} {Z Z' : Hp} (e : Same Z Z') : ∀ {v : V} {d : D}, Rep K Z v d → Rep K Z' v d
  | _, _, .non => .non
  | _, _, .bl b => .bl b
  | _, _, .int i => .int i
  | _, _, .str x => .str x
  | _, _, .tup q r => .tup (same_seqT e q) (Reps.mono e r)
  | _, _, .lst q r => .lst (e _ _ q) (Reps.mono e r)
  | _, _, .scr q => .scr (e.seq q)
theorem Reps.mono {K : PySem.W.Frag} {Z Z' : Hp} (e : Same Z Z') : ∀ {vs : List V} {ds : List D}, Reps K Z vs ds → Reps K Z' vs ds
  | _, _, .nil => .nil
  | _, _, .cons a r => .cons (Rep.mono e a) (Reps.mono e r)
end
section
variable {K : PySem.W.Frag} {Z H : Hp}
theorem Reps.length : ∀ {vs : List V} {ds : List D}, Reps K Z vs ds → vs.length = ds.length
  | _, _, .nil => rfl
  | _, _, .cons _ r => congrArg (· + 1) (Reps.length r)
theorem Reps.get : ∀ {vs : List V} {ds : List D} {i : Nat} {d : D}, Reps K Z vs ds → ds[i]? = some d → ∃ v, vs[i]? = some v ∧ Rep K Z v d
  | _, _, _, _, .nil, e => by simp at e
  | _, _, 0, _, .cons a _, e => by simp at e; subst e; exact ⟨_, rfl, a⟩
  | _, _, i + 1, _, .cons _ r, e => by
    obtain ⟨v, h1, h2⟩ := Reps.get (i := i) r (by simpa using e)
    exact ⟨v, by simpa using h1, h2⟩
theorem Reps.append : ∀ {vs ws : List V} {ds es : List D}, Reps K Z vs ds → Reps K Z ws es → Reps K Z (vs ++ ws) (ds ++ es)
  | _, _, _, _, .nil, s => s
  | _, _, _, _, .cons a r, s => .cons a (Reps.append r s)
theorem Reps.drop : ∀ {vs : List V} {ds : List D} (n : Nat), Reps K Z vs ds → Reps K Z (vs.drop n) (ds.drop n)
  | _, _, 0, r => r
  | _, _, _ + 1, .nil => .nil
  | _, _, n + 1, .cons _ r => Reps.drop n r
theorem Reps.take : ∀ {vs : List V} {ds : List D} (n : Nat), Reps K Z vs ds → Reps K Z (vs.take n) (ds.take n)
  | _, _, 0, _ => .nil
  | _, _, _ + 1, .nil => .nil
  | _, _, n + 1, .cons a r => .cons a (Reps.take n r)
theorem Reps.reverse : ∀ {vs : List V} {ds : List D}, Reps K Z vs ds → Reps K Z vs.reverse ds.reverse
  | _, _, .nil => .nil
  | _, _, .cons a r => by rw [List.reverse_cons, List.reverse_cons]; exact (Reps.reverse r).append (.cons a .nil)
theorem Reps.set {v : V} {d : D} (q : Rep K Z v d) : ∀ {vs : List V} {ds : List D} (i : Nat), Reps K Z vs ds → Reps K Z (vs.set i v) (ds.set i d)
  | _, _, _, .nil => .nil
  | _, _, 0, .cons _ r => .cons q r
  | _, _, i + 1, .cons a r => .cons a (Reps.set q i r)
theorem Reps.rep {vs : List V} {ds : List D} (r : Reps K Z vs ds) : ∀ k : Nat, Reps K Z (List.replicate k vs).flatten (List.replicate k ds).flatten
  | 0 => .nil
  | k + 1 => by rw [List.replicate_succ, List.replicate_succ]; exact r.append (r.rep k)
theorem Reps.ints : ∀ {vs : List V} {ns : List Int}, Reps K Z vs (ns.map D.int) → vs = ns.map V.int
  | _, [], .nil => rfl
  | _, n :: ns, .cons a r => by cases a; rw [Reps.ints r]; rfl
theorem Reps.bls : ∀ {vs : List V} {ns : List Bool}, Reps K Z vs (ns.map D.bl) → vs = ns.map V.bl
  | _, [], .nil => rfl
  | _, n :: ns, .cons a r => by cases a; rw [Reps.bls r]; rfl
theorem Reps.of_ints : ∀ (ns : List Int), Reps K Z (ns.map V.int) (ns.map D.int)
  | [] => .nil
  | n :: ns => .cons (.int n) (Reps.of_ints ns)
theorem Reps.one {vs : List V} {d : D} (r : Reps K Z vs [d]) : ∃ v, vs = [v] ∧ Rep K Z v d := by
  cases r with
  | cons a r => cases r; exact ⟨_, rfl, a⟩
end

/-- what a slot holds: data that nobody writes any more, or a list of its own -/
inductive S where
  | val (d : D) | lst (ds : List D)
def S.frz : S → D
  | .val d => d
  | .lst ds => .lst ds
abbrev Fp := Addr → Prop
def RepS (K : PySem.W.Frag) (Z H : Hp) (v : V) : S → Fp → Prop
  | .val d, F => Rep K Z v d ∧ ∀ a, ¬ F a
  | .lst ds, F => ∃ a vs, v = .ref a ∧ H a = some (.lst vs) ∧ Z a = none ∧ Reps K Z vs ds ∧ ∀ b, F b ↔ b = a
section
variable {K : PySem.W.Frag} {Z Z' H H' : Hp} {v : V} {s : S} {F : Fp}
theorem RepS.there (r : RepS K Z H v s F) {a : Addr} (h : F a) : ∃ o, H a = some o := by
  cases s with
  | val d => exact absurd h (r.2 a)
  | lst ds => obtain ⟨b, vs, _, e, _, _, f⟩ := r; rw [(f a).mp h]; exact ⟨_, e⟩
theorem RepS.notZ (r : RepS K Z H v s F) {a : Addr} (h : F a) : Z a = none := by
  cases s with
  | val d => exact absurd h (r.2 a)
  | lst ds => obtain ⟨b, vs, _, _, e, _, f⟩ := r; rw [(f a).mp h]; exact e
theorem RepS.stay (r : RepS K Z H v s F) (e : Same Z Z') (k : ∀ a, F a → H' a = H a) (z : ∀ a, F a → Z' a = none) : RepS K Z' H' v s F := by
  cases s with
  | val d => exact ⟨r.1.mono e, r.2⟩
  | lst ds =>
    obtain ⟨b, vs, e1, e2, e3, r, f⟩ := r
    have fb := (f b).mpr rfl
    exact ⟨b, vs, e1, (k b fb).trans e2, z b fb, r.mono e, f⟩
theorem RepS.congr (r : RepS K Z H v s F) {F' : Fp} (h : ∀ a, F' a ↔ F a) : RepS K Z H v s F' := by
  cases s with
  | val d => exact ⟨r.1, fun a q => r.2 a ((h a).mp q)⟩
  | lst ds => obtain ⟨b, vs, e1, e2, e3, r, f⟩ := r; exact ⟨b, vs, e1, e2, e3, r, fun a => (h a).trans (f a)⟩
/-- what is owned is given up: from now on nobody writes it -/
theorem RepS.freeze (r : RepS K Z H v s F) (sub : Same Z H) : ∃ Z', Same Z Z' ∧ Same Z' H ∧ Rep K Z' v s.frz ∧ (∀ b o, Z' b = some o → Z b = some o ∨ F b) := by
  cases s with
  | val d => exact ⟨Z, Same.refl _, sub, r.1, fun b o e => .inl e⟩
  | lst ds =>
    obtain ⟨b, vs, e1, e2, e3, r, f⟩ := r
    refine ⟨upd Z b (.lst vs), fun c o e => ?_, fun c o e => ?_, ?_, fun c o e => ?_⟩
    · rw [upd_ne (ne_of_none e e3)]; exact e
    · by_cases h : c = b
      · subst h; rw [upd_same] at e; cases e; exact e2
      · rw [upd_ne h] at e; exact sub c o e
    · rw [e1]
      refine .lst upd_same (r.mono fun c o e => ?_)
      rw [upd_ne (ne_of_none e e3)]; exact e
    · by_cases h : c = b
      · exact .inr ((f c).mpr h)
      · rw [upd_ne h] at e; exact .inl e
end

/-- a slots' state -/
abbrev G := List (Option S)
abbrev Fs := Nat → Fp
def Un (F : Fs) : Fp := fun b => ∃ i, F i b
structure Fine (K : PySem.W.Frag) (Z H : Hp) (σ : L2.St) (g : G) (F : Fs) : Prop where
  sub : Same Z H
  len : g.length = σ.length
  rep : ∀ i s, g[i]? = some (some s) → ∃ v, σ[i]? = some (some v) ∧ RepS K Z H v s (F i)
  sep : ∀ i j a, F i a → F j a → i = j
  emp : ∀ i, (∀ s, g[i]? ≠ some (some s)) → ∀ a, ¬ F i a
/-- from one state to the next: U is what was owned, U' what is owned then -/
structure Stp (Z H : Hp) (U : Fp) (Z' H' : Hp) (U' : Fp) : Prop where
  keep : ∀ b o, H b = some o → ¬ U b → H' b = some o
  sub : Same Z Z'
  own : ∀ b, U' b → U b ∨ H b = none
  zne : ∀ b o, Z' b = some o → Z b = some o ∨ U b ∨ H b = none
  ne : ∀ b, H' b = none → H b = none
section
variable {K : PySem.W.Frag} {Z Z1 Z2 H H1 H2 : Hp} {U U1 U2 T : Fp} {σ : L2.St} {g : G} {F : Fs}
theorem Stp.refl : Stp Z H U Z H U := ⟨fun _ _ e _ => e, Same.refl _, fun _ h => .inl h, fun _ _ e => .inl e, fun _ e => e⟩
theorem Stp.trans (a : Stp Z H U Z1 H1 U1) (b : Stp Z1 H1 U1 Z2 H2 U2) : Stp Z H U Z2 H2 U2 where
  keep := fun c o e n => by
    refine b.keep c o (a.keep c o e n) fun h => ?_
    rcases a.own c h with z | z
    · exact n z
    · rw [e] at z; cases z
  sub := a.sub.trans b.sub
  own := fun c h => by
    rcases b.own c h with z | z
    · exact a.own c z
    · exact .inr (a.ne c z)
  zne := fun c o e => by
    rcases b.zne c o e with z | z | z
    · exact a.zne c o z
    · exact .inr (a.own c z)
    · exact .inr (.inr (a.ne c z))
  ne := fun c e => a.ne c (b.ne c e)
theorem Stp.less {U1' : Fp} (a : Stp Z H U Z1 H1 U1) (h : ∀ b, U1' b → U1 b) : Stp Z H U Z1 H1 U1' := ⟨a.keep, a.sub, fun b q => a.own b (h b q), a.zne, a.ne⟩
theorem Stp.more {U' : Fp} (a : Stp Z H U Z1 H1 U1) (h : ∀ b, U b → U' b) : Stp Z H U' Z1 H1 U1 :=
  ⟨fun b o e n => a.keep b o e fun q => n (h b q), a.sub, fun b q => (a.own b q).imp (h b) id, fun b o e => (a.zne b o e).imp id (Or.imp (h b) id), a.ne⟩
/-- with a thing T beside, that the step doesn't touch -/
theorem Stp.beside (a : Stp Z H U Z1 H1 U1) : Stp Z H (fun b => U b ∨ T b) Z1 H1 (fun b => U1 b ∨ T b) :=
  ⟨fun b o e n => a.keep b o e fun q => n (.inl q), a.sub, fun b q => q.elim (fun q => (a.own b q).imp .inl id) fun q => .inl (.inr q), fun b o e => (a.zne b o e).imp id (Or.imp .inl id), a.ne⟩
theorem RepS.past {v : V} {s : S} (st : Stp Z H U Z1 H1 U1) (r : RepS K Z H v s T) (d : ∀ a, T a → ¬ U a) : RepS K Z1 H1 v s T := by
  refine r.stay st.sub (fun a h => ?_) (fun a h => ?_)
  · obtain ⟨o, e⟩ := r.there h
    rw [e, st.keep a o e (d a h)]
  · cases z : Z1 a with
    | none => rfl
    | some o =>
      obtain ⟨o', e⟩ := r.there h
      rcases st.zne a o z with q | q | q
      · rw [r.notZ h] at q; cases q
      · exact absurd q (d a h)
      · rw [e] at q; cases q
theorem RepS.apart {v : V} {s : S} (st : Stp Z H U Z1 H1 U1) (r : RepS K Z H v s T) (d : ∀ a, T a → ¬ U a) {a : Addr} (h : T a) : ¬ U1 a := fun q => by
  obtain ⟨o', e⟩ := r.there h
  rcases st.own a q with z | z
  · exact d a h z
  · rw [e] at z; cases z
theorem Fine.there (f : Fine K Z H σ g F) {i : Nat} {a : Addr} (h : F i a) : ∃ s v, g[i]? = some (some s) ∧ σ[i]? = some (some v) ∧ RepS K Z H v s (F i) := by
  by_cases q : ∃ s, g[i]? = some (some s)
  · obtain ⟨s, e⟩ := q
    obtain ⟨v, e1, r⟩ := f.rep i s e
    exact ⟨s, v, e, e1, r⟩
  · exact absurd h (f.emp i (fun s e => q ⟨s, e⟩) a)
theorem Fine.inH (f : Fine K Z H σ g F) {a : Addr} (h : Un F a) : ∃ o, H a = some o := by
  obtain ⟨i, h⟩ := h
  obtain ⟨s, v, _, _, r⟩ := f.there h
  exact r.there h
theorem Fine.notZ (f : Fine K Z H σ g F) {a : Addr} (h : Un F a) : Z a = none := by
  obtain ⟨i, h⟩ := h
  obtain ⟨s, v, _, _, r⟩ := f.there h
  exact r.notZ h
/-- a slot's value is given up -/
theorem Fine.freezeTmp {v : V} {s : S} {Fv : Fp} (f : Fine K Z H σ g F) (r : RepS K Z H v s Fv) (d : ∀ i a, F i a → ¬ Fv a) :
    ∃ Z', Fine K Z' H σ g F ∧ Rep K Z' v s.frz ∧ Stp Z H (fun b => Un F b ∨ Fv b) Z' H (Un F) := by
  obtain ⟨Z', e1, e2, q, n⟩ := r.freeze f.sub
  refine ⟨Z', ⟨e2, f.len, fun i s' e => ?_, f.sep, f.emp⟩, q, ⟨fun _ _ e _ => e, e1, fun b h => .inl (.inl h), fun b o e => (n b o e).imp id fun h => .inl (.inr h), fun _ e => e⟩⟩
  obtain ⟨w, e3, r'⟩ := f.rep i s' e
  refine ⟨w, e3, r'.stay e1 (fun _ _ => rfl) fun a h => ?_⟩
  cases z : Z' a with
  | none => rfl
  | some o =>
    rcases n a o z with y | y
    · rw [r'.notZ h] at y; cases y
    · exact absurd y (d i a h)
theorem set_self {α : Type} {l : List α} {i : Nat} {x : α} (h : l[i]? = some x) : l.set i x = l := by
  apply List.ext_getElem?
  intro j
  by_cases e : i = j
  · subst e
    rw [List.getElem?_set_self (List.getElem?_eq_some_iff.mp h).1, h]
  · rw [List.getElem?_set_ne e]
/-- a slot gets a value, what it held before is lost -/
theorem Fine.set {i : Nat} {v : V} {s : S} {Fv : Fp} (f : Fine K Z H σ g F) (hi : i < g.length) (r : RepS K Z H v s Fv) (d : ∀ j a, F j a → ¬ Fv a) :
    Fine K Z H (σ.set i (some v)) (g.set i (some s)) (fun j => if j = i then Fv else F j) where
  sub := f.sub
  len := by rw [List.length_set, List.length_set]; exact f.len
  rep := fun j s' e => by
    by_cases h : j = i
    · subst h
      rw [List.getElem?_set_self hi] at e
      cases e
      refine ⟨v, List.getElem?_set_self (f.len ▸ hi), ?_⟩
      rw [if_pos rfl]; exact r
    · rw [List.getElem?_set_ne (Ne.symm h)] at e
      obtain ⟨w, e1, q⟩ := f.rep j s' e
      refine ⟨w, by rw [List.getElem?_set_ne (Ne.symm h)]; exact e1, ?_⟩
      rw [if_neg h]; exact q
  sep := fun j k a h1 h2 => by
    by_cases e1 : j = i
    · by_cases e2 : k = i
      · rw [e1, e2]
      · rw [if_pos e1] at h1; rw [if_neg e2] at h2; exact absurd h1 (d k a h2)
    · by_cases e2 : k = i
      · rw [if_neg e1] at h1; rw [if_pos e2] at h2; exact absurd h2 (d j a h1)
      · rw [if_neg e1] at h1; rw [if_neg e2] at h2; exact f.sep j k a h1 h2
  emp := fun j h a => by
    by_cases e : j = i
    · subst e
      exact absurd (List.getElem?_set_self hi) (h s)
    · rw [if_neg e]
      refine f.emp j (fun s' q => h s' ?_) a
      rw [List.getElem?_set_ne (Ne.symm e)]; exact q
theorem un_set {i : Nat} {Fv : Fp} {b : Addr} (h : Un (fun j => if j = i then Fv else F j) b) : Un F b ∨ Fv b := by
  obtain ⟨j, h⟩ := h
  by_cases e : j = i
  · rw [if_pos e] at h; exact .inr h
  · rw [if_neg e] at h; exact .inl ⟨j, h⟩
/-- a slot's own thing is given up where it stands -/
theorem Fine.freezeAt {i : Nat} {s : S} (f : Fine K Z H σ g F) (e : g[i]? = some (some s)) :
    ∃ Z' F', Fine K Z' H σ (g.set i (some (.val s.frz))) F' ∧ (∀ v, σ[i]? = some (some v) → Rep K Z' v s.frz) ∧ Stp Z H (Un F) Z' H (Un F') := by
  obtain ⟨v, e1, r⟩ := f.rep i s e
  obtain ⟨Z', z1, z2, q, n⟩ := r.freeze f.sub
  have hi : i < g.length := (List.getElem?_eq_some_iff.mp e).1
  refine ⟨Z', fun j => if j = i then fun _ => False else F j, ⟨z2, by rw [List.length_set]; exact f.len, fun j s' e' => ?_, fun j k a h1 h2 => ?_, fun j h a => ?_⟩, fun w hw => ?_, ⟨fun _ _ e _ => e, z1, fun b h => .inl ?_, fun b o e => (n b o e).imp id fun h => .inl ⟨i, h⟩, fun _ e => e⟩⟩
  · by_cases h : j = i
    · subst h
      rw [List.getElem?_set_self hi] at e'
      cases e'
      refine ⟨v, e1, ?_⟩
      rw [if_pos rfl]; exact ⟨q, fun _ h => h⟩
    · rw [List.getElem?_set_ne (Ne.symm h)] at e'
      obtain ⟨w, e2, r'⟩ := f.rep j s' e'
      refine ⟨w, e2, ?_⟩
      rw [if_neg h]
      refine r'.stay z1 (fun _ _ => rfl) fun a ha => ?_
      cases z : Z' a with
      | none => rfl
      | some o =>
        rcases n a o z with y | y
        · rw [r'.notZ ha] at y; cases y
        · exact absurd (f.sep j i a ha y) h
  · by_cases h : j = i
    · rw [if_pos h] at h1; exact h1.elim
    · by_cases h' : k = i
      · rw [if_pos h'] at h2; exact h2.elim
      · rw [if_neg h] at h1; rw [if_neg h'] at h2; exact f.sep j k a h1 h2
  · by_cases hj : j = i
    · rw [if_pos hj]; exact id
    · rw [if_neg hj]
      refine f.emp j (fun s' q => h s' ?_) a
      rw [List.getElem?_set_ne (Ne.symm hj)]; exact q
  · rw [e1] at hw; cases hw; exact q
  · obtain ⟨j, h⟩ := h
    by_cases hj : j = i
    · rw [if_pos hj] at h; exact h.elim
    · rw [if_neg hj] at h; exact ⟨j, h⟩
end
end DL

/-! The data layer, part M: rules of the machine that the hand layer lacks. -/
namespace DL
open PySem PySem.Spec PyProof.Rows L2
/-! ### a tuple once, or no times -/
theorem tup_once (l : Addr) (its : Array Value) (n : Nat) (sl : Array (Option Value)) (dd : Option Addr) (k : Int) (u : Tok) (b1 : (decide (k < -(2 ^ 63)) || decide (k ≥ 2 ^ 63)) = false) (b2 : (its.isEmpty || k == 1) = true) :
    Meets (Builtin.«tuple.__mul__» ⟨[.ref l, .int k u], []⟩) (fun _ R s => s.heap.get? l = some { cls := .type "tuple", dict := dd, data := .seq its n, slots := sl } ∧ R (.ok (.ret (Value.ref l))) s) :=
  .of_wp fun prog w A R s h => by
    obtain ⟨hp, gn, dr, tk, os⟩ := s
    obtain ⟨hl, h⟩ := h
    have f1 := PySem.AutoSeq1.idx_int
    wp_walk using PySem.AutoSeq1.wpAny_loadPart' hl
    repeat (first
      | (refine wpAny_ite_false (decide_eq_false (by rw [b1]; exact Bool.false_ne_true)) ?_; wp_walk using PySem.AutoSeq1.wpAny_loadPart' hl)
      | (refine wpAny_ite_true (decide_eq_true b2) ?_; wp_walk using PySem.AutoSeq1.wpAny_loadPart' hl))
    exact ⟨_, rfl, h⟩
theorem tup_never (l : Addr) (its : Array Value) (n : Nat) (sl : Array (Option Value)) (dd : Option Addr) (k : Int) (u : Tok) (b1 : (decide (k < -(2 ^ 63)) || decide (k ≥ 2 ^ 63)) = false) (b2 : (its.isEmpty || k == 1) = false) (b3 : (decide (k ≤ 0) || its.isEmpty) = true) :
    Meets (Builtin.«tuple.__mul__» ⟨[.ref l, .int k u], []⟩) (fun _ R s => s.heap.get? l = some { cls := .type "tuple", dict := dd, data := .seq its n, slots := sl } ∧
      R (.ok (.ret (Value.ref s.heap.objs.size))) { s with heap := s.heap.push { cls := Value.type "tuple", data := Data.seq #[] } }) :=
  .of_wp fun prog w A R s h => by
    obtain ⟨hp, gn, dr, tk, os⟩ := s
    obtain ⟨hl, h⟩ := h
    have f1 := PySem.AutoSeq1.idx_int
    wp_walk using PySem.AutoSeq1.wpAny_loadPart' hl
    repeat (first
      | (refine wpAny_ite_false (decide_eq_false (by rw [b1]; exact Bool.false_ne_true)) ?_; wp_walk using PySem.AutoSeq1.wpAny_loadPart' hl)
      | (refine wpAny_ite_false (decide_eq_false (by rw [b2]; exact Bool.false_ne_true)) ?_; wp_walk using PySem.AutoSeq1.wpAny_loadPart' hl)
      | (refine wpAny_ite_true (decide_eq_true b3) ?_; wp_walk using PySem.AutoSeq1.wpAny_loadPart' hl))
    exact ⟨_, rfl, h⟩
/-- a tuple that isn't empty, at most once -/
def rRepT1 (K : PySem.W.Frag) : R2 := fun x y H Q => ∃ l k xs, x = .ref l ∧ y = .int k ∧ SqT K H l xs ∧ xs ≠ [] ∧ -1000000 ≤ k ∧ ((k = 1 ∧ Q (.ref l) H) ∨ (k ≤ 0 ∧ ∀ p, H p = none → Q (.ref p) (upd H p (.tup []))))
theorem op_repT1 {X : Cx} : OpR X (binaryOp .Mult) (rRepT1 X.K) := by
  intro pins s σ H x y v u Q I rx ry h
  obtain ⟨l, k, xs, rfl, rfl, hT, hne, hlo, h⟩ := h
  cases rx
  obtain ⟨t, rfl⟩ := ry
  obtain ⟨its, r, ⟨⟨cls, dd, data, sl⟩, ho, hc, n, hd⟩, hs⟩ := I.tuple hT
  simp only at hc hd
  subst hc hd
  have hi : its.toArray.isEmpty = false := by
    cases its with
    | nil => cases r; exact absurd rfl hne
    | cons a b => rfl
  rcases h with ⟨rfl, q⟩ | ⟨h1, q⟩
  · refine wpAny_binaryOp_repeat_ref (T := "tuple") (U := "int") (by decide) ⟨_, ho, rfl⟩ (fun s' => typeIs_int s' _ t) noFill_tuple_mul PySem.F.fills_int_mul PySem.F.slot_int_rmul repeat_tuple PySem.F.slot_int_index.lookup
      (call_meets PySem.F.slot_int_rmul (typeIs_int s _ t) PySem.F.entry_int_rmul (PySem.F.args_int_rmul_2 _ _) (int_rmul_tuple 1 t l its.toArray n dd sl)
        ⟨ho, rfl, ⟨_, ho, rfl⟩, call_meets PySem.F.slot_tuple_mul ⟨_, ho, rfl⟩ PySem.F.entry_tuple_mul (PySem.F.args_tuple_mul_2 _ _) (tup_once l its.toArray n sl dd 1 t (by decide) (by simp)) ⟨ho, ?_⟩⟩)
    exact ⟨.ref l, H, I, rfl, q⟩
  · have b1 : (decide (k < -(2 ^ 63)) || decide (k ≥ 2 ^ 63)) = false := by
      rw [decide_eq_false (by omega), decide_eq_false (by omega)]; rfl
    have b2 : (its.toArray.isEmpty || k == 1) = false := by
      rw [hi, Bool.false_or]
      exact beq_eq_false_iff_ne.mpr (by omega)
    have b3 : (decide (k ≤ 0) || its.toArray.isEmpty) = true := by rw [decide_eq_true h1]; rfl
    refine wpAny_binaryOp_repeat_ref (T := "tuple") (U := "int") (by decide) ⟨_, ho, rfl⟩ (fun s' => typeIs_int s' _ t) noFill_tuple_mul PySem.F.fills_int_mul PySem.F.slot_int_rmul repeat_tuple PySem.F.slot_int_index.lookup
      (call_meets PySem.F.slot_int_rmul (typeIs_int s _ t) PySem.F.entry_int_rmul (PySem.F.args_int_rmul_2 _ _) (int_rmul_tuple k t l its.toArray n dd sl)
        ⟨ho, rfl, ⟨_, ho, rfl⟩, call_meets PySem.F.slot_tuple_mul ⟨_, ho, rfl⟩ PySem.F.entry_tuple_mul (PySem.F.args_tuple_mul_2 _ _) (tup_never l its.toArray n sl dd k t b1 b2 b3) ⟨ho, ?_⟩⟩)
    refine ⟨.ref s.heap.objs.size, _, I.laid (t' := s.toks) (o := .tup []) (fun b ob q => Heap.get?_push_of_some _ q) (Nat.le_refl _) ?_, rfl, q _ (I.hok.fresh (Nat.le_refl _))⟩
    exact ⟨Nat.zero_le _, [], .nil, IsTup.new _ _⟩
end DL

/-! The data layer, part B: programs over slots, expressions. -/
namespace DL
open PySem PySem.Spec PyProof.Rows L2

/-- a program over the slots; none: not served -/
def M (α : Type) := G → Option (α × G)
instance : Monad M where
  pure a := fun g => some (a, g)
  bind m f := fun g => match m g with
    | none => none
    | some (a, g1) => f a g1
theorem M.bind_eq {α β : Type} (m : M α) (f : α → M β) (g : G) : (m >>= f) g = match m g with | none => none | some (a, g1) => f a g1 := rfl
theorem M.pure_eq {α : Type} (a : α) (g : G) : (pure a : M α) g = some (a, g) := rfl
theorem M.bind_some {α β : Type} {m : M α} {f : α → M β} {g g' : G} {b : β} (h : (m >>= f) g = some (b, g')) : ∃ a g1, m g = some (a, g1) ∧ f a g1 = some (b, g') := by
  rw [M.bind_eq] at h
  cases e : m g with
  | none => rw [e] at h; cases h
  | some p => obtain ⟨a, g1⟩ := p; rw [e] at h; exact ⟨a, g1, rfl, h⟩
theorem M.pure_some {α : Type} {a b : α} {g g' : G} (h : (pure a : M α) g = some (b, g')) : a = b ∧ g = g' := by
  rw [M.pure_eq] at h; cases h; exact ⟨rfl, rfl⟩
def up {α : Type} (o : Option α) : M α := fun g => match o with
  | none => none
  | some a => some (a, g)
theorem up_some {α : Type} {o : Option α} {a : α} {g g' : G} (h : up o g = some (a, g')) : o = some a ∧ g = g' := by
  cases o with
  | none => cases h
  | some b => cases h; exact ⟨rfl, rfl⟩
inductive Arg where
  | tmp (s : S) | slot (i : Nat)
def rd (i : Nat) : M Arg := fun g => match g[i]? with
  | some (some _) => some (.slot i, g)
  | _ => none
def cst (d : D) : M Arg := fun g => some (.tmp (.val d), g)
/-- what an argument shows now -/
def view : Arg → M D
  | .tmp s => fun g => some (s.frz, g)
  | .slot i => fun g => match g[i]? with
    | some (some s) => some (s.frz, g)
    | _ => none
/-- it is handed on for good -/
def esc : Arg → M D
  | .tmp s => fun g => some (s.frz, g)
  | .slot i => fun g => match g[i]? with
    | some (some s) => some (s.frz, g.set i (some (.val s.frz)))
    | _ => none
def views : List Arg → M (List D)
  | [] => pure []
  | r :: rs => do let d ← view r; let ds ← views rs; pure (d :: ds)
def escs : List Arg → M (List D)
  | [] => pure []
  | r :: rs => do let d ← esc r; let ds ← escs rs; pure (d :: ds)

section
variable {K : PySem.W.Frag} {Z Z1 Z2 H H1 H2 : Hp} {U U1 U2 T : Fp} {σ : L2.St} {g g' : G} {F : Fs}
def ARep (K : PySem.W.Frag) (Z H : Hp) (σ : L2.St) (v : V) : Arg → Fp → Prop
  | .tmp s, T => RepS K Z H v s T
  | .slot i, T => σ[i]? = some (some v) ∧ ∀ a, ¬ T a
def ARepL (K : PySem.W.Frag) (Z H : Hp) (σ : L2.St) : List V → List Arg → Fp → Prop
  | [], [], U => ∀ a, ¬ U a
  | v :: vs, r :: rs, U => ∃ F1 F2, ARep K Z H σ v r F1 ∧ ARepL K Z H σ vs rs F2 ∧ (∀ a, F1 a → ¬ F2 a) ∧ ∀ a, U a ↔ F1 a ∨ F2 a
  | _, _, _ => False
theorem ARep.there {v : V} {r : Arg} (h : ARep K Z H σ v r T) {a : Addr} (q : T a) : ∃ o, H a = some o := by
  cases r with
  | tmp s => exact RepS.there h q
  | slot i => exact absurd q (h.2 a)
theorem ARep.past {v : V} {r : Arg} (st : Stp Z H U Z1 H1 U1) (h : ARep K Z H σ v r T) (d : ∀ a, T a → ¬ U a) : ARep K Z1 H1 σ v r T := by
  cases r with
  | tmp s => exact RepS.past st h d
  | slot i => exact h
theorem ARep.apart {v : V} {r : Arg} (st : Stp Z H U Z1 H1 U1) (h : ARep K Z H σ v r T) (d : ∀ a, T a → ¬ U a) {a : Addr} (q : T a) : ¬ U1 a := by
  cases r with
  | tmp s => exact RepS.apart st h d q
  | slot i => exact absurd q (h.2 a)
theorem ARepL.there : ∀ {vs : List V} {rs : List Arg} {T : Fp}, ARepL K Z H σ vs rs T → ∀ {a : Addr}, T a → ∃ o, H a = some o
  | [], [], _, h, a, q => absurd q (h a)
  | v :: vs, r :: rs, _, ⟨F1, F2, h1, h2, _, e⟩, a, q => by
    rcases (e a).mp q with z | z
    · exact h1.there z
    · exact ARepL.there h2 z
theorem ARepL.past (st : Stp Z H U Z1 H1 U1) : ∀ {vs : List V} {rs : List Arg} {T : Fp}, ARepL K Z H σ vs rs T → (∀ a, T a → ¬ U a) → ARepL K Z1 H1 σ vs rs T
  | [], [], _, h, _ => h
  | v :: vs, r :: rs, _, ⟨F1, F2, h1, h2, s, e⟩, d => ⟨F1, F2, h1.past st fun a q => d a ((e a).mpr (.inl q)), ARepL.past st h2 fun a q => d a ((e a).mpr (.inr q)), s, e⟩
theorem ARepL.apart (st : Stp Z H U Z1 H1 U1) {vs : List V} {rs : List Arg} {T : Fp} (h : ARepL K Z H σ vs rs T) (d : ∀ a, T a → ¬ U a) {a : Addr} (q : T a) : ¬ U1 a := fun z => by
  obtain ⟨o, e⟩ := h.there q
  rcases st.own a z with y | y
  · exact d a q y
  · rw [e] at y; cases y
theorem ARepL.length : ∀ {vs : List V} {rs : List Arg} {T : Fp}, ARepL K Z H σ vs rs T → vs.length = rs.length
  | [], [], _, _ => rfl
  | v :: vs, r :: rs, _, ⟨F1, F2, h1, h2, s, e⟩ => congrArg (· + 1) (ARepL.length h2)

/-- a value that is read: frozen data, or a list that is owned -/
inductive Vw (K : PySem.W.Frag) (Z H : Hp) : V → D → Prop
  | frz {v : V} {d : D} : Rep K Z v d → Vw K Z H v d
  | own {a : Addr} {vs : List V} {ds : List D} : H a = some (.lst vs) → Reps K Z vs ds → Vw K Z H (.ref a) (.lst ds)
theorem RepS.vw {v : V} {s : S} (r : RepS K Z H v s T) : Vw K Z H v s.frz := by
  cases s with
  | val d => exact .frz r.1
  | lst ds => obtain ⟨a, vs, e1, e2, _, r, _⟩ := r; rw [e1]; exact .own e2 r
theorem Vw.lst {v : V} {ds : List D} (h : Vw K Z H v (.lst ds)) (sub : Same Z H) : ∃ a vs, v = .ref a ∧ H a = some (.lst vs) ∧ Reps K Z vs ds := by
  cases h with
  | frz r => cases r with | lst q r => exact ⟨_, _, rfl, sub _ _ q, r⟩
  | own e r => exact ⟨_, _, rfl, e, r⟩
theorem Vw.scr {v : V} {ns : List Int} (h : Vw K Z H v (.scr ns)) (sub : Same Z H) : ∃ a, v = .ref a ∧ SqL K H a (ns.map V.int) := by
  cases h with
  | frz r => cases r with | scr q => exact ⟨_, rfl, sub.seq q⟩
theorem Vw.tup {v : V} {ds : List D} (h : Vw K Z H v (.tup ds)) (sub : Same Z H) : ∃ a vs, v = .ref a ∧ SqT K H a vs ∧ Reps K Z vs ds := by
  cases h with
  | frz r => cases r with | tup q r => exact ⟨_, _, rfl, same_seqT sub q, r⟩
theorem Vw.tupR {v : V} {ds : List D} (h : Vw K Z H v (.tup ds)) : Rep K Z v (.tup ds) := by
  cases h with | frz r => exact r
theorem Vw.int {v : V} {i : Int} (h : Vw K Z H v (.int i)) : v = .int i := by
  cases h with | frz r => cases r; rfl
theorem Vw.bl {v : V} {i : Bool} (h : Vw K Z H v (.bl i)) : v = .bl i := by
  cases h with | frz r => cases r; rfl
theorem Vw.str {v : V} {i : Str} (h : Vw K Z H v (.str i)) : v = .str i := by
  cases h with | frz r => cases r; rfl
theorem Vw.non {v : V} (h : Vw K Z H v .non) : v = .non := by
  cases h with | frz r => cases r; rfl
theorem Vw.rep {v : V} {d : D} (h : Vw K Z H v d) (sub : Same Z H) : Rep K H v d := by
  cases h with
  | frz r => exact r.mono sub
  | own e r => exact .lst e (r.mono sub)
inductive Vws (K : PySem.W.Frag) (Z H : Hp) : List V → List D → Prop
  | nil : Vws K Z H [] []
  | cons {v : V} {vs : List V} {d : D} {ds : List D} : Vw K Z H v d → Vws K Z H vs ds → Vws K Z H (v :: vs) (d :: ds)
theorem view_ok {v : V} {r : Arg} {d : D} (f : Fine K Z H σ g F) (h : ARep K Z H σ v r T) (e : view r g = some (d, g')) : g = g' ∧ Vw K Z H v d := by
  cases r with
  | tmp s => cases e; exact ⟨rfl, RepS.vw h⟩
  | slot i =>
    change (match g[i]? with
      | some (some s) => some (s.frz, g)
      | _ => none) = _ at e
    split at e
    · rename_i s q
      cases e
      obtain ⟨w, e1, r⟩ := f.rep i s q
      rw [h.1] at e1; cases e1
      exact ⟨rfl, r.vw⟩
    · cases e
theorem views_ok (f : Fine K Z H σ g F) : ∀ {vs : List V} {rs : List Arg} {ds : List D} {T : Fp} {g' : G}, ARepL K Z H σ vs rs T → views rs g = some (ds, g') → g = g' ∧ Vws K Z H vs ds
  | [], [], _, _, _, _, e => by cases e; exact ⟨rfl, .nil⟩
  | v :: vs, r :: rs, _, _, _, ⟨F1, F2, h1, h2, _, _⟩, e => by
    obtain ⟨d, g1, e1, e⟩ := M.bind_some e
    obtain ⟨rfl, q⟩ := view_ok f h1 e1
    obtain ⟨ds, g2, e2, e⟩ := M.bind_some e
    obtain ⟨rfl, q2⟩ := views_ok f h2 e2
    cases e
    exact ⟨rfl, .cons q q2⟩
theorem esc_ok {v : V} {r : Arg} {d : D} (f : Fine K Z H σ g F) (h : ARep K Z H σ v r T) (s : ∀ i a, F i a → ¬ T a) (e : esc r g = some (d, g')) :
    ∃ Z' F', Fine K Z' H σ g' F' ∧ Rep K Z' v d ∧ Stp Z H (fun b => Un F b ∨ T b) Z' H (Un F') := by
  cases r with
  | tmp t =>
    cases e
    obtain ⟨Z', f', r, st⟩ := f.freezeTmp h s
    exact ⟨Z', F, f', r, st⟩
  | slot i =>
    change (match g[i]? with
      | some (some s) => some (s.frz, g.set i (some (.val s.frz)))
      | _ => none) = _ at e
    split at e
    · rename_i t q
      cases e
      obtain ⟨Z', F', f', r, st⟩ := f.freezeAt q
      exact ⟨Z', F', f', r v h.1, st.more fun _ => .inl⟩
    · cases e
theorem escs_ok : ∀ {vs : List V} {rs : List Arg} {ds : List D} {T : Fp} {g g' : G} {Z : Hp} {F : Fs}, Fine K Z H σ g F → ARepL K Z H σ vs rs T → (∀ i a, F i a → ¬ T a) → escs rs g = some (ds, g') →
    ∃ Z' F', Fine K Z' H σ g' F' ∧ Reps K Z' vs ds ∧ Stp Z H (fun b => Un F b ∨ T b) Z' H (Un F')
  | [], [], _, _, g, _, Z, F, f, h, _, e => by cases e; exact ⟨Z, F, f, .nil, Stp.refl.more fun _ => .inl⟩
  | v :: vs, r :: rs, _, T, g, _, Z, F, f, ⟨F1, F2, h1, h2, d, e0⟩, s, e => by
    obtain ⟨x, g1, e1, e⟩ := M.bind_some e
    obtain ⟨Z1, G1, f1, r1, st1⟩ := esc_ok f h1 (fun i a q z => s i a q ((e0 a).mpr (.inl z))) e1
    obtain ⟨ds, g2, e2, e⟩ := M.bind_some e
    cases e
    have dd : ∀ a, F2 a → ¬ (Un F a ∨ F1 a) := fun a q z => z.elim (fun ⟨i, z⟩ => s i a z ((e0 a).mpr (.inr q))) fun z => d a z q
    have h2' := h2.past st1 dd
    obtain ⟨Z2, G2, f2, r2, st2⟩ := escs_ok f1 h2' (fun i a q z => h2.apart st1 dd z ⟨i, q⟩) e2
    refine ⟨Z2, G2, f2, .cons (r1.mono st2.sub) r2, ?_⟩
    refine Stp.trans (U1 := fun b => Un G1 b ∨ F2 b) ?_ st2
    refine (Stp.beside (T := F2) st1).more fun b q => ?_
    rcases q with (q | q) | q
    · exact .inl q
    · exact .inr ((e0 b).mpr (.inl q))
    · exact .inr ((e0 b).mpr (.inr q))

/-- the heap grew -/
structure Gw (Z H Z' H' : Hp) (T : Fp) : Prop where
  hs : Same H H'
  zs : Same Z Z'
  sub : Same Z' H'
  fresh : ∀ b, T b → H b = none
  zn : ∀ b o, Z' b = some o → Z b = some o ∨ H b = none
theorem Gw.stp (w : Gw Z H Z1 H1 T) : Stp Z H U Z1 H1 (fun b => U b ∨ T b) :=
  ⟨fun b o e _ => w.hs b o e, w.zs, fun b q => q.imp id (w.fresh b), fun b o e => (w.zn b o e).imp id .inr, fun b e => w.hs.free e⟩
theorem Fine.grow (f : Fine K Z H σ g F) (w : Gw Z H Z1 H1 T) : Fine K Z1 H1 σ g F where
  sub := w.sub
  len := f.len
  rep := fun i s e => by
    obtain ⟨v, e1, r⟩ := f.rep i s e
    exact ⟨v, e1, r.past (w.stp (U := fun _ => False)) fun _ _ => id⟩
  sep := f.sep
  emp := f.emp
/-- a result that is new, or stood before -/
def Nw (K : PySem.W.Frag) (Z H : Hp) (s : S) (Q : VK) : Prop := ∀ v H' Z' T, Gw Z H Z' H' T → RepS K Z' H' v s T → Q v H'
theorem Gw.refl (sub : Same Z H) : Gw Z H Z H (fun _ => False) := ⟨Same.refl _, Same.refl _, sub, fun _ h => h.elim, fun _ _ e => .inl e⟩
theorem Nw.val {d : D} {Q : VK} {v : V} (n : Nw K Z H (.val d) Q) (sub : Same Z H) (r : Rep K Z v d) : Q v H := n v H Z _ (Gw.refl sub) ⟨r, fun _ => id⟩
theorem same_new {p : Addr} {o : HO} (h : H p = none) : Same H (upd H p o) := fun b x e => by
  rw [upd_ne (ne_of_none e h)]
  exact e
theorem zfree {p : Addr} (sub : Same Z H) (h : H p = none) : Z p = none := by
  cases e : Z p with
  | none => rfl
  | some o => rw [sub p o e] at h; cases h
theorem Gw.tup {p : Addr} {o : HO} (sub : Same Z H) (h : H p = none) : Gw Z H (upd Z p o) (upd H p o) (fun _ => False) where
  hs := same_new h
  zs := same_new (zfree sub h)
  sub := fun b x e => by
    by_cases q : b = p
    · subst q; rw [upd_same] at e ⊢; exact e
    · rw [upd_ne q] at e ⊢; exact sub b x e
  fresh := fun _ h => h.elim
  zn := fun b x e => by
    by_cases q : b = p
    · subst q; exact .inr h
    · rw [upd_ne q] at e; exact .inl e
theorem Nw.tup {ds : List D} {vs : List V} {Q : VK} (n : Nw K Z H (.val (.tup ds)) Q) (sub : Same Z H) (r : Reps K Z vs ds) {p : Addr} (h : H p = none) : Q (.ref p) (upd H p (.tup vs)) :=
  n _ _ _ _ (Gw.tup sub h) ⟨.tup (.of upd_same) (r.mono (same_new (zfree sub h))), fun _ => id⟩
theorem Gw.lst {p : Addr} {o : HO} (sub : Same Z H) (h : H p = none) : Gw Z H Z (upd H p o) (fun b => b = p) where
  hs := same_new h
  zs := Same.refl _
  sub := sub.trans (same_new h)
  fresh := fun _ e => e ▸ h
  zn := fun b x e => .inl e
theorem Nw.lst {ds : List D} {vs : List V} {Q : VK} (n : Nw K Z H (.lst ds) Q) (sub : Same Z H) (r : Reps K Z vs ds) {p : Addr} (h : H p = none) : Q (.ref p) (upd H p (.lst vs)) :=
  n _ _ _ _ (Gw.lst sub h) ⟨p, vs, rfl, upd_same, zfree sub h, r, fun _ => Iff.rfl⟩

/-! ### the judgements -/
def PostA (K : PySem.W.Frag) (Z H : Hp) (σ : L2.St) (F : Fs) (g' : G) (r : Arg) (Q : VK) : Prop :=
  ∀ v H' Z' F' T, Fine K Z' H' σ g' F' → ARep K Z' H' σ v r T → (∀ i a, F' i a → ¬ T a) → Stp Z H (Un F) Z' H' (fun b => Un F' b ∨ T b) → Q v H'
def tA (K : PySem.W.Frag) (m : M Arg) : TE := fun σ H Q => ∃ g Z F r g', m g = some (r, g') ∧ Fine K Z H σ g F ∧ PostA K Z H σ F g' r Q
def PostL (K : PySem.W.Frag) (Z H : Hp) (σ : L2.St) (F : Fs) (g' : G) (rs : List Arg) (Q : List V → Hp → Prop) : Prop :=
  ∀ vs H' Z' F' T, Fine K Z' H' σ g' F' → ARepL K Z' H' σ vs rs T → (∀ i a, F' i a → ¬ T a) → Stp Z H (Un F) Z' H' (fun b => Un F' b ∨ T b) → Q vs H'
def tAs (K : PySem.W.Frag) (m : M (List Arg)) : TA := fun σ H Q => ∃ g Z F rs g', m g = some (rs, g') ∧ Fine K Z H σ g F ∧ PostL K Z H σ F g' rs Q
/-- a test -/
def PostT (K : PySem.W.Frag) (Z H : Hp) (σ : L2.St) (F : Fs) (g' : G) (b : Bool) (Q : Bool → Hp → Prop) : Prop :=
  ∀ H' Z' F', Fine K Z' H' σ g' F' → Stp Z H (Un F) Z' H' (Un F') → Q b H'
def tT (K : PySem.W.Frag) (m : M Bool) : TT := fun σ H Q => ∃ g Z F b g', m g = some (b, g') ∧ Fine K Z H σ g F ∧ PostT K Z H σ F g' b Q
end
abbrev EA (X : Cx) (e : Expr) (m : M Arg) : Prop := PE X e (tA X.K m)
abbrev EL (X : Cx) (es : List Expr) (m : M (List Arg)) : Prop := PA X es (tAs X.K m)
abbrev ET (X : Cx) (e : Expr) (m : M Bool) : Prop := PT X e (tT X.K m)
theorem PE_imp {X : Cx} {e : Expr} {t t' : TE} (h : PE X e t) (i : ∀ σ H Q, t' σ H Q → t σ H Q) : PE X e t' := ⟨fun pins s σ H Q I q => h.run pins s σ H Q I (i σ H Q q)⟩
theorem PT_imp {X : Cx} {e : Expr} {t t' : TT} (h : PT X e t) (i : ∀ σ H Q, t' σ H Q → t σ H Q) : PT X e t' := ⟨fun pins s σ H Q I q => h.run pins s σ H Q I (i σ H Q q)⟩
theorem PW_imp {X : Cx} {e : Expr} {t t' : TT} (h : PW X e t) (i : ∀ σ H Q, t' σ H Q → t σ H Q) : PW X e t' := ⟨fun wh pins s σ H Q I q => h.run wh pins s σ H Q I (i σ H Q q)⟩
theorem PA_imp {X : Cx} {e : List Expr} {t t' : TA} (h : PA X e t) (i : ∀ σ H Q, t' σ H Q → t σ H Q) : PA X e t' := ⟨fun pos pins s σ H Q I q => h.run pos pins s σ H Q I (i σ H Q q)⟩
theorem PS_imp {X : Cx} {e : Stmt} {t t' : TS} (h : PS X e t) (i : ∀ D σ H, t' D σ H → t D σ H) : PS X e t' := ⟨fun pins s σ H D I q => h.run pins s σ H D I (i D σ H q)⟩
theorem PSs_imp {X : Cx} {e : List Stmt} {t t' : TS} (h : PSs X e t) (i : ∀ D σ H, t' D σ H → t D σ H) : PSs X e t' := ⟨fun pins s σ H D I q => h.run pins s σ H D I (i D σ H q)⟩

section
variable {X : Cx} {K : PySem.W.Frag}
theorem tA_pure {σ : L2.St} {H : Hp} {Q : VK} {d : D} {v : V} (r : ∀ Z, Rep K Z v d) (h : tA K (cst d) σ H Q) : Q v H := by
  obtain ⟨g, Z, F, r', g', e, f, post⟩ := h
  cases e
  exact post v H Z F (fun _ => False) f ⟨r Z, fun _ => id⟩ (fun _ _ _ => id) (Stp.refl.less fun b q => q.elim id fun z => z.elim)
theorem e_c {e : Expr} {d : D} {v : V} (h : PE X e (tC v)) (r : ∀ Z, Rep X.K Z v d) : EA X e (cst d) := PE_imp h fun σ H Q q => tA_pure r q
theorem e_int {i j pos} : EA X (.Constant (.int i) j pos) (cst (.int i)) := e_c pe_int fun _ => .int i
theorem e_bl {i j pos} : EA X (.Constant (.bool i) j pos) (cst (.bl i)) := e_c pe_bl fun _ => .bl i
theorem e_str {i j pos} : EA X (.Constant (.str i) j pos) (cst (.str i)) := e_c pe_str fun _ => .str i
theorem e_non {j pos} : EA X (.Constant .none j pos) (cst .non) := e_c pe_non fun _ => .non
theorem e_var (i : Nat) {e : Expr} (h : PE X e (tVar i)) : EA X e (rd i) := PE_imp h fun σ H Q q => by
  obtain ⟨g, Z, F, r, g', e, f, post⟩ := q
  change (match g[i]? with
    | some (some _) => some (Arg.slot i, g)
    | _ => none) = _ at e
  split at e
  · rename_i s q
    cases e
    obtain ⟨v, e1, r⟩ := f.rep i s q
    exact ⟨v, e1, post v H Z F (fun _ => False) f ⟨e1, fun _ => id⟩ (fun _ _ _ => id) (Stp.refl.less fun b q => q.elim id fun z => z.elim)⟩
  · cases e

/-- what two values give by a pure operation -/
def OpP (K : PySem.W.Frag) (r : R2) (p : D → D → Option S) : Prop := ∀ x y d e s Z H Q, Vw K Z H x d → Vw K Z H y e → Same Z H → p d e = some s → Nw K Z H s Q → r x y H Q
def op2 (p : D → D → Option S) (x y : Arg) : M Arg := do
  let d ← view x
  let e ← view y
  let s ← up (p d e)
  pure (.tmp s)
def mBin (p : D → D → Option S) (a b : M Arg) : M Arg := do let x ← a; let y ← b; op2 p x y
theorem op2_some {p : D → D → Option S} {x y r : Arg} {g g' : G} (h : op2 p x y g = some (r, g')) : ∃ d e s g1 g2, view x g = some (d, g1) ∧ view y g1 = some (e, g2) ∧ p d e = some s ∧ r = .tmp s ∧ g' = g2 := by
  obtain ⟨d, g1, e1, h⟩ := M.bind_some h
  obtain ⟨e, g2, e2, h⟩ := M.bind_some h
  obtain ⟨s, g3, e3, h⟩ := M.bind_some h
  obtain ⟨e4, rfl⟩ := up_some e3
  obtain ⟨rfl, rfl⟩ := M.pure_some h
  exact ⟨d, e, s, g1, _, e1, e2, e4, rfl, rfl⟩
theorem two_read {ma mb : M Arg} {p : D → D → Option S} {r : R2} (hp : OpP K r p) {σ : L2.St} {H : Hp} {Q : VK} (h : tA K (mBin p ma mb) σ H Q) : tOp r (tA K ma) (tA K mb) σ H Q := by
  obtain ⟨g, Z, F, ro, g', e, f, post⟩ := h
  obtain ⟨ra, g1, e1, e⟩ := M.bind_some e
  obtain ⟨rb, g2, e2, e⟩ := M.bind_some e
  obtain ⟨d, d', s, g3, g4, v1, v2, pe, rfl, rfl⟩ := op2_some e
  refine ⟨g, Z, F, ra, g1, e1, f, fun x H1 Z1 F1 T1 f1 a1 s1 st1 => ⟨g1, Z1, F1, rb, g2, e2, f1, fun y H2 Z2 F2 T2 f2 a2 s2 st2 => ?_⟩⟩
  have dd : ∀ a, T1 a → ¬ Un F1 a := fun a q ⟨i, z⟩ => s1 i a z q
  have a1' := a1.past st2 dd
  obtain ⟨rfl, w1⟩ := view_ok f2 a1' v1
  obtain ⟨rfl, w2⟩ := view_ok f2 a2 v2
  refine hp x y d d' s Z2 H2 Q w1 w2 f2.sub pe fun v H3 Z3 T gw rep => ?_
  refine post v H3 Z3 F2 T (f2.grow gw) rep (fun i a q z => ?_) ?_
  · obtain ⟨o, e⟩ := f2.inH ⟨i, q⟩
    rw [gw.fresh a z] at e; cases e
  · exact ((st1.trans (Stp.beside (T := T1) st2)).trans gw.stp).less fun b q => q.imp (fun q => .inl (.inl q)) id
theorem e_bin {a b : Expr} {op : Operator} {pos : Pos} {ma mb : M Arg} {p : D → D → Option S} {r : R2} (ho : OpR X (binaryOp op) r) (hp : OpP X.K r p) (ha : EA X a ma) (hb : EA X b mb) :
    EA X (.BinOp a op b pos) (mBin p ma mb) := PE_imp (pe_op ho ha hb) fun _ _ _ h => two_read hp h
theorem e_cmp {a b : Expr} {op : CmpOp} {pos : Pos} {ma mb : M Arg} {p : D → D → Option S} {r : R2} (ho : OpR X (compareOp op) r) (hp : OpP X.K r p) (ha : EA X a ma) (hb : EA X b mb) (hm : behindInMarks op b = false) :
    EA X (.Compare a [op] [b] pos) (mBin p ma mb) := PE_imp (pe_cmpR ho ha hb hm) fun _ _ _ h => two_read hp h
theorem e_ix {a b : Expr} {pos : Pos} {ma mb : M Arg} {p : D → D → Option S} {r : R2} (ho : IxR X r) (hp : OpP X.K r p) (ha : EA X a ma) (hb : EA X b mb) (hs : PlainIx b) :
    EA X (.Subscript a b pos) (mBin p ma mb) := PE_imp (pe_ix ho ha hb hs) fun _ _ _ h => two_read hp h

/-- one value -/
def Op1 (K : PySem.W.Frag) (r : V → Hp → VK → Prop) (p : D → Option S) : Prop := ∀ x d s Z H Q, Vw K Z H x d → Same Z H → p d = some s → Nw K Z H s Q → r x H Q
def op1 (p : D → Option S) (x : Arg) : M Arg := do
  let d ← view x
  let s ← up (p d)
  pure (.tmp s)
def mUn (p : D → Option S) (a : M Arg) : M Arg := do let x ← a; op1 p x
theorem op1_some {p : D → Option S} {x r : Arg} {g g' : G} (h : op1 p x g = some (r, g')) : ∃ d s g1, view x g = some (d, g1) ∧ p d = some s ∧ r = .tmp s ∧ g' = g1 := by
  obtain ⟨d, g1, e1, h⟩ := M.bind_some h
  obtain ⟨s, g3, e3, h⟩ := M.bind_some h
  obtain ⟨e4, rfl⟩ := up_some e3
  obtain ⟨rfl, rfl⟩ := M.pure_some h
  exact ⟨d, s, _, e1, e4, rfl, rfl⟩
theorem one_read {ma : M Arg} {p : D → Option S} {r : V → Hp → VK → Prop} (hp : Op1 K r p) {σ : L2.St} {H : Hp} {Q : VK} (h : tA K (mUn p ma) σ H Q) : tA K ma σ H fun x H1 => r x H1 Q := by
  obtain ⟨g, Z, F, ro, g', e, f, post⟩ := h
  obtain ⟨ra, g1, e1, e⟩ := M.bind_some e
  obtain ⟨d, s, g3, v1, pe, rfl, rfl⟩ := op1_some e
  refine ⟨g, Z, F, ra, g1, e1, f, fun x H1 Z1 F1 T1 f1 a1 s1 st1 => ?_⟩
  obtain ⟨rfl, w1⟩ := view_ok f1 a1 v1
  refine hp x d s Z1 H1 Q w1 f1.sub pe fun v H3 Z3 T gw rep => ?_
  refine post v H3 Z3 F1 T (f1.grow gw) rep (fun i a q z => ?_) ?_
  · obtain ⟨o, e⟩ := f1.inH ⟨i, q⟩
    rw [gw.fresh a z] at e; cases e
  · exact (st1.trans gw.stp).less fun b q => q.imp (fun q => .inl q) id
theorem e_un {a : Expr} {op : UnaryOp} {pos : Pos} {ma : M Arg} {p : D → Option S} {r : V → Hp → VK → Prop} (ho : UnR X (unaryOp op) r) (hp : Op1 X.K r p) (ha : EA X a ma) :
    EA X (.UnaryOp op a pos) (mUn p ma) := PE_imp (pe_un ho ha) fun _ _ _ h => one_read hp h

def aNil : M (List Arg) := pure []
def aCons (a : M Arg) (b : M (List Arg)) : M (List Arg) := do let r ← a; let rs ← b; pure (r :: rs)
/-! ### lists of arguments -/
theorem el_nil : EL X [] aNil := PA_imp pa_nil fun σ H Q h => by
  obtain ⟨g, Z, F, rs, g', e, f, post⟩ := h
  cases e
  exact post [] H Z F (fun _ => False) f (fun _ => id) (fun _ _ _ => id) (Stp.refl.less fun b q => q.elim id fun z => z.elim)
theorem el_cons {e : Expr} {es : List Expr} {me : M Arg} {mes : M (List Arg)} (he : EA X e me) (hes : EL X es mes) (hs : starEach (e :: es) X.env = (false, eval e X.env) :: starEach es X.env := by rfl) :
    EL X (e :: es) (aCons me mes) := PA_imp (pa_cons he hes hs) fun σ H Q h => by
  obtain ⟨g, Z, F, rs, g', e, f, post⟩ := h
  obtain ⟨ra, g1, e1, e⟩ := M.bind_some e
  obtain ⟨rb, g2, e2, e⟩ := M.bind_some e
  obtain ⟨rfl, rfl⟩ := M.pure_some e
  refine ⟨g, Z, F, ra, g1, e1, f, fun x H1 Z1 F1 T1 f1 a1 s1 st1 => ⟨g1, Z1, F1, rb, g2, e2, f1, fun ys H2 Z2 F2 T2 f2 a2 s2 st2 => ?_⟩⟩
  have dd : ∀ a, T1 a → ¬ Un F1 a := fun a q ⟨i, z⟩ => s1 i a z q
  refine post (x :: ys) H2 Z2 F2 (fun a => T1 a ∨ T2 a) f2 ⟨T1, T2, a1.past st2 dd, a2, fun a q z => a1.apart st2 dd q (.inr z), fun a => Iff.rfl⟩ (fun i a q z => ?_) ?_
  · rcases z with z | z
    · exact a1.apart st2 dd z (.inl ⟨i, q⟩)
    · exact s2 i a q z
  · exact (st1.trans (Stp.beside (T := T1) st2)).less fun b q => by
      rcases q with q | q | q
      · exact .inl (.inl q)
      · exact .inr q
      · exact .inl (.inr q)
/-- a call of a built-in thing with values -/
def OpL (K : PySem.W.Frag) (r : List V → Hp → VK → Prop) (p : List D → Option S) : Prop := ∀ xs ds s Z H Q, Vws K Z H xs ds → Same Z H → p ds = some s → Nw K Z H s Q → r xs H Q
def opL (p : List D → Option S) (xs : List Arg) : M Arg := do
  let ds ← views xs
  let s ← up (p ds)
  pure (.tmp s)
def mFn (p : List D → Option S) (a : M (List Arg)) : M Arg := do let xs ← a; opL p xs
theorem opL_some {p : List D → Option S} {x : List Arg} {r : Arg} {g g' : G} (h : opL p x g = some (r, g')) : ∃ d s g1, views x g = some (d, g1) ∧ p d = some s ∧ r = .tmp s ∧ g' = g1 := by
  obtain ⟨d, g1, e1, h⟩ := M.bind_some h
  obtain ⟨s, g3, e3, h⟩ := M.bind_some h
  obtain ⟨e4, rfl⟩ := up_some e3
  obtain ⟨rfl, rfl⟩ := M.pure_some h
  exact ⟨d, s, _, e1, e4, rfl, rfl⟩
theorem list_read {ma : M (List Arg)} {p : List D → Option S} {r : List V → Hp → VK → Prop} (hp : OpL K r p) {σ : L2.St} {H : Hp} {Q : VK} (h : tA K (mFn p ma) σ H Q) : tAs K ma σ H fun x H1 => r x H1 Q := by
  obtain ⟨g, Z, F, ro, g', e, f, post⟩ := h
  obtain ⟨ra, g1, e1, e⟩ := M.bind_some e
  obtain ⟨d, s, g3, v1, pe, rfl, rfl⟩ := opL_some e
  refine ⟨g, Z, F, ra, g1, e1, f, fun x H1 Z1 F1 T1 f1 a1 s1 st1 => ?_⟩
  obtain ⟨rfl, w1⟩ := views_ok f1 a1 v1
  refine hp x d s Z1 H1 Q w1 f1.sub pe fun v H3 Z3 T gw rep => ?_
  refine post v H3 Z3 F1 T (f1.grow gw) rep (fun i a q z => ?_) ?_
  · obtain ⟨o, e⟩ := f1.inH ⟨i, q⟩
    rw [gw.fresh a z] at e; cases e
  · exact (st1.trans gw.stp).less fun b q => q.imp (fun q => .inl q) id
theorem e_callB {x : Str} {id : String} {p' pos : Pos} {e : Expr} {es : List Expr} {ma : M (List Arg)} {p : List D → Option S} {r : List V → Hp → VK → Prop} (hc : CallR X (.builtin id) r) (hp : OpL X.K r p)
    (hg : Gl X x) (hm : X.mg x = none) (hv : bootBuiltins x = some (.builtin id)) (ha : EL X (e :: es) ma) (hn : x ≠ "__name__" := by decide) (hdb : (x == ("__debug__" : Str)) = false := by decide)
    (he : starEach (e :: es) X.env = (false, eval e X.env) :: starEach es X.env := by rfl) (hpl : (backTo pos (starEach es X.env)).any (·.1) = false := by rfl) :
    EA X (.Call (.Name x p') (e :: es) [] pos) (mFn p ma) := PE_imp (pe_callB hc hg hm hv ha hn hdb he hpl) fun _ _ _ h => list_read hp h
theorem e_callTy {x : Str} {id : String} {p' pos : Pos} {e : Expr} {es : List Expr} {ma : M (List Arg)} {p : List D → Option S} {r : List V → Hp → VK → Prop} (hc : CallR X (.type id) r) (hp : OpL X.K r p)
    (hg : Gl X x) (hm : X.mg x = none) (hv : bootBuiltins x = some (.type id)) (ha : EL X (e :: es) ma) (hn : x ≠ "__name__" := by decide) (hdb : (x == ("__debug__" : Str)) = false := by decide)
    (he : starEach (e :: es) X.env = (false, eval e X.env) :: starEach es X.env := by rfl) (hpl : (backTo pos (starEach es X.env)).any (·.1) = false := by rfl) :
    EA X (.Call (.Name x p') (e :: es) [] pos) (mFn p ma) := PE_imp (pe_callTy hc hg hm hv ha hn hdb he hpl) fun _ _ _ h => list_read hp h

/-! ### displays -/
def mkTup (rs : List Arg) : M Arg := do
  let ds ← escs rs
  let s ← up (if ds.length ≤ 100000 then some (S.val (.tup ds)) else none)
  pure (.tmp s)
def mkLst (rs : List Arg) : M Arg := do
  let ds ← escs rs
  let s ← up (if ds.length ≤ 100000 then some (S.lst ds) else none)
  pure (.tmp s)
def mTup (a : M (List Arg)) : M Arg := do let x ← a; mkTup x
def mLst (a : M (List Arg)) : M Arg := do let x ← a; mkLst x
theorem line_ge {n : Nat} (h : n ≤ 100000) : n ≤ sizeLine := Nat.le_trans h (by decide)
theorem line_gt {n : Nat} (h : n ≤ 100000) : n < sizeLine := Nat.lt_of_le_of_lt h (by decide)
theorem disp_read {ma : M (List Arg)} {mk : List Arg → M Arg} {o : List V → HO} {so : List D → S}
    (hmk : ∀ rs g r g', mk rs g = some (r, g') → ∃ ds, escs rs g = some (ds, g') ∧ ds.length ≤ 100000 ∧ r = .tmp (so ds))
    (hnw : ∀ {Z H : Hp} {ds : List D} {vs : List V} {Q : VK}, Nw K Z H (so ds) Q → Same Z H → Reps K Z vs ds → ∀ {p : Addr}, H p = none → Q (.ref p) (upd H p (o vs)))
    {σ : L2.St} {H : Hp} {Q : VK} (h : tA K (do let x ← ma; mk x) σ H Q) : tAs K ma σ H fun xs H1 => xs.length ≤ sizeLine ∧ ∀ p, H1 p = none → Q (.ref p) (upd H1 p (o xs)) := by
  obtain ⟨g, Z, F, ro, g', e, f, post⟩ := h
  obtain ⟨ra, g1, e1, e⟩ := M.bind_some e
  obtain ⟨ds, e2, hl, rfl⟩ := hmk _ _ _ _ e
  refine ⟨g, Z, F, ra, g1, e1, f, fun x H1 Z1 F1 T1 f1 a1 s1 st1 => ?_⟩
  obtain ⟨Z2, F2, f2, r2, st2⟩ := escs_ok f1 a1 s1 e2
  refine ⟨by rw [r2.length]; exact line_ge hl, fun p hp => ?_⟩
  refine hnw (fun v H3 Z3 T gw rep => ?_) f2.sub r2 hp
  refine post v H3 Z3 F2 T (f2.grow gw) rep (fun i a q z => ?_) ?_
  · obtain ⟨o, e⟩ := f2.inH ⟨i, q⟩
    rw [gw.fresh a z] at e; cases e
  · exact (st1.trans st2).trans gw.stp
theorem mkTup_some {rs : List Arg} {g g' : G} {r : Arg} (h : mkTup rs g = some (r, g')) : ∃ ds, escs rs g = some (ds, g') ∧ ds.length ≤ 100000 ∧ r = .tmp (.val (.tup ds)) := by
  obtain ⟨ds, g1, e1, h⟩ := M.bind_some h
  obtain ⟨s, g2, e2, h⟩ := M.bind_some h
  obtain ⟨e3, rfl⟩ := up_some e2
  obtain ⟨rfl, rfl⟩ := M.pure_some h
  split at e3
  · rename_i hl
    cases e3
    exact ⟨ds, e1, hl, rfl⟩
  · cases e3
theorem mkLst_some {rs : List Arg} {g g' : G} {r : Arg} (h : mkLst rs g = some (r, g')) : ∃ ds, escs rs g = some (ds, g') ∧ ds.length ≤ 100000 ∧ r = .tmp (.lst ds) := by
  obtain ⟨ds, g1, e1, h⟩ := M.bind_some h
  obtain ⟨s, g2, e2, h⟩ := M.bind_some h
  obtain ⟨e3, rfl⟩ := up_some e2
  obtain ⟨rfl, rfl⟩ := M.pure_some h
  split at e3
  · rename_i hl
    cases e3
    exact ⟨ds, e1, hl, rfl⟩
  · cases e3
theorem e_tup {es : List Expr} {k : Nat} {pos : Pos} {ma : M (List Arg)} (h : EL X es ma) : EA X (.Tuple es k pos) (mTup ma) :=
  PE_imp (pe_tup h) fun _ _ _ q => disp_read (o := .tup) (so := fun ds => .val (.tup ds)) (fun _ _ _ _ => mkTup_some) (fun n s r _ hp => n.tup s r hp) q
theorem e_lst {es : List Expr} {pos : Pos} {ma : M (List Arg)} (h : EL X es ma) : EA X (.List es pos) (mLst ma) :=
  PE_imp (pe_lst h) fun _ _ _ q => disp_read (o := .lst) (so := fun ds => .lst ds) (fun _ _ _ _ => mkLst_some) (fun n s r _ hp => n.lst s r hp) q
end
end DL

/-! The data layer, part C: tests, statements, loops. -/
namespace DL
open PySem PySem.Spec PyProof.Rows L2
section
variable {X : Cx} {K : PySem.W.Frag}
/-! ### tests -/
def asB : D → Option Bool
  | .bl b => some b
  | _ => none
def tob (r : Arg) : M Bool := do
  let d ← view r
  up (asB d)
def tB' (a : M Arg) : M Bool := do let r ← a; tob r
theorem tob_some {r : Arg} {b : Bool} {g g' : G} (h : tob r g = some (b, g')) : view r g = some (.bl b, g') := by
  obtain ⟨d, g1, e1, h⟩ := M.bind_some h
  obtain ⟨e2, rfl⟩ := up_some h
  cases d <;> cases e2
  exact e1
theorem test_read {m : M Arg} {σ : L2.St} {H : Hp} {Q : Bool → Hp → Prop} (h : tT K (tB' m) σ H Q) : tA K m σ H fun x H' => ∃ k, x = .bl k ∧ Q k H' := by
  obtain ⟨g, Z, F, b, g', e, f, post⟩ := h
  obtain ⟨r, g1, e1, e⟩ := M.bind_some e
  refine ⟨g, Z, F, r, g1, e1, f, fun x H1 Z1 F1 T1 f1 a1 s1 st1 => ?_⟩
  obtain ⟨rfl, w⟩ := view_ok f1 a1 (tob_some e)
  exact ⟨b, w.bl, post H1 Z1 F1 f1 (st1.less fun _ => .inl)⟩
theorem t_cmp {a b : Expr} {op : CmpOp} {pos : Pos} {ma mb : M Arg} {p : D → D → Option S} {r : R2} (ho : OpR X (compareOp op) r) (hp : OpP X.K r p) (ha : EA X a ma) (hb : EA X b mb) (hm : behindInMarks op b = false) :
    ET X (.Compare a [op] [b] pos) (tB' (mBin p ma mb)) := PT_imp (pt_cmpR ho ha hb hm) fun _ _ _ h => two_read hp (test_read h)
theorem t_val {e : Expr} {m : M Arg} (h : EA X e m) (he : ∀ whole, isTrue e X.env whole = (do let v ← whole; standAt e.pos; holding [v] (truthy v)) := by intro _; rfl) : ET X e (tB' m) :=
  PT_imp (pt_val h he) fun _ _ _ q => test_read q
abbrev EW (X : Cx) (e : Expr) (m : M Bool) : Prop := PW X e (tT X.K m)
theorem t_one {a : Expr} {pos : Pos} {m : M Bool} (h : ET X a m) : EW X (.BoolOp .And [a] pos) m := pw_and1 h
theorem t_one' {a : Expr} {pos : Pos} {m : M Bool} (h : ET X a m) : EW X (.BoolOp .Or [a] pos) m := pw_or1 h
theorem tT_bind {m : M Bool} {k : Bool → M Bool} {σ : L2.St} {H : Hp} {Q : Bool → Hp → Prop} (h : tT K (do let b ← m; k b) σ H Q) : tT K m σ H fun b H1 => tT K (k b) σ H1 Q := by
  obtain ⟨g, Z, F, b, g', e, f, post⟩ := h
  obtain ⟨c, g1, e1, e⟩ := M.bind_some e
  refine ⟨g, Z, F, c, g1, e1, f, fun H1 Z1 F1 f1 st1 => ⟨g1, Z1, F1, b, g', e, f1, fun H2 Z2 F2 f2 st2 => post H2 Z2 F2 f2 (st1.trans st2)⟩⟩
theorem tT_mono {m : M Bool} {σ : L2.St} {H : Hp} {Q Q' : Bool → Hp → Prop} (h : tT K m σ H Q) (i : ∀ b H, Q b H → Q' b H) : tT K m σ H Q' := by
  obtain ⟨g, Z, F, b, g', e, f, post⟩ := h
  exact ⟨g, Z, F, b, g', e, f, fun H1 Z1 F1 f1 st1 => i _ _ (post H1 Z1 F1 f1 st1)⟩
theorem tT_pure {b : Bool} {σ : L2.St} {H : Hp} {Q : Bool → Hp → Prop} (h : tT K (pure b) σ H Q) : Q b H := by
  obtain ⟨g, Z, F, c, g', e, f, post⟩ := h
  cases e
  exact post H Z F f Stp.refl
def tAnd' (a b : M Bool) : M Bool := do let c ← a; if c = true then b else pure false
def tOr' (a b : M Bool) : M Bool := do let c ← a; if c = true then pure true else b
def tNot' (a : M Bool) : M Bool := do let c ← a; pure (!c)
theorem t_and {a b : Expr} {rest : List Expr} {pos : Pos} {ma mb : M Bool} (ha : ET X a ma) (hb : EW X (.BoolOp .And (b :: rest) pos) mb) :
    EW X (.BoolOp .And (a :: b :: rest) pos) (tAnd' ma mb) := PW_imp (pw_and ha hb) fun σ H Q h => by
  refine tT_mono (tT_bind h) fun c H1 q => ?_
  cases c with
  | true => exact q
  | false => exact tT_pure q
theorem t_or {a b : Expr} {rest : List Expr} {pos : Pos} {ma mb : M Bool} (ha : ET X a ma) (hb : EW X (.BoolOp .Or (b :: rest) pos) mb) :
    EW X (.BoolOp .Or (a :: b :: rest) pos) (tOr' ma mb) := PW_imp (pw_or ha hb) fun σ H Q h => by
  refine tT_mono (tT_bind h) fun c H1 q => ?_
  cases c with
  | true => exact tT_pure q
  | false => exact q
theorem t_not {a : Expr} {pos : Pos} {ma : M Bool} (ha : ET X a ma) : ET X (.UnaryOp .Not a pos) (tNot' ma) := PT_imp (pt_not ha) fun σ H Q h => by
  refine tT_mono (tT_bind h) fun c H1 q => tT_pure q
/-! ### values by tests -/
theorem tA_after {m : M Bool} {k : Bool → M Arg} {σ : L2.St} {H : Hp} {Q : VK} (h : tA K (do let b ← m; k b) σ H Q) : tT K m σ H fun b H1 => tA K (k b) σ H1 Q := by
  obtain ⟨g, Z, F, r, g', e, f, post⟩ := h
  obtain ⟨c, g1, e1, e⟩ := M.bind_some e
  refine ⟨g, Z, F, c, g1, e1, f, fun H1 Z1 F1 f1 st1 => ⟨g1, Z1, F1, r, g', e, f1, fun v H2 Z2 F2 T f2 a2 s2 st2 => post v H2 Z2 F2 T f2 a2 s2 (st1.trans st2)⟩⟩
def mIte (c : M Bool) (a b : M Arg) : M Arg := do let c ← c; if c = true then a else b
theorem e_ite {c a b : Expr} {pos : Pos} {mc : M Bool} {ma mb : M Arg} (hc : ET X c mc) (ha : EA X a ma) (hb : EA X b mb) : EA X (.IfExp c a b pos) (mIte mc ma mb) :=
  PE_imp (pe_ifExp hc ha hb) fun σ H Q h => tT_mono (tA_after h) fun c H1 q => by
    cases c with
    | true => exact q
    | false => exact q
theorem tA_tob {m : M Arg} {k : Bool → M Arg} {σ : L2.St} {H : Hp} {Q : VK} (h : tA K (do let x ← m; let c ← tob x; k c) σ H Q) : tA K m σ H fun x H1 => ∃ c, x = .bl c ∧ tA K (k c) σ H1 Q := by
  obtain ⟨g, Z, F, r, g', e, f, post⟩ := h
  obtain ⟨x, g1, e1, e⟩ := M.bind_some e
  obtain ⟨c, g2, e2, e⟩ := M.bind_some e
  refine ⟨g, Z, F, x, g1, e1, f, fun v H1 Z1 F1 T1 f1 a1 s1 st1 => ?_⟩
  obtain ⟨rfl, w⟩ := view_ok f1 a1 (tob_some e2)
  exact ⟨c, w.bl, g1, Z1, F1, r, g', e, f1, fun v H2 Z2 F2 T f2 a2 s2 st2 => post v H2 Z2 F2 T f2 a2 s2 ((st1.less fun _ => .inl).trans st2)⟩
theorem tA_mono {m : M Arg} {σ : L2.St} {H : Hp} {Q Q' : VK} (h : tA K m σ H Q) (i : ∀ v H, Q v H → Q' v H) : tA K m σ H Q' := by
  obtain ⟨g, Z, F, r, g', e, f, post⟩ := h
  exact ⟨g, Z, F, r, g', e, f, fun v H2 Z2 F2 T f2 a2 s2 st2 => i _ _ (post v H2 Z2 F2 T f2 a2 s2 st2)⟩
def mAnd (a b : M Arg) : M Arg := do let x ← a; let c ← tob x; if c = true then b else cst (.bl false)
def mOr (a b : M Arg) : M Arg := do let x ← a; let c ← tob x; if c = true then cst (.bl true) else b
def mNot (a : M Arg) : M Arg := do let x ← a; let c ← tob x; cst (.bl (!c))
def mChain (p p' : D → D → Option S) (a b c : M Arg) : M Arg := do let x ← a; let y ← b; let z ← op2 p x y; let k ← tob z; if k = true then (do let w ← c; op2 p' y w) else cst (.bl false)
theorem e_and {a b : Expr} {rest : List Expr} {pos : Pos} {ma mb : M Arg} (ha : EA X a ma) (hb : EA X (.BoolOp .And (b :: rest) pos) mb) :
    EA X (.BoolOp .And (a :: b :: rest) pos) (mAnd ma mb) := PE_imp (pe_and ha hb) fun σ H Q h =>
  tA_mono (tA_tob (k := fun c => if c = true then mb else cst (.bl false)) h) fun v H1 ⟨c, e, q⟩ => ⟨c, e, by
    cases c with
    | true => exact q
    | false => exact tA_pure (fun _ => .bl false) q⟩
theorem e_or {a b : Expr} {rest : List Expr} {pos : Pos} {ma mb : M Arg} (ha : EA X a ma) (hb : EA X (.BoolOp .Or (b :: rest) pos) mb) :
    EA X (.BoolOp .Or (a :: b :: rest) pos) (mOr ma mb) := PE_imp (pe_or ha hb) fun σ H Q h =>
  tA_mono (tA_tob (k := fun c => if c = true then cst (.bl true) else mb) h) fun v H1 ⟨c, e, q⟩ => ⟨c, e, by
    cases c with
    | true => exact tA_pure (fun _ => .bl true) q
    | false => exact q⟩
theorem e_not {a : Expr} {pos : Pos} {ma : M Arg} (ha : EA X a ma) : EA X (.UnaryOp .Not a pos) (mNot ma) := PE_imp (pe_not ha) fun σ H Q h =>
  tA_mono (tA_tob (k := fun c => cst (.bl (!c))) h) fun v H1 ⟨c, e, q⟩ => ⟨c, e, tA_pure (fun _ => .bl _) q⟩
theorem chain_read {ma mb mc : M Arg} {p p' : D → D → Option S} {r r' : R2} (hp : OpP K r p) (hp' : OpP K r' p') {σ : L2.St} {H : Hp} {Q : VK} (h : tA K (mChain p p' ma mb mc) σ H Q) : tChain r r' (tA K ma) (tA K mb) (tA K mc) σ H Q := by
  obtain ⟨g, Z, F, ro, g', e, f, post⟩ := h
  obtain ⟨ra, g1, e1, e⟩ := M.bind_some e
  obtain ⟨rb, g2, e2, e⟩ := M.bind_some e
  obtain ⟨rz, g3, e3, e⟩ := M.bind_some e
  obtain ⟨k, g4, e4, e⟩ := M.bind_some e
  obtain ⟨d, d', s, g5, g6, v1, v2, pe, rfl, rfl⟩ := op2_some e3
  refine ⟨g, Z, F, ra, g1, e1, f, fun x H1 Z1 F1 T1 f1 a1 s1 st1 => ⟨g1, Z1, F1, rb, g2, e2, f1, fun y H2 Z2 F2 T2 f2 a2 s2 st2 => ?_⟩⟩
  have dd : ∀ a, T1 a → ¬ Un F1 a := fun a q ⟨i, z⟩ => s1 i a z q
  have a1' := a1.past st2 dd
  obtain ⟨rfl, w1⟩ := view_ok f2 a1' v1
  obtain ⟨rfl, w2⟩ := view_ok f2 a2 v2
  refine hp x y d d' s Z2 H2 _ w1 w2 f2.sub pe fun v H3 Z3 T gw rep => ?_
  have f3 := f2.grow gw
  obtain ⟨rfl, w3⟩ := view_ok (σ := σ) (r := .tmp s) f3 rep (tob_some e4)
  have dz : ∀ a, T2 a → ¬ Un F2 a := fun a q ⟨i, z⟩ => s2 i a z q
  refine ⟨k, w3.bl, ?_⟩
  have st3 : Stp Z H (Un F) Z3 H3 (Un F2) := ((st1.trans (Stp.beside (T := T1) st2)).trans gw.stp).less fun b q => .inl (.inl (.inl q))
  cases k with
  | false =>
    rw [if_neg Bool.false_ne_true]
    rw [if_neg Bool.false_ne_true] at e
    cases e
    exact post (.bl false) H3 Z3 F2 (fun _ => False) f3 ⟨.bl false, fun _ => id⟩ (fun _ _ _ => id) (st3.less fun b q => q.elim id fun z => z.elim)
  | true =>
    rw [if_pos rfl]
    rw [if_pos rfl] at e
    obtain ⟨rw', g7, e7, e⟩ := M.bind_some e
    obtain ⟨d2, d3, s', g8, g9, v3, v4, pe', rfl, rfl⟩ := op2_some e
    refine ⟨g2, Z3, F2, rw', g7, e7, f3, fun w H4 Z4 F4 T4 f4 a4 s4 st4 => ?_⟩
    have a2' := (a2.past (gw.stp (U := Un F2)) dz).past st4 dz
    obtain ⟨rfl, w4⟩ := view_ok f4 a2' v3
    obtain ⟨rfl, w5⟩ := view_ok f4 a4 v4
    refine hp' y w d2 d3 s' Z4 H4 Q w4 w5 f4.sub pe' fun v H5 Z5 T' gw' rep' => ?_
    refine post v H5 Z5 F4 T' (f4.grow gw') rep' (fun i a q z => ?_) ?_
    · obtain ⟨o, e⟩ := f4.inH ⟨i, q⟩
      rw [gw'.fresh a z] at e; cases e
    · exact ((st3.trans st4).trans gw'.stp).less fun b q => q.imp (fun q => .inl q) id

/-- a op b op' c -/
theorem e_chain {a b c : Expr} {op op' : CmpOp} {pos : Pos} {ma mb mc : M Arg} {p p' : D → D → Option S} {r r' : R2} (ho : OpR X (compareOp op) r) (ho' : OpR X (compareOp op') r') (hp : OpP X.K r p) (hp' : OpP X.K r' p')
    (ha : EA X a ma) (hb : EA X b mb) (hc : EA X c mc) (hm : lastMarks [op, op'] [b, c] = false) :
    EA X (.Compare a [op, op'] [b, c] pos) (mChain p p' ma mb mc) :=
  PE_imp (pe_chain ho ho' ha hb hc hm) fun σ H Q h => chain_read hp hp' h
/-! ### statements -/
inductive Fl where
  | next | brk | cont | ret (s : S)
def PostS (K : PySem.W.Frag) (pr : Nat → Prop) (Z H : Hp) (σ : L2.St) (F : Fs) (g' : G) (fl : Fl) (D : Ends) : Prop :=
  ∀ σ' H' Z' F', Fine K Z' H' σ' g' F' → (∀ i, pr i → σ'[i]? = σ[i]?) → match fl with
    | .next => Stp Z H (Un F) Z' H' (Un F') → D.nx σ' H'
    | .brk => Stp Z H (Un F) Z' H' (Un F') → D.bk σ' H'
    | .cont => Stp Z H (Un F) Z' H' (Un F') → D.ct σ' H'
    | .ret s => ∀ v T, RepS K Z' H' v s T → (∀ i a, F' i a → ¬ T a) → Stp Z H (Un F) Z' H' (fun b => Un F' b ∨ T b) → D.rt v H'
def tS (K : PySem.W.Frag) (pr : Nat → Prop) (m : M Fl) : TS := fun D σ H => ∃ g Z F fl g', m g = some (fl, g') ∧ Fine K Z H σ g F ∧ PostS K pr Z H σ F g' fl D
abbrev ES (X : Cx) (pr : Nat → Prop) (st : Stmt) (m : M Fl) : Prop := PS X st (tS X.K pr m)
abbrev EB (X : Cx) (pr : Nat → Prop) (st : List Stmt) (m : M Fl) : Prop := PSs X st (tS X.K pr m)
variable {pr : Nat → Prop}
def seqM (a b : M Fl) : M Fl := fun g => match a g with
  | none => none
  | some (.next, g1) => b g1
  | some (fl, g1) => some (fl, g1)
theorem seqM_some {a b : M Fl} {g g' : G} {fl : Fl} (h : seqM a b g = some (fl, g')) : (∃ g1, a g = some (.next, g1) ∧ b g1 = some (fl, g')) ∨ (a g = some (fl, g') ∧ fl ≠ .next) := by
  unfold seqM at h
  cases e : a g with
  | none => rw [e] at h; cases h
  | some p =>
    obtain ⟨fl1, g1⟩ := p
    rw [e] at h
    cases fl1 with
    | next => exact .inl ⟨g1, rfl, h⟩
    | brk => cases h; exact .inr ⟨rfl, nofun⟩
    | cont => cases h; exact .inr ⟨rfl, nofun⟩
    | ret s => cases h; exact .inr ⟨rfl, nofun⟩
def cNext : M Fl := pure .next
def cBrk : M Fl := pure .brk
def cCont : M Fl := pure .cont
def cNever : M Fl := fun _ => none
def cRetN : M Fl := pure (.ret (.val .non))
def cIf (c : M Bool) (a b : M Fl) : M Fl := do let c ← c; if c = true then a else b
def cExpr (a : M Arg) : M Fl := do let _ ← a; pure .next
theorem b_nil : EB X pr [] cNext := PSs_imp pss_nil fun D σ H h => by
  obtain ⟨g, Z, F, fl, g', e, f, post⟩ := h
  cases e
  exact post σ H Z F f (fun _ _ => rfl) Stp.refl
theorem b_one {st : Stmt} {m : M Fl} (h : ES X pr st m) : EB X pr [st] m := pss_one h
theorem PostS.after {Z Z1 H H1 : Hp} {σ σ1 : L2.St} {F F1 : Fs} {g' : G} {fl : Fl} {D : Ends} (st1 : Stp Z H (Un F) Z1 H1 (Un F1)) (p1 : ∀ i, pr i → σ1[i]? = σ[i]?) (post : PostS K pr Z H σ F g' fl D) : PostS K pr Z1 H1 σ1 F1 g' fl D := by
  intro σ2 H2 Z2 F2 f2 p2
  have q := post σ2 H2 Z2 F2 f2 (fun i h => (p2 i h).trans (p1 i h))
  cases fl with
  | next => exact fun st2 => q (st1.trans st2)
  | brk => exact fun st2 => q (st1.trans st2)
  | cont => exact fun st2 => q (st1.trans st2)
  | ret s => exact fun v T r d st2 => q v T r d (st1.trans st2)
theorem b_cons {st : Stmt} {rest : List Stmt} {m n : M Fl} (h : ES X pr st m) (h2 : EB X pr rest n) : EB X pr (st :: rest) (seqM m n) := PSs_imp (pss_cons h h2) fun D σ H q => by
  obtain ⟨g, Z, F, fl, g', e, f, post⟩ := q
  rcases seqM_some e with ⟨g1, e1, e⟩ | ⟨e1, hne⟩
  · exact ⟨g, Z, F, .next, g1, e1, f, fun σ1 H1 Z1 F1 f1 p1 st1 => ⟨g1, Z1, F1, fl, g', e, f1, post.after st1 p1⟩⟩
  · refine ⟨g, Z, F, fl, g', e1, f, fun σ1 H1 Z1 F1 f1 p1 => ?_⟩
    have q := post σ1 H1 Z1 F1 f1 p1
    cases fl with
    | next => exact absurd rfl hne
    | brk => exact q
    | cont => exact q
    | ret s => exact q
theorem s_pass {pos : Pos} : ES X pr (.Pass pos) cNext := PS_imp ps_pass fun D σ H h => by
  obtain ⟨g, Z, F, fl, g', e, f, post⟩ := h
  cases e
  exact post σ H Z F f (fun _ _ => rfl) Stp.refl
theorem s_break {pos : Pos} : ES X pr (.Break pos) cBrk := PS_imp ps_break fun D σ H h => by
  obtain ⟨g, Z, F, fl, g', e, f, post⟩ := h
  cases e
  exact post σ H Z F f (fun _ _ => rfl) Stp.refl
theorem s_continue {pos : Pos} : ES X pr (.Continue pos) cCont := PS_imp ps_continue fun D σ H h => by
  obtain ⟨g, Z, F, fl, g', e, f, post⟩ := h
  cases e
  exact post σ H Z F f (fun _ _ => rfl) Stp.refl
/-- a way that is never gone -/
theorem s_never {st : Stmt} : ES X pr st cNever := PS_imp ps_never fun D σ H h => by
  obtain ⟨g, Z, F, fl, g', e, f, post⟩ := h
  cases e
theorem s_if {c : Expr} {a b : List Stmt} {pos : Pos} {mc : M Bool} {ma mb : M Fl} (hc : ET X c mc) (ha : EB X pr a ma) (hb : EB X pr b mb) : ES X pr (.If c a b pos) (cIf mc ma mb) :=
  PS_imp (ps_if hc ha hb) fun D σ H h => by
  obtain ⟨g, Z, F, fl, g', e, f, post⟩ := h
  obtain ⟨c, g1, e1, e⟩ := M.bind_some e
  refine ⟨g, Z, F, c, g1, e1, f, fun H1 Z1 F1 f1 st1 => ?_⟩
  cases c with
  | true => exact ⟨g1, Z1, F1, fl, g', e, f1, post.after st1 fun _ _ => rfl⟩
  | false => exact ⟨g1, Z1, F1, fl, g', e, f1, post.after st1 fun _ _ => rfl⟩
theorem s_expr {e : Expr} {pos : Pos} {m : M Arg} (he : EA X e m) (hs : swapsWith e none pos.line X.env = pure false := by rfl) : ES X pr (.Expr e pos) (cExpr m) :=
  PS_imp (ps_expr he hs) fun D σ H h => by
  obtain ⟨g, Z, F, fl, g', e, f, post⟩ := h
  obtain ⟨c, g1, e1, e⟩ := M.bind_some e
  cases e
  exact ⟨g, Z, F, c, _, e1, f, fun v H1 Z1 F1 T f1 a1 s1 st1 => post σ H1 Z1 F1 f1 (fun _ _ => rfl) (st1.less fun _ => .inl)⟩
/-- what a return hands back: a local's own list goes with it -/
def retM (pr : Nat → Bool) : Arg → M Fl
  | .tmp s => pure (.ret s)
  | .slot i => fun g => match g[i]? with
    | some (some s) => if pr i then some (.ret (.val s.frz), g.set i (some (.val s.frz))) else some (.ret s, g.set i none)
    | _ => none
def cRet (q : Nat → Bool) (a : M Arg) : M Fl := do let r ← a; retM q r
theorem Fine.drop {Z H : Hp} {σ : L2.St} {g : G} {F : Fs} (f : Fine K Z H σ g F) (i : Nat) : Fine K Z H σ (g.set i none) (fun j => if j = i then fun _ => False else F j) where
  sub := f.sub
  len := by rw [List.length_set]; exact f.len
  rep := fun j s e => by
    by_cases h : j = i
    · subst h
      by_cases hl : j < g.length
      · rw [List.getElem?_set_self hl] at e; cases e
      · rw [List.getElem?_eq_none (by rw [List.length_set]; omega)] at e; cases e
    · rw [List.getElem?_set_ne (Ne.symm h)] at e
      obtain ⟨v, e1, r⟩ := f.rep j s e
      refine ⟨v, e1, ?_⟩
      rw [if_neg h]; exact r
  sep := fun j k a h1 h2 => by
    by_cases h : j = i
    · rw [if_pos h] at h1; exact h1.elim
    · by_cases h' : k = i
      · rw [if_pos h'] at h2; exact h2.elim
      · rw [if_neg h] at h1; rw [if_neg h'] at h2; exact f.sep j k a h1 h2
  emp := fun j h a => by
    by_cases hj : j = i
    · rw [if_pos hj]; exact id
    · rw [if_neg hj]
      refine f.emp j (fun s' q => h s' ?_) a
      rw [List.getElem?_set_ne (Ne.symm hj)]; exact q
theorem un_drop {F : Fs} {i : Nat} {b : Addr} (h : Un (fun j => if j = i then fun _ => False else F j) b) : Un F b := by
  obtain ⟨j, h⟩ := h
  by_cases hj : j = i
  · rw [if_pos hj] at h; exact h.elim
  · rw [if_neg hj] at h; exact ⟨j, h⟩
theorem s_ret {e : Expr} {pos : Pos} {m : M Arg} {q : Nat → Bool} (he : EA X e m) : ES X pr (.Return (some e) pos) (cRet q m) :=
  PS_imp (ps_ret he) fun D σ H h => by
  obtain ⟨g, Z, F, fl, g', e, f, post⟩ := h
  obtain ⟨r, g1, e1, e⟩ := M.bind_some e
  refine ⟨g, Z, F, r, g1, e1, f, fun v H1 Z1 F1 T f1 a1 s1 st1 => ?_⟩
  cases r with
  | tmp s =>
    cases e
    exact post σ H1 Z1 F1 f1 (fun _ _ => rfl) v T a1 s1 st1
  | slot i =>
    change (match g1[i]? with
      | some (some s) => if q i then some (Fl.ret (.val s.frz), g1.set i (some (.val s.frz))) else some (.ret s, g1.set i none)
      | _ => none) = _ at e
    split at e
    · rename_i s hs
      split at e
      · cases e
        obtain ⟨Z2, F2, f2, r2, st2⟩ := f1.freezeAt hs
        exact post σ H1 Z2 F2 f2 (fun _ _ => rfl) v (fun _ => False) ⟨r2 v a1.1, fun _ => id⟩ (fun _ _ _ => id) (((st1.less fun _ => .inl).trans st2).less fun b z => z.elim id fun z => z.elim)
      · cases e
        obtain ⟨w, e2, r2⟩ := f1.rep i s hs
        have e3 := a1.1
        rw [e2] at e3; cases e3
        refine post σ H1 Z1 _ (f1.drop i) (fun _ _ => rfl) _ (F1 i) r2 (fun j a h1 h2 => ?_) (st1.less fun b z => ?_)
        · by_cases hj : j = i
          · rw [if_pos hj] at h1; exact h1
          · rw [if_neg hj] at h1; exact hj (f1.sep j i a h1 h2)
        · rcases z with z | z
          · exact .inl (un_drop z)
          · exact .inl ⟨i, z⟩
    · cases e
theorem s_retN {pos : Pos} : ES X pr (.Return none pos) cRetN := PS_imp ps_retN fun D σ H h => by
  obtain ⟨g, Z, F, fl, g', e, f, post⟩ := h
  cases e
  exact post σ H Z F f (fun _ _ => rfl) .non (fun _ => False) ⟨.non, fun _ => id⟩ (fun _ _ _ => id) (Stp.refl.less fun b z => z.elim id fun z => z.elim)

/-! ### stores -/
/-- a name gets what was reckoned: a new list is its own from now on; another name's thing is nobody's own any more -/
def setM (i : Nat) : Arg → M Unit
  | .tmp s => fun g => if i < g.length then some ((), g.set i (some s)) else none
  | .slot j => fun g => if i < g.length then (match g[j]? with
    | some (some s) => some ((), (g.set j (some (.val s.frz))).set i (some (.val s.frz)))
    | _ => none) else none
def cSet (i : Nat) (a : M Arg) : M Fl := do let r ← a; setM i r; pure .next
theorem set_other {σ : L2.St} {i : Nat} {v : V} (h : ¬ pr i) : ∀ j, pr j → (σ.set i (some v))[j]? = σ[j]? := fun j q =>
  List.getElem?_set_ne (fun e => h (by rw [e]; exact q))
theorem s_set {i : Nat} {x : Str} {e : Expr} {pos pos' : Pos} {m : M Arg} (hN : X.N.Nodup) (hi : X.N[i]? = some x) (hx : Loc X.env.scope x) (hp : ¬ pr i) (he : EA X e m)
    (hs : swapsWith e (some (.Name x pos')) pos.line X.env = pure false := by rfl) (hf : X.fn x = true ∨ X.env.scope.names.lookup x = some .local := by first | exact .inl rfl | exact .inr rfl | assumption) :
    ES X pr (.Assign [.Name x pos'] e pos) (cSet i m) := PS_imp (ps_set hN hi hx he hs hf) fun D σ H h => by
  obtain ⟨g, Z, F, fl, g', e, f, post⟩ := h
  obtain ⟨r, g1, e1, e⟩ := M.bind_some e
  obtain ⟨_, g2, e2, e⟩ := M.bind_some e
  cases e
  refine ⟨g, Z, F, r, g1, e1, f, fun v H1 Z1 F1 T f1 a1 s1 st1 => ?_⟩
  show D.nx (σ.set i (some v)) H1
  cases r with
  | tmp s =>
    change (if i < g1.length then some ((), g1.set i (some s)) else none) = _ at e2
    split at e2
    · rename_i hl
      cases e2
      exact post _ H1 Z1 _ (f1.set hl a1 s1) (set_other hp) (st1.less fun b q => un_set q)
    · cases e2
  | slot j =>
    change (if i < g1.length then (match g1[j]? with
      | some (some s) => some ((), (g1.set j (some (.val s.frz))).set i (some (.val s.frz)))
      | _ => none) else none) = _ at e2
    split at e2
    · rename_i hl
      split at e2
      · rename_i s hs
        cases e2
        obtain ⟨Z2, F2, f2, r2, st2⟩ := f1.freezeAt hs
        exact post _ H1 Z2 _ (f2.set (Fv := fun _ => False) (s := .val s.frz) (v := v) (by rw [List.length_set]; exact hl) ⟨r2 v a1.1, fun _ => id⟩ fun _ _ _ => id) (set_other hp) (((st1.less fun _ => .inl).trans st2).less fun b q => (un_set q).elim id fun z => z.elim)
      · cases e2
    · cases e2
/-! ### targets -/
def tG (K : PySem.W.Frag) (pr : Nat → Prop) (mt : D → M Unit) : TG := fun v σ H Q => ∃ g Z F d g', mt d g = some ((), g') ∧ Fine K Z H σ g F ∧ Rep K Z v d ∧
  ∀ σ' H' Z' F', Fine K Z' H' σ' g' F' → (∀ i, pr i → σ'[i]? = σ[i]?) → σ'.length = σ.length → Stp Z H (Un F) Z' H' (Un F') → Q σ' H'
def tGs (K : PySem.W.Frag) (pr : Nat → Prop) (mt : List D → M Unit) : TGs := fun vs σ H Q => ∃ g Z F ds g', mt ds g = some ((), g') ∧ Fine K Z H σ g F ∧ Reps K Z vs ds ∧
  ∀ σ' H' Z' F', Fine K Z' H' σ' g' F' → (∀ i, pr i → σ'[i]? = σ[i]?) → σ'.length = σ.length → Stp Z H (Un F) Z' H' (Un F') → Q σ' H'
abbrev EG (X : Cx) (pr : Nat → Prop) (tg : Expr) (mt : D → M Unit) : Prop := PG X tg (tG X.K pr mt)
abbrev EGs (X : Cx) (pr : Nat → Prop) (tg : List Expr) (mt : List D → M Unit) : Prop := PGs X tg (tGs X.K pr mt)
theorem PG_imp {X : Cx} {e : Expr} {t t' : TG} (h : PG X e t) (i : ∀ v σ H Q, t' v σ H Q → t v σ H Q) : PG X e t' := ⟨fun pins s σ H v u Q I r q => h.run pins s σ H v u Q I r (i v σ H Q q)⟩
theorem PGs_imp {X : Cx} {e : List Expr} {t t' : TGs} (h : PGs X e t) (i : ∀ v σ H Q, t' v σ H Q → t v σ H Q) : PGs X e t' := ⟨fun pins s σ H v u Q I r q => h.run pins s σ H v u Q I r (i v σ H Q q)⟩
def setD (i : Nat) (d : D) : M Unit := fun g => if i < g.length then some ((), g.set i (some (.val d))) else none
theorem g_name {i : Nat} {x : Str} {pos : Pos} (hN : X.N.Nodup) (hi : X.N[i]? = some x) (hx : Loc X.env.scope x) (hp : ¬ pr i) (hf : X.fn x = true ∨ X.env.scope.names.lookup x = some .local := by first | exact .inl rfl | exact .inr rfl | assumption) :
    EG X pr (.Name x pos) (setD i) := PG_imp (pg_name hN hi hx hf) fun v σ H Q h => by
  obtain ⟨g, Z, F, d, g', e, f, r, post⟩ := h
  unfold setD at e
  split at e
  · rename_i hl
    cases e
    exact post _ H Z _ (f.set (Fv := fun _ => False) (s := .val d) hl ⟨r, fun _ => id⟩ fun _ _ _ => id) (set_other hp) List.length_set (Stp.refl.less fun b q => (un_set q).elim id fun z => z.elim)
  · cases e
def gsNil : List D → M Unit
  | [] => pure ()
  | _ => fun _ => none
def gsCons (a : D → M Unit) (b : List D → M Unit) : List D → M Unit
  | d :: ds => do a d; b ds
  | [] => fun _ => none
theorem gs_nil : EGs X pr [] gsNil := PGs_imp pgs_nil fun vs σ H Q h => by
  obtain ⟨g, Z, F, ds, g', e, f, r, post⟩ := h
  cases r with
  | nil => cases e; exact ⟨rfl, post σ H Z F f (fun _ _ => rfl) rfl Stp.refl⟩
  | cons _ _ => cases e
theorem gs_cons {e : Expr} {es : List Expr} {ma : D → M Unit} {mb : List D → M Unit} (h1 : EG X pr e ma) (h2 : EGs X pr es mb)
    (hs : (assignEach (e :: es) X.env).map (·.2) = assign e X.env :: (assignEach es X.env).map (·.2) := by rfl) : EGs X pr (e :: es) (gsCons ma mb) := PGs_imp (pgs_cons h1 h2 hs) fun vs σ H Q h => by
  obtain ⟨g, Z, F, ds, g', e, f, r, post⟩ := h
  cases r with
  | nil => cases e
  | cons a r =>
    obtain ⟨_, g1, e1, e⟩ := M.bind_some e
    refine ⟨_, _, rfl, g, Z, F, _, g1, e1, f, a, fun σ1 H1 Z1 F1 f1 p1 l1 st1 => ⟨g1, Z1, F1, _, g', e, f1, r.mono st1.sub, fun σ2 H2 Z2 F2 f2 p2 l2 st2 => post σ2 H2 Z2 F2 f2 (fun i q => (p2 i q).trans (p1 i q)) (l2.trans l1) (st1.trans st2)⟩⟩
def gTupM (b : List D → M Unit) : D → M Unit
  | .tup ds => b ds
  | _ => fun _ => none
theorem gs_len : ∀ {mb : List D → M Unit} {es : List Expr}, EGs X pr es mb → True := fun _ => trivial
theorem g_tup {es : List Expr} {k : Nat} {pos : Pos} {mb : List D → M Unit} {n : Nat} (hc : X.calm = true) (h : EGs X pr es mb) (hl : ∀ ds g g', mb ds g = some ((), g') → ds.length = n)
    (hn : (assignEach es X.env).length = n := by rfl) (hst : (assignEach es X.env).findIdx? (·.1) = none := by rfl) : EG X pr (.Tuple es k pos) (gTupM mb) := PG_imp (pg_tup hc h hn hst) fun v σ H Q h => by
  obtain ⟨g, Z, F, d, g', e, f, r, post⟩ := h
  cases d with
  | tup ds =>
    cases r with
    | tup q r => exact ⟨_, _, rfl, same_seqT f.sub q, r.length.trans (hl ds g g' e), g, Z, F, ds, g', e, f, r, post⟩
  | _ => cases e
theorem gsNil_len {ds : List D} {g g' : G} (h : gsNil ds g = some ((), g')) : ds.length = 0 := by
  cases ds with
  | nil => rfl
  | cons _ _ => cases h
theorem gsCons_len {a : D → M Unit} {b : List D → M Unit} {n : Nat} (hb : ∀ ds g g', b ds g = some ((), g') → ds.length = n) {ds : List D} {g g' : G} (h : gsCons a b ds g = some ((), g')) : ds.length = n + 1 := by
  cases ds with
  | nil => cases h
  | cons d ds =>
    obtain ⟨_, g1, _, e⟩ := M.bind_some h
    exact congrArg (· + 1) (hb ds g1 g' e)
/-- target = value, the value's thing nobody's own any more -/
def asgM (mt : D → M Unit) (r : Arg) : M Fl := do
  let d ← esc r
  mt d
  pure .next
def cAsg (mt : D → M Unit) (a : M Arg) : M Fl := do let r ← a; asgM mt r
theorem s_asg {tg e : Expr} {pos : Pos} {m : M Arg} {mt : D → M Unit} (he : EA X e m) (hg : EG X pr tg mt) (hs : swapsWithSole [tg] e pos.line X.env = pure false := by rfl) (hw : swappedStores [tg] e X.env = pure none := by rfl)
    (h1 : (assignEach [tg] X.env).map (·.2) = [assign tg X.env] := by rfl) : ES X pr (.Assign [tg] e pos) (cAsg mt m) := PS_imp (ps_asg he hg hs hw h1) fun D σ H h => by
  obtain ⟨g, Z, F, fl, g', e, f, post⟩ := h
  obtain ⟨r, g1, e1, e⟩ := M.bind_some e
  obtain ⟨d, g2, e2, e⟩ := M.bind_some e
  obtain ⟨_, g3, e3, e⟩ := M.bind_some e
  cases e
  refine ⟨g, Z, F, r, g1, e1, f, fun v H1 Z1 F1 T f1 a1 s1 st1 => ?_⟩
  obtain ⟨Z2, F2, f2, r2, st2⟩ := esc_ok f1 a1 s1 e2
  exact ⟨g2, Z2, F2, d, _, e3, f2, r2, fun σ3 H3 Z3 F3 f3 p3 _ st3 => post σ3 H3 Z3 F3 f3 p3 ((st1.trans st2).trans st3)⟩
/-- a, b = x, y -/
def parM (i j : Nat) (rs : List Arg) : M Fl := do
  let ds ← escs rs
  match ds with
  | [d, e] => (fun g => if i < g.length ∧ j < g.length then some (Fl.next, (g.set i (some (.val d))).set j (some (.val e))) else none)
  | _ => fun _ => none
theorem s_par {i j : Nat} {x y : Str} {a b : Expr} {m : M (List Arg)} {px py pt pos : Pos} {kt k2 pt2} (hc : X.calm = true) (hN : X.N.Nodup) (hi : X.N[i]? = some x) (hj : X.N[j]? = some y) (hij : i ≠ j)
    (hx : X.env.scope.names.lookup x = some .local) (hy : X.env.scope.names.lookup y = some .local) (h1 : ¬ pr i) (h2 : ¬ pr j) (ha : EL X [a, b] m)
    (hw : swappedStores [.Tuple [.Name x px, .Name y py] kt pt] (.Tuple [a, b] k2 pt2) X.env = pure (some [x, y]))
    (hs : swapsWithSole [.Tuple [.Name x px, .Name y py] kt pt] (.Tuple [a, b] k2 pt2) pos.line X.env = pure false := by rfl) :
    ES X pr (.Assign [.Tuple [.Name x px, .Name y py] kt pt] (.Tuple [a, b] k2 pt2) pos) (do let rs ← m; parM i j rs) := PS_imp (ps_par hc hN hi hj hij hx hy ha hw hs) fun D σ H h => by
  obtain ⟨g, Z, F, fl, g', e, f, post⟩ := h
  obtain ⟨rs, g1, e1, e⟩ := M.bind_some e
  obtain ⟨ds, g2, e2, e⟩ := M.bind_some e
  refine ⟨g, Z, F, rs, g1, e1, f, fun vs H1 Z1 F1 T f1 a1 s1 st1 => ?_⟩
  obtain ⟨Z2, F2, f2, r2, st2⟩ := escs_ok f1 a1 s1 e2
  match ds, e, r2 with
  | [d, d'], e, .cons q1 (.cons q2 .nil) =>
    change (if i < g2.length ∧ j < g2.length then some (Fl.next, (g2.set i (some (.val d))).set j (some (.val d'))) else none) = _ at e
    split at e
    · rename_i hl
      cases e
      refine ⟨_, _, rfl, ?_⟩
      have f3 := f2.set (Fv := fun _ => False) (s := .val d) hl.1 ⟨q1, fun _ => id⟩ fun _ _ _ => id
      have f4 := f3.set (Fv := fun _ => False) (s := .val d') (by rw [List.length_set]; exact hl.2) ⟨q2, fun _ => id⟩ fun _ _ _ => id
      refine post _ H1 Z2 _ f4 (fun k q => (set_other h2 k q).trans (set_other h1 k q)) ((st1.trans st2).less fun b q => ?_)
      rcases un_set q with q | q
      · exact (un_set q).elim id fun z => z.elim
      · exact q.elim
    · cases e
end
end DL

/-! The data layer, part D: what is walked, loops, comprehensions. -/
namespace DL
open PySem PySem.Spec PyProof.Rows L2
section
variable {X : Cx} {K : PySem.W.Frag} {pr : Nat → Prop}
/-- the iterator J gives the data ds, one by one -/
def Wk (K : PySem.W.Frag) (Z : Hp) (J : It) (ds : List D) : Prop := ∀ Z1 H1, Same Z Z1 → Same Z1 H1 →
  (∀ i, i < ds.length → J.go i H1) ∧ J.stop ds.length H1 ∧ ∀ i d x H2, ds[i]? = some d → J.yld i H1 x H2 → ∃ Z2, Gw Z1 H1 Z2 H2 (fun _ => False) ∧ Rep K Z2 x d
theorem Wk.mono {Z Z' : Hp} {J : It} {ds : List D} (w : Wk K Z J ds) (h : Same Z Z') : Wk K Z' J ds := fun Z1 H1 a b => w Z1 H1 (h.trans a) b
def tI (K : PySem.W.Frag) (m : M (List D)) : TI := fun σ H R => ∃ g Z F ds g', m g = some (ds, g') ∧ Fine K Z H σ g F ∧
  ∀ J H' Z' F', Fine K Z' H' σ g' F' → Stp Z H (Un F) Z' H' (Un F') → Wk K Z' J ds → R J H'
abbrev EI (X : Cx) (tg it : Expr) (m : M (List D)) : Prop := PI X tg it (tI X.K m)
theorem PI_imp {tg it : Expr} {t t' : TI} (h : PI X tg it t) (i : ∀ σ H R, t' σ H R → t σ H R) : PI X tg it t' := ⟨fun pins s σ H R I q => h.run pins s σ H R I (i σ H R q)⟩
theorem un_empty {F : Fs} {U : Fp} {b : Addr} (h : Un F b ∨ (fun _ => False) b) : Un F b := h.elim id fun z => z.elim
theorem Fine.stepGw {Z H Z1 H1 : Hp} {σ : L2.St} {g : G} {F : Fs} (f : Fine K Z H σ g F) (w : Gw Z H Z1 H1 (fun _ => False)) : Fine K Z1 H1 σ g F ∧ Stp Z H (Un F) Z1 H1 (Un F) :=
  ⟨f.grow w, (w.stp).less fun _ => .inl⟩

/-! ### for -/
def loopM (mt : D → M Unit) (mb : M Fl) : List D → M Fl
  | [] => pure .next
  | d :: ds => do
    mt d
    let fl ← mb
    match fl with
    | .next => loopM mt mb ds
    | .cont => loopM mt mb ds
    | .brk => pure .next
    | .ret s => pure (.ret s)
def cFor (wi : M (List D)) (mt : D → M Unit) (mb : M Fl) : M Fl := do let ds ← wi; loopM mt mb ds
theorem s_for {tg it : Expr} {body : List Stmt} {mi : M (List D)} {mt : D → M Unit} {mb : M Fl} {pos : Pos} (hp : PassesOwn (model X.prog X.w) X.A X.env X.xe) (hc : X.calm = true) (hi : EI X tg it mi) (hg : EG X pr tg mt) (hb : EB X pr body mb)
    (hs : ∀ x, foldedSetIterable it X.env x = pure x := by intro _; rfl) : ES X pr (.For tg it body [] pos) (cFor mi mt mb) := PS_imp (ps_for hp hc hi hg hb hs) fun D σ H h => by
  obtain ⟨g, Z, F, fl, g', e, f, post⟩ := h
  obtain ⟨ds, g1, e1, e⟩ := M.bind_some e
  refine ⟨g, Z, F, ds, g1, e1, f, fun J H1 Z1 F1 f1 st1 wk => ?_⟩
  let W : Nat → Nat → L2.St → Hp → Prop := fun i m σ2 H2 => m + i = ds.length ∧ ∃ g2 Z2 F2, loopM mt mb (ds.drop i) g2 = some (fl, g') ∧ Fine X.K Z2 H2 σ2 g2 F2 ∧ (∀ i, pr i → σ2[i]? = σ[i]?) ∧ Stp Z H (Un F) Z2 H2 (Un F2) ∧ Same Z1 Z2
  refine ⟨W, ⟨ds.length, by omega, g1, Z1, F1, by rw [List.drop_zero]; exact e, f1, fun _ _ => rfl, st1, Same.refl _⟩, fun i m σ2 H2 hW => ?_⟩
  obtain ⟨em, g2, Z2, F2, e2, f2, p2, st2, z2⟩ := hW
  obtain ⟨go, stop, yld⟩ := wk Z2 H2 z2 f2.sub
  by_cases hi : i < ds.length
  · obtain ⟨d, rest, ed, erest⟩ : ∃ d rest, ds.drop i = d :: rest ∧ ds.drop (i + 1) = rest := ⟨ds[i], ds.drop (i + 1), List.drop_eq_getElem_cons hi, rfl⟩
    have eg : ds[i]? = some d := by
      have := List.drop_eq_getElem_cons hi
      rw [this] at ed
      rw [List.getElem?_eq_getElem hi]
      exact congrArg some (List.cons.inj ed).1
    rw [ed] at e2
    obtain ⟨_, g3, e3, e2⟩ := M.bind_some e2
    obtain ⟨fl1, g4, e4, e2⟩ := M.bind_some e2
    refine .inr ⟨go i hi, W (i + 1) (m - 1), fun σ' H' w => ⟨m - 1, by omega, w⟩, fun x H3 y => ?_⟩
    obtain ⟨Z3, w3, r3⟩ := yld i d x H3 eg y
    obtain ⟨f3, st3⟩ := f2.stepGw w3
    refine ⟨g2, Z3, F2, d, g3, e3, f3, r3, fun σ4 H4 Z4 F4 f4 p4 _ st4 => ⟨g3, Z4, F4, fl1, g4, e4, f4, fun σ5 H5 Z5 F5 f5 p5 => ?_⟩⟩
    have st := (st2.trans st3).trans st4
    have pp : ∀ i, pr i → σ5[i]? = σ[i]? := fun i q => ((p5 i q).trans (p4 i q)).trans (p2 i q)
    cases fl1 with
    | next => exact fun st5 => ⟨by omega, g4, Z5, F5, by rw [erest]; exact e2, f5, pp, st.trans st5, ((z2.trans w3.zs).trans st4.sub).trans st5.sub⟩
    | cont => exact fun st5 => ⟨by omega, g4, Z5, F5, by rw [erest]; exact e2, f5, pp, st.trans st5, ((z2.trans w3.zs).trans st4.sub).trans st5.sub⟩
    | brk =>
      obtain ⟨rfl, rfl⟩ := M.pure_some e2
      exact fun st5 => post σ5 H5 Z5 F5 f5 pp (st.trans st5)
    | ret s =>
      obtain ⟨rfl, rfl⟩ := M.pure_some e2
      exact fun v T r d st5 => post σ5 H5 Z5 F5 f5 pp v T r d (st.trans st5)
  · have ei : i = ds.length := by omega
    subst ei
    rw [List.drop_length] at e2
    obtain ⟨rfl, rfl⟩ := M.pure_some e2
    exact .inl ⟨stop, post σ2 H2 Z2 F2 f2 p2 st2⟩
/-! ### while -/
def whileM (mc : M Bool) (mb : M Fl) : Nat → M Fl
  | 0 => fun _ => none
  | n + 1 => do
    let c ← mc
    if c = true then do
      let fl ← mb
      match fl with
      | .next => whileM mc mb n
      | .cont => whileM mc mb n
      | .brk => pure .next
      | .ret s => pure (.ret s)
    else pure .next
theorem s_while {c : Expr} {body : List Stmt} {mc : M Bool} {mb : M Fl} {pos : Pos} (n : Nat) (hp : PassesOwn (model X.prog X.w) X.A X.env X.xe) (hc : ET X c mc) (hb : EB X pr body mb) : ES X pr (.While c body [] pos) (whileM mc mb n) :=
  PS_imp (ps_while hp hc hb) fun D σ H h => by
  obtain ⟨g, Z, F, fl, g', e, f, post⟩ := h
  let W : Nat → L2.St → Hp → Prop := fun m σ2 H2 => ∃ g2 Z2 F2, whileM mc mb m g2 = some (fl, g') ∧ Fine X.K Z2 H2 σ2 g2 F2 ∧ (∀ i, pr i → σ2[i]? = σ[i]?) ∧ Stp Z H (Un F) Z2 H2 (Un F2)
  refine ⟨W, ⟨n, g, Z, F, e, f, fun _ _ => rfl, Stp.refl⟩, fun m σ2 H2 hW => ?_⟩
  obtain ⟨g2, Z2, F2, e2, f2, p2, st2⟩ := hW
  cases m with
  | zero => cases e2
  | succ m =>
    obtain ⟨b, g3, e3, e2⟩ := M.bind_some e2
    refine ⟨g2, Z2, F2, b, g3, e3, f2, fun H3 Z3 F3 f3 st3 => ?_⟩
    cases b with
    | false =>
      rw [if_neg Bool.false_ne_true]
      rw [if_neg Bool.false_ne_true] at e2
      obtain ⟨rfl, rfl⟩ := M.pure_some e2
      exact post σ2 H3 Z3 F3 f3 p2 (st2.trans st3)
    | true =>
      rw [if_pos rfl]
      rw [if_pos rfl] at e2
      obtain ⟨fl1, g4, e4, e2⟩ := M.bind_some e2
      refine ⟨W m, fun σ' H' w => ⟨m, Nat.lt_succ_self m, w⟩, g3, Z3, F3, fl1, g4, e4, f3, fun σ5 H5 Z5 F5 f5 p5 => ?_⟩
      have pp : ∀ i, pr i → σ5[i]? = σ[i]? := fun i q => (p5 i q).trans (p2 i q)
      cases fl1 with
      | next => exact fun st5 => ⟨g4, Z5, F5, e2, f5, pp, (st2.trans st3).trans st5⟩
      | cont => exact fun st5 => ⟨g4, Z5, F5, e2, f5, pp, (st2.trans st3).trans st5⟩
      | brk =>
        obtain ⟨rfl, rfl⟩ := M.pure_some e2
        exact fun st5 => post σ5 H5 Z5 F5 f5 pp ((st2.trans st3).trans st5)
      | ret s =>
        obtain ⟨rfl, rfl⟩ := M.pure_some e2
        exact fun v T r d st5 => post σ5 H5 Z5 F5 f5 pp v T r d ((st2.trans st3).trans st5)

/-! ### list comprehensions -/
def wipeG (g : G) : List Nat → G
  | [] => g
  | v :: vs => (wipeG g vs).set v none
def backG (g : G) : List Nat → G → G
  | [], g' => g'
  | v :: vs, g' => (backG g vs g').set v (g.getD v none)
theorem wipeG_len (g : G) : ∀ vs, (wipeG g vs).length = g.length
  | [] => rfl
  | v :: vs => by rw [wipeG, List.length_set, wipeG_len g vs]
theorem backG_len (g g' : G) : ∀ vs, (backG g vs g').length = g'.length
  | [] => rfl
  | v :: vs => by rw [backG, List.length_set, backG_len g g' vs]
theorem wipeG_some {g : G} {i : Nat} {s : S} : ∀ {vs : List Nat}, (wipeG g vs)[i]? = some (some s) → g[i]? = some (some s) ∧ i ∉ vs
  | [], h => ⟨h, by simp⟩
  | v :: vs, h => by
    rw [wipeG] at h
    by_cases e : v = i
    · subst e
      by_cases hl : v < (wipeG g vs).length
      · rw [List.getElem?_set_self hl] at h; cases h
      · rw [List.getElem?_eq_none (by rw [List.length_set]; omega)] at h; cases h
    · rw [List.getElem?_set_ne e] at h
      obtain ⟨a, b⟩ := wipeG_some h
      exact ⟨a, by simp [Ne.symm e, b]⟩
theorem wipeG_out {g : G} {i : Nat} : ∀ {vs : List Nat}, i ∉ vs → (wipeG g vs)[i]? = g[i]?
  | [], _ => rfl
  | v :: vs, h => by
    rw [wipeG, List.getElem?_set_ne (fun e => h (by rw [e]; exact List.mem_cons_self))]
    exact wipeG_out fun q => h (List.mem_cons_of_mem _ q)
theorem backG_out {g g' : G} {i : Nat} : ∀ {vs : List Nat}, i ∉ vs → (backG g vs g')[i]? = g'[i]?
  | [], _ => rfl
  | v :: vs, h => by
    rw [backG, List.getElem?_set_ne (fun e => h (by rw [e]; exact List.mem_cons_self))]
    exact backG_out fun q => h (List.mem_cons_of_mem _ q)
theorem backG_in {g g' : G} {i : Nat} (hl : i < g'.length) : ∀ {vs : List Nat}, i ∈ vs → (backG g vs g')[i]? = some (g.getD i none)
  | [], h => by cases h
  | v :: vs, h => by
    rw [backG]
    by_cases e : v = i
    · subst e
      rw [List.getElem?_set_self (by rw [backG_len]; exact hl)]
    · rw [List.getElem?_set_ne e]
      rcases List.mem_cons.mp h with q | q
      · exact absurd q.symm e
      · exact backG_in hl q
theorem wipe_out' {σ : L2.St} {i : Nat} : ∀ {vs : List Nat}, i ∉ vs → (wipe σ vs)[i]? = σ[i]?
  | [], _ => rfl
  | v :: vs, h => by
    rw [wipe, List.getElem?_set_ne (fun e => h (by rw [e]; exact List.mem_cons_self))]
    exact wipe_out' fun q => h (List.mem_cons_of_mem _ q)
theorem wipe_in' {σ : L2.St} {i : Nat} (hl : i < σ.length) : ∀ {vs : List Nat}, i ∈ vs → (wipe σ vs)[i]? = some none
  | [], h => by cases h
  | v :: vs, h => by
    rw [wipe]
    by_cases e : v = i
    · subst e
      rw [List.getElem?_set_self (by rw [wipe_length]; exact hl)]
    · rw [List.getElem?_set_ne e]
      rcases List.mem_cons.mp h with q | q
      · exact absurd q.symm e
      · exact wipe_in' hl q
/-- stores to the block's own names are wiped away -/
theorem wipe_same {σ σ2 : L2.St} {vs : List Nat} (hl : σ2.length = σ.length) (h : ∀ i, i ∉ vs → σ2[i]? = (wipe σ vs)[i]?) : wipe σ2 vs = wipe σ vs := by
  apply List.ext_getElem?
  intro i
  by_cases q : i ∈ vs
  · by_cases l : i < σ.length
    · rw [wipe_in' (by rw [hl]; exact l) q, wipe_in' l q]
    · rw [List.getElem?_eq_none (by rw [wipe_length]; omega), List.getElem?_eq_none (by rw [wipe_length]; omega)]
  · rw [wipe_out' q, h i q]
theorem Fine.wipe {Z H : Hp} {σ : L2.St} {g : G} {F : Fs} (f : Fine K Z H σ g F) (vs : List Nat) : Fine K Z H (wipe σ vs) (wipeG g vs) (fun j => if j ∈ vs then fun _ => False else F j) where
  sub := f.sub
  len := by rw [wipeG_len, wipe_length]; exact f.len
  rep := fun j s e => by
    obtain ⟨e1, n⟩ := wipeG_some e
    obtain ⟨v, e2, r⟩ := f.rep j s e1
    refine ⟨v, by rw [wipe_out' n]; exact e2, ?_⟩
    rw [if_neg n]; exact r
  sep := fun j k a h1 h2 => by
    by_cases h : j ∈ vs
    · rw [if_pos h] at h1; exact h1.elim
    · by_cases h' : k ∈ vs
      · rw [if_pos h'] at h2; exact h2.elim
      · rw [if_neg h] at h1; rw [if_neg h'] at h2; exact f.sep j k a h1 h2
  emp := fun j h a => by
    by_cases hj : j ∈ vs
    · rw [if_pos hj]; exact id
    · rw [if_neg hj]
      refine f.emp j (fun s' q => h s' ?_) a
      rw [wipeG_out hj]; exact q
/-- one turn after another; what is told is a list -/
def compL (vs : List Nat) (mt : D → M Unit) (mc : M Bool) (me : M Arg) : List D → M (List D)
  | [] => pure []
  | d :: ds => do
    mt d
    let c ← mc
    if c = true then do
      let r ← me
      let x ← esc r
      (fun g => some ((), wipeG g vs))
      let xs ← compL vs mt mc me ds
      pure (x :: xs)
    else do
      (fun g => some ((), wipeG g vs))
      compL vs mt mc me ds
def compM (vs : List Nat) (mt : D → M Unit) (mc : M Bool) (me : M Arg) (ds : List D) : M Arg := fun g =>
  if ds.length ≤ 100000 then
    match compL vs mt mc me ds (wipeG g vs) with
    | none => none
    | some (xs, g') => some (.tmp (.lst xs), backG g vs g')
  else none
def mComp (wi : M (List D)) (vs : List Nat) (mt : D → M Unit) (mc : M Bool) (me : M Arg) : M Arg := do let ds ← wi; compM vs mt mc me ds
theorem compL_len {vs : List Nat} {mt : D → M Unit} {mc : M Bool} {me : M Arg} : ∀ {ds : List D} {g g' : G} {xs : List D}, compL vs mt mc me ds g = some (xs, g') → xs.length ≤ ds.length
  | [], _, _, _, h => by cases h; exact Nat.le_refl _
  | d :: ds, g, g', xs, h => by
    obtain ⟨_, g1, _, h⟩ := M.bind_some h
    obtain ⟨c, g2, _, h⟩ := M.bind_some h
    cases c with
    | true =>
      rw [if_pos rfl] at h
      obtain ⟨r, g3, _, h⟩ := M.bind_some h
      obtain ⟨x, g4, _, h⟩ := M.bind_some h
      obtain ⟨_, g5, _, h⟩ := M.bind_some h
      obtain ⟨ys, g6, e6, h⟩ := M.bind_some h
      obtain ⟨rfl, rfl⟩ := M.pure_some h
      exact Nat.succ_le_succ (compL_len e6)
    | false =>
      rw [if_neg Bool.false_ne_true] at h
      obtain ⟨_, g5, _, h⟩ := M.bind_some h
      exact Nat.le_succ_of_le (compL_len h)
/-- the clause's tests -/
theorem ts_nil : PTs X [] (tT X.K (pure true)) := ⟨fun pins s σ H Q I h => pts_nil.run pins s σ H Q I (tT_pure h)⟩
theorem ts_one {c : Expr} {m : M Bool} (h : ET X c m) : PTs X [c] (tT X.K m) := pts_one h
theorem wipe_again (vs : List Nat) (q : G) : wipeG (wipeG q vs) vs = wipeG q vs := by
  apply List.ext_getElem?
  intro i
  by_cases hi : i ∈ vs
  · by_cases l : i < q.length
    · have a : ∀ (q : G), i < q.length → (wipeG q vs)[i]? = some none := fun q l => by
        cases z : (wipeG q vs)[i]? with
        | none => rw [List.getElem?_eq_none_iff, wipeG_len] at z; omega
        | some o =>
          cases o with
          | none => rfl
          | some s => exact absurd hi (wipeG_some z).2
      rw [a _ (by rw [wipeG_len]; exact l), a q l]
    · rw [List.getElem?_eq_none (by rw [wipeG_len, wipeG_len]; omega), List.getElem?_eq_none (by rw [wipeG_len]; omega)]
  · rw [wipeG_out hi]
/-- a list of the block's own is written -/
theorem Fine.other {Z H : Hp} {σ : L2.St} {g : G} {F : Fs} {A : Addr} {o : HO} (f : Fine K Z H σ g F) (n : ¬ Un F A) (z : Z A = none) : Fine K Z (upd H A o) σ g F where
  sub := fun b x e => by rw [upd_ne (ne_of_none e z)]; exact f.sub b x e
  len := f.len
  rep := fun i s e => by
    obtain ⟨v, e1, r⟩ := f.rep i s e
    refine ⟨v, e1, r.stay (Same.refl _) (fun a h => upd_ne fun q => n ⟨i, q ▸ h⟩) fun a h => r.notZ h⟩
  sep := f.sep
  emp := f.emp
theorem Stp.writes {Z H Z1 H1 : Hp} {U U1 : Fp} {A : Addr} {o : HO} (s : Stp Z H U Z1 H1 U1) (h : U1 A) (n : ∃ x, H1 A = some x) : Stp Z H U Z1 (upd H1 A o) U1 where
  keep := fun b x e k => by
    rw [upd_ne fun q => ?_]
    · exact s.keep b x e k
    · subst q
      rcases s.own b h with z | z
      · exact k z
      · rw [e] at z; cases z
  sub := s.sub
  own := s.own
  zne := s.zne
  ne := fun b e => by
    by_cases q : b = A
    · subst q; rw [upd_same] at e; cases e
    · rw [upd_ne q] at e; exact s.ne b e
structure CompI (K : PySem.W.Frag) (vs : List Nat) (mt : D → M Unit) (mc : M Bool) (me : M Arg) (ds xs : List D) (g2 : G) (σ : L2.St) (Z1 Hs : Hp) (A : Addr) (F0 : Fs) (i : Nat) (H3 : Hp) (g3 : G) (Z3 : Hp) (F3 : Fs) (dn ys : List D) : Prop where
  run : compL vs mt mc me (ds.drop i) g3 = some (ys, g2)
  eq : xs = dn ++ ys
  few : dn.length ≤ i
  fine : Fine K Z3 H3 (L2.wipe σ vs) g3 F3
  acc : RepS K Z3 H3 (.ref A) (.lst dn) (fun b => b = A)
  apart : ¬ Un F3 A
  stp : Stp Z1 Hs (fun b => Un F0 b ∨ b = A) Z3 H3 (fun b => Un F3 b ∨ b = A)
theorem comp_end {vs : List Nat} {σ : L2.St} {Z H Z1 H1 Z3 H3 : Hp} {F F1 F3 : Fs} {g1 g2 : G} {A : Addr} {dn : List D} (f1 : Fine K Z1 H1 σ g1 F1) (st1 : Stp Z H (Un F) Z1 H1 (Un F1)) (hA : H1 A = none)
    (f3 : Fine K Z3 H3 (L2.wipe σ vs) g2 F3) (w3 : wipeG g2 vs = g2) (rA : RepS K Z3 H3 (.ref A) (.lst dn) (fun b => b = A)) (nA : ¬ Un F3 A)
    (st3 : Stp Z1 (upd H1 A (.lst [])) (fun b => Un (fun j => if j ∈ vs then fun _ => False else F1 j) b ∨ b = A) Z3 H3 (fun b => Un F3 b ∨ b = A)) :
    ∃ F', Fine K Z3 H3 σ (backG g1 vs g2) F' ∧ (∀ i a, F' i a → ¬ a = A) ∧ Stp Z H (Un F) Z3 H3 (fun b => Un F' b ∨ b = A) := by
  have zA : Z1 A = none := zfree f1.sub hA
  have gw : Gw Z1 H1 Z1 (upd H1 A (.lst [])) (fun b => b = A) := Gw.lst f1.sub hA
  have f1' := f1.grow gw
  have fA : ∀ {i a}, F1 i a → a ≠ A := fun {i a} h e => by
    obtain ⟨o, q⟩ := f1.inH ⟨i, h⟩
    rw [e, hA] at q; cases q
  have dj : ∀ {i}, i ∈ vs → ∀ a, F1 i a → ¬ (Un (fun j => if j ∈ vs then fun _ => False else F1 j) a ∨ a = A) := fun {i} hi a h q => by
    rcases q with ⟨j, q⟩ | q
    · by_cases hj : j ∈ vs
      · rw [if_pos hj] at q; exact q.elim
      · rw [if_neg hj] at q
        exact hj (f1.sep i j a h q ▸ hi)
    · exact fA h q
  have lg : g2.length = σ.length := by rw [f3.len, wipe_length]
  have cross : ∀ {i k a}, i ∈ vs → F1 i a → F3 k a → False := fun {i k a} hi h1 h3 => by
    rcases st3.own a (.inl ⟨k, h3⟩) with q | q
    · exact dj hi a h1 q
    · obtain ⟨o, e⟩ := f1'.inH ⟨i, h1⟩
      rw [e] at q; cases q
  refine ⟨fun j => if j ∈ vs then F1 j else F3 j, ⟨f3.sub, by rw [backG_len, lg], fun i s e => ?_, fun i k a h1 h2 => ?_, fun i h a => ?_⟩, fun i a h => ?_, ?_⟩
  · by_cases hi : i ∈ vs
    · by_cases hl : i < g2.length
      · rw [backG_in hl hi] at e
        have e' : g1[i]? = some (some s) := by
          rw [List.getD_eq_getElem?_getD] at e
          cases z : g1[i]? with
          | none => rw [z] at e; cases e
          | some o => rw [z] at e; exact e
        obtain ⟨v, e1, r⟩ := f1'.rep i s e'
        refine ⟨v, e1, ?_⟩
        rw [if_pos hi]
        exact r.past st3 (dj hi)
      · rw [List.getElem?_eq_none (by rw [backG_len]; omega)] at e; cases e
    · rw [backG_out hi] at e
      obtain ⟨v, e1, r⟩ := f3.rep i s e
      refine ⟨v, by rw [← wipe_out' hi]; exact e1, ?_⟩
      rw [if_neg hi]; exact r
  · by_cases hi : i ∈ vs
    · by_cases hk : k ∈ vs
      · rw [if_pos hi] at h1; rw [if_pos hk] at h2; exact f1.sep i k a h1 h2
      · rw [if_pos hi] at h1; rw [if_neg hk] at h2; exact (cross hi h1 h2).elim
    · by_cases hk : k ∈ vs
      · rw [if_neg hi] at h1; rw [if_pos hk] at h2; exact (cross hk h2 h1).elim
      · rw [if_neg hi] at h1; rw [if_neg hk] at h2; exact f3.sep i k a h1 h2
  · by_cases hi : i ∈ vs
    · rw [if_pos hi]
      refine f1.emp i (fun s q => h s ?_) a
      have hl : i < g2.length := by
        rw [lg, ← f1.len]
        exact (List.getElem?_eq_some_iff.mp q).1
      rw [backG_in hl hi, List.getD_eq_getElem?_getD, q]; rfl
    · rw [if_neg hi]
      refine f3.emp i (fun s q => h s ?_) a
      rw [backG_out hi]; exact q
  · by_cases hi : i ∈ vs
    · change (if i ∈ vs then F1 i else F3 i) a at h
      rw [if_pos hi] at h; exact fA h
    · change (if i ∈ vs then F1 i else F3 i) a at h
      rw [if_neg hi] at h; exact fun e => nA ⟨i, e ▸ h⟩
  · have a1 := st1.trans (gw.stp (U := Un F1))
    have a2 := Stp.beside (T := fun b => ∃ i, i ∈ vs ∧ F1 i b) st3
    have a3 := a2.more (U' := fun b => Un F1 b ∨ b = A) fun b q => by
      rcases q with (⟨j, q⟩ | q) | ⟨j, _, q⟩
      · by_cases hj : j ∈ vs
        · rw [if_pos hj] at q; exact q.elim
        · rw [if_neg hj] at q; exact .inl ⟨j, q⟩
      · exact .inr q
      · exact .inl ⟨j, q⟩
    refine (a1.trans a3).less fun b q => ?_
    rcases q with ⟨j, q⟩ | q
    · by_cases hj : j ∈ vs
      · rw [if_pos hj] at q; exact .inr ⟨j, hj, q⟩
      · rw [if_neg hj] at q; exact .inl (.inl ⟨j, q⟩)
    · exact .inl (.inr q)
theorem compL_wiped {vs : List Nat} {mt : D → M Unit} {mc : M Bool} {me : M Arg} : ∀ {ds : List D} {g g' : G} {xs : List D}, wipeG g vs = g → compL vs mt mc me ds g = some (xs, g') → wipeG g' vs = g'
  | [], _, _, _, w, h => by cases h; exact w
  | d :: ds, g, g', xs, _, h => by
    obtain ⟨_, g1, _, h⟩ := M.bind_some h
    obtain ⟨c, g2, _, h⟩ := M.bind_some h
    cases c with
    | true =>
      rw [if_pos rfl] at h
      obtain ⟨r, g3, _, h⟩ := M.bind_some h
      obtain ⟨x, g4, _, h⟩ := M.bind_some h
      obtain ⟨_, g5, e5, h⟩ := M.bind_some h
      obtain ⟨ys, g6, e6, h⟩ := M.bind_some h
      obtain ⟨rfl, rfl⟩ := M.pure_some h
      cases e5
      exact compL_wiped (wipe_again vs g4) e6
    | false =>
      rw [if_neg Bool.false_ne_true] at h
      obtain ⟨_, g5, e5, h⟩ := M.bind_some h
      cases e5
      exact compL_wiped (wipe_again vs g2) h
theorem un_wipe {F : Fs} {vs : List Nat} {b : Addr} (h : Un (fun j => if j ∈ vs then fun _ => False else F j) b) : Un F b := by
  obtain ⟨j, z⟩ := h
  by_cases hj : j ∈ vs
  · rw [if_pos hj] at z; exact z.elim
  · rw [if_neg hj] at z; exact ⟨j, z⟩
set_option maxHeartbeats 16000000 in
theorem lc_read {wi : M (List D)} {vs : List Nat} {mt : D → M Unit} {mc : M Bool} {me : M Arg} {σ : L2.St} {H : Hp} {Q : VK} (h : tA K (mComp wi vs mt mc me) σ H Q) :
    tLc (tI K wi) (tG K (fun i => i ∉ vs) mt) (tT K mc) (tA K me) vs σ H Q := by
  obtain ⟨g, Z, F, ro, g', e, f, post⟩ := h
  obtain ⟨ds, g1, e1, e⟩ := M.bind_some e
  change (if ds.length ≤ 100000 then
    match compL vs mt mc me ds (wipeG g1 vs) with
    | none => none
    | some (xs, g') => some (Arg.tmp (.lst xs), backG g1 vs g')
  else none) = _ at e
  split at e
  · rename_i hlen
    split at e
    · cases e
    · rename_i xs g2 e2
      cases e
      refine ⟨g, Z, F, ds, g1, e1, f, fun J H1 Z1 F1 f1 st1 wk A hA => ?_⟩
      have f1w := f1.wipe vs
      have zA : Z1 A = none := zfree f1.sub hA
      have w2 : wipeG g2 vs = g2 := compL_wiped (wipe_again vs g1) e2
      let F0 : Fs := fun j => if j ∈ vs then fun _ => False else F1 j
      let W : Nat → Nat → Hp → Prop := fun i m H3 => m + i = ds.length ∧ ∃ g3 Z3 F3 dn ys, CompI K vs mt mc me ds xs g2 σ Z1 (upd H1 A (.lst [])) A F0 i H3 g3 Z3 F3 dn ys
      refine ⟨W, ⟨ds.length, by omega, wipeG g1 vs, Z1, F0, [], xs, by rw [List.drop_zero]; exact e2, rfl, Nat.zero_le _, f1w.grow (Gw.lst f1.sub hA), ⟨A, [], rfl, upd_same, zA, .nil, fun _ => Iff.rfl⟩, fun z => ?_, Stp.refl⟩, fun i m H3 hW => ?_⟩
      · obtain ⟨o, z⟩ := f1w.inH z
        rw [hA] at z; cases z
      · obtain ⟨em, g3, Z3, F3, dn, ys, ci⟩ := hW
        have f3 := ci.fine
        have rA := ci.acc
        have nA := ci.apart
        have e3 := ci.run
        obtain ⟨go, stop, yld⟩ := wk Z3 H3 ci.stp.sub f3.sub
        by_cases hi : i < ds.length
        · obtain ⟨d, rest, ed, erest⟩ : ∃ d rest, ds.drop i = d :: rest ∧ ds.drop (i + 1) = rest := ⟨ds[i], ds.drop (i + 1), List.drop_eq_getElem_cons hi, rfl⟩
          have eg : ds[i]? = some d := by
            have := List.drop_eq_getElem_cons hi
            rw [this] at ed
            rw [List.getElem?_eq_getElem hi]
            exact congrArg some (List.cons.inj ed).1
          rw [ed] at e3
          obtain ⟨_, g4, e4, e3⟩ := M.bind_some e3
          obtain ⟨c, g5, e5, e3⟩ := M.bind_some e3
          refine .inr ⟨go i hi, W (i + 1) (m - 1), fun H' w => ⟨m - 1, by omega, w⟩, fun x H4 y => ?_⟩
          obtain ⟨Z4, w4, r4⟩ := yld i d x H4 eg y
          obtain ⟨f4, st4⟩ := f3.stepGw w4
          have dA : ∀ a, a = A → ¬ Un F3 a := fun a q => q ▸ nA
          refine ⟨g3, Z4, F3, d, g4, e4, f4, r4, fun σ5 H5 Z5 F5 f5 p5 l5 st5 => ⟨wipe_same (by rw [l5, wipe_length]) p5, ?_⟩⟩
          have ws : L2.wipe σ5 vs = L2.wipe σ vs := wipe_same (by rw [l5, wipe_length]) p5
          refine ⟨g4, Z5, F5, c, g5, e5, f5, fun H6 Z6 F6 f6 st6 => ?_⟩
          have sA := (st4.trans st5).trans st6
          have rA6 := rA.past sA dA
          have nA6 : ¬ Un F6 A := rA.apart sA dA rfl
          cases c with
          | false =>
            show W (i + 1) (m - 1) H6
            rw [if_neg Bool.false_ne_true] at e3
            obtain ⟨_, g7, e7, e3⟩ := M.bind_some e3
            cases e7
            have f7 := f6.wipe vs
            rw [ws] at f7
            refine ⟨by omega, wipeG g5 vs, Z6, _, dn, ys, by rw [erest]; exact e3, ci.eq, Nat.le_succ_of_le ci.few, f7, rA6, fun z => nA6 (un_wipe z), ?_⟩
            exact (ci.stp.trans (Stp.beside (T := fun b => b = A) sA)).less fun b q => q.imp un_wipe id
          | true =>
            show tA K me σ5 H6 fun y H4 => ∃ acc, H4 A = some (.lst acc) ∧ acc.length < sizeLine ∧ W (i + 1) (m - 1) (upd H4 A (.lst (acc ++ [y])))
            rw [if_pos rfl] at e3
            obtain ⟨r, g7, e7, e3⟩ := M.bind_some e3
            obtain ⟨z, g8, e8, e3⟩ := M.bind_some e3
            obtain ⟨_, g9, e9, e3⟩ := M.bind_some e3
            obtain ⟨zs, g10, e10, e3⟩ := M.bind_some e3
            obtain ⟨ey, rfl⟩ := M.pure_some e3
            cases e9
            refine ⟨g5, Z6, F6, r, g7, e7, f6, fun v H7 Z7 F7 T7 f7 a7 s7 st7 => ?_⟩
            obtain ⟨Z8, F8, f8, r8, st8⟩ := esc_ok f7 a7 s7 e8
            have s78 := st7.trans st8
            have dA6 : ∀ a, a = A → ¬ Un F6 a := fun a q => q ▸ nA6
            have rA8 := rA6.past s78 dA6
            have nA8 : ¬ Un F8 A := rA6.apart s78 dA6 rfl
            obtain ⟨A', acc, eA, hacc, zA8, racc, _⟩ := id rA8
            cases eA
            have la : acc.length ≤ i := by rw [racc.length]; exact ci.few
            refine ⟨acc, hacc, line_gt (by omega), ?_⟩
            have f9 := (f8.other (o := .lst (acc ++ [v])) nA8 zA8).wipe vs
            rw [ws] at f9
            refine ⟨by omega, wipeG g8 vs, Z8, _, dn ++ [z], zs, by rw [erest]; exact e10, ?_, ?_, f9, ⟨A, acc ++ [v], rfl, upd_same, zA8, racc.append (.cons r8 .nil), fun _ => Iff.rfl⟩, fun z => nA8 (un_wipe z), ?_⟩
            · rw [ci.eq, ← ey, List.append_assoc]; rfl
            · rw [List.length_append]; exact Nat.succ_le_succ ci.few
            · exact ((ci.stp.trans (Stp.beside (T := fun b => b = A) (sA.trans s78))).writes (.inr rfl) ⟨_, hacc⟩).less fun b q => q.imp un_wipe id
        · have ei : i = ds.length := by omega
          subst ei
          rw [List.drop_length] at e3
          obtain ⟨ey, rfl⟩ := M.pure_some e3
          refine .inl ⟨stop, ?_⟩
          have exs : xs = dn := by rw [ci.eq, ← ey, List.append_nil]
          subst exs
          obtain ⟨F', f', d', s'⟩ := comp_end f1 st1 hA f3 w2 rA nA ci.stp
          exact post (.ref A) H3 Z3 F' (fun b => b = A) f' rA d' s'
  · cases e
theorem e_lc {elt tg iter : Expr} {ifs : List Expr} {scope : Scope} {own : List (Str × Nat)} {pos : Pos} {wi : M (List D)} {mt : D → M Unit} {mc : M Bool} {me : M Arg} (hc : X.calm = true) (hN : X.N.Nodup) (hi : EI X tg iter wi)
    (ok : BlkOk X.N X.env.scope scope own)
    (hg : ∀ (s : Shared) (H : Hp) (C : Addr) (cl : List (Str × Addr)) (fp : List Addr), EG (X.blk s H scope (compEnvC scope cl C X.env) fp) (fun i => i ∉ own.map (·.2)) tg mt)
    (ht : ∀ (s : Shared) (H : Hp) (C : Addr) (cl : List (Str × Addr)) (fp : List Addr), PTs (X.blk s H scope (compEnvC scope cl C X.env) fp) ifs (tT X.K mc))
    (he : ∀ (s : Shared) (H : Hp) (C : Addr) (cl : List (Str × Addr)) (fp : List Addr), EA (X.blk s H scope (compEnvC scope cl C X.env) fp) elt me)
    (hs : ∀ x, foldedSetIterable iter X.env x = pure x := by intro _; rfl) : EA X (.ListComp elt [⟨tg, iter, ifs, 0⟩] scope pos) (mComp wi (own.map (·.2)) mt mc me) :=
  PE_imp (pe_lc hc hN hi ok hg ht he hs) fun _ _ _ h => lc_read h
/-- name = [..] on one line -/
theorem s_setLc {i : Nat} {y : Str} {py : Pos} {elt tg iter : Expr} {ifs : List Expr} {scope : Scope} {own : List (Str × Nat)} {pos spos : Pos} {wi : M (List D)} {mt : D → M Unit} {mc : M Bool} {me : M Arg} (hc : X.calm = true) (hN : X.N.Nodup)
    (hy : X.N[i]? = some y) (hyl : X.env.scope.names.lookup y = some .local) (hp : ¬ pr i) (hsw : swapsWith (.ListComp elt [⟨tg, iter, ifs, 0⟩] scope pos) (some (.Name y py)) spos.line X.env = pure true) (hi : EI X tg iter wi)
    (ok : BlkOk X.N X.env.scope scope own)
    (hg : ∀ (s : Shared) (H : Hp) (C : Addr) (cl : List (Str × Addr)) (fp : List Addr), EG (X.blk s H scope (compEnvC scope cl C X.env) fp) (fun i => i ∉ own.map (·.2)) tg mt)
    (ht : ∀ (s : Shared) (H : Hp) (C : Addr) (cl : List (Str × Addr)) (fp : List Addr), PTs (X.blk s H scope (compEnvC scope cl C X.env) fp) ifs (tT X.K mc))
    (he : ∀ (s : Shared) (H : Hp) (C : Addr) (cl : List (Str × Addr)) (fp : List Addr), EA (X.blk s H scope (compEnvC scope cl C X.env) fp) elt me)
    (hs : ∀ x, foldedSetIterable iter X.env x = pure x := by intro _; rfl) : ES X pr (.Assign [.Name y py] (.ListComp elt [⟨tg, iter, ifs, 0⟩] scope pos) spos) (cSet i (mComp wi (own.map (·.2)) mt mc me)) :=
  PS_imp (ps_setLc hc hN hy hyl hsw hi ok hg ht he hs) fun D σ H h => by
  obtain ⟨g, Z, F, fl, g', e, f, post⟩ := h
  obtain ⟨r, g1, e1, e⟩ := M.bind_some e
  obtain ⟨_, g2, e2, e⟩ := M.bind_some e
  cases e
  refine lc_read ⟨g, Z, F, r, g1, e1, f, fun v H1 Z1 F1 T f1 a1 s1 st1 => ?_⟩
  show D.nx (σ.set i (some v)) H1
  cases r with
  | tmp s =>
    change (if i < g1.length then some ((), g1.set i (some s)) else none) = _ at e2
    split at e2
    · rename_i hl
      cases e2
      exact post _ H1 Z1 _ (f1.set hl a1 s1) (set_other hp) (st1.less fun b q => un_set q)
    · cases e2
  | slot j =>
    obtain ⟨ds, g3, _, e1⟩ := M.bind_some e1
    change (if ds.length ≤ 100000 then
      match compL (own.map (·.2)) mt mc me ds (wipeG g3 (own.map (·.2))) with
      | none => none
      | some (xs, g') => some (Arg.tmp (.lst xs), backG g3 (own.map (·.2)) g')
    else none) = _ at e1
    split at e1
    · split at e1
      · cases e1
      · cases e1
    · cases e1
end
end DL

/-! The data layer, part E: defs and calls of defs; lists that are changed in place. -/
namespace DL
open PySem PySem.Spec PyProof.Rows L2
section
variable {K : PySem.W.Frag} {Z Z1 H H1 : Hp} {σ : L2.St} {g g' : G} {F : Fs} {T U U1 : Fp}
def SRepL (K : PySem.W.Frag) (Z H : Hp) : List V → List S → Fp → Prop
  | [], [], U => ∀ a, ¬ U a
  | v :: vs, s :: ss, U => ∃ F1 F2, RepS K Z H v s F1 ∧ SRepL K Z H vs ss F2 ∧ (∀ a, F1 a → ¬ F2 a) ∧ ∀ a, U a ↔ F1 a ∨ F2 a
  | _, _, _ => False
theorem SRepL.there : ∀ {vs : List V} {ss : List S} {T : Fp}, SRepL K Z H vs ss T → ∀ {a : Addr}, T a → ∃ o, H a = some o
  | [], [], _, h, a, q => absurd q (h a)
  | v :: vs, r :: rs, _, ⟨F1, F2, h1, h2, _, e⟩, a, q => by
    rcases (e a).mp q with z | z
    · exact h1.there z
    · exact SRepL.there h2 z
theorem SRepL.notZ : ∀ {vs : List V} {ss : List S} {T : Fp}, SRepL K Z H vs ss T → ∀ {a : Addr}, T a → Z a = none
  | [], [], _, h, a, q => absurd q (h a)
  | v :: vs, r :: rs, _, ⟨F1, F2, h1, h2, _, e⟩, a, q => by
    rcases (e a).mp q with z | z
    · exact h1.notZ z
    · exact SRepL.notZ h2 z
theorem SRepL.past (st : Stp Z H U Z1 H1 U1) : ∀ {vs : List V} {rs : List S} {T : Fp}, SRepL K Z H vs rs T → (∀ a, T a → ¬ U a) → SRepL K Z1 H1 vs rs T
  | [], [], _, h, _ => h
  | v :: vs, r :: rs, _, ⟨F1, F2, h1, h2, s, e⟩, d => ⟨F1, F2, h1.past st fun a q => d a ((e a).mpr (.inl q)), SRepL.past st h2 fun a q => d a ((e a).mpr (.inr q)), s, e⟩
theorem SRepL.length : ∀ {vs : List V} {rs : List S} {T : Fp}, SRepL K Z H vs rs T → vs.length = rs.length
  | [], [], _, _ => rfl
  | v :: vs, r :: rs, _, ⟨F1, F2, h1, h2, s, e⟩ => congrArg (· + 1) (SRepL.length h2)
theorem SRepL.vals (dvs : List V) (dds : List D) (h : Reps K Z dvs dds) : SRepL K Z H dvs (dds.map S.val) (fun _ => False) := by
  induction dvs generalizing dds with
  | nil => cases h; exact fun _ => id
  | cons v vs ih =>
    cases h with
    | cons a r => exact ⟨fun _ => False, fun _ => False, ⟨a, fun _ => id⟩, ih _ r, fun _ z => z.elim, fun _ => ⟨.inl, fun z => z.elim id id⟩⟩
theorem SRepL.append {dvs : List V} {dss : List S} (h2 : SRepL K Z H dvs dss (fun _ => False)) : ∀ {vs : List V} {ss : List S} {T : Fp}, SRepL K Z H vs ss T → SRepL K Z H (vs ++ dvs) (ss ++ dss) T
  | [], [], T, h => by
    have e : T = fun _ => False := funext fun a => propext ⟨fun z => h a z, fun z => z.elim⟩
    rw [e]; exact h2
  | v :: vs, s :: ss, T, ⟨F1, F2, h1, h, d, e⟩ => ⟨F1, F2, h1, SRepL.append h2 h, d, e⟩
theorem SRepL.cut {dvs : List V} : ∀ {vs : List V} {ss ss2 : List S} {T : Fp}, SRepL K Z H (vs ++ dvs) ss T → ∃ T', SRepL K Z H vs (ss.take vs.length) T' ∧ ∀ a, T' a → T a
  | [], ss, _, T, h => ⟨fun _ => False, by simp [SRepL], fun _ z => z.elim⟩
  | v :: vs, [], _, T, h => by simp [SRepL] at h
  | v :: vs, s :: ss, ss2, T, ⟨F1, F2, h1, h, d, e⟩ => by
    obtain ⟨T', q, i⟩ := SRepL.cut (ss2 := ss2) h
    exact ⟨fun a => F1 a ∨ T' a, ⟨F1, T', h1, q, fun a z y => d a z (i a y), fun _ => Iff.rfl⟩, fun a z => (e a).mpr (z.imp id (i a))⟩

/-- what is handed over: an owned thing of a slot goes along -/
def takes : List Arg → M (List S)
  | [] => pure []
  | .tmp s :: rs => do let ss ← takes rs; pure (s :: ss)
  | .slot i :: rs => do
    let s ← (fun g => match g[i]? with
      | some (some (.val d)) => some (S.val d, g)
      | some (some s) => some (s, g.set i none)
      | _ => none : M S)
    let ss ← takes rs
    pure (s :: ss)
/-- and comes back -/
def puts : List Arg → List S → M Unit
  | .slot i :: rs, s :: ss => do
    (fun g => match g[i]? with
      | some none => some ((), g.set i (some s))
      | _ => some ((), g) : M Unit)
    puts rs ss
  | .tmp _ :: rs, _ :: ss => puts rs ss
  | _, _ => pure ()
theorem Fine.takeAt {i : Nat} {s : S} (f : Fine K Z H σ g F) (e : g[i]? = some (some s)) {v : V} (hv : σ[i]? = some (some v)) :
    RepS K Z H v s (F i) ∧ Fine K Z H σ (g.set i none) (fun j => if j = i then fun _ => False else F j) := by
  obtain ⟨w, e2, r2⟩ := f.rep i s e
  rw [e2] at hv; cases hv
  exact ⟨r2, f.drop i⟩
theorem takes_ok : ∀ {vs : List V} {rs : List Arg} {ss : List S} {T : Fp} {g g' : G} {F : Fs}, Fine K Z H σ g F → ARepL K Z H σ vs rs T → (∀ i a, F i a → ¬ T a) → takes rs g = some (ss, g') →
    ∃ F' T', Fine K Z H σ g' F' ∧ SRepL K Z H vs ss T' ∧ (∀ i a, F' i a → ¬ T' a) ∧ (∀ i a, F' i a → F i a) ∧ ∀ a, T' a → Un F a ∨ T a
  | [], [], _, T, g, _, F, f, h, s, e => by cases e; exact ⟨F, fun _ => False, f, fun _ => id, fun _ _ _ => id, fun _ _ h => h, fun _ z => z.elim⟩
  | v :: vs, .tmp t :: rs, _, T, g, _, F, f, ⟨F1, F2, h1, h2, d, e0⟩, s, e => by
    obtain ⟨ss, g1, e1, e⟩ := M.bind_some e
    cases e
    obtain ⟨F', T', f', r', s', i', t'⟩ := takes_ok f h2 (fun i a q z => s i a q ((e0 a).mpr (.inr z))) e1
    refine ⟨F', fun a => F1 a ∨ T' a, f', ⟨F1, T', h1, r', fun a q z => ?_, fun _ => Iff.rfl⟩, fun i a q z => ?_, i', fun a z => ?_⟩
    · rcases t' a z with ⟨j, y⟩ | y
      · exact s j a y ((e0 a).mpr (.inl q))
      · exact d a q y
    · rcases z with z | z
      · exact s i a (i' i a q) ((e0 a).mpr (.inl z))
      · exact s' i a q z
    · rcases z with z | z
      · exact .inr ((e0 a).mpr (.inl z))
      · exact (t' a z).imp id fun y => (e0 a).mpr (.inr y)
  | v :: vs, .slot i :: rs, _, T, g, _, F, f, ⟨F1, F2, h1, h2, d, e0⟩, s, e => by
    obtain ⟨t, g0, e2, e⟩ := M.bind_some e
    obtain ⟨ss, g1, e1, e⟩ := M.bind_some e
    cases e
    have s2 : ∀ i a, F i a → ¬ F2 a := fun i a q z => s i a q ((e0 a).mpr (.inr z))
    change (match g[i]? with
      | some (some (.val d)) => some (S.val d, g)
      | some (some s) => some (s, g.set i none)
      | _ => none) = _ at e2
    split at e2
    · rename_i dd hd
      cases e2
      obtain ⟨F', T', f', r', s', i', t'⟩ := takes_ok f h2 s2 e1
      obtain ⟨w, e3, r3⟩ := f.rep i _ hd
      rw [h1.1] at e3; cases e3
      refine ⟨F', T', f', ⟨fun _ => False, T', ⟨r3.1, fun _ => id⟩, r', fun _ z => z.elim, fun _ => ⟨.inr, fun z => z.elim (fun z => z.elim) id⟩⟩, s', i', fun a z => (t' a z).imp id fun y => (e0 a).mpr (.inr y)⟩
    · rename_i t' _ hd
      cases e2
      obtain ⟨r3, f3⟩ := f.takeAt hd h1.1
      have z3 : ∀ j a, (if j = i then fun _ => False else F j : Fp) a → F j a ∧ j ≠ i := fun j a q => by
        by_cases hj : j = i
        · rw [if_pos hj] at q; exact q.elim
        · rw [if_neg hj] at q; exact ⟨q, hj⟩
      obtain ⟨F', T', f', r', s', i', t'⟩ := takes_ok f3 h2 (fun j a q => s2 j a (z3 j a q).1) e1
      refine ⟨F', fun a => F i a ∨ T' a, f', ⟨F i, T', r3, r', fun a q z => ?_, fun _ => Iff.rfl⟩, fun j a q z => ?_, fun j a q => (z3 j a (i' j a q)).1, fun a z => ?_⟩
      · rcases t' a z with ⟨j, y⟩ | y
        · exact (z3 j a y).2 (f.sep j i a (z3 j a y).1 q)
        · exact s2 i a q y
      · rcases z with z | z
        · exact (z3 j a (i' j a q)).2 (f.sep j i a (z3 j a (i' j a q)).1 z)
        · exact s' j a q z
      · rcases z with z | z
        · exact .inl ⟨i, z⟩
        · rcases t' a z with ⟨j, y⟩ | y
          · exact .inl ⟨j, (z3 j a y).1⟩
          · exact .inr ((e0 a).mpr (.inr y))
    · cases e2
/-- a slot that is empty gets its thing back -/
theorem Fine.putAt {i : Nat} {s : S} {v : V} (f : Fine K Z H σ g F) (e : g[i]? = some none) (hv : σ[i]? = some (some v)) (r : RepS K Z H v s T) (d : ∀ j a, F j a → ¬ T a) :
    Fine K Z H σ (g.set i (some s)) (fun j => if j = i then T else F j) := by
  have h := f.set (List.getElem?_eq_some_iff.mp e).1 r d
  rw [set_self hv] at h
  exact h
theorem puts_ok : ∀ {vs : List V} {rs : List Arg} {ss : List S} {T T0 : Fp} {g g' : G} {F : Fs} {Z0 H0 : Hp}, Fine K Z H σ g F → ARepL K Z0 H0 σ vs rs T0 → SRepL K Z H vs ss T → (∀ i a, F i a → ¬ T a) → puts rs ss g = some ((), g') →
    ∃ F', Fine K Z H σ g' F' ∧ ∀ a, Un F' a → Un F a ∨ T a
  | [], [], [], T, _, g, _, F, _, _, f, _, h, s, e => by cases e; exact ⟨F, f, fun _ => .inl⟩
  | v :: vs, .tmp t :: rs, s' :: ss, T, _, g, _, F, _, _, f, ⟨F1, F2, h1, h2, _, _⟩, ⟨G1, G2, q1, q2, d, e0⟩, s, e => by
    obtain ⟨F', f', i⟩ := puts_ok f h2 q2 (fun i a q z => s i a q ((e0 a).mpr (.inr z))) e
    exact ⟨F', f', fun a z => (i a z).imp id fun y => (e0 a).mpr (.inr y)⟩
  | v :: vs, .slot i :: rs, s' :: ss, T, _, g, _, F, _, _, f, ⟨F1, F2, h1, h2, _, _⟩, ⟨G1, G2, q1, q2, d, e0⟩, s, e => by
    obtain ⟨_, g1, e1, e⟩ := M.bind_some e
    change (match g[i]? with
      | some none => some ((), g.set i (some s'))
      | _ => some ((), g)) = _ at e1
    split at e1
    · rename_i hn
      cases e1
      have f1 := f.putAt hn h1.1 q1 (fun j a q z => s j a q ((e0 a).mpr (.inl z)))
      have s3 : ∀ j a, (if j = i then G1 else F j : Fp) a → ¬ G2 a := fun j a q z => by
        by_cases hj : j = i
        · rw [if_pos hj] at q; exact d a q z
        · rw [if_neg hj] at q; exact s j a q ((e0 a).mpr (.inr z))
      obtain ⟨F', f', k⟩ := puts_ok f1 h2 q2 s3 e
      refine ⟨F', f', fun a z => ?_⟩
      rcases k a z with y | y
      · exact (un_set y).imp id fun y => (e0 a).mpr (.inl y)
      · exact .inr ((e0 a).mpr (.inr y))
    · cases e1
      obtain ⟨F', f', i⟩ := puts_ok f h2 q2 (fun i a q z => s i a q ((e0 a).mpr (.inr z))) e
      exact ⟨F', f', fun a z => (i a z).imp id fun y => (e0 a).mpr (.inr y)⟩
  | [], [], _ :: _, _, _, _, _, _, _, _, _, _, h, _, _ => by cases h
  | _ :: _, _ :: _, [], _, _, _, _, _, _, _, _, _, h, _, _ => by cases h
  | [], _ :: _, _, _, _, _, _, _, _, _, _, h, _, _, _ => by cases h
  | _ :: _, [], _, _, _, _, _, _, _, _, _, h, _, _, _ => by cases h

/-! ### the promise of a def -/
abbrev Fm := List S → Option (S × List S)
def spF (K : PySem.W.Frag) (fm : Fm) : Sp := fun vs H Q _ => ∃ ss Z T r ss', fm ss = some (r, ss') ∧ Same Z H ∧ SRepL K Z H vs ss T ∧
  ∀ v H' Z' T' Tv, Same Z' H' → SRepL K Z' H' vs ss' T' → RepS K Z' H' v r Tv → (∀ a, T' a → ¬ Tv a) → Stp Z H T Z' H' (fun b => T' b ∨ Tv b) → Q v H'
def callM (fm : Fm) (dds : List D) (rs : List Arg) : M Arg := do
  let ss ← takes rs
  let o ← up (fm (ss ++ dds.map .val))
  puts rs o.2
  pure (.tmp o.1)
def mCall (fm : Fm) (dds : List D) (a : M (List Arg)) : M Arg := do let rs ← a; callM fm dds rs
theorem SRepL.cut' {vs dvs : List V} {ss : List S} {T : Fp} (h : SRepL K Z H (vs ++ dvs) ss T) : ∃ T', SRepL K Z H vs (ss.take vs.length) T' ∧ ∀ a, T' a → T a := SRepL.cut (ss2 := []) h
theorem puts_take : ∀ {rs : List Arg} {ss : List S} {n : Nat}, rs.length ≤ n → puts rs (ss.take n) = puts rs ss
  | [], _, _, _ => rfl
  | r :: rs, [], n, _ => by cases n <;> rfl
  | r :: rs, s :: ss, n + 1, h => by
    have ih := puts_take (rs := rs) (ss := ss) (n := n) (Nat.le_of_succ_le_succ h)
    cases r with
    | tmp t => exact ih
    | slot i => show (do _; puts rs (ss.take n)) = (do _; puts rs ss); rw [ih]
theorem call_read {ma : M (List Arg)} {fm : Fm} {dvs : List V} {dds : List D} (hd : ∀ Z, Reps K Z dvs dds) {E : XK} {σ : L2.St} {H : Hp} {Q : VK} (h : tA K (mCall fm dds ma) σ H Q) :
    tAs K ma σ H fun vs H1 => spF K fm (vs ++ dvs) H1 Q E := by
  obtain ⟨g, Z, F, ro, g', e, f, post⟩ := h
  obtain ⟨rs, g1, e1, e⟩ := M.bind_some e
  obtain ⟨ss, g2, e2, e⟩ := M.bind_some e
  obtain ⟨o, g3, e3, e⟩ := M.bind_some e
  obtain ⟨e5, rfl⟩ := up_some e3
  obtain ⟨r, ss'⟩ := o
  obtain ⟨_, g4, e4, e⟩ := M.bind_some e
  obtain ⟨rfl, rfl⟩ := M.pure_some e
  refine ⟨g, Z, F, rs, g1, e1, f, fun vs H1 Z1 F1 T1 f1 a1 s1 st1 => ?_⟩
  obtain ⟨F2, T2, f2, r2, s2, i2, t2⟩ := takes_ok f1 a1 s1 e2
  refine ⟨ss ++ dds.map .val, Z1, T2, r, ss', e5, f1.sub, (SRepL.vals dvs dds (hd Z1)).append r2, fun v H' Z' T' Tv sub' rs' rv dv st' => ?_⟩
  obtain ⟨T3, r3, i3⟩ := rs'.cut'
  have d2 : ∀ i a, F2 i a → ¬ T2 a := s2
  have f2' : Fine K Z' H' σ g2 F2 := by
    refine ⟨sub', f2.len, fun i s e => ?_, f2.sep, f2.emp⟩
    obtain ⟨w, e5, r5⟩ := f2.rep i s e
    exact ⟨w, e5, r5.past st' fun a q => d2 i a q⟩
  have ap : ∀ i a, F2 i a → ¬ (T' a ∨ Tv a) := fun i a q => by
    obtain ⟨s, w, _, _, r5⟩ := f2.there q
    exact r5.apart st' (fun a q => d2 i a q) q
  have l3 : rs.length ≤ vs.length := Nat.le_of_eq a1.length.symm
  have e4' : puts rs (ss'.take vs.length) g2 = some ((), g4) := by rw [puts_take l3]; exact e4
  obtain ⟨F3, f3, i4⟩ := puts_ok f2' a1 r3 (fun i a q z => ap i a q (.inl (i3 a z))) e4'
  refine post v H' Z' F3 Tv f3 rv (fun i a q z => ?_) ?_
  · rcases i4 a ⟨i, q⟩ with ⟨j, y⟩ | y
    · exact ap j a y (.inr z)
    · exact dv a (i3 a y) z
  · have st2 : Stp Z1 H1 (fun b => Un F1 b ∨ T1 b) Z' H' (fun b => (T' b ∨ Tv b) ∨ Un F2 b) := (Stp.beside (T := Un F2) st').more fun b q => by
      rcases q with q | ⟨j, q⟩
      · exact t2 b q
      · exact .inl ⟨j, i2 j b q⟩
    refine (st1.trans st2).less fun b q => ?_
    rcases q with q | q
    · rcases i4 b q with y | y
      · exact .inr y
      · exact .inl (.inl (i3 b y))
    · exact .inl (.inr q)
end
section
variable {X : Cx}
theorem e_call {x : Str} {k : Nat} {f : Addr} {fd : FuncData} {ps : List Str} {fm : Fm} {ds : List Value} {dvs : List V} {dds : List D} {p pos : Pos} {e : Expr} {es : List Expr} {ma : M (List Arg)}
    (F : FnOk X.prog X.w X.K X.mg X.base CX0 k f fd ps (spF X.K fm)) (hr : Room k X.A) (hg : Gl X x) (hm : X.mg x = some (.ref f)) (hk : PySem.W.keepIn X.K (.ref f) = true) (hb : Binds X.K fd ps ds) (hd : Vals dvs ds) (hdd : ∀ Z, Reps X.K Z dvs dds)
    (ha : EL X (e :: es) ma) (hdb : (x == ("__debug__" : Str)) = false := by decide) (he : starEach (e :: es) X.env = (false, eval e X.env) :: starEach es X.env := by rfl) (hpl : (backTo pos (starEach es X.env)).any (·.1) = false := by rfl) :
    EA X (.Call (.Name x p) (e :: es) [] pos) (mCall fm dds ma) := PE_imp (pe_call F hr hg hm hk hb hd pass0 ha hdb he hpl) fun _ _ _ h => call_read hdd h
end

/-! ### a def's body -/
def outs (pr : Nat → Bool) : Nat → List S → G → Option (List S)
  | _, [], _ => some []
  | i, s :: ss, g => match outs pr (i + 1) ss g with
    | none => none
    | some rest => if pr i = true then (match g[i]? with
        | some (some s') => some (s' :: rest)
        | _ => none)
      else (match s with
        | .val d => some (.val d :: rest)
        | _ => none)
def fnM (np nl : Nat) (pr : Nat → Bool) (body : M Fl) : Fm := fun ss =>
  if ss.length = np then
    match body (ss.map some ++ List.replicate (nl - np) none) with
    | some (.ret r, g') => (outs pr 0 ss g').map fun o => (r, o)
    | some (.next, g') => (outs pr 0 ss g').map fun o => (.val .non, o)
    | _ => none
  else none
section
variable {K : PySem.W.Frag} {Z Z1 H H1 : Hp} {σ : L2.St} {g g' : G} {F : Fs} {T U U1 : Fp}
theorem fine_start (n : Nat) (sub : Same Z H) : ∀ {vs : List V} {ss : List S} {T : Fp}, SRepL K Z H vs ss T → ∃ F, Fine K Z H (vs.map some ++ List.replicate n none) (ss.map some ++ List.replicate n none) F ∧ ∀ a, Un F a ↔ T a
  | [], [], T, h => ⟨fun _ _ => False, ⟨sub, by simp, fun i s e => (by
      have this : (List.replicate n (none : Option S))[i]? = some (some s) := e
      rw [List.getElem?_replicate] at this
      split at this
      · cases this
      · cases this), fun _ _ _ z => z.elim, fun _ _ _ => id⟩, fun a => ⟨fun ⟨_, z⟩ => z.elim, fun z => absurd z (h a)⟩⟩
  | v :: vs, s :: ss, T, ⟨F1, F2, h1, h2, d, e⟩ => by
    obtain ⟨F', f', i'⟩ := fine_start n sub h2
    refine ⟨fun j => match j with | 0 => F1 | j + 1 => F' j, ⟨sub, congrArg (· + 1) f'.len, fun j t q => ?_, fun j k a q1 q2 => ?_, fun j q a => ?_⟩, fun a => ⟨fun ⟨j, z⟩ => ?_, fun z => ?_⟩⟩
    · cases j with
      | zero => cases q; exact ⟨v, rfl, h1⟩
      | succ j => exact f'.rep j t q
    · cases j with
      | zero =>
        cases k with
        | zero => rfl
        | succ k => exact absurd ((i' a).mp ⟨k, q2⟩) (d a q1)
      | succ j =>
        cases k with
        | zero => exact absurd ((i' a).mp ⟨j, q1⟩) (d a q2)
        | succ k => exact congrArg (· + 1) (f'.sep j k a q1 q2)
    · cases j with
      | zero => exact absurd rfl (q s)
      | succ j => exact f'.emp j (fun t y => q t y) a
    · cases j with
      | zero => exact (e a).mpr (.inl z)
      | succ j => exact (e a).mpr (.inr ((i' a).mp ⟨j, z⟩))
    · rcases (e a).mp z with z | z
      · exact ⟨0, z⟩
      · obtain ⟨j, z⟩ := (i' a).mpr z
        exact ⟨j + 1, z⟩
theorem outs_ok {pr : Nat → Bool} {Z0 H0 : Hp} (f : Fine K Z H σ g F) (z0 : Same Z0 Z) : ∀ {vs : List V} {ss ss' : List S} {T : Fp} (i : Nat), SRepL K Z0 H0 vs ss T → outs pr i ss g = some ss' → (∀ j v, pr (i + j) = true → vs[j]? = some v → σ[i + j]? = some (some v)) →
    ∃ T', SRepL K Z H vs ss' T' ∧ ∀ a, T' a → ∃ j, i ≤ j ∧ F j a
  | [], [], _, T, i, h, e, _ => by cases e; exact ⟨fun _ => False, fun _ => id, fun _ z => z.elim⟩
  | v :: vs, s :: ss, ss', T, i, ⟨F1, F2, h1, h2, d, e0⟩, e, hp => by
    unfold outs at e
    split at e
    · cases e
    · rename_i rest er
      obtain ⟨T', r', k'⟩ := outs_ok f z0 (i + 1) h2 er (fun j w q y => by
        have := hp (j + 1) w (by rw [← q]; congr 1; omega) y
        rw [← this]; congr 1; omega)
      split at e
      · rename_i hpr
        split at e
        · rename_i s' hs
          cases e
          obtain ⟨w, e5, r5⟩ := f.rep i _ hs
          have e6 : σ[i]? = some (some v) := hp 0 v hpr rfl
          rw [e6] at e5; cases e5
          refine ⟨fun a => F i a ∨ T' a, ⟨F i, T', r5, r', fun a q z => ?_, fun _ => Iff.rfl⟩, fun a z => ?_⟩
          · obtain ⟨j, hj, y⟩ := k' a z
            have := f.sep i j a q y
            omega
          · rcases z with z | z
            · exact ⟨i, Nat.le_refl _, z⟩
            · obtain ⟨j, hj, y⟩ := k' a z
              exact ⟨j, by omega, y⟩
        · cases e
      · split at e
        · cases e
          refine ⟨T', ⟨fun _ => False, T', ⟨h1.1.mono z0, fun _ => id⟩, r', fun _ z => z.elim, fun _ => ⟨.inr, fun z => z.elim (fun z => z.elim) id⟩⟩, fun a z => ?_⟩
          obtain ⟨j, hj, y⟩ := k' a z
          exact ⟨j, by omega, y⟩
        · cases e
end
section
variable {P : Program} {w : World} {K : PySem.W.Frag} {mg : Str → Option Value} {base : Heap}
theorem start_eq {N : List Str} {vs : List V} : start N vs = vs.map some ++ List.replicate (N.length - vs.length) none := rfl
theorem fn_ok {x qual : Str} {st : Stmt} {f : Addr} {fd : FuncData} {N ps : List Str} {k : Nat} {pr : Nat → Bool} {m : M Fl} (np nl : Nat) (Fn : Fun K x qual st f fd) (S : FnScope N ps (defScope st)) (hnp : ps.length = np) (hnl : N.length = nl)
    (hbody : ∀ (cdv : Value) (A : Around) (outer : List Env) (s : Shared) (H : Hp) (E : XK), Room k (A.deeper (envOfC qual (defScope st) s.heap.objs.size f cdv)) → EB (cxOf CX0 P w K mg base N qual (defScope st) f cdv A outer s H E).nox (fun i => pr i = true) (defBody st) m) :
    FnOk P w K mg base CX0 (k + 1) f fd ps (spF K (fnM np nl pr m)) := by
  refine Fn.ok S (fun vs H Q E h => ?_) (fun cdv A outer s H vs Q E hr h => ?_)
  · obtain ⟨ss, Z, T, r, ss', e, _, rep, _⟩ := h
    unfold fnM at e
    split at e
    · rename_i hl
      rw [rep.length, hl, hnp]
    · cases e
  · refine ⟨tS K (fun i => pr i = true) m, hbody cdv A outer s H E hr, ?_⟩
    obtain ⟨ss, Z, T, r, ss', e, sub, rep, post⟩ := h
    unfold fnM at e
    split at e
    · rename_i hl
      have hv : N.length - vs.length = nl - np := by rw [rep.length, hl, hnl]
      obtain ⟨F, fine, iff⟩ := fine_start (nl - np) sub rep
      have hσ : ∀ {σ' : L2.St}, (∀ i, pr i = true → σ'[i]? = (start N vs)[i]?) → ∀ j v, pr (0 + j) = true → vs[j]? = some v → σ'[0 + j]? = some (some v) := fun {σ'} h j v q y => by
        rw [h (0 + j) q, start_eq, Nat.zero_add, List.getElem?_append_left (by rw [List.length_map]; exact (List.getElem?_eq_some_iff.mp y).1), List.getElem?_map, y]; rfl
      split at e
      · rename_i r' g' eb
        cases eo : outs pr 0 ss g' with
        | none => rw [eo] at e; cases e
        | some o =>
          rw [eo] at e; cases e
          refine ⟨_, Z, F, .ret r, g', eb, ?_, fun σ' H' Z' F' f' p' v Tv rv d st' => ?_⟩
          · rw [start_eq, hv]; exact fine
          · obtain ⟨T', q', k'⟩ := outs_ok f' st'.sub 0 rep eo (hσ p')
            refine post v H' Z' T' Tv f'.sub q' rv (fun a z => ?_) ?_
            · obtain ⟨j, _, y⟩ := k' a z
              exact d j a y
            · refine (st'.more fun b z => (iff b).mp z).less fun b z => z.imp (fun z => ?_) id
              obtain ⟨j, _, y⟩ := k' b z
              exact ⟨j, y⟩
      · rename_i g' eb
        cases eo : outs pr 0 ss g' with
        | none => rw [eo] at e; cases e
        | some o =>
          rw [eo] at e; cases e
          refine ⟨_, Z, F, .next, g', eb, ?_, fun σ' H' Z' F' f' p' st' => ?_⟩
          · rw [start_eq, hv]; exact fine
          · obtain ⟨T', q', k'⟩ := outs_ok f' st'.sub 0 rep eo (hσ p')
            refine post .non H' Z' T' (fun _ => False) f'.sub q' ⟨.non, fun _ => id⟩ (fun _ _ => id) ?_
            refine (st'.more fun b z => (iff b).mp z).less fun b z => z.elim (fun z => ?_) fun z => z.elim
            obtain ⟨j, _, y⟩ := k' b z
            exact ⟨j, y⟩
      · cases e
    · cases e
end
end DL

/-! The data layer, part F: operations. -/
namespace DL
open PySem PySem.Spec PyProof.Rows L2
section
variable {X : Cx} {K : PySem.W.Frag}
/-! ### + - * // % ** -/
def pAdd : D → D → Option S
  | .int i, .int j => some (.val (.int (i + j)))
  | .str i, .str j => if i.length + j.length ≤ 100000 then some (.val (.str (i ++ j))) else none
  | .lst a, .lst b => if a.length + b.length ≤ 100000 then some (.lst (a ++ b)) else none
  | .tup a, .tup b => if a.length + b.length ≤ 100000 then some (.val (.tup (a ++ b))) else none
  | _, _ => none
def rAddX (K : PySem.W.Frag) : R2 := fun x y H Q => rI0 (fun i j => .int (i + j)) x y H Q ∨ (∃ i j, x = .str i ∧ y = .str j ∧ i.length + j.length ≤ sizeLine ∧ Q (.str (i ++ j)) H) ∨ rCat x y H Q ∨ rCatA K x y H Q
theorem opAddX : OpR X (binaryOp .Add) (rAddX X.K) := OpR.or op_add (OpR.or op_add_str (OpR.or op_cat op_catA))
theorem okAdd : OpP K (rAddX K) pAdd := fun x y d e s Z H Q hx hy sub hp n => by
  match d, e, hp, hx, hy with
  | .int i, .int j, hp, hx, hy =>
    cases hp
    exact .inl ⟨i, j, hx.int, hy.int, n.val sub (.int _)⟩
  | .str i, .str j, hp, hx, hy =>
    simp only [pAdd] at hp
    split at hp
    · rename_i h; cases hp
      exact .inr (.inl ⟨i, j, hx.str, hy.str, line_ge h, n.val sub (.str _)⟩)
    · cases hp
  | .lst a, .lst b, hp, hx, hy =>
    simp only [pAdd] at hp
    split at hp
    · rename_i h; cases hp
      obtain ⟨p, vs, e1, h1, r1⟩ := hx.lst sub
      obtain ⟨q, ws, e2, h2, r2⟩ := hy.lst sub
      exact .inr (.inr (.inl ⟨p, q, vs, ws, e1, e2, h1, h2, by rw [r1.length, r2.length]; exact line_ge h, fun l hl => n.lst sub (r1.append r2) hl⟩))
    · cases hp
  | .tup a, .tup b, hp, hx, hy =>
    simp only [pAdd] at hp
    split at hp
    · rename_i h; cases hp
      obtain ⟨p, vs, e1, h1, r1⟩ := hx.tup sub
      obtain ⟨q, ws, e2, h2, r2⟩ := hy.tup sub
      refine .inr (.inr (.inr ⟨p, q, vs, ws, e1, e2, h1, h2, by rw [r1.length, r2.length]; exact line_ge h, fun z => ?_, fun _ z => ?_, fun _ _ l hl => n.tup sub (r1.append r2) hl⟩))
      · subst z; cases r1; subst e2; exact n.val sub hy.tupR
      · subst z; cases r2; subst e1; rw [List.append_nil] at n; exact n.val sub hx.tupR
    · cases hp
def pSub : D → D → Option S
  | .int i, .int j => some (.val (.int (i - j)))
  | _, _ => none
theorem okSub : OpP K (rI0 fun i j => .int (i - j)) pSub := fun x y d e s Z H Q hx hy sub hp n => by
  match d, e, hp, hx, hy with
  | .int i, .int j, hp, hx, hy =>
    cases hp
    exact ⟨i, j, hx.int, hy.int, n.val sub (.int _)⟩
instance (i j : Int) : Decidable (CMul i j) := by unfold CMul; infer_instance
instance (i j : Int) : Decidable (CPow i j) := by unfold CPow; infer_instance
def pMul : D → D → Option S
  | .int i, .int j => if CMul i j then some (.val (.int (i * j))) else none
  | .lst a, .int k => if -1000000 ≤ k ∧ k ≤ 1000000 ∧ a.length * k.toNat ≤ 100000 then some (.lst (List.replicate k.toNat a).flatten) else none
  | .tup a, .int k => if a.isEmpty = false ∧ -1000000 ≤ k ∧ k ≤ 1000 ∧ a.length ≤ 1000 then some (.val (.tup (List.replicate k.toNat a).flatten)) else none
  | _, _ => none
def rMulX (K : PySem.W.Frag) : R2 := fun x y H Q => rI CMul (fun i j => .int (i * j)) x y H Q ∨ rRep x y H Q ∨ rRepT K x y H Q ∨ rRepT1 K x y H Q
theorem opMulX : OpR X (binaryOp .Mult) (rMulX X.K) := OpR.or op_mul (OpR.or op_rep (OpR.or op_repT op_repT1))
theorem okMul : OpP K (rMulX K) pMul := fun x y d e s Z H Q hx hy sub hp n => by
  match d, e, hp, hx, hy with
  | .int i, .int j, hp, hx, hy =>
    simp only [pMul] at hp
    split at hp
    · rename_i h; cases hp
      exact .inl ⟨i, j, hx.int, hy.int, h, n.val sub (.int _)⟩
    · cases hp
  | .lst a, .int k, hp, hx, hy =>
    simp only [pMul] at hp
    split at hp
    · rename_i h; cases hp
      obtain ⟨p, vs, e1, h1, r1⟩ := hx.lst sub
      exact .inr (.inl ⟨p, k, vs, e1, hy.int, h1, by omega, by omega, by rw [r1.length]; exact line_ge h.2.2, fun l hl => n.lst sub (r1.rep _) hl⟩)
    · cases hp
  | .tup a, .int k, hp, hx, hy =>
    simp only [pMul] at hp
    split at hp
    · rename_i h; cases hp
      have hr := hx.tupR
      obtain ⟨p, vs, e1, h1, r1⟩ := hx.tup sub
      have hne : vs ≠ [] := fun z => by
        subst z; cases r1; exact absurd h.1 (by simp)
      by_cases h2 : 2 ≤ k
      · exact .inr (.inr (.inl ⟨p, k, vs, e1, hy.int, h1, hne, h2, h.2.2.1, by rw [r1.length]; exact h.2.2.2, fun l hl => n.tup sub (r1.rep _) hl⟩))
      · refine .inr (.inr (.inr ⟨p, k, vs, e1, hy.int, h1, hne, h.2.1, ?_⟩))
        by_cases h3 : k = 1
        · refine .inl ⟨h3, ?_⟩
          subst h3 e1
          have e2 : (List.replicate (1 : Int).toNat a).flatten = a := by simp
          rw [e2] at n
          exact n.val sub hr
        · refine .inr ⟨by omega, fun l hl => ?_⟩
          have e2 : (List.replicate k.toNat a).flatten = [] := by
            have : k.toNat = 0 := by omega
            rw [this]; rfl
          rw [e2] at n
          exact n.tup sub .nil hl
    · cases hp
instance (i j : Int) : Decidable (CDivW i j) := by unfold CDivW; infer_instance
def pDiv : D → D → Option S
  | .int i, .int j => if CDivW i j then some (.val (.int (i / j))) else none
  | _, _ => none
theorem okDiv : OpP K (rI CDivW fun i j => .int (i / j)) pDiv := fun x y d e s Z H Q hx hy sub hp n => by
  match d, e, hp, hx, hy with
  | .int i, .int j, hp, hx, hy =>
    simp only [pDiv] at hp
    split at hp
    · rename_i h; cases hp
      exact ⟨i, j, hx.int, hy.int, h, n.val sub (.int _)⟩
    · cases hp
def pMod : D → D → Option S
  | .int i, .int j => if 0 < j then some (.val (.int (i % j))) else none
  | _, _ => none
theorem okMod : OpP K (rI (fun _ j => 0 < j) fun i j => .int (i % j)) pMod := fun x y d e s Z H Q hx hy sub hp n => by
  match d, e, hp, hx, hy with
  | .int i, .int j, hp, hx, hy =>
    simp only [pMod] at hp
    split at hp
    · rename_i h; cases hp
      exact ⟨i, j, hx.int, hy.int, h, n.val sub (.int _)⟩
    · cases hp
def pPow : D → D → Option S
  | .int i, .int j => if CPow i j then some (.val (.int (i ^ j.toNat))) else none
  | _, _ => none
theorem okPow : OpP K (rI CPow fun i j => .int (i ^ j.toNat)) pPow := fun x y d e s Z H Q hx hy sub hp n => by
  match d, e, hp, hx, hy with
  | .int i, .int j, hp, hx, hy =>
    simp only [pPow] at hp
    split at hp
    · rename_i h; cases hp
      exact ⟨i, j, hx.int, hy.int, h, n.val sub (.int _)⟩
    · cases hp
def pNeg : D → Option S
  | .int i => some (.val (.int (-i)))
  | _ => none
theorem okNeg : Op1 K (rU fun i => .int (-i)) pNeg := fun x d s Z H Q hx sub hp n => by
  match d, hp, hx with
  | .int i, hp, hx => cases hp; exact ⟨i, hx.int, n.val sub (.int _)⟩

/-! ### comparisons -/
def pCmp (p : Int → Int → Bool) : D → D → Option S
  | .int i, .int j => some (.val (.bl (p i j)))
  | _, _ => none
theorem okCmp {p : Int → Int → Bool} : OpP K (rI0 fun i j => .bl (p i j)) (pCmp p) := fun x y d e s Z H Q hx hy sub hp n => by
  match d, e, hp, hx, hy with
  | .int i, .int j, hp, hx, hy =>
    cases hp
    exact ⟨i, j, hx.int, hy.int, n.val sub (.bl _)⟩
abbrev pLt := pCmp fun i j => decide (i < j)
abbrev pLe := pCmp fun i j => decide (i ≤ j)
abbrev pGt := pCmp fun i j => decide (j < i)
abbrev pGe := pCmp fun i j => decide (j ≤ i)
mutual
def toPy : D → PyData
  | .non => .none
  | .bl b => .bool b
  | .int i => .int i
  | .str x => .str x
  | .tup ds => .tuple (toPys ds)
  | .lst ds => .list (toPys ds)
  | .scr _ => .none
def toPys : List D → List PyData
  | [] => []
  | d :: ds => toPy d :: toPys ds
end
mutual
/-- what == tells of data -/
def deq : D → D → Bool
  | .non, .non => true
  | .bl a, .bl b => a == b
  | .bl a, .int j => (if a then 1 else 0) == j
  | .int i, .bl b => i == (if b then 1 else 0)
  | .int i, .int j => i == j
  | .str x, .str y => x == y
  | .lst xs, .lst ys => deqs xs ys
  | .tup xs, .tup ys => deqs xs ys
  | _, _ => false
def deqs : List D → List D → Bool
  | [], [] => true
  | x :: xs, y :: ys => deq x y && deqs xs ys
  | _, _ => false
end
mutual
/-- data that == serves: at most so deep -/
def okD : Nat → D → Bool
  | _, .non => true
  | _, .bl _ => true
  | _, .int _ => true
  | _, .str x => PyData.strOk x
  | n + 1, .tup ds => okDs n ds
  | n + 1, .lst ds => okDs n ds
  | _, _ => false
def okDs : Nat → List D → Bool
  | _, [] => true
  | n, d :: ds => okD n d && okDs n ds
end
mutual
theorem shaped_of : ∀ (n : Nat) (d : D), okD n d = true → (toPy d).canLay0 = true ∧ (toPy d).depth ≤ n
  | _, .non, _ => by simp [toPy, PyData.canLay0, PyData.depth]
  | _, .bl _, _ => by simp [toPy, PyData.canLay0, PyData.depth]
  | _, .int _, _ => by simp [toPy, PyData.canLay0, PyData.depth]
  | n, .str x, h => by
    have h' : PyData.strOk x = true := by cases n <;> simpa [okD] using h
    simp [toPy, PyData.canLay0, PyData.depth, h']
  | 0, .tup ds, h => by simp [okD] at h
  | 0, .lst ds, h => by simp [okD] at h
  | n + 1, .tup ds, h => by
    obtain ⟨a, b⟩ := shapeds_of n ds (by simpa [okD] using h)
    simp only [toPy, PyData.canLay0, PyData.depth]
    exact ⟨a, by omega⟩
  | n + 1, .lst ds, h => by
    obtain ⟨a, b⟩ := shapeds_of n ds (by simpa [okD] using h)
    simp only [toPy, PyData.canLay0, PyData.depth]
    exact ⟨a, by omega⟩
  | n, .scr ns, h => by cases n <;> simp [okD] at h
theorem shapeds_of : ∀ (n : Nat) (ds : List D), okDs n ds = true → PyData.canLayAll0 (toPys ds) = true ∧ PyData.depthAll (toPys ds) ≤ n
  | _, [], _ => by simp [toPys, PyData.canLayAll0, PyData.depthAll]
  | n, d :: ds, h => by
    have h' : okD n d = true ∧ okDs n ds = true := by simpa [okDs] using h
    obtain ⟨a, b⟩ := shaped_of n d h'.1
    obtain ⟨a', b'⟩ := shapeds_of n ds h'.2
    simp only [toPys, PyData.canLayAll0, PyData.depthAll, a, a']
    exact ⟨rfl, by omega⟩
end
mutual
theorem deq_eqv : ∀ (n m : Nat) (d e : D), okD n d = true → okD m e = true → PyData.eqv (toPy d) (toPy e) = deq d e
  | n, m, .non, e, h1, h2 => by cases e <;> first | rfl | (cases m <;> simp [okD] at h2)
  | n, m, .bl _, e, h1, h2 => by cases e <;> first | rfl | (cases m <;> simp [okD] at h2)
  | n, m, .int _, e, h1, h2 => by cases e <;> first | rfl | (cases m <;> simp [okD] at h2)
  | n, m, .str _, e, h1, h2 => by cases e <;> first | rfl | (cases m <;> simp [okD] at h2)
  | n, m, .scr _, e, h1, h2 => by cases n <;> simp [okD] at h1
  | 0, m, .tup ds, e, h1, h2 => by simp [okD] at h1
  | 0, m, .lst ds, e, h1, h2 => by simp [okD] at h1
  | n + 1, m, .tup ds, e, h1, h2 => by
    cases e with
    | tup es =>
      cases m with
      | zero => simp [okD] at h2
      | succ m => simp only [toPy, PyData.eqv, deq]; exact deqs_eqv n m ds es (by simpa [okD] using h1) (by simpa [okD] using h2)
    | scr _ => cases m <;> simp [okD] at h2
    | _ => rfl
  | n + 1, m, .lst ds, e, h1, h2 => by
    cases e with
    | lst es =>
      cases m with
      | zero => simp [okD] at h2
      | succ m => simp only [toPy, PyData.eqv, deq]; exact deqs_eqv n m ds es (by simpa [okD] using h1) (by simpa [okD] using h2)
    | scr _ => cases m <;> simp [okD] at h2
    | _ => rfl
theorem deqs_eqv : ∀ (n m : Nat) (ds es : List D), okDs n ds = true → okDs m es = true → PyData.eqvAll (toPys ds) (toPys es) = deqs ds es
  | n, m, [], [], _, _ => rfl
  | n, m, [], _ :: _, _, _ => rfl
  | n, m, _ :: _, [], _, _ => rfl
  | n, m, d :: ds, e :: es, h1, h2 => by
    have h1' : okD n d = true ∧ okDs n ds = true := by simpa [okDs] using h1
    have h2' : okD m e = true ∧ okDs m es = true := by simpa [okDs] using h2
    simp only [toPys, PyData.eqvAll, deqs, deq_eqv n m d e h1'.1 h2'.1, deqs_eqv n m ds es h1'.2 h2'.2]
end
mutual
theorem Rep.dp {H : Hp} : ∀ {v : V} {d : D}, (∃ n, okD n d = true) → Rep K H v d → Dp K H v (toPy d)
  | _, _, _, .non => .non
  | _, _, _, .bl b => .bl b
  | _, _, _, .int b => .int b
  | _, _, _, .str b => .str b
  | _, _, h, .tup q r => by
    simp only [toPy]
    refine .tup q (Reps.dp ?_ r)
    obtain ⟨n, h⟩ := h
    cases n with
    | zero => simp [okD] at h
    | succ n => exact ⟨n, by simpa [okD] using h⟩
  | _, _, h, .lst q r => by
    simp only [toPy]
    refine .lst (.of q) (Reps.dp ?_ r)
    obtain ⟨n, h⟩ := h
    cases n with
    | zero => simp [okD] at h
    | succ n => exact ⟨n, by simpa [okD] using h⟩
  | _, _, h, .scr q => by
    obtain ⟨n, h⟩ := h
    cases n <;> simp [okD] at h
theorem Reps.dp {H : Hp} : ∀ {v : List V} {d : List D}, (∃ n, okDs n d = true) → Reps K H v d → DpAll K H v (toPys d)
  | _, _, _, .nil => .nil
  | _, _, h, .cons a r => by
    obtain ⟨n, h⟩ := h
    rw [okDs, Bool.and_eq_true] at h
    simp only [toPys]
    exact .cons (Rep.dp ⟨n, h.1⟩ a) (Reps.dp ⟨n, h.2⟩ r)
end
theorem shaped_ok {d : D} (h : okD 60 d = true) : SeqAt.shaped (toPy d) = true := by
  obtain ⟨a, b⟩ := shaped_of 60 d h
  unfold SeqAt.shaped
  rw [a, Bool.true_and]
  exact decide_eq_true (by omega)
def pEq : D → D → Option S := fun d e => if okD 60 d = true ∧ okD 60 e = true then some (.val (.bl (deq d e))) else none
def pNe : D → D → Option S := fun d e => if okD 60 d = true ∧ okD 60 e = true then some (.val (.bl (!deq d e))) else none
theorem okEq : OpP K (rEqD K) pEq := fun x y d e s Z H Q hx hy sub hp n => by
  simp only [pEq] at hp
  split at hp
  · rename_i h; cases hp
    refine ⟨toPy d, toPy e, Rep.dp ⟨60, h.1⟩ (hx.rep sub), Rep.dp ⟨60, h.2⟩ (hy.rep sub), shaped_ok h.1, shaped_ok h.2, ?_⟩
    rw [deq_eqv 60 60 d e h.1 h.2]
    exact n.val sub (.bl _)
  · cases hp
theorem okNe : OpP K (rNeD K) pNe := fun x y d e s Z H Q hx hy sub hp n => by
  simp only [pNe] at hp
  split at hp
  · rename_i h; cases hp
    refine ⟨toPy d, toPy e, Rep.dp ⟨60, h.1⟩ (hx.rep sub), Rep.dp ⟨60, h.2⟩ (hy.rep sub), shaped_ok h.1, shaped_ok h.2, ?_⟩
    rw [deq_eqv 60 60 d e h.1 h.2]
    exact n.val sub (.bl _)
  · cases hp
def isNon : D → Bool
  | .non => true
  | _ => false
theorem Rep.non_iff {Z : Hp} {v : V} {d : D} (r : Rep K Z v d) : decide (v = .non) = isNon d := by cases r <;> rfl
theorem Vw.non_iff {Z H : Hp} {v : V} {d : D} (r : Vw K Z H v d) : decide (v = .non) = isNon d := by
  cases r with
  | frz r => exact r.non_iff
  | own _ _ => rfl
def pIs : D → D → Option S
  | d, .non => some (.val (.bl (isNon d)))
  | .bl a, .bl b => some (.val (.bl (decide (a = b))))
  | _, _ => none
def pIsNot : D → D → Option S
  | d, .non => some (.val (.bl (!isNon d)))
  | .bl a, .bl b => some (.val (.bl (!decide (a = b))))
  | _, _ => none
def rIsX : R2 := fun x y H Q => (y = .non ∧ Q (.bl (decide (x = .non))) H) ∨ rIsB x y H Q
def rIsNotX : R2 := fun x y H Q => (y = .non ∧ Q (.bl (!decide (x = .non))) H) ∨ rNotB x y H Q
theorem opIsX : OpR X (compareOp .Is) rIsX := OpR.or op_isN op_isBl
theorem opIsNotX : OpR X (compareOp .IsNot) rIsNotX := OpR.or op_notN op_notBl
theorem okIs : OpP K rIsX pIs := fun x y d e s Z H Q hx hy sub hp n => by
  cases e with
  | non =>
    have e1 : s = .val (.bl (isNon d)) := by cases d <;> (cases hp; rfl)
    subst e1
    exact .inl ⟨hy.non, by rw [hx.non_iff]; exact n.val sub (.bl _)⟩
  | bl b =>
    cases d <;> cases hp
    exact .inr ⟨_, _, hx.bl, hy.bl, n.val sub (.bl _)⟩
  | _ => cases d <;> cases hp
theorem okIsNot : OpP K rIsNotX pIsNot := fun x y d e s Z H Q hx hy sub hp n => by
  cases e with
  | non =>
    have e1 : s = .val (.bl (!isNon d)) := by cases d <;> (cases hp; rfl)
    subst e1
    exact .inl ⟨hy.non, by rw [hx.non_iff]; exact n.val sub (.bl _)⟩
  | bl b =>
    cases d <;> cases hp
    exact .inr ⟨_, _, hx.bl, hy.bl, n.val sub (.bl _)⟩
  | _ => cases d <;> cases hp

/-! ### places -/
def pIx : D → D → Option S
  | .lst ds, .int i => (atI ds i).map .val
  | .tup ds, .int i => (atI ds i).map .val
  | .scr ns, .int i => (atI ns i).map fun n => .val (.int n)
  | .str z, .int i => if z.length ≤ 100000 then (atI z.cps.toList i).map fun c => .val (.str ⟨#[c]⟩) else none
  | _, _ => none
theorem Reps.atI {Z : Hp} {vs : List V} {ds : List D} {i : Int} {d : D} (r : Reps K Z vs ds) (h : L2.atI ds i = some d) : ∃ v, L2.atI vs i = some v ∧ Rep K Z v d := by
  unfold L2.atI at h ⊢
  rw [r.length]
  cases e : ixN ds.length i with
  | none => rw [e] at h; cases h
  | some j =>
    rw [e] at h
    exact r.get h
theorem atI_map {α β : Type} (f : α → β) {xs : List α} {i : Int} {x : α} (h : L2.atI xs i = some x) : L2.atI (xs.map f) i = some (f x) := by
  unfold L2.atI at h ⊢
  rw [List.length_map]
  cases e : ixN xs.length i with
  | none => rw [e] at h; cases h
  | some j =>
    rw [e] at h
    have h' : xs[j]? = some x := h
    show (xs.map f)[j]? = _
    rw [List.getElem?_map, h']; rfl
theorem okIx : OpP K (rIx K) pIx := fun x y d e s Z H Q hx hy sub hp n => by
  match d, e, hp, hx, hy with
  | .lst ds, .int i, hp, hx, hy =>
    simp only [pIx] at hp
    cases h : L2.atI ds i with
    | none => rw [h] at hp; cases hp
    | some d =>
      rw [h] at hp; cases hp
      obtain ⟨p, vs, e1, h1, r1⟩ := hx.lst sub
      obtain ⟨v, e2, r2⟩ := r1.atI h
      exact .inl ⟨p, vs, i, v, e1, hy.int, .of h1, e2, n.val sub r2⟩
  | .tup ds, .int i, hp, hx, hy =>
    simp only [pIx] at hp
    cases h : L2.atI ds i with
    | none => rw [h] at hp; cases hp
    | some d =>
      rw [h] at hp; cases hp
      obtain ⟨p, vs, e1, h1, r1⟩ := hx.tup sub
      obtain ⟨v, e2, r2⟩ := r1.atI h
      exact .inr (.inl ⟨p, vs, i, v, e1, hy.int, h1, e2, n.val sub r2⟩)
  | .scr ns, .int i, hp, hx, hy =>
    simp only [pIx] at hp
    cases h : L2.atI ns i with
    | none => rw [h] at hp; cases hp
    | some d =>
      rw [h] at hp; cases hp
      obtain ⟨p, e1, h1⟩ := hx.scr sub
      exact .inl ⟨p, _, i, _, e1, hy.int, h1, atI_map V.int h, n.val sub (.int _)⟩
  | .str z, .int i, hp, hx, hy =>
    simp only [pIx] at hp
    split at hp
    · rename_i hl
      cases h : L2.atI z.cps.toList i with
      | none => rw [h] at hp; cases hp
      | some d =>
        rw [h] at hp; cases hp
        exact .inr (.inr ⟨z, i, d, hx.str, hy.int, line_ge hl, h, n.val sub (.str _)⟩)
    · cases hp

/-! ### built-in functions -/
def pLen : List D → Option S
  | [.lst ds] => some (.val (.int ds.length))
  | [.tup ds] => some (.val (.int ds.length))
  | [.scr ns] => some (.val (.int ns.length))
  | [.str z] => if z.length ≤ 100000 then some (.val (.int z.length)) else none
  | _ => none
theorem Vws.one {Z H : Hp} {xs : List V} {d : D} (h : Vws K Z H xs [d]) : ∃ x, xs = [x] ∧ Vw K Z H x d := by
  cases h with | cons a r => cases r; exact ⟨_, rfl, a⟩
theorem Vws.two {Z H : Hp} {xs : List V} {d e : D} (h : Vws K Z H xs [d, e]) : ∃ x y, xs = [x, y] ∧ Vw K Z H x d ∧ Vw K Z H y e := by
  cases h with | cons a r => cases r with | cons b r => cases r; exact ⟨_, _, rfl, a, b⟩
def rLenX (K : PySem.W.Frag) : List V → Hp → VK → Prop := fun xs H Q => ∃ x n, xs = [x] ∧ LenV K x H n ∧ Q (.int n) H
theorem opLenX : CallR X (.builtin "len") (rLenX X.K) := call_len
theorem okLen : OpL K (rLenX K) pLen := fun xs ds s Z H Q hx sub hp n => by
  match ds, hp, hx with
  | [.lst ds], hp, hx =>
    cases hp
    obtain ⟨x, rfl, hv⟩ := hx.one
    obtain ⟨p, vs, e1, h1, r1⟩ := hv.lst sub
    subst e1
    refine ⟨_, _, rfl, .inl ⟨vs, .of h1, rfl⟩, ?_⟩
    rw [r1.length]; exact n.val sub (.int _)
  | [.tup ds], hp, hx =>
    cases hp
    obtain ⟨x, rfl, hv⟩ := hx.one
    obtain ⟨p, vs, e1, h1, r1⟩ := hv.tup sub
    subst e1
    refine ⟨_, _, rfl, .inr ⟨vs, h1, rfl⟩, ?_⟩
    rw [r1.length]; exact n.val sub (.int _)
  | [.scr ns], hp, hx =>
    cases hp
    obtain ⟨x, rfl, hv⟩ := hx.one
    obtain ⟨p, e1, h1⟩ := hv.scr sub
    subst e1
    refine ⟨_, _, rfl, .inl ⟨_, h1, rfl⟩, ?_⟩
    rw [List.length_map]; exact n.val sub (.int _)
  | [.str z], hp, hx =>
    simp only [pLen] at hp
    split at hp
    · rename_i hl; cases hp
      obtain ⟨x, rfl, hv⟩ := hx.one
      have := hv.str
      subst this
      exact ⟨_, _, rfl, ⟨line_ge hl, rfl⟩, n.val sub (.int _)⟩
    · cases hp
def pAbs : List D → Option S
  | [.int i] => some (.val (.int (if i < 0 then -i else i)))
  | _ => none
theorem okAbs : OpL K (fun xs H Q => ∃ i, xs = [.int i] ∧ Q (.int (if i < 0 then -i else i)) H) pAbs := fun xs ds s Z H Q hx sub hp n => by
  match ds, hp, hx with
  | [.int i], hp, hx =>
    cases hp
    obtain ⟨x, rfl, hv⟩ := hx.one
    have := hv.int
    subst this
    exact ⟨i, rfl, n.val sub (.int _)⟩
def pMin2 : List D → Option S
  | [.int i, .int j] => some (.val (.int (if j < i then j else i)))
  | _ => none
def pMax2 : List D → Option S
  | [.int i, .int j] => some (.val (.int (if j > i then j else i)))
  | _ => none
theorem okMin2 : OpL K (fun xs H Q => ∃ i j, xs = [.int i, .int j] ∧ Q (.int (if j < i then j else i)) H) pMin2 := fun xs ds s Z H Q hx sub hp n => by
  match ds, hp, hx with
  | [.int i, .int j], hp, hx =>
    cases hp
    obtain ⟨x, y, rfl, hv, hw⟩ := hx.two
    have := hv.int; have := hw.int
    subst x y
    exact ⟨i, j, rfl, n.val sub (.int _)⟩
theorem okMax2 : OpL K (fun xs H Q => ∃ i j, xs = [.int i, .int j] ∧ Q (.int (if j > i then j else i)) H) pMax2 := fun xs ds s Z H Q hx sub hp n => by
  match ds, hp, hx with
  | [.int i, .int j], hp, hx =>
    cases hp
    obtain ⟨x, y, rfl, hv, hw⟩ := hx.two
    have := hv.int; have := hw.int
    subst x y
    exact ⟨i, j, rfl, n.val sub (.int _)⟩
def pInt : List D → Option S
  | [.int i] => some (.val (.int i))
  | [.bl b] => some (.val (.int (if b then 1 else 0)))
  | _ => none
theorem okInt : OpL K (fun xs H Q => (∃ i, xs = [.int i] ∧ Q (.int i) H) ∨ ∃ k, xs = [.bl k] ∧ Q (.int (if k then 1 else 0)) H) pInt := fun xs ds s Z H Q hx sub hp n => by
  match ds, hp, hx with
  | [.int i], hp, hx =>
    cases hp
    obtain ⟨x, rfl, hv⟩ := hx.one
    have := hv.int
    subst this
    exact .inl ⟨i, rfl, n.val sub (.int _)⟩
  | [.bl i], hp, hx =>
    cases hp
    obtain ⟨x, rfl, hv⟩ := hx.one
    have := hv.bl
    subst this
    exact .inr ⟨i, rfl, n.val sub (.int _)⟩
/-- a list of whole numbers, of bools -/
def dInts : List D → Option (List Int)
  | [] => some []
  | .int i :: ds => (dInts ds).map (i :: ·)
  | _ => none
def dBls : List D → Option (List Bool)
  | [] => some []
  | .bl i :: ds => (dBls ds).map (i :: ·)
  | _ => none
theorem dInts_eq : ∀ {ds : List D} {ns : List Int}, dInts ds = some ns → ds = ns.map D.int
  | [], ns, h => by cases h; rfl
  | d :: ds, ns, h => by
    cases d with
    | int i =>
      simp only [dInts] at h
      cases e : dInts ds with
      | none => rw [e] at h; cases h
      | some ms => rw [e] at h; cases h; rw [dInts_eq e]; rfl
    | _ => cases h
theorem dBls_eq : ∀ {ds : List D} {ns : List Bool}, dBls ds = some ns → ds = ns.map D.bl
  | [], ns, h => by cases h; rfl
  | d :: ds, ns, h => by
    cases d with
    | bl i =>
      simp only [dBls] at h
      cases e : dBls ds with
      | none => rw [e] at h; cases h
      | some ms => rw [e] at h; cases h; rw [dBls_eq e]; rfl
    | _ => cases h
theorem dInts_of : ∀ (ns : List Int), dInts (ns.map D.int) = some ns
  | [] => rfl
  | n :: ns => by simp [dInts, dInts_of ns]
theorem dBls_of : ∀ (ns : List Bool), dBls (ns.map D.bl) = some ns
  | [] => rfl
  | n :: ns => by simp [dBls, dBls_of ns]
def pAll : List D → Option S
  | [.lst ds] => (dBls ds).map fun bs => .val (.bl (bs.all id))
  | _ => none
def pAny : List D → Option S
  | [.lst ds] => (dBls ds).map fun bs => .val (.bl (bs.any id))
  | _ => none
theorem okAll : OpL K (rAll K) pAll := fun xs ds s Z H Q hx sub hp n => by
  match ds, hp, hx with
  | [.lst ds], hp, hx =>
    simp only [pAll] at hp
    cases e : dBls ds with
    | none => rw [e] at hp; cases hp
    | some bs =>
      rw [e] at hp; cases hp
      obtain ⟨x, rfl, hv⟩ := hx.one
      obtain ⟨p, vs, e1, h1, r1⟩ := hv.lst sub
      subst e1
      rw [dBls_eq e] at r1
      rw [r1.bls] at h1
      exact ⟨p, bs, rfl, .of h1, n.val sub (.bl _)⟩
theorem okAny : OpL K (rAny K) pAny := fun xs ds s Z H Q hx sub hp n => by
  match ds, hp, hx with
  | [.lst ds], hp, hx =>
    simp only [pAny] at hp
    cases e : dBls ds with
    | none => rw [e] at hp; cases hp
    | some bs =>
      rw [e] at hp; cases hp
      obtain ⟨x, rfl, hv⟩ := hx.one
      obtain ⟨p, vs, e1, h1, r1⟩ := hv.lst sub
      subst e1
      rw [dBls_eq e] at r1
      rw [r1.bls] at h1
      exact ⟨p, bs, rfl, .of h1, n.val sub (.bl _)⟩
/-- sum of a list, a tuple of whole numbers -/
def pSum : List D → Option S
  | [.lst ds] => (dInts ds).map fun ns => .val (.int ns.sum)
  | [.tup ds] => (dInts ds).map fun ns => .val (.int ns.sum)
  | _ => none
def rSumT (K : PySem.W.Frag) : List V → Hp → VK → Prop := fun vs H Q => ∃ (a : Addr) (ns : List Int), vs = [V.ref a] ∧ SqT K H a (ns.map V.int) ∧ Q (.int ns.sum) H
theorem cr_sumT (hc : X.calm = true) : CallR X (.builtin "sum") (rSumT X.K) := by
  intro pins s σ H xs us Q I r h
  obtain ⟨a, ns, rfl, ht, q⟩ := h
  obtain ⟨u, rfl, rx⟩ := vals1 r
  cases rx
  obtain ⟨its, rv, p, hz⟩ := I.tuple ht
  have hi : IntsAre its ns := rv.ints
  obtain ⟨xs, e⟩ := hi.allInts.items
  have hn : numsOf (intItems xs).toList = ns := by rw [← e]; exact hi.numsOf
  rw [nums_intItems] at hn
  rw [e] at p
  refine PySem.W.ktm_sumG (I.ok.hd hc) p fun h' tk t' hk => ?_
  rw [preSum_eq, List.take_of_length_le (by simp), hn]
  exact ⟨.int ns.sum, H, I.kept hk, ⟨_, rfl⟩, q⟩
theorem opSumX (hc : X.calm = true) : CallR X (.builtin "sum") (fun xs H Q => rSum X.K xs H Q ∨ rSumT X.K xs H Q) := CallR.or (cr_sum hc) (cr_sumT hc)
theorem okSum : OpL K (fun xs H Q => rSum K xs H Q ∨ rSumT K xs H Q) pSum := fun xs ds s Z H Q hx sub hp n => by
  match ds, hp, hx with
  | [.lst ds], hp, hx =>
    simp only [pSum] at hp
    cases e : dInts ds with
    | none => rw [e] at hp; cases hp
    | some bs =>
      rw [e] at hp; cases hp
      obtain ⟨x, rfl, hv⟩ := hx.one
      obtain ⟨p, vs, e1, h1, r1⟩ := hv.lst sub
      subst e1
      rw [dInts_eq e] at r1
      rw [r1.ints] at h1
      exact .inl ⟨p, bs, rfl, .of h1, n.val sub (.int _)⟩
  | [.tup ds], hp, hx =>
    simp only [pSum] at hp
    cases e : dInts ds with
    | none => rw [e] at hp; cases hp
    | some bs =>
      rw [e] at hp; cases hp
      obtain ⟨x, rfl, hv⟩ := hx.one
      obtain ⟨p, vs, e1, h1, r1⟩ := hv.tup sub
      subst e1
      rw [dInts_eq e] at r1
      rw [r1.ints] at h1
      exact .inr ⟨p, bs, rfl, h1, n.val sub (.int _)⟩
def pList : List D → Option S
  | [.lst ds] => some (.lst ds)
  | [.tup ds] => some (.lst ds)
  | _ => none
theorem okList : OpL K (fun xs H Q => ∃ p ys, xs = [.ref p] ∧ (SqL K H p ys ∨ SqT K H p ys) ∧ ∀ l, H l = none → Q (.ref l) (upd H l (.lst ys))) pList := fun xs ds s Z H Q hx sub hp n => by
  match ds, hp, hx with
  | [.lst ds], hp, hx =>
    cases hp
    obtain ⟨x, rfl, hv⟩ := hx.one
    obtain ⟨p, vs, e1, h1, r1⟩ := hv.lst sub
    subst e1
    exact ⟨p, vs, rfl, .inl (.of h1), fun l hl => n.lst sub r1 hl⟩
  | [.tup ds], hp, hx =>
    cases hp
    obtain ⟨x, rfl, hv⟩ := hx.one
    obtain ⟨p, vs, e1, h1, r1⟩ := hv.tup sub
    subst e1
    exact ⟨p, vs, rfl, .inr h1, fun l hl => n.lst sub r1 hl⟩
def pTuple : List D → Option S
  | [.lst ds] => some (.val (.tup ds))
  | [.tup ds] => some (.val (.tup ds))
  | _ => none
theorem okTuple : OpL K (fun xs H Q => ∃ p ys, xs = [.ref p] ∧ ((SqL K H p ys ∧ ∀ l, H l = none → Q (.ref l) (upd H l (.tup ys))) ∨ (SqT K H p ys ∧ Q (.ref p) H))) pTuple := fun xs ds s Z H Q hx sub hp n => by
  match ds, hp, hx with
  | [.lst ds], hp, hx =>
    cases hp
    obtain ⟨x, rfl, hv⟩ := hx.one
    obtain ⟨p, vs, e1, h1, r1⟩ := hv.lst sub
    subst e1
    exact ⟨p, vs, rfl, .inl ⟨.of h1, fun l hl => n.tup sub r1 hl⟩⟩
  | [.tup ds], hp, hx =>
    cases hp
    obtain ⟨x, rfl, hv⟩ := hx.one
    have hr := hv.tupR
    obtain ⟨p, vs, e1, h1, r1⟩ := hv.tup sub
    subst e1
    exact ⟨p, vs, rfl, .inr ⟨h1, n.val sub hr⟩⟩

/-! ### isinstance with built-in types -/
def tyD : D → String
  | .non => "NoneType"
  | .bl _ => "bool"
  | .int _ => "int"
  | .str _ => "str"
  | .tup _ => "tuple"
  | .lst _ => "list"
  | .scr _ => "list"
def isTab (a b : String) : Bool := a == b || (a == "bool" && b == "int")
theorem isTab_ok : ∀ a ∈ ["NoneType", "bool", "int", "str", "tuple", "list"], ∀ b ∈ ["bool", "int", "str", "tuple", "list", "dict"], kitB a b = some (isTab a b) := by decide +kernel
theorem tyD_mem (d : D) : tyD d ∈ ["NoneType", "bool", "int", "str", "tuple", "list"] := by cases d <;> simp [tyD]
theorem SqT.tyX {H : Hp} {a : Addr} {vs : List V} (h : SqT K H a vs) : TyX K H (.ref a) (.type "tuple") := by
  rcases h with (h | ⟨o, h⟩) | ⟨o, its, n, h, c, _⟩
  · exact .base (.tup h)
  · exact .fTuple h
  · exact .kTuple h c
theorem SqL.tyX {H : Hp} {a : Addr} {vs : List V} (h : SqL K H a vs) : TyX K H (.ref a) (.type "list") := by
  rcases h with (h | ⟨o, h⟩) | ⟨o, its, n, h, c, _⟩
  · exact .base (.lst h)
  · exact .base (.frz h)
  · exact .kList h c
theorem Vw.tyX {Z H : Hp} {v : V} {d : D} (h : Vw K Z H v d) (sub : Same Z H) : TyX K H v (.type (tyD d)) := by
  cases h with
  | own e r => exact .base (.lst e)
  | frz r =>
    cases r with
    | non => exact .base .non
    | bl b => exact .base (.bl b)
    | int b => exact .base (.int b)
    | str b => exact .base (.str b)
    | tup q r => exact SqT.tyX (same_seqT sub q)
    | lst q r => exact .base (.lst (sub _ _ q))
    | scr q => exact SqL.tyX (sub.seq q)
def pIsT (T : String) (d : D) : Option S := some (.val (.bl (isTab (tyD d) T)))
theorem e_isi {x : Str} {p pos : Pos} {a b : Expr} {ma : M Arg} {T : String} (hT : T ∈ ["bool", "int", "str", "tuple", "list", "dict"]) (hg : Gl X x) (hm : X.mg x = none) (hv : bootBuiltins x = some (.builtin "isinstance"))
    (ha : EA X a ma) (hb : PE X b (tC (.ty T))) (hn : x ≠ "__name__" := by decide) (hdb : (x == ("__debug__" : Str)) = false := by decide)
    (he : starEach [a, b] X.env = (false, eval a X.env) :: starEach [b] X.env := by rfl) (he2 : starEach [b] X.env = (false, eval b X.env) :: starEach [] X.env := by rfl) (hpl : (backTo pos (starEach [b] X.env)).any (·.1) = false := by rfl) :
    EA X (.Call (.Name x p) [a, b] [] pos) (mUn (pIsT T) ma) :=
  PE_imp (pe_callB call_isi hg hm hv (pa_cons ha (pa_cons hb pa_nil he2) he) hn hdb he hpl) fun σ H Q h => by
  refine one_read (r := fun x H1 Q => rIsi X.K [x, .ty T] H1 Q) (fun x d s Z H Q hx sub hp n => ?_) h
  cases hp
  exact ⟨x, .ty T, _, _, _, rfl, .ty T, hx.tyX sub, kit_ty (isTab_ok _ (tyD_mem d) T hT), n.val sub (.bl _)⟩
def pIsT2 (T U : String) (d : D) : Option S := some (.val (.bl (isTab (tyD d) T || isTab (tyD d) U)))
theorem e_isi2 {x : Str} {p pos pt : Pos} {k : Nat} {a b c : Expr} {ma : M Arg} {T U : String} (hT : T ∈ ["bool", "int", "str", "tuple", "list", "dict"]) (hU : U ∈ ["bool", "int", "str", "tuple", "list", "dict"]) (hg : Gl X x) (hm : X.mg x = none) (hv : bootBuiltins x = some (.builtin "isinstance"))
    (ha : EA X a ma) (hb : PE X b (tC (.ty T))) (hc : PE X c (tC (.ty U))) (hn : x ≠ "__name__" := by decide) (hdb : (x == ("__debug__" : Str)) = false := by decide)
    (he : starEach [a, .Tuple [b, c] k pt] X.env = (false, eval a X.env) :: starEach [.Tuple [b, c] k pt] X.env := by rfl) (he2 : starEach [.Tuple [b, c] k pt] X.env = (false, eval (.Tuple [b, c] k pt) X.env) :: starEach [] X.env := by rfl) (hpl : (backTo pos (starEach [.Tuple [b, c] k pt] X.env)).any (·.1) = false := by rfl)
    (hb1 : starEach [b, c] X.env = (false, eval b X.env) :: starEach [c] X.env := by rfl) (hb2 : starEach [c] X.env = (false, eval c X.env) :: starEach [] X.env := by rfl) :
    EA X (.Call (.Name x p) [a, .Tuple [b, c] k pt] [] pos) (mUn (pIsT2 T U) ma) :=
  PE_imp (pe_callB call_isiT hg hm hv (pa_cons ha (pa_cons (pe_tup (pa_cons hb (pa_cons hc pa_nil hb2) hb1)) pa_nil he2) he) hn hdb he hpl) fun σ H Q h => by
  refine one_read (r := fun x H1 Q => 2 ≤ sizeLine ∧ ∀ p, H1 p = none → rIsiT X.K [x, .ref p] (upd H1 p (.tup [.ty T, .ty U])) Q) (fun x d s Z H Q hx sub hp n => ?_) h
  cases hp
  refine ⟨by decide, fun p hp => ?_⟩
  have tx : TyX X.K (upd H p (.tup [.ty T, .ty U])) x (.type (tyD d)) := by
    have gw : Gw Z H Z (upd H p (.tup [.ty T, .ty U])) (fun b => b = p) := Gw.lst sub hp
    cases hx with
    | frz r => exact (Vw.frz r).tyX (sub.trans gw.hs)
    | own e r => exact (Vw.own (gw.hs _ _ e) r).tyX (sub.trans gw.hs)
  refine ⟨x, p, [.ty T, .ty U], _, [.type T, .type U], isTab (tyD d) T || isTab (tyD d) U, rfl, upd_same, .cons (.ty T) (.cons (.ty U) .nil), tx, ?_, ?_⟩
  · refine kitAny_cons (kit_ty (isTab_ok _ (tyD_mem d) T hT)) (fun e => kitAny_cons (kit_ty (isTab_ok _ (tyD_mem d) U hU)) (fun e2 => ?_) fun e2 => ?_) fun e => ?_
    · rw [e, e2]; exact kitAny_nil
    · rw [e2, Bool.or_true]
    · rw [e]; rfl
  · exact n (.bl _) _ Z (fun _ => False) ⟨same_new hp, Same.refl _, sub.trans (same_new hp), fun _ h => h.elim, fun _ _ e => .inl e⟩ ⟨.bl _, fun _ => id⟩
end
end DL

/-! The data layer, part G: what is walked, slices, stores into lists. -/
namespace DL
open PySem PySem.Spec PyProof.Rows L2
section
variable {X : Cx} {K : PySem.W.Frag} {pr : Nat → Prop}
theorem Reps.at_ {Z : Hp} : ∀ {vs : List V} {ds : List D} {i : Nat} {v : V}, Reps K Z vs ds → vs[i]? = some v → ∃ d, ds[i]? = some d ∧ Rep K Z v d
  | _, _, _, _, .nil, e => by simp at e
  | _, _, 0, _, .cons a _, e => by simp at e; subst e; exact ⟨_, rfl, a⟩
  | _, _, i + 1, _, .cons _ r, e => by
    obtain ⟨v, h1, h2⟩ := Reps.at_ (i := i) r (by simpa using e)
    exact ⟨v, by simpa using h1, h2⟩
/-! ### a list, a tuple, a text, sign by sign -/
def signs : List Nat → List D := fun cs => cs.map fun c => .str ⟨#[c]⟩
def seqOf : D → Option (List D)
  | .lst ds => some ds
  | .tup ds => some ds
  | .str z => some (signs z.cps.toList)
  | _ => none
def iSeq (K : PySem.W.Frag) (tl : TE) : TI := fun σ H R => tl σ H fun x H1 => (∃ a xs, x = .ref a ∧ SqL K H1 a xs ∧ R (Itl K a) H1) ∨ (∃ a xs, x = .ref a ∧ SqT K H1 a xs ∧ R (Itt K a) H1) ∨ ∃ z, x = .str z ∧ R (Its z) H1
theorem ask_list {tg : Expr} {pins : List (Addr × Obj)} {s : Shared} {σ : L2.St} {H : Hp} {R : It → Hp → Prop} {a : Addr} {xs : List V} (I : Inv X pins σ H s) (hq : SqL X.K H a xs) (q : R (Itl X.K a) H) :
    wpAny (model X.prog X.w) X.A (pyIter (.ref a)) (PIE X pins σ tg R) X.xe s := by
  obtain ⟨its, rv, p, hz⟩ := I.list hq
  exact wpAny_pyIter_list p.isList (pi_one (tk := s.toks) I _ (turn_list a _) ⟨_, Heap.get?_push_size _ rfl, rfl, rfl⟩ q)
theorem ask_tup {tg : Expr} {pins : List (Addr × Obj)} {s : Shared} {σ : L2.St} {H : Hp} {R : It → Hp → Prop} {a : Addr} {xs : List V} (I : Inv X pins σ H s) (hq : SqT X.K H a xs) (q : R (Itt X.K a) H) :
    wpAny (model X.prog X.w) X.A (pyIter (.ref a)) (PIE X pins σ tg R) X.xe s := by
  obtain ⟨its, rv, p, hz⟩ := I.tuple hq
  exact wpAny_pyIter_tuple (show s.heap.IsTuple a its.toArray from p) (pi_one (tk := s.toks) I _ (turn_tuple a _) ⟨_, Heap.get?_push_size _ rfl, rfl, rfl⟩ q)
theorem pi_seqX {tg l : Expr} {tl : TE} (hl : PE X l tl) : PI X tg l (iSeq X.K tl) := by
  refine ⟨fun pins s σ H R I h => ?_⟩
  refine thn (hl.run pins s σ H _ I h) fun v s1 ⟨x, H1, I1, r1, q1⟩ => ?_
  rcases q1 with ⟨a, xs, e, hq, q⟩ | ⟨a, xs, e, hq, q⟩ | ⟨z, e, q⟩
  · subst e; cases r1; exact ask_list I1 hq q
  · subst e; cases r1; exact ask_tup I1 hq q
  · subst e
    obtain ⟨t, rfl⟩ := r1
    cases ha : z.cps.all (· < 128)
    · exact wpAny_pyIter_wide ha (pi_one (tk := s1.toks) I1 _ (turn_str _ z t "str_iterator" (.inr rfl)) ⟨_, Heap.get?_push_size _ rfl, rfl, rfl⟩ q)
    · exact wpAny_pyIter_ascii ha (pi_one (tk := s1.toks) I1 _ (turn_str _ z t "str_ascii_iterator" (.inl rfl)) ⟨_, Heap.get?_push_size _ rfl, rfl, rfl⟩ q)
def seqM' (r : Arg) : M (List D) := do
  let d ← esc r
  up (seqOf d)
def wSeq (a : M Arg) : M (List D) := do let r ← a; seqM' r
theorem wk_list {Z : Hp} {a : Addr} {vs : List V} {ds : List D} (h : SqL K Z a vs) (r : Reps K Z vs ds) : Wk K Z (Itl K a) ds := fun Z1 H1 z1 s1 => by
  have hH : SqL K H1 a vs := (z1.trans s1).seq h
  refine ⟨fun i hi => ?_, ⟨vs, hH, Nat.le_of_eq r.length⟩, fun i d x H2 hd y => ?_⟩
  · obtain ⟨v, e, _⟩ := r.get (List.getElem?_eq_getElem hi)
    exact ⟨vs, v, hH, e⟩
  · obtain ⟨e, y⟩ := y
    subst e
    obtain ⟨v, e, rv⟩ := r.get hd
    have := y vs hH
    rw [e] at this; cases this
    exact ⟨Z1, Gw.refl s1, rv.mono z1⟩
theorem wk_tup {Z : Hp} {a : Addr} {vs : List V} {ds : List D} (h : SqT K Z a vs) (r : Reps K Z vs ds) : Wk K Z (Itt K a) ds := fun Z1 H1 z1 s1 => by
  have hH : SqT K H1 a vs := same_seqT (z1.trans s1) h
  refine ⟨fun i hi => ?_, ⟨vs, hH, Nat.le_of_eq r.length⟩, fun i d x H2 hd y => ?_⟩
  · obtain ⟨v, e, _⟩ := r.get (List.getElem?_eq_getElem hi)
    exact ⟨vs, v, hH, e⟩
  · obtain ⟨e, y⟩ := y
    subst e
    obtain ⟨v, e, rv⟩ := r.get hd
    have := y vs hH
    rw [e] at this; cases this
    exact ⟨Z1, Gw.refl s1, rv.mono z1⟩
theorem wk_str {Z : Hp} {z : Str} : Wk K Z (Its z) (signs z.cps.toList) := fun Z1 H1 z1 s1 => by
  have hl : (signs z.cps.toList).length = z.cps.size := by unfold signs; rw [List.length_map, Array.length_toList]
  refine ⟨fun i hi => by rw [hl] at hi; exact hi, by rw [hl]; exact Nat.le_refl _, fun i d x H2 hd y => ?_⟩
  obtain ⟨e, c, hc, y⟩ := y
  subst e y
  have : d = .str ⟨#[c]⟩ := by
    unfold signs at hd
    rw [List.getElem?_map, Array.getElem?_toList, hc] at hd
    exact (Option.some.inj hd).symm
  subst this
  exact ⟨Z1, Gw.refl s1, .str _⟩
theorem seq_read {m : M Arg} {σ : L2.St} {H : Hp} {R : It → Hp → Prop} (h : tI K (wSeq m) σ H R) :
    tA K m σ H fun x H1 => (∃ a xs, x = .ref a ∧ SqL K H1 a xs ∧ R (Itl K a) H1) ∨ (∃ a xs, x = .ref a ∧ SqT K H1 a xs ∧ R (Itt K a) H1) ∨ ∃ z, x = .str z ∧ R (Its z) H1 := by
  obtain ⟨g, Z, F, ds, g', e, f, post⟩ := h
  obtain ⟨r, g1, e1, e⟩ := M.bind_some e
  obtain ⟨d, g2, e2, e⟩ := M.bind_some e
  obtain ⟨e3, rfl⟩ := up_some e
  refine ⟨g, Z, F, r, g1, e1, f, fun x H1 Z1 F1 T1 f1 a1 s1 st1 => ?_⟩
  obtain ⟨Z2, F2, f2, r2, st2⟩ := esc_ok f1 a1 s1 e2
  have fin := fun J w => post J H1 Z2 F2 f2 (st1.trans st2) w
  cases d with
  | lst ds' =>
    cases e3
    cases r2 with
    | lst q r => exact .inl ⟨_, _, rfl, .of (f2.sub _ _ q), fin _ (wk_list (.of q) r)⟩
  | tup ds' =>
    cases e3
    cases r2 with
    | tup q r => exact .inr (.inl ⟨_, _, rfl, same_seqT f2.sub q, fin _ (wk_tup q r)⟩)
  | str z =>
    cases e3
    cases r2
    exact .inr (.inr ⟨z, rfl, fin _ wk_str⟩)
  | _ => cases e3
theorem i_seq {tg l : Expr} {m : M Arg} (h : EA X l m) : EI X tg l (wSeq m) := PI_imp (pi_seqX h) fun _ _ _ q => seq_read q
/-! ### range -/
def upto (lo : Int) (n : Nat) : List D := (List.range n).map fun (i : Nat) => D.int (lo + (i : Int))
theorem wk_range {Z : Hp} {lo : Int} {n : Nat} : Wk K Z (Itr lo n) (upto lo n) := fun Z1 H1 z1 s1 => by
  have hl : (upto lo n).length = n := by unfold upto; rw [List.length_map, List.length_range]
  refine ⟨fun i hi => by rw [hl] at hi; exact hi, by rw [hl]; exact Nat.le_refl _, fun i d x H2 hd y => ?_⟩
  obtain ⟨e, y⟩ := y
  subst e y
  unfold upto at hd
  have hi : i < n := by
    have := (List.getElem?_eq_some_iff.mp hd).1
    rwa [List.length_map, List.length_range] at this
  rw [List.getElem?_map, List.getElem?_range hi] at hd
  cases hd
  exact ⟨Z1, Gw.refl s1, .int _⟩
def small (i : Int) : Bool := decide (-1000000000000000000 ≤ i ∧ i ≤ 1000000000000000000)
theorem small_le {i : Int} (h : small i = true) : -1000000000000000000 ≤ i ∧ i ≤ 1000000000000000000 := of_decide_eq_true h
def p1 : List D → Option (List D)
  | [.int j] => if small j = true then some (upto 0 j.toNat) else none
  | _ => none
def p2 : List D → Option (List D)
  | [.int i, .int j] => if small i = true ∧ small j = true then some (upto i (j - i).toNat) else none
  | _ => none
/-- a walk whose data are reckoned from arguments that are read -/
def walkM (p : List D → Option (List D)) (xs : List Arg) : M (List D) := do
  let ds ← views xs
  up (p ds)
def wFn (p : List D → Option (List D)) (a : M (List Arg)) : M (List D) := do let xs ← a; walkM p xs
theorem walk_read {m : M (List Arg)} {p : List D → Option (List D)} {σ : L2.St} {H : Hp} {R : It → Hp → Prop} {P : List V → Hp → Prop} (h : tI K (wFn p m) σ H R)
    (hP : ∀ vs ds out H1 Z1, Same Z1 H1 → Vws K Z1 H1 vs ds → p ds = some out → (∀ J, Wk K Z1 J out → R J H1) → P vs H1) : tAs K m σ H P := by
  obtain ⟨g, Z, F, ds, g', e, f, post⟩ := h
  obtain ⟨rs, g1, e1, e⟩ := M.bind_some e
  obtain ⟨d, g2, e2, e⟩ := M.bind_some e
  obtain ⟨e3, rfl⟩ := up_some e
  refine ⟨g, Z, F, rs, g1, e1, f, fun x H1 Z1 F1 T1 f1 a1 s1 st1 => ?_⟩
  obtain ⟨rfl, w⟩ := views_ok f1 a1 e2
  exact hP x d ds H1 Z1 f1.sub w e3 fun J w => post J H1 Z1 F1 f1 (st1.less fun _ => .inl) w
theorem i_range1 {tg a : Expr} {m : M (List Arg)} {p pos : Pos} (hg : Gl X "range") (hm : X.mg "range" = none) (ha : EL X [a] m) (hs : starEach [a] X.env = [(false, eval a X.env)] := by rfl) :
    EI X tg (.Call (.Name "range" p) [a] [] pos) (wFn p1 m) := PI_imp (pi_range1 hg hm ha hs) fun σ H R h =>
  walk_read h fun vs ds out H1 Z1 sub w e fin => by
    match ds, e, w with
    | [.int j], e, w =>
      simp only [p1] at e
      split at e
      · rename_i hj; cases e
        obtain ⟨x, rfl, hv⟩ := w.one
        have hj' := small_le hj
        exact ⟨j, by rw [hv.int], by omega, by omega, fin _ wk_range⟩
      · cases e
theorem i_range2 {tg a b : Expr} {m : M (List Arg)} {p pos : Pos} (hg : Gl X "range") (hm : X.mg "range" = none) (ha : EL X [a, b] m) (hs : starEach [a, b] X.env = [(false, eval a X.env), (false, eval b X.env)] := by rfl) (hs2 : starEach [b] X.env = [(false, eval b X.env)] := by rfl) :
    EI X tg (.Call (.Name "range" p) [a, b] [] pos) (wFn p2 m) := PI_imp (pi_range2 hg hm ha hs hs2) fun σ H R h =>
  walk_read h fun vs ds out H1 Z1 sub w e fin => by
    match ds, e, w with
    | [.int i, .int j], e, w =>
      simp only [p2] at e
      split at e
      · rename_i hj; cases e
        obtain ⟨x, y, rfl, hv, hw⟩ := w.two
        have h1 := small_le hj.1
        have h2 := small_le hj.2
        exact ⟨i, j, by rw [hv.int, hw.int], by omega, fin _ wk_range⟩
      · cases e
/-! ### zip of two lists, of two tuples (the shorter one ends it) -/
def zipD (a b : List D) : List D := (a.zip b).map fun p => .tup [p.1, p.2]
def escW (p : List D → Option (List D)) (xs : List Arg) : M (List D) := do
  let ds ← escs xs
  up (p ds)
def wEsc (p : List D → Option (List D)) (a : M (List Arg)) : M (List D) := do let xs ← a; escW p xs
theorem escW_read {m : M (List Arg)} {p : List D → Option (List D)} {σ : L2.St} {H : Hp} {R : It → Hp → Prop} {P : List V → Hp → Prop} (h : tI K (wEsc p m) σ H R)
    (hP : ∀ vs ds out H1 Z1, Same Z1 H1 → Reps K Z1 vs ds → p ds = some out → (∀ J, Wk K Z1 J out → R J H1) → P vs H1) : tAs K m σ H P := by
  obtain ⟨g, Z, F, ds, g', e, f, post⟩ := h
  obtain ⟨rs, g1, e1, e⟩ := M.bind_some e
  obtain ⟨d, g2, e2, e⟩ := M.bind_some e
  obtain ⟨e3, rfl⟩ := up_some e
  refine ⟨g, Z, F, rs, g1, e1, f, fun x H1 Z1 F1 T1 f1 a1 s1 st1 => ?_⟩
  obtain ⟨Z2, F2, f2, r2, st2⟩ := escs_ok f1 a1 s1 e2
  exact hP x d ds H1 Z2 f2.sub r2 e3 fun J w => post J H1 Z2 F2 f2 (st1.trans st2) w
def pZip : List D → Option (List D)
  | [.lst a, .lst b] => some (zipD a b)
  | [.tup a, .tup b] => some (zipD a b)
  | _ => none
theorem zipD_get {a b : List D} {i : Nat} {d : D} (h : (zipD a b)[i]? = some d) : ∃ x y, a[i]? = some x ∧ b[i]? = some y ∧ d = .tup [x, y] := by
  unfold zipD at h
  rw [List.getElem?_map] at h
  cases e : (a.zip b)[i]? with
  | none => rw [e] at h; cases h
  | some p =>
    rw [e] at h; cases h
    rw [List.getElem?_zip_eq_some] at e
    exact ⟨p.1, p.2, e.1, e.2, rfl⟩
theorem zipD_len {a b : List D} : (zipD a b).length = min a.length b.length := by unfold zipD; rw [List.length_map, List.length_zip]
theorem wk_zipL {Z : Hp} {p q : Addr} {vs ws : List V} {a b : List D} (h : Z p = some (.lst vs)) (r : Reps K Z vs a) (h' : Z q = some (.lst ws)) (r' : Reps K Z ws b) : Wk K Z (Itz K p q) (zipD a b) := fun Z1 H1 z1 s1 => by
  have hp : SqL K H1 p vs := .of (s1 _ _ (z1 _ _ h))
  have hq : SqL K H1 q ws := .of (s1 _ _ (z1 _ _ h'))
  refine ⟨fun i hi => ?_, ⟨vs, ws, hp, hq, ?_⟩, fun i d x H2 hd y => ?_⟩
  · rw [zipD_len] at hi
    obtain ⟨v, e, _⟩ := r.get (List.getElem?_eq_getElem (show i < a.length by omega))
    obtain ⟨u, e', _⟩ := r'.get (List.getElem?_eq_getElem (show i < b.length by omega))
    exact ⟨vs, ws, v, u, hp, hq, e, e'⟩
  · rw [zipD_len, r.length, r'.length]; omega
  · obtain ⟨T, v, u, e1, nT, e2, g1, g2⟩ := y
    subst e1 e2
    obtain ⟨d1, d2, hd1, hd2, rfl⟩ := zipD_get hd
    obtain ⟨v', e, rv⟩ := r.get hd1
    obtain ⟨u', e', ru⟩ := r'.get hd2
    have q1 := g1 vs hp
    have q2 := g2 ws hq
    rw [e] at q1; cases q1
    rw [e'] at q2; cases q2
    exact ⟨_, Gw.tup s1 nT, .tup (.of upd_same) (.cons ((rv.mono z1).mono (same_new (zfree s1 nT))) (.cons ((ru.mono z1).mono (same_new (zfree s1 nT))) .nil))⟩
theorem wk_zipT {Z : Hp} {p q : Addr} {vs ws : List V} {a b : List D} (h : SqT K Z p vs) (r : Reps K Z vs a) (h' : SqT K Z q ws) (r' : Reps K Z ws b) : Wk K Z (RZ.ItzT K p q) (zipD a b) := fun Z1 H1 z1 s1 => by
  have hp : SqT K H1 p vs := same_seqT (z1.trans s1) h
  have hq : SqT K H1 q ws := same_seqT (z1.trans s1) h'
  refine ⟨fun i hi => ?_, ⟨vs, ws, hp, hq, ?_⟩, fun i d x H2 hd y => ?_⟩
  · rw [zipD_len] at hi
    obtain ⟨v, e, _⟩ := r.get (List.getElem?_eq_getElem (show i < a.length by omega))
    obtain ⟨u, e', _⟩ := r'.get (List.getElem?_eq_getElem (show i < b.length by omega))
    exact ⟨vs, ws, v, u, hp, hq, e, e'⟩
  · rw [zipD_len, r.length, r'.length]; omega
  · obtain ⟨T, v, u, e1, nT, e2, g1, g2⟩ := y
    subst e1 e2
    obtain ⟨d1, d2, hd1, hd2, rfl⟩ := zipD_get hd
    obtain ⟨v', e, rv⟩ := r.get hd1
    obtain ⟨u', e', ru⟩ := r'.get hd2
    have q1 := g1 vs hp
    have q2 := g2 ws hq
    rw [e] at q1; cases q1
    rw [e'] at q2; cases q2
    exact ⟨_, Gw.tup s1 nT, .tup (.of upd_same) (.cons ((rv.mono z1).mono (same_new (zfree s1 nT))) (.cons ((ru.mono z1).mono (same_new (zfree s1 nT))) .nil))⟩
theorem Reps.two {Z : Hp} {vs : List V} {d e : D} (r : Reps K Z vs [d, e]) : ∃ v u, vs = [v, u] ∧ Rep K Z v d ∧ Rep K Z u e := by
  cases r with | cons a r => cases r with | cons b r => cases r; exact ⟨_, _, rfl, a, b⟩
theorem i_zip {e e2 : Expr} {m : M (List Arg)} {p pos tpos : Pos} {elts : List Expr} {kk : Nat} (hg : Gl X "zip") (hm : X.mg "zip" = none) (ha : EL X [e, e2] m) (hs : starEach [e, e2] X.env = (false, eval e X.env) :: starEach [e2] X.env := by rfl)
    (hpl : (backTo pos (starEach [e2] X.env)).any (·.1) = false := by rfl) : EI X (.Tuple elts kk tpos) (.Call (.Name "zip" p) [e, e2] [] pos) (wEsc pZip m) :=
  PI_imp (RZ.pi_zipA hg hm ha hs hpl) fun σ H R h => escW_read h fun vs ds out H1 Z1 sub r e fin => by
    match ds, e, r with
    | [.lst a, .lst b], e, r =>
      cases e
      obtain ⟨x, y, rfl, ra, rb⟩ := r.two
      cases ra with
      | lst q1 r1 =>
        cases rb with
        | lst q2 r2 => exact ⟨_, _, _, _, rfl, .inl ⟨.of (sub _ _ q1), .of (sub _ _ q2), fin _ (wk_zipL q1 r1 q2 r2)⟩⟩
    | [.tup a, .tup b], e, r =>
      cases e
      obtain ⟨x, y, rfl, ra, rb⟩ := r.two
      cases ra with
      | tup q1 r1 =>
        cases rb with
        | tup q2 r2 => exact ⟨_, _, _, _, rfl, .inr ⟨same_seqT sub q1, same_seqT sub q2, fin _ (wk_zipT q1 r1 q2 r2)⟩⟩
/-! ### enumerate of a list -/
def enumD (lo : Int) : List D → List D
  | [] => []
  | d :: ds => .tup [.int lo, d] :: enumD (lo + 1) ds
theorem enumD_len : ∀ {lo : Int} {ds : List D}, (enumD lo ds).length = ds.length
  | _, [] => rfl
  | lo, d :: ds => congrArg (· + 1) (enumD_len (lo := lo + 1) (ds := ds))
theorem enumD_get : ∀ {lo : Int} {ds : List D} {i : Nat} {d : D}, (enumD lo ds)[i]? = some d → ∃ x, ds[i]? = some x ∧ d = .tup [.int (lo + (i : Int)), x]
  | _, [], _, _, h => by simp [enumD] at h
  | lo, x :: ds, 0, d, h => by simp [enumD] at h; exact ⟨x, rfl, by rw [← h]; simp⟩
  | lo, x :: ds, i + 1, d, h => by
    obtain ⟨y, e1, e2⟩ := enumD_get (lo := lo + 1) (ds := ds) (i := i) (by simpa [enumD] using h)
    refine ⟨y, by simpa using e1, ?_⟩
    rw [e2]
    congr 3
    omega
def pEnum : List D → Option (List D)
  | [.lst a] => some (enumD 0 a)
  | _ => none
theorem wk_enum {Z : Hp} {p : Addr} {vs : List V} {a : List D} (h : Z p = some (.lst vs)) (r : Reps K Z vs a) : Wk K Z (Ite K p) (enumD 0 a) := fun Z1 H1 z1 s1 => by
  have hp : SqL K H1 p vs := .of (s1 _ _ (z1 _ _ h))
  refine ⟨fun i hi => ?_, ⟨vs, hp, ?_⟩, fun i d x H2 hd y => ?_⟩
  · rw [enumD_len] at hi
    obtain ⟨v, e, _⟩ := r.get (List.getElem?_eq_getElem hi)
    exact ⟨vs, v, hp, e⟩
  · rw [enumD_len, r.length]; exact Nat.le_refl _
  · obtain ⟨T, v, e1, nT, e2, g1⟩ := y
    subst e1 e2
    obtain ⟨d1, hd1, rfl⟩ := enumD_get hd
    obtain ⟨v', e, rv⟩ := r.get hd1
    have q1 := g1 vs hp
    rw [e] at q1; cases q1
    refine ⟨_, Gw.tup s1 nT, .tup (.of upd_same) (.cons ?_ (.cons ((rv.mono z1).mono (same_new (zfree s1 nT))) .nil))⟩
    rw [Int.zero_add]; exact .int _
theorem i_enum {e : Expr} {m : M (List Arg)} {p pos tpos : Pos} {elts : List Expr} {kk : Nat} (hg : Gl X "enumerate") (hm : X.mg "enumerate" = none) (ha : EL X [e] m) (hs : starEach [e] X.env = [(false, eval e X.env)] := by rfl) :
    EI X (.Tuple elts kk tpos) (.Call (.Name "enumerate" p) [e] [] pos) (wEsc pEnum m) :=
  PI_imp (pi_enum hg hm ha hs) fun σ H R h => escW_read h fun vs ds out H1 Z1 sub r e fin => by
    match ds, e, r with
    | [.lst a], e, r =>
      cases e
      obtain ⟨x, rfl, ra⟩ := r.one
      cases ra with
      | lst q1 r1 => exact ⟨_, _, rfl, .of (sub _ _ q1), fin _ (wk_enum q1 r1)⟩

/-! ### slices -/
def tO (K : PySem.W.Frag) (m : M (Option Int)) : TO := fun σ H Q => ∃ g Z F o g', m g = some (o, g') ∧ Fine K Z H σ g F ∧ ∀ H' Z' F', Fine K Z' H' σ g' F' → Stp Z H (Un F) Z' H' (Un F') → Q o H'
abbrev EO (X : Cx) (e : Option Expr) (m : M (Option Int)) : Prop := PO X e (tO X.K m)
theorem PO_imp {e : Option Expr} {t t' : TO} (h : PO X e t) (i : ∀ σ H Q, t' σ H Q → t σ H Q) : PO X e t' := ⟨fun pins s σ H Q I q => h.run pins s σ H Q I (i σ H Q q)⟩
def oNone : M (Option Int) := pure none
theorem o_none : EO X none oNone := PO_imp po_none fun σ H Q h => by
  obtain ⟨g, Z, F, o, g', e, f, post⟩ := h
  cases e
  exact post H Z F f Stp.refl
def asI : D → Option Int
  | .int i => some i
  | _ => none
theorem asI_eq {d : D} {i : Int} (h : asI d = some i) : d = .int i := by cases d <;> cases h; rfl
def oSome (a : M Arg) : M (Option Int) := do let r ← a; let d ← view r; let i ← up (asI d); pure (some i)
theorem o_some {e : Expr} {m : M Arg} (h : EA X e m) : EO X (some e) (oSome m) := PO_imp (po_some h) fun σ H Q h => by
  obtain ⟨g, Z, F, o, g', e, f, post⟩ := h
  obtain ⟨r, g1, e1, e⟩ := M.bind_some e
  obtain ⟨d, g2, e2, e⟩ := M.bind_some e
  obtain ⟨i, g3, e3, e⟩ := M.bind_some e
  obtain ⟨rfl, rfl⟩ := M.pure_some e
  obtain ⟨e4, rfl⟩ := up_some e3
  refine ⟨g, Z, F, r, g1, e1, f, fun x H1 Z1 F1 T1 f1 a1 s1 st1 => ?_⟩
  obtain ⟨rfl, w⟩ := view_ok f1 a1 e2
  rw [asI_eq e4] at w
  exact ⟨i, w.int, post H1 Z1 F1 f1 (st1.less fun _ => .inl)⟩
def cutD (xs : List D) (lo hi : Option Int) : List D := (xs.drop (HT.sIx xs.length 0 lo)).take (HT.sIx xs.length xs.length hi - HT.sIx xs.length 0 lo)
theorem Reps.cut {Z : Hp} {vs : List V} {ds : List D} (r : Reps K Z vs ds) (lo hi : Option Int) : Reps K Z (cutV vs lo hi) (cutD ds lo hi) := by
  unfold cutV cutD
  rw [r.length]
  exact (r.drop _).take _
def pSl : D → Option Int → Option Int → Option S
  | .lst ds, lo, hi => some (.lst (cutD ds lo hi))
  | .tup ds, lo, hi => some (.val (.tup (cutD ds lo hi)))
  | .str z, lo, hi => if z.length ≤ 100000 then some (.val (.str (cutS z lo hi))) else none
  | _, _, _ => none
def rSlX (K : PySem.W.Frag) : V → Option Int → Option Int → Hp → VK → Prop := fun x lo hi H Q => rSlL K x lo hi H Q ∨ rSlA K x lo hi H Q ∨ rSlS x lo hi H Q
theorem slX : SlR X (rSlX X.K) := SlR.or sl_list (SlR.or sl_tupA sl_str)
theorem okSl {x : V} {d : D} {lo hi : Option Int} {s : S} {Z H : Hp} {Q : VK} (hx : Vw K Z H x d) (sub : Same Z H) (hp : pSl d lo hi = some s) (n : Nw K Z H s Q) : rSlX K x lo hi H Q := by
  match d, hp, hx with
  | .lst ds, hp, hx =>
    cases hp
    obtain ⟨p, vs, e1, h1, r1⟩ := hx.lst sub
    exact .inl ⟨p, vs, e1, .of h1, fun l hl => n.lst sub (r1.cut lo hi) hl⟩
  | .tup ds, hp, hx =>
    cases hp
    have hr := hx.tupR
    obtain ⟨p, vs, e1, h1, r1⟩ := hx.tup sub
    refine .inr (.inl ⟨p, vs, e1, h1, fun hw => ?_, fun _ l hl => n.tup sub (r1.cut lo hi) hl⟩)
    subst e1
    have e2 : cutD ds lo hi = ds := by
      unfold cutD
      rw [r1.length] at hw
      rw [hw.1, hw.2, List.drop_zero, Nat.sub_zero, List.take_length]
    rw [e2] at n
    exact n.val sub hr
  | .str z, hp, hx =>
    simp only [pSl] at hp
    split at hp
    · rename_i hl; cases hp
      exact .inr (.inr ⟨z, hx.str, line_ge hl, n.val sub (.str _)⟩)
    · cases hp
def slM (x : Arg) (lo hi : Option Int) : M Arg := do
  let d ← view x
  let s ← up (pSl d lo hi)
  pure (.tmp s)
def mSl (a : M Arg) (l h : M (Option Int)) : M Arg := do let x ← a; let l ← l; let h ← h; slM x l h
theorem e_slice {e : Expr} {lo hi : Option Expr} {pos p2 : Pos} {me : M Arg} {ml mh : M (Option Int)} (he : EA X e me) (hl : EO X lo ml) (hh : EO X hi mh) :
    EA X (.Subscript e (.Slice lo hi none p2) pos) (mSl me ml mh) := PE_imp (pe_slice slX he hl hh) fun σ H Q h => by
  obtain ⟨g, Z, F, ro, g', e, f, post⟩ := h
  obtain ⟨ra, g1, e1, e⟩ := M.bind_some e
  obtain ⟨l, g2, e2, e⟩ := M.bind_some e
  obtain ⟨u, g3, e3, e⟩ := M.bind_some e
  obtain ⟨d, g4, e4, e⟩ := M.bind_some e
  obtain ⟨s, g5, e5, e⟩ := M.bind_some e
  obtain ⟨rfl, rfl⟩ := M.pure_some e
  obtain ⟨e6, rfl⟩ := up_some e5
  refine ⟨g, Z, F, ra, g1, e1, f, fun x H1 Z1 F1 T1 f1 a1 s1 st1 => ⟨g1, Z1, F1, l, g2, e2, f1, fun H2 Z2 F2 f2 st2 => ⟨g2, Z2, F2, u, g3, e3, f2, fun H3 Z3 F3 f3 st3 => ?_⟩⟩⟩
  have dd : ∀ a, T1 a → ¬ Un F1 a := fun a q ⟨i, z⟩ => s1 i a z q
  have st := st2.trans st3
  obtain ⟨rfl, w⟩ := view_ok f3 (a1.past st dd) e4
  refine okSl w f3.sub e6 fun v H4 Z4 T gw rep => ?_
  refine post v H4 Z4 F3 T (f3.grow gw) rep (fun i a q z => ?_) ?_
  · obtain ⟨o, e⟩ := f3.inH ⟨i, q⟩
    rw [gw.fresh a z] at e; cases e
  · exact ((st1.trans (Stp.beside (T := T1) st)).trans gw.stp).less fun b q => q.imp (fun q => .inl q) id
/-- xs[::-1] of a list -/
def pRev : D → Option S
  | .lst ds => some (.lst ds.reverse)
  | _ => none
theorem e_rev {e : Expr} {k : Nat} {p1 p2 p3 pos : Pos} {me : M Arg} (he : EA X e me) : EA X (.Subscript e (.Slice none none (some (.UnaryOp .USub (.Constant (.int 1) k p1) p2)) p3) pos) (mUn pRev me) :=
  PE_imp (pe_revL he) fun σ H Q h => by
  refine one_read (r := fun x H1 Q => ∃ a xs, x = .ref a ∧ SqL X.K H1 a xs ∧ ∀ p, H1 p = none → Q (.ref p) (upd H1 p (.lst xs.reverse))) (fun x d s Z H Q hx sub hp n => ?_) h
  match d, hp, hx with
  | .lst ds, hp, hx =>
    cases hp
    obtain ⟨p, vs, e1, h1, r1⟩ := hx.lst sub
    exact ⟨p, vs, e1, .of h1, fun l hl => n.lst sub r1.reverse hl⟩

/-! ### lists changed in place -/
/-- the slot's own list gets new items -/
theorem Fine.write {Z H : Hp} {σ : L2.St} {g : G} {F : Fs} {i : Nat} {ds ds' : List D} (f : Fine K Z H σ g F) (e : g[i]? = some (some (.lst ds))) :
    ∃ a vs, σ[i]? = some (some (.ref a)) ∧ H a = some (.lst vs) ∧ Reps K Z vs ds ∧ ∀ vs', Reps K Z vs' ds' → Fine K Z (upd H a (.lst vs')) σ (g.set i (some (.lst ds'))) F ∧ Stp Z H (Un F) Z (upd H a (.lst vs')) (Un F) := by
  obtain ⟨v, e1, a, vs, rfl, e2, e3, r, iff⟩ := f.rep i _ e
  have hi : i < g.length := (List.getElem?_eq_some_iff.mp e).1
  refine ⟨a, vs, e1, e2, r, fun vs' r' => ⟨⟨fun b x q => ?_, by rw [List.length_set]; exact f.len, fun j s q => ?_, f.sep, fun j h b => ?_⟩, ?_⟩⟩
  · rw [upd_ne (ne_of_none q e3)]; exact f.sub b x q
  · by_cases h : j = i
    · subst h
      rw [List.getElem?_set_self hi] at q
      cases q
      exact ⟨_, e1, a, vs', rfl, upd_same, e3, r', iff⟩
    · rw [List.getElem?_set_ne (Ne.symm h)] at q
      obtain ⟨w, e4, r4⟩ := f.rep j s q
      exact ⟨w, e4, r4.stay (Same.refl _) (fun b hb => upd_ne fun z => h (f.sep j i b hb ((iff b).mpr z))) fun b hb => r4.notZ hb⟩
  · by_cases hj : j = i
    · subst hj
      exact absurd (List.getElem?_set_self hi) (h _)
    · refine f.emp j (fun s q => h s ?_) b
      rw [List.getElem?_set_ne (Ne.symm hj)]; exact q
  · exact Stp.refl.writes ⟨i, (iff a).mpr rfl⟩ ⟨_, e2⟩
def isL (i : Nat) : M Unit := fun g => match g[i]? with
  | some (some (.lst _)) => some ((), g)
  | some (some (.val (.lst _))) => some ((), g)
  | _ => none
/-- a method that changes the slot's own list: what it was and what is handed in give the new one and what is told -/
def mutM (i : Nat) (p : List D → List D → Option (List D × D)) (ds : List D) : M Arg := fun g => match g[i]? with
  | some (some (.lst cur)) => match p cur ds with
    | some (new, res) => if new.length ≤ 100000 then some (.tmp (.val res), g.set i (some (.lst new))) else none
    | none => none
  | _ => none
def mMut (i : Nat) (p : List D → List D → Option (List D × D)) (a : M (List Arg)) : M Arg := do isL i; let rs ← a; let ds ← escs rs; mutM i p ds
def MutP (K : PySem.W.Frag) (r : V → List V → Hp → VK → Prop) (p : List D → List D → Option (List D × D)) : Prop :=
  ∀ (a : Addr) (vs ws : List V) (cur ds new : List D) (res : D) (Z H : Hp) (Q : VK), Same Z H → H a = some (.lst vs) → Z a = none → Reps K Z vs cur → Reps K Z ws ds → p cur ds = some (new, res) → new.length ≤ 100000 →
    (∀ vs' v, Reps K Z vs' new → Rep K Z v res → Q v (upd H a (.lst vs'))) → r (.ref a) ws H Q
theorem mut_read {i : Nat} {m : M (List Arg)} {p : List D → List D → Option (List D × D)} {r : V → List V → Hp → VK → Prop} (hp : MutP K r p) {σ : L2.St} {H : Hp} {Q : VK}
    (h : tA K (mMut i p m) σ H Q) : ∃ v, σ[i]? = some (some v) ∧ tyV K "list" v H ∧ tAs K m σ H fun ws H1 => r v ws H1 Q := by
  obtain ⟨g, Z, F, ro, g', e, f, post⟩ := h
  obtain ⟨_, g0, e0, e⟩ := M.bind_some e
  obtain ⟨rs, g1, e1, e⟩ := M.bind_some e
  obtain ⟨ds, g2, e2, eM⟩ := M.bind_some e
  clear e
  change (match g[i]? with
    | some (some (.lst _)) => some ((), g)
    | some (some (.val (.lst _))) => some ((), g)
    | _ => none) = _ at e0
  have hv : g0 = g ∧ ∃ v, σ[i]? = some (some v) ∧ tyV K "list" v H := by
    split at e0
    · rename_i cur hc
      cases e0
      obtain ⟨v, q, a, vs, rfl, e2, _, r, _⟩ := f.rep i _ hc
      exact ⟨rfl, _, q, .inl ⟨rfl, vs, .of e2⟩⟩
    · rename_i cur hc
      cases e0
      obtain ⟨v, q, r, _⟩ := f.rep i _ hc
      cases r with
      | lst hz r => exact ⟨rfl, _, q, .inl ⟨rfl, _, .of (f.sub _ _ hz)⟩⟩
    · cases e0
  obtain ⟨rfl, v, hv, ty⟩ := hv
  refine ⟨v, hv, ty, g0, Z, F, rs, g1, e1, f, fun ws H1 Z1 F1 T1 f1 a1 s1 st1 => ?_⟩
  obtain ⟨Z2, F2, f2, r2, st2⟩ := escs_ok f1 a1 s1 e2
  change (match g2[i]? with
    | some (some (.lst cur)) => match p cur ds with
      | some (new, res) => if new.length ≤ 100000 then some (Arg.tmp (.val res), g2.set i (some (.lst new))) else none
      | none => none
    | _ => none) = _ at eM
  split at eM
  · rename_i cur hc
    split at eM
    · rename_i new res hpe
      split at eM
      · rename_i hl
        cases eM
        obtain ⟨a, vs, e3, e4, r4, wr⟩ := f2.write (ds' := new) hc
        rw [hv] at e3; cases e3
        obtain ⟨v', e5, a', vs2, e6, e7, z7, _, _⟩ := f2.rep i _ hc
        rw [hv] at e5; cases e5; cases e6
        refine hp a vs ws cur ds new res Z2 H1 Q f2.sub e4 z7 r4 r2 hpe hl fun vs' w r' rw' => ?_
        obtain ⟨f3, st3⟩ := wr vs' r'
        exact post w _ Z2 F2 (fun _ => False) f3 ⟨rw', fun _ => id⟩ (fun _ _ _ => id) (((st1.trans st2).trans st3).less fun b q => q.elim id fun z => z.elim)
      · cases eM
    · cases eM
  · cases eM
theorem e_mut {i : Nat} {x name : Str} {id : String} {p0 apos cpos : Pos} {e : Expr} {es : List Expr} {m : M (List Arg)} {p : List D → List D → Option (List D × D)} {r : V → List V → Hp → VK → Prop} (slot : Slot "list" name id) (hty : typeOf (.builtin id) = pure (.type "method_descriptor")) (hm : MtR X id r)
    (hp : MutP X.K r p) (ho : PE X (.Name x p0) (tVar i)) (ha : EL X (e :: es) m) (hbase : attributeBase (.Name x p0) name X.env (eval (.Name x p0) X.env) = eval (.Name x p0) X.env := by rfl)
    (hfew : ((backTo cpos (starEach (e :: es) X.env)).all (fun x => !x.1) && (backToKw cpos (keywordEach [] X.env)).all (fun x => x.1.isSome) && decide ((e :: es).length + ([] : List Keyword).length + (if ([] : List Keyword).isEmpty then 0 else 1) < 30)) = true := by rfl)
    (hline : (apos.endLine == cpos.line) = true := by rfl) (hs : starEach (e :: es) X.env = (false, eval e X.env) :: starEach es X.env := by rfl) (hplain : (backTo cpos (starEach es X.env)).any (·.1) = false := by rfl) :
    EA X (.Call (.Attribute (.Name x p0) name apos) (e :: es) [] cpos) (mMut i p m) :=
  PE_imp (pe_bm PySem.F.plainAttrs_list slot hty hm ho ha hbase hfew hline hs hplain) fun σ H Q h => by
  obtain ⟨v, e, ty, t⟩ := mut_read hp h
  exact ⟨v, e, ty, t⟩
theorem e_mut0 {i : Nat} {x name : Str} {id : String} {p0 apos cpos : Pos} {p : List D → List D → Option (List D × D)} {r : V → List V → Hp → VK → Prop} (slot : Slot "list" name id) (hty : typeOf (.builtin id) = pure (.type "method_descriptor")) (hm : MtR X id r)
    (hp : MutP X.K r p) (ho : PE X (.Name x p0) (tVar i)) (hbase : attributeBase (.Name x p0) name X.env (eval (.Name x p0) X.env) = eval (.Name x p0) X.env := by rfl) (hline : (apos.endLine == cpos.line) = true := by rfl) :
    EA X (.Call (.Attribute (.Name x p0) name apos) [] [] cpos) (mMut i p aNil) :=
  PE_imp (pe_bm0 PySem.F.plainAttrs_list slot hty hm ho hbase hline) fun σ H Q h => by
  obtain ⟨v, e, ty, t⟩ := mut_read hp h
  obtain ⟨g, Z, F, rs, g', e1, f, post⟩ := t
  cases e1
  exact ⟨v, e, ty, post [] H Z F (fun _ => False) f (fun _ h => h) (fun _ _ _ h => h) (Stp.refl.less fun b q => q.elim (fun h => h) fun z => z.elim)⟩
def pAppend : List D → List D → Option (List D × D)
  | cur, [d] => some (cur ++ [d], .non)
  | _, _ => none
theorem okAppend : MutP K rAppend pAppend := fun a vs ws cur ds new res Z H Q sub hH _ r r2 e hl n => by
  match ds, e, r2 with
  | [d], e, r2 =>
    cases e
    obtain ⟨w, rfl, rw'⟩ := r2.one
    refine ⟨a, vs, w, rfl, rfl, hH, ?_, n _ _ (r.append (.cons rw' .nil)) .non⟩
    rw [r.length]
    rw [List.length_append] at hl
    exact line_gt (Nat.le_trans (Nat.le_add_right _ _) hl)
/-- x[k] = e -/
def setAtM (i : Nat) (k : Int) (d : D) : M Unit := fun g => match g[i]? with
  | some (some (.lst cur)) => match ixN cur.length k with
    | some j => some ((), g.set i (some (.lst (cur.set j d))))
    | none => none
  | _ => none
def cSetAt (i : Nat) (k a : M Arg) : M Fl := do let r ← a; let _ ← rd i; let rk ← k; let kd ← view rk; let k ← up (asI kd); let d ← esc r; setAtM i k d; pure .next
theorem s_setAt {i : Nat} {x : Str} {p0 tpos pos : Pos} {ek e : Expr} {m mk : M Arg} (he : EA X e m) (ho : PE X (.Name x p0) (tVar i)) (hk : EA X ek mk)
    (hw : ∀ v, assign (.Subscript (.Name x p0) ek tpos) X.env v = (do
      let ov ← holding [v] (eval (.Name x p0) X.env)
      let iv ← holding [v, ov] (eval ek X.env)
      standAt tpos
      holding [v, ov, iv] (setItem ov iv v)
      release [v, ov, iv] []) := by intro _; rfl)
    (hs : swapsWithSole [.Subscript (.Name x p0) ek tpos] e pos.line X.env = pure false := by rfl) (hw2 : swappedStores [.Subscript (.Name x p0) ek tpos] e X.env = pure none := by rfl)
    (h1 : (assignEach [.Subscript (.Name x p0) ek tpos] X.env).map (·.2) = [assign (.Subscript (.Name x p0) ek tpos) X.env] := by rfl) :
    ES X pr (.Assign [.Subscript (.Name x p0) ek tpos] e pos) (cSetAt i mk m) :=
  PS_imp (ps_asg he (pg_sub ho hk set_list hw) hs hw2 h1) fun D σ H h => by
  obtain ⟨g, Z, F, fl, g', e, f, post⟩ := h
  obtain ⟨r, g1, e1, e⟩ := M.bind_some e
  obtain ⟨ri, g2, e2, e⟩ := M.bind_some e
  obtain ⟨rk, g3, e3, e⟩ := M.bind_some e
  obtain ⟨kd, g4, e4, e⟩ := M.bind_some e
  obtain ⟨k, g5, e5, e⟩ := M.bind_some e
  obtain ⟨d, g6, e6, e⟩ := M.bind_some e
  obtain ⟨_, g7, e7, e⟩ := M.bind_some e
  cases e
  obtain ⟨e5', rfl⟩ := up_some e5
  refine ⟨g, Z, F, r, g1, e1, f, fun v H1 Z1 F1 T1 f1 a1 s1 st1 => ?_⟩
  change (match g1[i]? with
    | some (some _) => some (Arg.slot i, g1)
    | _ => none) = _ at e2
  split at e2
  · rename_i sv hsv
    cases e2
    obtain ⟨o, eo, _⟩ := f1.rep i _ hsv
    refine ⟨o, eo, _, Z1, F1, rk, g3, e3, f1, fun kv H2 Z2 F2 T2 f2 a2 s2 st2 => ?_⟩
    have dd : ∀ a, T1 a → ¬ Un F1 a := fun a q ⟨i, z⟩ => s1 i a z q
    have a1' := a1.past st2 dd
    obtain ⟨rfl, wk⟩ := view_ok f2 a2 e4
    rw [asI_eq e5'] at wk
    have s1' : ∀ i a, F2 i a → ¬ T1 a := fun i a q z => a1.apart st2 dd z (.inl ⟨i, q⟩)
    obtain ⟨Z3, F3, f3, r3, st3⟩ := esc_ok f2 a1' s1' e6
    change (match g6[i]? with
      | some (some (.lst cur)) => match ixN cur.length k with
        | some j => some ((), g6.set i (some (.lst (cur.set j d))))
        | none => none
      | _ => none) = _ at e7
    split at e7
    · rename_i cur hc
      split at e7
      · rename_i j hj
        cases e7
        obtain ⟨a, vs, e8, e9, r9, wr⟩ := f3.write (ds' := cur.set j d) hc
        rw [eo] at e8; cases e8
        obtain ⟨f4, st4⟩ := wr _ (Reps.set r3 j r9)
        refine ⟨a, vs, k, j, rfl, wk.int, e9, by rw [r9.length]; exact hj, ?_⟩
        refine post σ _ Z3 F3 f4 (fun _ _ => rfl) ?_
        have q2 : Stp Z1 H1 (fun b => Un F1 b ∨ T1 b) Z2 H2 (fun b => Un F2 b ∨ T1 b) := (Stp.beside (T := T1) st2).less fun b q => q.imp .inl id
        exact ((st1.trans q2).trans st3).trans st4
      · cases e7
    · cases e7
  · cases e2
/-- x[k] op= e -/
def rGetL : V → V → Hp → VK → Prop := fun o i H Q => ∃ p xs k v, o = .ref p ∧ i = .int k ∧ H p = some (.lst xs) ∧ atI xs k = some v ∧ Q v H
theorem get_list : PGet X rGetL := by
  intro pins s σ H x y v u Q I rx ry h
  obtain ⟨p, xs, k, z, rfl, rfl, hq, he, q⟩ := h
  cases rx
  obtain ⟨t, rfl⟩ := ry
  obtain ⟨its, r, pl, hz⟩ := I.list (.of hq)
  obtain ⟨j, h1, h2, h3, h4, h5⟩ := atI_get he
  obtain ⟨w, ew, rw'⟩ := r.get h2
  have hl := r.length
  have hn := line63
  have fin : EP X pins σ Q w s := ⟨z, H, I, rw', q⟩
  by_cases h0 : 0 ≤ k
  · have hj : k.toNat = j := by
      rw [seqIndex_of h0 h5] at h1
      exact Option.some.inj h1
    exact wpAny_getItem_list pl.isList h0 (by omega) (x := w) (by rw [hj]; simpa using ew) fin
  · unfold atI ixN at he
    rw [if_neg h0] at he
    have hk : -(xs.length : Int) ≤ k := h4
    rw [if_pos hk] at he
    have he' : xs[(k + xs.length).toNat]? = some z := he
    obtain ⟨w2, ew2, rw2⟩ := r.get he'
    refine wpAny_getItem_list_neg pl.isList (by omega) (by simp; omega) (by omega) (x := w2) ?_ ⟨z, H, I, rw2, q⟩
    simp only [List.size_toArray, ← hl]
    simpa using ew2
def getAtM (i : Nat) (k : Int) : M D := fun g => match g[i]? with
  | some (some (.lst cur)) => match atI cur k with
    | some d => some (d, g)
    | none => none
  | _ => none
def asV : S → Option D
  | .val d => some d
  | _ => none
def cAugAt (i : Nat) (p : D → D → Option S) (k a : M Arg) : M Fl := do let _ ← rd i; let rk ← k; let kd ← view rk; let k ← up (asI kd); let old ← getAtM i k; let r ← a; let y ← view r; let s ← up (p old y); let d ← up (asV s); setAtM i k d; pure .next
def cAug (i : Nat) (p : D → D → Option S) (a : M Arg) : M Fl := do let o ← rd i; let r ← a; let x ← view o; let y ← view r; let s ← up (p x y); let d ← up (asV s); setD i d; pure .next
theorem s_augAt {i : Nat} {x : Str} {op : Operator} {p0 tpos pos : Pos} {ek e : Expr} {me mk : M Arg} {p : D → D → Option S} {r : R2} (hop : OpR X (inplaceOp op) r) (hp : OpP X.K r p) (ho : PE X (.Name x p0) (tVar i)) (hk : EA X ek mk) (he : EA X e me)
    (hw : ∀ ov iv new, augStore ek ov iv new = (do holding [new, ov, iv] (setItem ov iv new); release [new, ov, iv] []; pure .next) := by intros; rfl) :
    ES X pr (.AugAssign (.Subscript (.Name x p0) ek tpos) op e pos) (cAugAt i p mk me) :=
  PS_imp (ps_augS ho hk get_list he hop set_list hw) fun D σ H h => by
  obtain ⟨g, Z, F, fl, g', e, f, post⟩ := h
  obtain ⟨ri, g1, e1, e⟩ := M.bind_some e
  obtain ⟨rk, g3, e3, e⟩ := M.bind_some e
  obtain ⟨kd, g4, e4, e⟩ := M.bind_some e
  obtain ⟨k, g5, e5, e⟩ := M.bind_some e
  obtain ⟨old, g6, e6, e⟩ := M.bind_some e
  obtain ⟨r, g7, e7, e⟩ := M.bind_some e
  obtain ⟨y, g8, e8, e⟩ := M.bind_some e
  obtain ⟨s, g9, e9, e⟩ := M.bind_some e
  obtain ⟨d, g10, e10, e⟩ := M.bind_some e
  obtain ⟨_, g11, e11, e⟩ := M.bind_some e
  cases e
  obtain ⟨e5', rfl⟩ := up_some e5
  obtain ⟨e9', rfl⟩ := up_some e9
  obtain ⟨e10', rfl⟩ := up_some e10
  change (match g[i]? with
    | some (some _) => some (Arg.slot i, g)
    | _ => none) = _ at e1
  split at e1
  · rename_i sv hsv
    cases e1
    obtain ⟨o, eo, _⟩ := f.rep i _ hsv
    refine ⟨o, eo, g, Z, F, rk, g3, e3, f, fun kv H2 Z2 F2 T2 f2 a2 s2 st2 => ?_⟩
    obtain ⟨rfl, wk⟩ := view_ok f2 a2 e4
    rw [asI_eq e5'] at wk
    change (match g3[i]? with
      | some (some (.lst cur)) => match atI cur k with
        | some d => some (d, g3)
        | none => none
      | _ => none) = _ at e6
    split at e6
    · rename_i cur hc
      split at e6
      · rename_i od hod
        cases e6
        obtain ⟨a, vs, e12, e13, r13, _⟩ := f2.write (ds' := cur) hc
        rw [eo] at e12; cases e12
        obtain ⟨ov, hov, rov⟩ := r13.atI hod
        refine ⟨a, vs, k, ov, rfl, wk.int, e13, hov, g3, Z2, F2, r, g7, e7, f2, fun yv H3 Z3 F3 T3 f3 a3 s3 st3 => ?_⟩
        obtain ⟨rfl, wy⟩ := view_ok f3 a3 e8
        have hs : s = .val d := by cases s <;> cases e10'; rfl
        subst hs
        refine hp ov yv _ y _ Z3 H3 _ (.frz (rov.mono st3.sub)) wy f3.sub e9' fun v H4 Z4 T4 gw rep => ?_
        have f4 := f3.grow gw
        change (match g7[i]? with
          | some (some (.lst cur)) => match ixN cur.length k with
            | some j => some ((), g7.set i (some (.lst (cur.set j d))))
            | none => none
          | _ => none) = _ at e11
        split at e11
        · rename_i cur2 hc2
          split at e11
          · rename_i j hj
            cases e11
            obtain ⟨a', vs', e14, e15, r15, wr⟩ := f4.write (ds' := cur2.set j d) hc2
            rw [eo] at e14; cases e14
            obtain ⟨f5, st5⟩ := wr _ (Reps.set rep.1 j r15)
            refine ⟨a, vs', k, j, rfl, wk.int, e15, by rw [r15.length]; exact hj, post σ _ Z4 F3 f5 (fun _ _ => rfl) ?_⟩
            exact (((st2.less fun _ => .inl).trans (st3.less fun _ => .inl)).trans (gw.stp.less fun _ => .inl)).trans st5
          · cases e11
        · cases e11
      · cases e6
    · cases e6
  · cases e1
/-- x op= e at a name -/
theorem s_aug {i : Nat} {x : Str} {e : Expr} {op : Operator} {pos pos' : Pos} {m : M Arg} {p : D → D → Option S} {r : R2} (hop : OpR X (inplaceOp op) r) (hp : OpP X.K r p) (hN : X.N.Nodup) (hi : X.N[i]? = some x) (hx : Loc X.env.scope x) (hpr : ¬ pr i) (he : EA X e m)
    (hf : X.fn x = true ∨ X.env.scope.names.lookup x = some .local := by first | exact .inl rfl | exact .inr rfl | assumption) :
    ES X pr (.AugAssign (.Name x pos') op e pos) (cAug i p m) :=
  PS_imp (ps_aug hN hi hx he hop hf) fun D σ H h => by
  obtain ⟨g, Z, F, fl, g', e, f, post⟩ := h
  obtain ⟨ri, g1, e1, e⟩ := M.bind_some e
  obtain ⟨r, g2, e2, e⟩ := M.bind_some e
  obtain ⟨a, g3, e3, e⟩ := M.bind_some e
  obtain ⟨y, g4, e4, e⟩ := M.bind_some e
  obtain ⟨s, g5, e5, e⟩ := M.bind_some e
  obtain ⟨d, g6, e6, e⟩ := M.bind_some e
  obtain ⟨_, g7, e7, e⟩ := M.bind_some e
  cases e
  obtain ⟨e5', rfl⟩ := up_some e5
  obtain ⟨e6', rfl⟩ := up_some e6
  have hs : s = .val d := by cases s <;> cases e6'; rfl
  subst hs
  change (match g[i]? with
    | some (some _) => some (Arg.slot i, g)
    | _ => none) = _ at e1
  split at e1
  · rename_i sv hsv
    cases e1
    obtain ⟨o, eo, _⟩ := f.rep i _ hsv
    refine ⟨o, eo, g, Z, F, r, g2, e2, f, fun yv H1 Z1 F1 T1 f1 a1 s1 st1 => ?_⟩
    obtain ⟨rfl, wa⟩ := view_ok f1 (r := .slot i) (T := fun _ => False) ⟨eo, fun _ h => h⟩ e3
    obtain ⟨rfl, wy⟩ := view_ok f1 a1 e4
    refine hp o yv a y _ Z1 H1 _ wa wy f1.sub e5' fun v H2 Z2 T gw rep => ?_
    have f2 := f1.grow gw
    unfold setD at e7
    split at e7
    · rename_i hl
      cases e7
      have e0 : ∀ b, ¬ T b := rep.2
      refine post _ H2 Z2 _ (f2.set hl rep fun _ b _ => e0 b) (set_other hpr) (((st1.less fun _ => .inl).trans gw.stp).less fun b q => ?_)
      exact (un_set q).imp (fun h => h) fun h => h
    · cases e7
  · cases e1
end
end DL

/-! The data layer, part H: the combinators that a def's program is written with, and their rules. -/
namespace DL
open PySem PySem.Spec PyProof.Rows L2
/-- what is handed to a name -/
def toS : Arg → M S
  | .tmp s => fun g => some (s, g)
  | .slot i => fun g => match g[i]? with
    | some (some s) => some (.val s.frz, g.set i (some (.val s.frz)))
    | _ => none
def putS (i : Nat) (s : S) : M Unit := fun g => if i < g.length then some ((), g.set i (some s)) else none
def cPar (i j : Nat) (a : M (List Arg)) : M Fl := do
  let rs ← a
  match rs with
  | [r1, r2] => do let s1 ← toS r1; let s2 ← toS r2; putS i s1; putS j s2; pure .next
  | _ => fun _ => none
def cPar3 (i j k : Nat) (a : M (List Arg)) : M Fl := do
  let rs ← a
  match rs with
  | [r1, r2, r3] => do let s1 ← toS r1; let s2 ← toS r2; let s3 ← toS r3; putS i s1; putS j s2; putS k s3; pure .next
  | _ => fun _ => none

section
variable {K : PySem.W.Frag} {Z Z1 H H1 : Hp} {σ : L2.St} {g g' : G} {F : Fs} {T U U1 : Fp}
theorem toS_ok {v : V} {r : Arg} {s : S} (f : Fine K Z H σ g F) (h : ARep K Z H σ v r T) (d : ∀ i a, F i a → ¬ T a) (e : toS r g = some (s, g')) :
    ∃ Z' F' T', Fine K Z' H σ g' F' ∧ RepS K Z' H v s T' ∧ (∀ a, T' a → T a) ∧ Stp Z H (Un F) Z' H (Un F') := by
  cases r with
  | tmp t => cases e; exact ⟨Z, F, T, f, h, fun _ h => h, Stp.refl⟩
  | slot i =>
    change (match g[i]? with
      | some (some s) => some (S.val s.frz, g.set i (some (.val s.frz)))
      | _ => none) = _ at e
    split at e
    · rename_i t q
      cases e
      obtain ⟨Z', F', f', r, st⟩ := f.freezeAt q
      exact ⟨Z', F', fun _ => False, f', ⟨r v h.1, fun _ h => h⟩, fun _ h => h.elim, st⟩
    · cases e
theorem putS_ok {i : Nat} {v : V} {s : S} (f : Fine K Z H σ g F) (r : RepS K Z H v s T) (d : ∀ j a, F j a → ¬ T a) (e : putS i s g = some ((), g')) :
    ∃ F', Fine K Z H (σ.set i (some v)) g' F' ∧ (∀ b, Un F' b → Un F b ∨ T b) := by
  unfold putS at e
  split at e
  · rename_i hl
    cases e
    exact ⟨_, f.set hl r d, fun b q => un_set q⟩
  · cases e
end
section
variable {X : Cx} {pr : Nat → Prop}
theorem s_par' {i j : Nat} {x y : Str} {a b : Expr} {m : M (List Arg)} {px py pt pos : Pos} {kt k2 pt2} (hc : X.calm = true) (hN : X.N.Nodup) (hi : X.N[i]? = some x) (hj : X.N[j]? = some y) (hij : i ≠ j)
    (hx : X.env.scope.names.lookup x = some .local) (hy : X.env.scope.names.lookup y = some .local) (h1 : ¬ pr i) (h2 : ¬ pr j) (ha : EL X [a, b] m)
    (hw : swappedStores [.Tuple [.Name x px, .Name y py] kt pt] (.Tuple [a, b] k2 pt2) X.env = pure (some [x, y]))
    (hs : swapsWithSole [.Tuple [.Name x px, .Name y py] kt pt] (.Tuple [a, b] k2 pt2) pos.line X.env = pure false := by rfl) :
    ES X pr (.Assign [.Tuple [.Name x px, .Name y py] kt pt] (.Tuple [a, b] k2 pt2) pos) (cPar i j m) := PS_imp (ps_par hc hN hi hj hij hx hy ha hw hs) fun D σ H h => by
  obtain ⟨g, Z, F, fl, g', e, f, post⟩ := h
  obtain ⟨rs, g1, e1, e⟩ := M.bind_some e
  refine ⟨g, Z, F, rs, g1, e1, f, fun vs H1 Z1 F1 T f1 a1 s1 st1 => ?_⟩
  match rs, vs, e, a1 with
  | [r1, r2], [v, w], e, ⟨T1, T2', q1, ⟨T2, T3, q2, _, _, e2⟩, d12, e0⟩ =>
    obtain ⟨t1, g2, e3, e⟩ := M.bind_some e
    obtain ⟨t2, g3, e4, e⟩ := M.bind_some e
    obtain ⟨_, g4, e5, e⟩ := M.bind_some e
    obtain ⟨_, g5, e6, e⟩ := M.bind_some e
    cases e
    refine ⟨v, w, rfl, ?_⟩
    have dF1 : ∀ i a, F1 i a → ¬ T1 a := fun i a q z => s1 i a q ((e0 a).mpr (.inl z))
    have dF2 : ∀ i a, F1 i a → ¬ T2 a := fun i a q z => s1 i a q ((e0 a).mpr (.inr ((e2 a).mpr (.inl z))))
    obtain ⟨Z2, F2, U1, f2, p1, sub1, st2⟩ := toS_ok f1 q1 dF1 e3
    have d2 : ∀ a, T2 a → ¬ Un F1 a := fun a q ⟨i, z⟩ => dF2 i a z q
    have q2' := q2.past st2 d2
    have dF2' : ∀ i a, F2 i a → ¬ T2 a := fun i a q z => q2.apart st2 d2 z ⟨i, q⟩
    obtain ⟨Z3, F3, U2, f3, p2, sub2, st3⟩ := toS_ok f2 q2' dF2' e4
    have d1 : ∀ a, U1 a → ¬ Un F1 a := fun a q ⟨i, z⟩ => dF1 i a z (sub1 a q)
    have d1' : ∀ a, U1 a → ¬ Un F2 a := fun a q z => by
      have rr := q1
      cases r1 with
      | tmp t => exact RepS.apart st2 q1 (fun a q ⟨i, z⟩ => dF1 i a z q) (sub1 a q) z
      | slot k => exact q1.2 a (sub1 a q)
    have p1' := p1.past st3 d1'
    obtain ⟨F4, f4, i4⟩ := putS_ok f3 p1' (fun i a q z => p1.apart st3 d1' z ⟨i, q⟩) e5
    have d24 : ∀ i a, F4 i a → ¬ U2 a := fun i a q z => by
      rcases i4 a ⟨i, q⟩ with ⟨j, y⟩ | y
      · exact RepS.apart (Stp.refl (Z := Z3) (H := H1) (U := Un F3)) p2 (fun a q z => by
          cases r2 with
          | tmp t =>
            have := q2'.apart st3 (fun a q ⟨i, z⟩ => dF2' i a z q) (sub2 a q)
            exact this z
          | slot k => exact q2.2 a (sub2 a q)) z ⟨j, y⟩
      · exact d12 a (sub1 a y) ((e2 a).mpr (.inl (sub2 a z)))
    obtain ⟨F5, f5, i5⟩ := putS_ok f4 p2 d24 e6
    refine post _ H1 Z3 F5 f5 (fun k q => (set_other h2 k q).trans (set_other h1 k q)) ?_
    have sA : Stp Z H (Un F) Z3 H1 (fun b => Un F3 b ∨ T b) := (st1.trans (Stp.beside (T := T) (st2.trans st3)))
    refine sA.less fun b q => ?_
    rcases i5 b q with q | q
    · rcases i4 b q with q | q
      · exact .inl q
      · exact .inr ((e0 b).mpr (.inl (sub1 b q)))
    · exact .inr ((e0 b).mpr (.inr ((e2 b).mpr (.inl (sub2 b q)))))
  | [], _, e, _ => cases e
  | [_], _, e, _ => cases e
  | _ :: _ :: _ :: _, _, e, _ => cases e
/-! ### list(range(..)) -/
def pLR1 : D → Option S
  | .int n => if -1000000 ≤ n ∧ n ≤ 100000 then some (.lst (upto 0 n.toNat)) else none
  | _ => none
theorem reps_rg {K : PySem.W.Frag} {Z : Hp} {a b : Int} : Reps K Z (rgV a b) (upto a (b - a).toNat) := by
  unfold rgV upto
  generalize (b - a).toNat = n
  induction n with
  | zero => exact .nil
  | succ n ih =>
    rw [List.range_succ, List.map_append, List.map_append]
    exact ih.append (.cons (.int _) .nil)
theorem e_listRg1 {a : Expr} {ma : M Arg} {p p2 pos pos2 : Pos} (hc : X.calm = true) (hg : Gl X "list") (hm : X.mg "list" = none) (hg2 : Gl X "range") (hm2 : X.mg "range" = none) (ha : EA X a ma)
    (na : starEach [a] X.env = (false, eval a X.env) :: starEach [] X.env := by rfl) (nb : starEach [.Call (.Name "range" p2) [a] [] pos2] X.env = (false, eval (.Call (.Name "range" p2) [a] [] pos2) X.env) :: starEach [] X.env := by rfl) :
    EA X (.Call (.Name "list" p) [.Call (.Name "range" p2) [a] [] pos2] [] pos) (mUn pLR1 ma) := PE_imp (pe_listRg hc hg hm (prg_1 hg2 hm2 ha na) nb) fun σ H Q h => by
  refine one_read (r := fun x H1 Q => ∃ n, x = .int n ∧ RgOk 0 n ∧ ∀ q, H1 q = none → Q (.ref q) (upd H1 q (.lst (rgV 0 n)))) (fun x d s Z H Q hx sub hp n => ?_) h
  match d, hp, hx with
  | .int i, hp, hx =>
    simp only [pLR1] at hp
    split at hp
    · rename_i hi; cases hp
      refine ⟨i, hx.int, ⟨by omega, by omega, by omega, by omega, by omega⟩, fun q hq => n.lst sub ?_ hq⟩
      have := reps_rg (K := X.K) (Z := Z) (a := 0) (b := i)
      rwa [Int.sub_zero] at this
    · cases hp
def pLR2 : D → D → Option S
  | .int a, .int b => if -1000000 ≤ a ∧ a ≤ 1000000 ∧ -1000000 ≤ b ∧ b ≤ 1000000 ∧ b - a ≤ 100000 then some (.lst (upto a (b - a).toNat)) else none
  | _, _ => none
theorem e_listRg2 {a b : Expr} {ma mb : M Arg} {p p2 pos pos2 : Pos} (hc : X.calm = true) (hg : Gl X "list") (hm : X.mg "list" = none) (hg2 : Gl X "range") (hm2 : X.mg "range" = none) (ha : EA X a ma) (hb : EA X b mb)
    (na : starEach [a, b] X.env = (false, eval a X.env) :: starEach [b] X.env := by rfl) (na2 : starEach [b] X.env = (false, eval b X.env) :: starEach [] X.env := by rfl) (hp : (backTo pos2 (starEach [b] X.env)).any (·.1) = false := by rfl)
    (nb : starEach [.Call (.Name "range" p2) [a, b] [] pos2] X.env = (false, eval (.Call (.Name "range" p2) [a, b] [] pos2) X.env) :: starEach [] X.env := by rfl) :
    EA X (.Call (.Name "list" p) [.Call (.Name "range" p2) [a, b] [] pos2] [] pos) (mBin pLR2 ma mb) := PE_imp (pe_listRg hc hg hm (prg_2 hg2 hm2 ha hb na na2 hp) nb) fun σ H Q h => by
  refine two_read (r := fun x y H1 Q => ∃ i j, x = .int i ∧ y = .int j ∧ RgOk i j ∧ ∀ q, H1 q = none → Q (.ref q) (upd H1 q (.lst (rgV i j)))) (fun x y d e s Z H Q hx hy sub hp n => ?_) h
  match d, e, hp, hx, hy with
  | .int i, .int j, hp, hx, hy =>
    simp only [pLR2] at hp
    split at hp
    · rename_i hi; cases hp
      exact ⟨i, j, hx.int, hy.int, ⟨by omega, by omega, by omega, by omega, by omega⟩, fun q hq => n.lst sub reps_rg hq⟩
    · cases hp

/-! ### calls by keywords -/
def kgI {α : Type} (n m : Nat) (pm : List Nat) (us ws : List α) : List α := if us.length = n ∧ ws.length = m then pm.filterMap fun i => (us ++ ws)[i]? else []
theorem paired_app {α β : Type} {R : α → β → Prop} : ∀ {a c : List α} {b d : List β}, Paired R a b → Paired R c d → Paired R (a ++ c) (b ++ d)
  | _, _, _, _, .nil, q => q
  | _, _, _, _, .cons r s, q => .cons r (paired_app s q)
theorem paired_at {α β : Type} {R : α → β → Prop} : ∀ {a : List α} {b : List β} (i : Nat), Paired R a b → (a[i]? = none ∧ b[i]? = none) ∨ ∃ x y, a[i]? = some x ∧ b[i]? = some y ∧ R x y
  | _, _, _, .nil => .inl ⟨rfl, rfl⟩
  | _, _, 0, .cons r _ => .inr ⟨_, _, rfl, rfl, r⟩
  | _, _, i + 1, .cons _ s => by
    rcases paired_at i s with ⟨h1, h2⟩ | ⟨x, y, h1, h2, r⟩
    · exact .inl ⟨by simpa using h1, by simpa using h2⟩
    · exact .inr ⟨x, y, by simpa using h1, by simpa using h2, r⟩
theorem paired_pick {α β : Type} {R : α → β → Prop} {a : List α} {b : List β} (h : Paired R a b) : ∀ (pm : List Nat), Paired R (pm.filterMap fun i => a[i]?) (pm.filterMap fun i => b[i]?)
  | [] => .nil
  | i :: pm => by
    rcases paired_at i h with ⟨h1, h2⟩ | ⟨x, y, h1, h2, r⟩
    · rw [List.filterMap_cons_none h1, List.filterMap_cons_none h2]; exact paired_pick h pm
    · rw [List.filterMap_cons_some h1, List.filterMap_cons_some h2]; exact .cons r (paired_pick h pm)
theorem paired_kg {α β : Type} {R : α → β → Prop} {n m : Nat} {pm : List Nat} {a c : List α} {b d : List β} (h : Paired R a b) (q : Paired R c d) : Paired R (kgI n m pm a c) (kgI n m pm b d) := by
  unfold kgI
  rw [h.length, q.length]
  split
  · exact paired_pick (paired_app h q) pm
  · exact .nil
theorem Reps.paired {K : PySem.W.Frag} {Z : Hp} : ∀ {vs : List V} {ds : List D}, Reps K Z vs ds → Paired (Rep K Z) vs ds
  | _, _, .nil => .nil
  | _, _, .cons a r => .cons a r.paired
theorem Reps.of_paired {K : PySem.W.Frag} {Z : Hp} : ∀ {vs : List V} {ds : List D}, Paired (Rep K Z) vs ds → Reps K Z vs ds
  | _, _, .nil => .nil
  | _, _, .cons a r => .cons a (Reps.of_paired r)
theorem Reps.split {K : PySem.W.Frag} {Z : Hp} : ∀ {vs ws : List V} {ds : List D}, Reps K Z (vs ++ ws) ds → Reps K Z vs (ds.take vs.length) ∧ Reps K Z ws (ds.drop vs.length)
  | [], _, _, r => ⟨.nil, r⟩
  | v :: vs, ws, _, .cons a r => ⟨.cons a r.split.1, r.split.2⟩
theorem kb_mk {K : PySem.W.Frag} {x qual : Str} {st : Stmt} {f : Addr} {fd : FuncData} {ps ks : List Str} {n m : Nat} {pm : List Nat} (F : Fun K x qual st f fd) (hps : 0 < ps.length)
    (h : ∀ (kV doc pv : Value) (an : Option Addr) (cdv ct : Value) (us ws : List Value), us.length = n → ws.length = m → bindArgs (PySem.W.fnOf x qual (defArgs st) (defBody st) (defScope st) .none kV doc pv an cdv ct) ⟨us, ks.zip ws⟩ = pure (ps.zip (kgI n m pm us ws))) :
    KBinds K fd ps ks (kgI n m pm) (kgI n m pm) where
  to := fun s us ws _ hl => by
    obtain ⟨oc, od, kV, doc, pv, an, cdv, ct, osl, rfl, _, _⟩ := F.ex
    by_cases hh : us.length = n ∧ ws.length = m
    · exact .of_eq (h kV doc pv an cdv ct us ws hh.1 hh.2)
    · unfold kgI at hl
      rw [if_neg hh] at hl
      exact absurd hl (by simp; omega)
  rel := fun r z => paired_kg r z
abbrev EK (X : Cx) (kws : List Keyword) (m : M (List Arg)) : Prop := PK X kws (tAs X.K m)
theorem PK_imp {X : Cx} {e : List Keyword} {t t' : TA} (h : PK X e t) (i : ∀ σ H Q, t' σ H Q → t σ H Q) : PK X e t' := ⟨fun pos pins s σ H Q I q => h.run pos pins s σ H Q I (i σ H Q q)⟩
theorem cons_read {K : PySem.W.Frag} {me : M Arg} {mes : M (List Arg)} {σ : L2.St} {H : Hp} {Q : List V → Hp → Prop} (h : tAs K (aCons me mes) σ H Q) : tCons (tA K me) (tAs K mes) σ H Q := by
  obtain ⟨g, Z, F, rs, g', e, f, post⟩ := h
  obtain ⟨ra, g1, e1, e⟩ := M.bind_some e
  obtain ⟨rb, g2, e2, e⟩ := M.bind_some e
  obtain ⟨rfl, rfl⟩ := M.pure_some e
  refine ⟨g, Z, F, ra, g1, e1, f, fun x H1 Z1 F1 T1 f1 a1 s1 st1 => ⟨g1, Z1, F1, rb, g2, e2, f1, fun ys H2 Z2 F2 T2 f2 a2 s2 st2 => ?_⟩⟩
  have dd : ∀ a, T1 a → ¬ Un F1 a := fun a q ⟨i, z⟩ => s1 i a z q
  refine post (x :: ys) H2 Z2 F2 (fun a => T1 a ∨ T2 a) f2 ⟨T1, T2, a1.past st2 dd, a2, fun a q z => a1.apart st2 dd q (.inr z), fun a => Iff.rfl⟩ (fun i a q z => ?_) ?_
  · rcases z with z | z
    · exact a1.apart st2 dd z (.inl ⟨i, q⟩)
    · exact s2 i a q z
  · exact (st1.trans (Stp.beside (T := T1) st2)).less fun b q => by
      rcases q with q | q | q
      · exact .inl (.inl q)
      · exact .inr q
      · exact .inl (.inr q)
theorem nil_read {K : PySem.W.Frag} {σ : L2.St} {H : Hp} {Q : List V → Hp → Prop} (h : tAs K aNil σ H Q) : tNil σ H Q := by
  obtain ⟨g, Z, F, rs, g', e, f, post⟩ := h
  cases e
  exact post [] H Z F (fun _ => False) f (fun _ h => h) (fun _ _ _ h => h) (Stp.refl.less fun b q => q.elim (fun h => h) fun z => z.elim)
theorem ek_nil : EK X [] aNil := PK_imp pk_nil fun _ _ _ h => nil_read h
theorem ek_cons {e : Expr} {nm : Option Str} {kpos : Pos} {kws : List Keyword} {me : M Arg} {mes : M (List Arg)} (he : EA X e me) (hes : EK X kws mes) : EK X (⟨nm, e, kpos⟩ :: kws) (aCons me mes) := PK_imp (pk_cons he hes) fun _ _ _ h => cons_read h
/-- what is handed over stays nobody's own -/
def mCallK (fm : Fm) (n m : Nat) (pm : List Nat) (a b : M (List Arg)) : M Arg := do
  let rs ← a
  let zs ← b
  let ds ← escs (rs ++ zs)
  let o ← up (fm ((kgI n m pm (ds.take rs.length) (ds.drop rs.length)).map .val))
  pure (.tmp o.1)
theorem ARepL.app {K : PySem.W.Frag} {Z H : Hp} {σ : L2.St} : ∀ {vs ws : List V} {rs zs : List Arg} {T T' : Fp}, ARepL K Z H σ vs rs T → ARepL K Z H σ ws zs T' → (∀ a, T a → ¬ T' a) → ARepL K Z H σ (vs ++ ws) (rs ++ zs) (fun a => T a ∨ T' a)
  | [], ws, [], zs, T, T', h, q, d => by
    have e : (fun a => T a ∨ T' a) = T' := funext fun a => propext ⟨fun z => z.elim (fun z => absurd z (h a)) fun z => z, .inr⟩
    rw [e]; exact q
  | v :: vs, ws, r :: rs, zs, T, T', ⟨F1, F2, h1, h2, d12, e⟩, q, d => by
    have ih := ARepL.app h2 q (fun a z => d a ((e a).mpr (.inr z)))
    refine ⟨F1, _, h1, ih, fun a z y => ?_, fun a => ?_⟩
    · rcases y with y | y
      · exact d12 a z y
      · exact d a ((e a).mpr (.inl z)) y
    · show T a ∨ T' a ↔ _
      rw [e a, or_assoc]
theorem callK_read {K : PySem.W.Frag} {ma mb : M (List Arg)} {fm : Fm} {n m : Nat} {pm : List Nat} {E : XK} {σ : L2.St} {H : Hp} {Q : VK} (h : tA K (mCallK fm n m pm ma mb) σ H Q) :
    tAs K ma σ H fun vs H1 => tAs K mb σ H1 fun zs H2 => spF K fm (kgI n m pm vs zs) H2 Q E := by
  obtain ⟨g, Z, F, ro, g', e, f, post⟩ := h
  obtain ⟨rs, g1, e1, e⟩ := M.bind_some e
  obtain ⟨zs, g2, e2, e⟩ := M.bind_some e
  obtain ⟨ds, g3, e3, e⟩ := M.bind_some e
  obtain ⟨o, g4, e4, e⟩ := M.bind_some e
  obtain ⟨e5, rfl⟩ := up_some e4
  obtain ⟨r, ss'⟩ := o
  obtain ⟨rfl, rfl⟩ := M.pure_some e
  refine ⟨g, Z, F, rs, g1, e1, f, fun vs H1 Z1 F1 T1 f1 a1 s1 st1 => ⟨g1, Z1, F1, zs, g2, e2, f1, fun ws H2 Z2 F2 T2 f2 a2 s2 st2 => ?_⟩⟩
  have dd : ∀ a, T1 a → ¬ Un F1 a := fun a q ⟨i, z⟩ => s1 i a z q
  have a1' := a1.past st2 dd
  have ap := ARepL.app a1' a2 (fun a q z => a1.apart st2 dd q (.inr z))
  obtain ⟨Z3, F3, f3, r3, st3⟩ := escs_ok f2 ap (fun i a q z => by
    rcases z with z | z
    · exact a1.apart st2 dd z (.inl ⟨i, q⟩)
    · exact s2 i a q z) e3
  obtain ⟨q1, q2⟩ := r3.split
  rw [a1.length] at q1 q2
  have rr : Reps K Z3 (kgI n m pm vs ws) (kgI n m pm (ds.take rs.length) (ds.drop rs.length)) := Reps.of_paired (paired_kg q1.paired q2.paired)
  refine ⟨_, Z3, fun _ => False, r, ss', e5, f3.sub, SRepL.vals _ _ rr, fun v H' Z' T' Tv sub' rs' rv dv st' => ?_⟩
  have f4 : Fine K Z' H' σ g3 F3 := ⟨sub', f3.len, fun i s e => by
    obtain ⟨w, e6, r6⟩ := f3.rep i s e
    exact ⟨w, e6, r6.past st' fun _ _ h => h⟩, f3.sep, f3.emp⟩
  refine post v H' Z' F3 Tv f4 rv (fun i a q z => ?_) ?_
  · obtain ⟨o, e⟩ := f3.inH ⟨i, q⟩
    rcases st'.own a (.inr z) with y | y
    · exact y
    · rw [e] at y; cases y
  · have sA : Stp Z H (Un F) Z3 H2 (Un F3) := by
      refine Stp.trans (U1 := fun b => Un F2 b ∨ (T1 b ∨ T2 b)) ((st1.trans (Stp.beside (T := T1) st2)).less fun b q => ?_) st3
      rcases q with q | q | q
      · exact .inl (.inl q)
      · exact .inr q
      · exact .inl (.inr q)
    have sB : Stp Z3 H2 (Un F3) Z' H' (fun b => (T' b ∨ Tv b) ∨ Un F3 b) := (Stp.beside (T := Un F3) st').more fun b q => q.elim (fun z => z.elim) fun h => h
    exact (sA.trans sB).less fun b q => q.elim .inr fun z => .inl (.inr z)
theorem e_callK {x : Str} {k n m : Nat} {pm : List Nat} {f : Addr} {fd : FuncData} {ps ks : List Str} {fm : Fm} {p pos : Pos} {e : Expr} {es : List Expr} {kws : List Keyword} {ma mb : M (List Arg)}
    (F : FnOk X.prog X.w X.K X.mg X.base CX0 k f fd ps (spF X.K fm)) (hr : Room k X.A) (hg : Gl X x) (hm : X.mg x = some (.ref f)) (hk : PySem.W.keepIn X.K (.ref f) = true) (hb : KBinds X.K fd ps ks (kgI n m pm) (kgI n m pm))
    (ha : EL X (e :: es) ma) (hkw : EK X kws mb) (hall : (backToKw pos (keywordEach kws X.env)).all (·.1.isSome) = true := by rfl) (hks : (backToKw pos (keywordEach kws X.env)).filterMap (·.1) = ks := by rfl)
    (hdb : (x == ("__debug__" : Str)) = false := by decide) (he : starEach (e :: es) X.env = (false, eval e X.env) :: starEach es X.env := by rfl)
    (hpl : ((backTo pos (starEach (e :: es) X.env)).any (·.1) || (backToKw pos (keywordEach kws X.env)).any (·.1.isNone)) = false := by rfl) :
    EA X (.Call (.Name x p) (e :: es) kws pos) (mCallK fm n m pm ma mb) := PE_imp (pe_callK F hr hg hm hk hb pass0 ha hkw hall hks hdb he hpl) fun _ _ _ h => callK_read h
/-- nothing by place -/
theorem e_callK0 {x : Str} {k n m : Nat} {pm : List Nat} {f : Addr} {fd : FuncData} {ps ks : List Str} {fm : Fm} {p pos : Pos} {kws : List Keyword} {mb : M (List Arg)}
    (F : FnOk X.prog X.w X.K X.mg X.base CX0 k f fd ps (spF X.K fm)) (hr : Room k X.A) (hg : Gl X x) (hm : X.mg x = some (.ref f)) (hk : PySem.W.keepIn X.K (.ref f) = true) (hb : KBinds X.K fd ps ks (kgI n m pm) (kgI n m pm))
    (hkw : EK X kws mb) (hall : (backToKw pos (keywordEach kws X.env)).all (·.1.isSome) = true := by rfl) (hks : (backToKw pos (keywordEach kws X.env)).filterMap (·.1) = ks := by rfl)
    (hdb : (x == ("__debug__" : Str)) = false := by decide) (hpl : ((backTo pos (starEach [] X.env)).any (·.1) || (backToKw pos (keywordEach kws X.env)).any (·.1.isNone)) = false := by rfl) :
    EA X (.Call (.Name x p) [] kws pos) (mCallK fm n m pm aNil mb) := by
  refine ⟨fun pins s σ H Q I h => ?_⟩
  have h2 := nil_read (callK_read (E := E0) h)
  refine wpAny_Call_Name_kw (ld_glob I hg hm ?_ hdb)
  refine PySem.W.callWith_KW0 (h₀ := X.base) I.ok.mod.kin hk hall (thn (hkw.run pos pins s σ H _ I h2) fun ws s2 ⟨zs, H2, I2, rz, q2⟩ => ⟨I2.kIn, ?_⟩) hpl
  rw [hks]
  exact run_fnk F hr hb pass0 I2 .nil rz q2
/-- a program that never ends well promises nothing -/
theorem fnok_none {P : Program} {w : World} {K : PySem.W.Frag} {mg : Str → Option Value} {base : Heap} {k : Nat} {f : Addr} {fd : FuncData} {ps : List Str} : FnOk P w K mg base CX0 k f fd ps (spF K fun _ => none) where
  len := fun _ _ _ _ h => by obtain ⟨_, _, _, _, _, e, _⟩ := h; cases e
  run := fun _ _ _ _ _ _ _ _ _ _ _ _ _ h => by obtain ⟨_, _, _, _, _, e, _⟩ := h; cases e
theorem t_chain {a b c : Expr} {op op' : CmpOp} {pos : Pos} {ma mb mc : M Arg} {p p' : D → D → Option S} {r r' : R2} (ho : OpR X (compareOp op) r) (ho' : OpR X (compareOp op') r') (hp : OpP X.K r p) (hp' : OpP X.K r' p')
    (ha : EA X a ma) (hb : EA X b mb) (hc : EA X c mc) (hm : lastMarks [op, op'] [b, c] = false) : ET X (.Compare a [op, op'] [b, c] pos) (tB' (mChain p p' ma mb mc)) :=
  PT_imp (pt_chain ho ho' ha hb hc hm) fun σ H Q h => chain_read hp hp' (test_read h)
def tIte' (c a b : M Bool) : M Bool := do let c ← c; if c = true then a else b
theorem t_ite {c a b : Expr} {pos : Pos} {mc ma mb : M Bool} (hc : ET X c mc) (ha : ET X a ma) (hb : ET X b mb) : ET X (.IfExp c a b pos) (tIte' mc ma mb) := by
  refine ⟨fun pins s σ H Q I h => ?_⟩
  refine PyProof.Rows.isTrue_IfExp (thn (hc.run pins s σ H _ I (tT_bind h)) fun d s1 ⟨H1, I1, q1⟩ => ?_)
  cases d with
  | true => exact ha.run pins s1 σ H1 Q I1 q1
  | false => exact hb.run pins s1 σ H1 Q I1 q1
theorem sp_law {K : PySem.W.Frag} {fm : Fm} {H : Hp} {a : Addr} {ns : List Int} {E : XK} (h : ∃ ss', fm [S.val (.scr ns)] = some (.val (.bl true), ss')) (hS : SqL K H a (ns.map V.int)) : spF K fm [.ref a] H (fun v _ => v = .bl true) E := by
  obtain ⟨ss', e⟩ := h
  refine ⟨_, H, fun _ => False, _, ss', e, Same.refl _, SRepL.vals [.ref a] [.scr ns] (.cons (.scr hS) .nil), fun v H' Z' T' Tv sub _ rv _ _ => ?_⟩
  exact (RepS.vw rv).bl
end
end DL

/-! The data layer, part K: reversed, lists made from walks. -/
namespace DL
open PySem PySem.Spec PyProof.Rows L2
section
variable {prog : Program} {w : World} {A : Around} {E : Value → Shared → Prop} {s : Shared} {I : Addr} {fp wr : List Addr} {n : Nat} {P : Nat → Value → Prop} {St : Nat → Heap → Prop}
abbrev ListNow (h : Heap) (S : Addr) (xs : Array Value) (c : Nat) : Prop := h.get? S = some { cls := .type "list", dict := none, data := .seq xs c, slots := #[] }
/-- what an extension by a walk asks -/
def ExtOk (prog : Program) (w : World) (A : Around) (I : Addr) (fp wr : List Addr) (n : Nat) (P : Nat → Value → Prop) (St : Nat → Heap → Prop) : Prop :=
  ∀ (s : Shared) (S : Addr) (res : Value) (c₀ : Nat) (R : Result → Shared → Prop), St 0 s.heap → S ∉ fp → ListNow s.heap S #[] c₀ →
    (∀ h' tk acc' c', (∀ b o, b ≠ S → b ∉ wr → s.heap.get? b = some o → h'.get? b = some o) → ListNow h' S acc' c' → ItemsOf P acc' n → R (.ok (.ret res)) { s with heap := h', toks := tk }) →
    wpAny (model prog w) A.in1 (Builtin.List.listExtendWith (.ref S) (.ref I) res)
      (fun fin s' => match fin with | .done f => R (.ok f) s' | .again c' => c'.quiet = true ∧ codeAny (model prog w) A c' R s') (fun e s' => R (.error e) s') s
/-- the loop of the extension, once the hint is asked -/
theorem ext_loop {R : Result → Shared → Prop} (W : Walks prog w A.in1 I fp wr n P St) (hst : St 0 s.heap) (S : Addr) (res : Value) (c₀ : Nat) (hSf : S ∉ fp) (hn : n ≤ sizeLine) (hS : ListNow s.heap S #[] c₀)
    (hR : ∀ h' tk acc' c', (∀ b o, b ≠ S → b ∉ wr → s.heap.get? b = some o → h'.get? b = some o) → ListNow h' S acc' c' → ItemsOf P acc' n → R (.ok (.ret res)) { s with heap := h', toks := tk }) :
    codeAny (model prog w) A (.builtin "list.extend.loop" ⟨[.ref S, .ref I, res], []⟩) R s :=
  codeAny_extend_loopS W.toS hn _ hSf _ n 0 _ _ _ rfl (Nat.zero_le _) hst hS (ItemsOf.nil _) fun s' acc' c' hm hS' hacc => by
    rw [Moved.eq_with hm]
    exact hR s'.heap s'.toks acc' c' (fun b ob hb hbf e => hm.heap b ob (fun hmem => (List.mem_cons.mp hmem).elim hb hbf) e) hS' hacc
theorem ext_rev (W : Walks prog w A.in1 I fp wr n P St) (hT : ∀ h, St 0 h → ∃ o, h.get? I = some o ∧ o.cls = .type "list_reverseiterator") (hI : I ∈ fp) (hn : n ≤ sizeLine) : ExtOk prog w A I fp wr n P St := by
  intro s S res c₀ R hst hSf hS hR
  have hTy : s.TypeIs (.ref I) "list_reverseiterator" := hT _ hst
  have hSI : S ≠ I := fun e => hSf (e ▸ hI)
  have h1 : Builtin.List.listSameRef (.ref S) (.ref I) = false := by simp [Builtin.List.listSameRef, hSI]
  unfold Builtin.List.listExtendWith
  refine wpAny_bind (wpAny_typeOf hTy ?_)
  (rw [if_neg (by rw [h1]; decide)]; refine wpAny_bind (W.self 0 s _ _ hst ?_))
  (refine wpAny_bind (wpAny_holding ?_); unfold Builtin.List.listLengthHint; refine wpAny_bind (wpAny_specialOf hTy RT.nolen_lri ?_))
  (show wpAny _ A.in1 (specialOf (Value.ref I) (Str.ofString "__length_hint__") >>= _) _ _ _; refine wpAny_bind (wpAny_specialOf hTy RT.hint_lri ?_))
  generalize hid : ("list_reverseiterator.__length_hint__" : String) = id0
  wp_delta
  (rw [show splitId id0 = some ("list_reverseiterator", "__length_hint__") from by subst hid; decide +kernel]; subst hid)
  refine wpAny_bind (wpAny_isInstance (b := true) hTy (by rw [isSubtype_type]; kernel_rfl) ?_)
  (refine wpAny_pure ?_; rw [if_neg (by decide)])
  exact wpAny_pure ⟨plainId_quiet F.plain_extend_loop _, ext_loop W hst S res c₀ hSf hn hS hR⟩
/-- list(the walk) -/
theorem init_walk {R : Result → Shared → Prop} (X : ExtOk prog w A I fp wr n P St) (hfr : ∀ h h', St 0 h → (∀ b ∈ fp, ∀ o, h.get? b = some o → h'.get? b = some o) → St 0 h') (hst : St 0 s.heap) (S : Addr) (hSf : S ∉ fp) (hS : s.heap.get? S = some { cls := .type "list", data := .seq #[] })
    (hR : ∀ h' tk acc' c', (∀ b o, b ≠ S → b ∉ wr → s.heap.get? b = some o → h'.get? b = some o) → ListNow h' S acc' c' → ItemsOf P acc' n → R (.ok (.ret .none)) { s with heap := h', toks := tk }) :
    wpAny (model prog w) A.in1 (Builtin.«list.__init__» ⟨[.ref S, .ref I], []⟩)
      (fun fin s' => match fin with | .done f => R (.ok f) s' | .again c' => c'.quiet = true ∧ codeAny (model prog w) A c' R s') (fun e s' => R (.error e) s') s := by
  show wpAny _ _ (do let old ← Builtin.List.listItems (.ref S); Builtin.List.listUpdate (.ref S) (fun _ => #[]); letGo old.toList.reverse; Builtin.List.listExtendWith (.ref S) (.ref I) .none) _ _ s
  (refine wpAny_bind ?_; unfold Builtin.List.listItems; refine wpAny_bind (wpAny_seqItems hS rfl (wpAny_pure ?_)))
  show wpAny _ _ (updateSeq S (fun _ => #[]) >>= fun _ => letGo (#[] : Array Value).toList.reverse >>= fun _ => Builtin.List.listExtendWith (.ref S) (.ref I) .none) _ _ s
  refine wpAny_bind (wpAny_updateSeq hS rfl ?_)
  have hS2 := Heap.get?_update_self (Obj.mapSeq (fun _ => (#[] : Array Value))) hS rfl
  have oth : ∀ b o, b ≠ S → s.heap.get? b = some o → (s.heap.update S (Obj.mapSeq (fun _ => (#[] : Array Value)))).get? b = some o := fun b o hb e => (Heap.get?_update_other _ _ (Ne.symm hb)).trans e
  refine wpAny_bind (wpAny_letGo ?_)
  exact X _ S .none _ R (hfr _ _ hst fun b hb o e => oth b o (fun q => hSf (q ▸ hb)) e) hSf hS2 fun h' tk acc' c' hk hS' hacc => hR h' tk acc' c' (fun b o hb hbf e => hk b o hb hbf (oth b o hb e)) hS' hacc
theorem list_walk {Q : Value → Shared → Prop} (X : ExtOk prog w A.in1 I fp wr n P St) (hfr : ∀ h h', St 0 h → (∀ b ∈ fp, ∀ o, h.get? b = some o → h'.get? b = some o) → St 0 h') (hst : St 0 s.heap) (hfp : ∀ b ∈ fp, b < s.heap.objs.size)
    (hQ : ∀ h' tk acc' c', (∀ b o, b ∉ wr → s.heap.get? b = some o → h'.get? b = some o) → ListNow h' s.heap.objs.size acc' c' → ItemsOf P acc' n → Q (.ref s.heap.objs.size) { s with heap := h', toks := tk }) :
    wpAny (model prog w) A (call (.type "list") [.ref I]) Q E s := by
  have hSf : s.heap.objs.size ∉ fp := fun hm => Nat.lt_irrefl _ (hfp _ hm)
  refine callType_codes (Q₁ := fun obj s₁ => obj = .ref s.heap.objs.size ∧ s₁ = { s with heap := s.heap.push { cls := .type "list", data := .seq #[] } }) F.called_list (F.typeCall_list_1 _) F.entry_list_init (code_list_new _ ⟨rfl, rfl⟩) fun obj s₁ h₁ => ?_
  obtain ⟨rfl, rfl⟩ := h₁
  have hS : (s.heap.push { cls := .type "list", data := .seq #[] }).get? s.heap.objs.size = some { cls := .type "list", data := .seq #[] } := Heap.get?_push_size _ rfl
  refine ⟨⟨_, hS, rfl⟩, F.args_list_init_2 _ _, init_walk (A := A.in1) X hfr (hfr _ _ hst fun b _ o e => Heap.get?_push_of_some _ e) _ hSf hS fun h' tk acc' c' hk hS' hacc => ?_⟩
  exact ⟨rfl, hQ h' tk acc' c' (fun b o hb e => hk b o (Nat.ne_of_lt (Heap.lt_size e)) hb (Heap.get?_push_of_some _ e)) hS' hacc⟩
/-- reversed(a tuple) -/
theorem slot_rt_hint : Slot "reversed" "__length_hint__" "reversed.__length_hint__" := .of (owner := "reversed") (n := "__length_hint__") (by rw [typeLookup_type, builtinLookup_eq_fast]; kernel_rfl) (by decide +kernel) (by decide +kernel) (by decide +kernel) (by first | exact .inl (by decide +kernel) | exact .inr (by decide +kernel)) (by rw [isSubtype_type]; kernel_rfl)
theorem nolen_rt : typeLookup (.type "reversed") "__len__" = pure none := by rw [typeLookup_type, builtinLookup_eq_fast]; kernel_rfl
theorem entry_rt_hint : entryFor table "reversed.__length_hint__" = some Builtin.«reversed.__length_hint__» := entryFor_of_tree (by kernel_rfl)
theorem args_rt_hint (a : Value) : argsOk "reversed.__length_hint__" ⟨[a], []⟩ := by
  unfold argsOk; rw [signature?_of (id := "reversed.__length_hint__") (n := ['_', '_', 't', 'n', 'i', 'h', '_', 'h', 't', 'g', 'n', 'e', 'l', '_', '_']) (o := ['d', 'e', 's', 'r', 'e', 'v', 'e', 'r']) (by kernel_rfl) RT.owner_rt]; kernel_rfl
theorem walks_rt {A : Around} (hh : A.handled = none) (I t : Addr) (hne : t ≠ I) (items : Array Value) (hz : items.size ≤ sizeLine) :
    Walks prog w A I [I, t] [I] items.size (fun i v => items[items.size - 1 - i]? = some v) (fun i h => i ≤ items.size ∧ RT.IsRt h I t ((items.size : Int) - 1 - (i : Int)) ∧ IsTup h t items) where
  sub := fun b h => by simp at h; simp [h]
  frame := fun _ _ _ x hk => ⟨x.1, x.2.1.at fun o e => hk I (by simp) o e, let ⟨o, ho, r⟩ := x.2.2; ⟨o, hk t (by simp) o ho, r⟩⟩
  item := fun i s Q E hi x hQ => by
    have e : (items.size : Int) - 1 - (i : Int) = ((items.size - 1 - i : Nat) : Int) := by omega
    have hit := x.2.1
    rw [e] at hit
    have hx : items[items.size - 1 - i]? = some (items[items.size - 1 - i]'(by omega)) := Array.getElem?_eq_getElem (by omega)
    refine RT.next_rt_item hit x.2.2 hx hz fun h' hit' hs' => ?_
    have e2 : ((items.size - 1 - i : Nat) : Int) - 1 = (items.size : Int) - 1 - ((i + 1 : Nat) : Int) := by omega
    rw [e2] at hit'
    exact hQ _ h' _ hx ⟨hi, hit', x.2.2.extBut hs'.extBut hne⟩ fun b o hb eo => hs'.extBut b o (fun h => hb (by simp [h])) eo
  done := fun s Q E x hQ => by
    have e : (items.size : Int) - 1 - (items.size : Int) = -1 := by omega
    have hit := x.2.1
    rw [e] at hit
    exact RT.next_rt_end hh hit fun h' he' => hQ h' s.toks fun b o hb eo => he' b o (fun h => hb (by simp [h])) eo
  self := fun _ _ _ _ x hQ => RT.iter_rt x.2.1 hQ
theorem asInt_int (i : Int) (t : Tok) : asInt? (.int i t) = pure (some i) := rfl
theorem ext_rt {A : Around} (hh : A.handled = none) (I t : Addr) (hne : t ≠ I) (items : Array Value) (hz : items.size ≤ 100000) :
    ExtOk prog w A I [I, t] [I] items.size (fun i v => items[items.size - 1 - i]? = some v) (fun i h => i ≤ items.size ∧ RT.IsRt h I t ((items.size : Int) - 1 - (i : Int)) ∧ IsTup h t items) := by
  intro s S res c₀ R hst hSf hS hR
  have hzl : items.size ≤ sizeLine := Nat.le_trans hz (by decide)
  have W := walks_rt (prog := prog) (w := w) (A := A.in1) hh I t hne items hzl
  have hTy : s.TypeIs (.ref I) "reversed" := hst.2.1.typeIs
  have hSI : S ≠ I := fun e => hSf (by simp [e])
  have h1 : Builtin.List.listSameRef (.ref S) (.ref I) = false := by simp [Builtin.List.listSameRef, hSI]
  unfold Builtin.List.listExtendWith
  refine wpAny_bind (wpAny_typeOf hTy ?_)
  (rw [if_neg (by rw [h1]; decide)]; refine wpAny_bind (W.self 0 s _ _ hst ?_))
  (refine wpAny_bind (wpAny_holding ?_); unfold Builtin.List.listLengthHint; refine wpAny_bind (wpAny_specialOf hTy nolen_rt ?_))
  (show wpAny _ A.in1 (specialOf (Value.ref I) (Str.ofString "__length_hint__") >>= _) _ _ _; refine wpAny_bind (wpAny_specialOf hTy slot_rt_hint.lookup ?_))
  generalize hid : ("reversed.__length_hint__" : String) = id0
  wp_delta
  (rw [show splitId id0 = some ("reversed", "__length_hint__") from by subst hid; decide +kernel]; subst hid)
  refine wpAny_bind (wpAny_isInstance (b := true) hTy (by rw [isSubtype_type]; kernel_rfl) ?_)
  rw [if_neg (by decide)]
  rw [if_neg (by decide +kernel)]
  obtain ⟨-, hit, ht⟩ := id hst
  obtain ⟨o, ho, hc, hd⟩ := id hit
  refine wpAny_bind (wpAny_rule ?_)
  refine wpAny_bind (wpAny_of_eq (slot_rt_hint.bind _) ?_)
  refine wpAny_bind (wpAny_attempt (wpAny_call_entry slot_rt_hint hTy entry_rt_hint ?_ (args_rt_hint _)))
  unfold Builtin.«reversed.__length_hint__»
  refine wpAny_bind (wpAny_of_eq (a := Value.ref I) rfl ?_)
  refine wpAny_bind (wpAny_field ho hd (x := .ref t) rfl ?_)
  rw [if_neg (show ¬ ((Value.ref t == Value.none) = true) from Bool.false_ne_true)]
  refine wpAny_bind (len_tuple ht (by omega) ?_)
  refine wpAny_bind (m := asInt? (.int items.size (s.toks + 1))) (wpAny_of_eq (a := some (items.size : Int)) rfl ?_)
  try dsimp only
  refine wpAny_bind (wpAny_field (s := { s with toks := s.toks + 1 + 1 }) ho hd (x := rawInt ((items.size : Int) - 1 - ((0 : Nat) : Int))) rfl ?_)
  show wpAny _ _ (if (items.size : Int) < (items.size : Int) - 1 - ((0 : Nat) : Int) + 1 then _ else retInt ((items.size : Int) - 1 - ((0 : Nat) : Int) + 1)) _ _ _
  rw [if_neg (by omega), show (items.size : Int) - 1 - ((0 : Nat) : Int) + 1 = (items.size : Int) by omega]
  unfold retInt
  refine wpAny_bind (wpAny_mkInt (wpAny_pure ⟨_, rfl, ?_⟩))
  try dsimp only
  rw [asInt_int]
  refine wpAny_bind ?_
  refine wpAny_pure ?_
  try dsimp only
  have c1 : (!Builtin.List.listFitsIndex (items.size : Int)) = false := by
    simp only [Builtin.List.listFitsIndex, Bool.not_eq_false', Bool.and_eq_true, decide_eq_true_eq]; omega
  have c2 : Builtin.List.listTooLong ((items.size : Int).toNat) = false := by
    simp only [Builtin.List.listTooLong, decide_eq_false_iff_not, Int.toNat_natCast]; omega
  rw [if_neg (by rw [c1]; exact Bool.false_ne_true), if_neg (by omega), if_neg (by rw [c2]; exact Bool.false_ne_true)]
  refine wpAny_pure ?_
  split
  · refine wpAny_bind (wpAny_rule ?_)
    have hS1 : ({ s with toks := s.toks + 1 + 1 + 1 } : Shared).heap.get? S = some { cls := .type "list", data := .seq #[] c₀ } := hS
    have hS2 := Heap.get?_update_self (Obj.mapSeq (·.push Value.none)) hS1 rfl
    have hS3 := Heap.get?_update_self (Obj.mapSeq (·.pop)) hS2 rfl
    have oth : ∀ b o, b ≠ S → s.heap.get? b = some o → ((s.heap.update S (Obj.mapSeq (·.push Value.none))).update S (Obj.mapSeq (·.pop))).get? b = some o :=
      fun b o hb e => (Heap.get?_update_other _ _ (Ne.symm hb)).trans ((Heap.get?_update_other _ _ (Ne.symm hb)).trans e)
    (refine wpAny_bind ?_; show wpAny _ A.in1 (updateSeq S (·.push .none) >>= fun _ => updateSeq S (·.pop)) _ _ _)
    refine wpAny_bind (wpAny_updateSeq (hz := Nat.zero_le _) (_hz' := Nat.succ_le_succ (Nat.zero_le _)) hS1 rfl ?_)
    refine wpAny_updateSeq (hz := show 1 ≤ sizeLine by rw [sizeLine_eq]; decide) (_hz' := Nat.zero_le _) hS2 rfl ?_
    refine wpAny_pure ⟨plainId_quiet F.plain_extend_loop _, ext_loop (s := { s with heap := (s.heap.update S (Obj.mapSeq (·.push Value.none))).update S (Obj.mapSeq (·.pop)), toks := s.toks + 1 + 1 + 1 }) W (W.frame 0 _ _ hst fun b hb o e => oth b o (fun h => hSf (h ▸ hb)) e) S res _ hSf hzl hS3 fun h' tk acc' c' hk hS' hacc => ?_⟩
    exact hR h' tk acc' c' (fun b o hb hbf e => hk b o hb hbf (oth b o hb e)) hS' hacc
  · refine wpAny_pure ⟨plainId_quiet F.plain_extend_loop _, ext_loop (s := { s with toks := s.toks + 1 + 1 + 1 }) W hst S res _ hSf hzl hS fun h' tk acc' c' hk hS' hacc => hR h' tk acc' c' hk hS' hacc⟩
end
/-! ### list(reversed(x)) -/
def tListRev (K : PySem.W.Frag) (te : TE) : TE := fun σ H Q => te σ H fun v H1 => ∃ (a : Addr) (xs : List V), v = .ref a ∧ (SqL K H1 a xs ∨ SqT K H1 a xs) ∧ xs.length ≤ 100000 ∧ ∀ q, H1 q = none → Q (.ref q) (upd H1 q (.lst xs.reverse))
section
variable {X : Cx}
theorem pe_listRev {e : Expr} {te : TE} {p p2 pos pos2 : Pos} (hc : X.calm = true) (hg : Gl X "list") (hm : X.mg "list" = none) (hg2 : Gl X "reversed") (hm2 : X.mg "reversed" = none) (he : PE X e te)
    (hs : starEach [e] X.env = (false, eval e X.env) :: starEach [] X.env := by rfl)
    (hs2 : starEach [.Call (.Name "reversed" p2) [e] [] pos2] X.env = (false, eval (.Call (.Name "reversed" p2) [e] [] pos2) X.env) :: starEach [] X.env := by rfl) :
    PE X (.Call (.Name "list" p) [.Call (.Name "reversed" p2) [e] [] pos2] [] pos) (tListRev X.K te) := by
  refine ⟨fun pins s σ H Q I h => Call_ (ld_blt I hg hm boot_list (PyProof.Rows.callWith_type1 (args_cons (Call_ (ld_blt I hg2 hm2 PyProof.Rows.boot_reversed (PyProof.Rows.callWith_type1 (args_cons (thn (he.run pins s σ H _ I h) fun u s1 ⟨v, H1, I1, r1, q1⟩ => args_nil ?_) hs) hs rfl))) hs2) hs2 rfl))⟩
  obtain ⟨a, xs, ev, hq, hz, q⟩ := q1
  subst ev
  obtain rfl : u = Value.ref a := r1
  obtain ⟨f0, f1, f2, f3, f4, f5⟩ := I1.fpOk (H' := H1) (b := s1.heap.objs.size) (Nat.le_refl _) (I1.hok.fresh (Nat.le_refl _))
  rcases hq with hq | hq
  · obtain ⟨its, rv, p', _⟩ := I1.list hq
    refine call_reversed_list p'.isList (args_nil ?_)
    have k0 : ∀ b o, s1.heap.get? b = some o → (s1.heap.push (revObj a ((its.toArray.size : Int) - 1))).get? b = some o := fun b o e => Heap.get?_push_of_some _ e
    have I2 : Inv X pins σ H1 { s1 with heap := s1.heap.push (revObj a ((its.toArray.size : Int) - 1)) } := I1.kept (t' := s1.toks) k0
    have hl := p'.isList
    obtain ⟨ol, hol, _⟩ := id hl
    have hne : a ≠ s1.heap.objs.size := Nat.ne_of_lt (Heap.lt_size hol)
    have hn : its.toArray.size ≤ 100000 := by rw [List.size_toArray, ← rv.length]; exact hz
    have W := Walks.listRev (prog := X.prog) (w := X.w) (A := X.A.in1.in1) (I1.ok.hd hc) s1.heap.objs.size a hne its.toArray
    refine list_walk (s := { s1 with heap := s1.heap.push (revObj a ((its.toArray.size : Int) - 1)) }) (ext_rev (A := X.A.in1) W (fun h st => let ⟨o, e, c, _⟩ := st.2.1; ⟨o, e, c⟩) (by simp) (line_ge hn)) (fun h h' st k => W.frame 0 h h' st k)
      ⟨Nat.zero_le _, ⟨_, Heap.get?_push_size _ rfl, rfl, by rw [show ((its.toArray.size : Int) - 1 - ((0 : Nat) : Int)) = (its.toArray.size : Int) - 1 by omega]; rfl⟩, hl.push _⟩ (fun b hb => ?_) fun h' tk acc c hk hS hi => ?_
    · have hb' : b = s1.heap.objs.size ∨ b = a := by simpa using hb
      have hlt := Heap.lt_size hol
      show b < (s1.heap.push _).objs.size
      rw [Heap.size_push]
      rcases hb' with e | e
      · rw [e]; exact Nat.lt_succ_self _
      · rw [e]; exact Nat.lt_succ_of_lt hlt
    · have new : ObjOk X.prog X.w (upd H1 (s1.heap.push (revObj a ((its.toArray.size : Int) - 1))).objs.size (.lst xs.reverse)) h' (s1.heap.push (revObj a ((its.toArray.size : Int) - 1))).objs.size (.lst xs.reverse) :=
        ⟨by rw [List.length_reverse]; exact line_ge hz, acc.toList, c, RT.vals_rev rv hi, by rw [Array.toArray_toList]; exact hS⟩
      have I3 := I2.turnedNew (t' := tk) (ch := [s1.heap.objs.size]) (fun b o hb e => hk b o hb e) (fun b hb => by rw [List.mem_singleton.mp hb]; exact ⟨f0, f1, f2, f3, f4, f5⟩) (Nat.le_refl _) new
      exact ⟨.ref (s1.heap.push (revObj a ((its.toArray.size : Int) - 1))).objs.size, _, I3, rfl, q _ (I2.hok.fresh (Nat.le_refl _))⟩
  · obtain ⟨its, rv, p', _⟩ := I1.tuple hq
    have hn : its.toArray.size ≤ 100000 := by rw [List.size_toArray, ← rv.length]; exact hz
    refine RT.call_reversed_tup p' (fun A E Q k => len_tuple p' (by omega) k) (args_nil ?_)
    have k0 : ∀ b o, s1.heap.get? b = some o → (s1.heap.push (RT.rtObj a ((its.toArray.size : Int) - 1))).get? b = some o := fun b o e => Heap.get?_push_of_some _ e
    have I2 : Inv X pins σ H1 { s1 with heap := s1.heap.push (RT.rtObj a ((its.toArray.size : Int) - 1)), toks := s1.toks + 1 + 1 } := I1.kept (t' := s1.toks + 1 + 1) k0
    obtain ⟨ol, hol, _⟩ := id p'
    have hne : a ≠ s1.heap.objs.size := Nat.ne_of_lt (Heap.lt_size hol)
    refine list_walk (s := { s1 with heap := s1.heap.push (RT.rtObj a ((its.toArray.size : Int) - 1)), toks := s1.toks + 1 + 1 }) (ext_rt (A := X.A.in1) (I1.ok.hd hc) s1.heap.objs.size a hne its.toArray hn) (fun h h' st k => (walks_rt (prog := X.prog) (w := X.w) (A := X.A) (I1.ok.hd hc) s1.heap.objs.size a hne its.toArray (line_ge hn)).frame 0 h h' st k)
      ⟨Nat.zero_le _, ⟨_, Heap.get?_push_size _ rfl, rfl, by rw [show ((its.toArray.size : Int) - 1 - ((0 : Nat) : Int)) = (its.toArray.size : Int) - 1 by omega]; rfl⟩, p'.push _⟩ (fun b hb => ?_) fun h' tk acc c hk hS hi => ?_
    · have hb' : b = s1.heap.objs.size ∨ b = a := by simpa using hb
      have hlt := Heap.lt_size hol
      show b < (s1.heap.push _).objs.size
      rw [Heap.size_push]
      rcases hb' with e | e
      · rw [e]; exact Nat.lt_succ_self _
      · rw [e]; exact Nat.lt_succ_of_lt hlt
    · have new : ObjOk X.prog X.w (upd H1 (s1.heap.push (RT.rtObj a ((its.toArray.size : Int) - 1))).objs.size (.lst xs.reverse)) h' (s1.heap.push (RT.rtObj a ((its.toArray.size : Int) - 1))).objs.size (.lst xs.reverse) :=
        ⟨by rw [List.length_reverse]; exact line_ge hz, acc.toList, c, RT.vals_rev rv hi, by rw [Array.toArray_toList]; exact hS⟩
      have I3 := I2.turnedNew (t' := tk) (ch := [s1.heap.objs.size]) (fun b o hb e => hk b o hb e) (fun b hb => by rw [List.mem_singleton.mp hb]; exact ⟨f0, f1, f2, f3, f4, f5⟩) (Nat.le_refl _) new
      exact ⟨.ref (s1.heap.push (RT.rtObj a ((its.toArray.size : Int) - 1))).objs.size, _, I3, rfl, q _ (I2.hok.fresh (Nat.le_refl _))⟩
/-- list(reversed(x)): a new list -/
def pRevL : D → Option S
  | .lst ds => if ds.length ≤ 100000 then some (.lst ds.reverse) else none
  | .tup ds => if ds.length ≤ 100000 then some (.lst ds.reverse) else none
  | _ => none
theorem e_listRev {e : Expr} {m : M Arg} {p p2 pos pos2 : Pos} (hc : X.calm = true) (hg : Gl X "list") (hm : X.mg "list" = none) (hg2 : Gl X "reversed") (hm2 : X.mg "reversed" = none) (he : EA X e m)
    (hs : starEach [e] X.env = (false, eval e X.env) :: starEach [] X.env := by rfl)
    (hs2 : starEach [.Call (.Name "reversed" p2) [e] [] pos2] X.env = (false, eval (.Call (.Name "reversed" p2) [e] [] pos2) X.env) :: starEach [] X.env := by rfl) :
    EA X (.Call (.Name "list" p) [.Call (.Name "reversed" p2) [e] [] pos2] [] pos) (mUn pRevL m) := PE_imp (pe_listRev hc hg hm hg2 hm2 he hs hs2) fun σ H Q h => by
  refine one_read (r := fun x H1 Q => ∃ (a : Addr) (xs : List V), x = .ref a ∧ (SqL X.K H1 a xs ∨ SqT X.K H1 a xs) ∧ xs.length ≤ 100000 ∧ ∀ q, H1 q = none → Q (.ref q) (upd H1 q (.lst xs.reverse))) (fun x d s Z H Q hx sub hp n => ?_) h
  match d, hp, hx with
  | .lst ds, hp, hx =>
    simp only [pRevL] at hp
    split at hp
    · rename_i hl; cases hp
      obtain ⟨a, vs, e1, e2, r⟩ := hx.lst sub
      exact ⟨a, vs, e1, .inl (.of e2), by rw [r.length]; exact hl, fun q hq => n.lst sub r.reverse hq⟩
    · cases hp
  | .tup ds, hp, hx =>
    simp only [pRevL] at hp
    split at hp
    · rename_i hl; cases hp
      obtain ⟨a, vs, e1, e2, r⟩ := hx.tup sub
      exact ⟨a, vs, e1, .inr e2, by rw [r.length]; exact hl, fun q hq => n.lst sub r.reverse hq⟩
    · cases hp
/-! ### for x in reversed(a list, a tuple) -/
theorem wk_rev {K : PySem.W.Frag} {Z : Hp} {a : Addr} {vs : List V} {ds : List D} (h : SqL K Z a vs) (r : Reps K Z vs ds) : Wk K Z (Itv K a vs.length) ds.reverse := fun Z1 H1 z1 s1 => by
  have hH : SqL K H1 a vs := (z1.trans s1).seq h
  have hl := r.length
  refine ⟨fun i hi => ?_, ?_, fun i d x H2 hd y => ?_⟩
  · rw [List.length_reverse] at hi
    obtain ⟨v, e, _⟩ := r.get (List.getElem?_eq_getElem (show vs.length - 1 - i < ds.length by omega))
    exact ⟨by omega, vs, v, hH, e⟩
  · show vs.length ≤ _
    rw [List.length_reverse]; omega
  · obtain ⟨e, y⟩ := y
    subst e
    have hi : i < ds.length := by
      have := (List.getElem?_eq_some_iff.mp hd).1
      rwa [List.length_reverse] at this
    rw [List.getElem?_reverse hi, ← hl] at hd
    obtain ⟨v, e, rv⟩ := r.get hd
    have := y vs hH
    rw [e] at this; cases this
    exact ⟨Z1, Gw.refl s1, rv.mono z1⟩
theorem wk_revT {K : PySem.W.Frag} {Z : Hp} {a : Addr} {vs : List V} {ds : List D} (h : SqT K Z a vs) (r : Reps K Z vs ds) : Wk K Z (RT.ItvT K a vs.length) ds.reverse := fun Z1 H1 z1 s1 => by
  have hH : SqT K H1 a vs := same_seqT (z1.trans s1) h
  have hl := r.length
  refine ⟨fun i hi => ?_, ?_, fun i d x H2 hd y => ?_⟩
  · rw [List.length_reverse] at hi
    obtain ⟨v, e, _⟩ := r.get (List.getElem?_eq_getElem (show vs.length - 1 - i < ds.length by omega))
    exact ⟨by omega, vs, v, hH, e⟩
  · show vs.length ≤ _
    rw [List.length_reverse]; omega
  · obtain ⟨e, y⟩ := y
    subst e
    have hi : i < ds.length := by
      have := (List.getElem?_eq_some_iff.mp hd).1
      rwa [List.length_reverse] at this
    rw [List.getElem?_reverse hi, ← hl] at hd
    obtain ⟨v, e, rv⟩ := r.get hd
    have := y vs hH
    rw [e] at this; cases this
    exact ⟨Z1, Gw.refl s1, rv.mono z1⟩
def revOf : D → Option (List D)
  | .lst ds => some ds.reverse
  | .tup ds => some ds.reverse
  | _ => none
def wRev (a : M Arg) : M (List D) := do let r ← a; let d ← esc r; up (revOf d)
theorem i_rev {tg e : Expr} {m : M Arg} {p pos : Pos} (hg : Gl X "reversed") (hm : X.mg "reversed" = none) (he : EA X e m) (hs : starEach [e] X.env = (false, eval e X.env) :: starEach [] X.env := by rfl) :
    EI X tg (.Call (.Name "reversed" p) [e] [] pos) (wRev m) := PI_imp (RT.pi_revA hg hm he hs) fun σ H R h => by
  obtain ⟨g, Z, F, ds, g', e, f, post⟩ := h
  obtain ⟨r, g1, e1, e⟩ := M.bind_some e
  obtain ⟨d, g2, e2, e⟩ := M.bind_some e
  obtain ⟨e3, rfl⟩ := up_some e
  refine ⟨g, Z, F, r, g1, e1, f, fun x H1 Z1 F1 T1 f1 a1 s1 st1 => ?_⟩
  obtain ⟨Z2, F2, f2, r2, st2⟩ := esc_ok f1 a1 s1 e2
  have fin := fun J w => post J H1 Z2 F2 f2 (st1.trans st2) w
  cases d with
  | lst ds' =>
    cases e3
    cases r2 with
    | lst q r => exact ⟨_, _, rfl, .inl ⟨.of (f2.sub _ _ q), fin _ (wk_rev (.of q) r)⟩⟩
  | tup ds' =>
    cases e3
    cases r2 with
    | tup q r => exact ⟨_, _, rfl, .inr ⟨same_seqT f2.sub q, fin _ (wk_revT q r)⟩⟩
  | _ => cases e3
end
/-! ### x in a list, a tuple of flat items; += -= of numbers -/
def flatD : D → Bool
  | .non => true
  | .bl _ => true
  | .int _ => true
  | .str _ => true
  | _ => false
def itemsD : D → Option (List D)
  | .lst ds => some ds
  | .tup ds => some ds
  | _ => none
def pIn (d e : D) : Option S := (itemsD e).bind fun ds => if flatD d = true ∧ ds.all flatD = true then some (.val (.bl (ds.any fun y => deq y d))) else none
def pNotIn (d e : D) : Option S := (itemsD e).bind fun ds => if flatD d = true ∧ ds.all flatD = true then some (.val (.bl (!ds.any fun y => deq y d))) else none
section
variable {X : Cx} {K : PySem.W.Frag}
theorem flat_rep {Z : Hp} {v : V} {d : D} (r : Rep K Z v d) : flatV v = flatD d := by
  cases r <;> rfl
theorem flat_eqV {Z : Hp} {v u : V} {d e : D} (r : Rep K Z v d) (q : Rep K Z u e) (h : flatD d = true) (h' : flatD e = true) : eqV v u = deq d e := by
  cases r <;> cases q <;> first | exact absurd h Bool.false_ne_true | exact absurd h' Bool.false_ne_true | (simp only [deq, eqV]; done) | simp [deq, eqV]
theorem flat_all {Z : Hp} : ∀ {vs : List V} {ds : List D}, Reps K Z vs ds → vs.all flatV = ds.all flatD
  | _, _, .nil => rfl
  | _, _, .cons a r => by rw [List.all_cons, List.all_cons, flat_rep a, flat_all r]
theorem flat_in {Z : Hp} {v : V} {d : D} (q : Rep K Z v d) (h' : flatD d = true) : ∀ {vs : List V} {ds : List D}, Reps K Z vs ds → ds.all flatD = true → inV v vs = ds.any fun y => deq y d
  | _, _, .nil, _ => rfl
  | _, _, .cons a r, h => by
    rw [List.all_cons, Bool.and_eq_true] at h
    have := flat_in q h' r h.2
    unfold inV at this ⊢
    rw [List.any_cons, List.any_cons, this, flat_eqV a q h.1 h']
theorem Vw.flat {Z H : Hp} {v : V} {d : D} (h : Vw K Z H v d) (f : flatD d = true) : Rep K Z v d := by
  cases h with
  | frz r => exact r
  | own e r => cases f
theorem okInN (neg : Bool) {p : D → D → Option S} (hp : ∀ d e s, p d e = some s → ∃ ds, itemsD e = some ds ∧ flatD d = true ∧ ds.all flatD = true ∧ s = .val (.bl (if neg then !ds.any fun y => deq y d else ds.any fun y => deq y d))) : OpP K (rIn K neg) p := fun x y d e s Z H Q hx hy sub h n => by
  obtain ⟨ds, e1, e2, e3, rfl⟩ := hp d e s h
  have rx := hx.flat e2
  have key : ∀ {p : Addr} {vs : List V}, y = .ref p → (SqL K H p vs ∨ SqT K H p vs) → Reps K Z vs ds → rIn K neg x y H Q := fun {p vs} ey hq r => by
    refine ⟨p, vs, ey, hq, (flat_rep rx).trans e2, (flat_all r).trans e3, ?_⟩
    rw [flat_in rx e2 r e3]
    exact n.val sub (.bl _)
  cases e with
  | lst es => cases e1; obtain ⟨a, vs, h1, h2, r⟩ := hy.lst sub; exact key h1 (.inl (.of h2)) r
  | tup es => cases e1; obtain ⟨a, vs, h1, h2, r⟩ := hy.tup sub; exact key h1 (.inr h2) r
  | _ => cases e1
theorem okIn : OpP K (rIn K false) pIn := okInN false fun d e s h => by
  obtain ⟨ds, e1, h⟩ := Option.bind_eq_some_iff.mp h
  split at h
  · rename_i q; cases h; exact ⟨ds, e1, q.1, q.2, rfl⟩
  · cases h
theorem okNotIn : OpP K (rIn K true) pNotIn := okInN true fun d e s h => by
  obtain ⟨ds, e1, h⟩ := Option.bind_eq_some_iff.mp h
  split at h
  · rename_i q; cases h; exact ⟨ds, e1, q.1, q.2, rfl⟩
  · cases h
def pAddI : D → D → Option S
  | .int i, .int j => some (.val (.int (i + j)))
  | .str i, .str j => if i.length + j.length ≤ 100000 then some (.val (.str (i ++ j))) else none
  | _, _ => none
def pMulI : D → D → Option S
  | .int i, .int j => if CMul i j then some (.val (.int (i * j))) else none
  | _, _ => none
def rAddI : R2 := fun x y H Q => rI0 (fun i j => .int (i + j)) x y H Q ∨ ∃ i j, x = .str i ∧ y = .str j ∧ i.length + j.length ≤ sizeLine ∧ Q (.str (i ++ j)) H
theorem iopAdd : OpR X (inplaceOp .Add) rAddI := OpR.or iop_add iop_add_str
theorem okAddI : OpP K rAddI pAddI := fun x y d e s Z H Q hx hy sub hp n => by
  match d, e, hp, hx, hy with
  | .int i, .int j, hp, hx, hy => cases hp; exact .inl ⟨i, j, hx.int, hy.int, n.val sub (.int _)⟩
  | .str i, .str j, hp, hx, hy =>
    simp only [pAddI] at hp
    split at hp
    · rename_i h; cases hp; exact .inr ⟨i, j, hx.str, hy.str, line_ge h, n.val sub (.str _)⟩
    · cases hp
theorem okMulI : OpP K (rI CMul fun i j => .int (i * j)) pMulI := fun x y d e s Z H Q hx hy sub hp n => by
  match d, e, hp, hx, hy with
  | .int i, .int j, hp, hx, hy =>
    simp only [pMulI] at hp
    split at hp
    · rename_i h; cases hp; exact ⟨i, j, hx.int, hy.int, h, n.val sub (.int _)⟩
    · cases hp
end
end DL

/-! The data layer, part I: what programs over slots give; the laws' shared parts. -/
namespace DL
open PySem PySem.Spec PyProof.Rows L2
theorem bind_ev {α β : Type} (m : M α) (f : α → M β) (g : G) : (m >>= f) g = (m g).bind fun p => f p.1 p.2 := by
  show (match m g with | none => none | some (a, g1) => f a g1) = _
  cases m g <;> rfl
/-- what comes next, hidden from simp until the step is done -/
class Hid (α : Type) where
  get : α
def kont {α β : Type} [h : Hid (α → M β)] (o : Option (α × G)) : Option (β × G) := o.bind fun p => h.get p.1 p.2
theorem bind_k {α β : Type} (m : M α) (f : α → M β) (g : G) : (m >>= f) g = @kont α β ⟨f⟩ (m g) := bind_ev m f g
theorem kont_s {α β : Type} (f : α → M β) (a : α) (g : G) : @kont α β ⟨f⟩ (some (a, g)) = f a g := Eq.trans rfl rfl
theorem kont_n {α β : Type} (f : α → M β) : @kont α β ⟨f⟩ none = none := Eq.trans rfl rfl
theorem pure_ev {α : Type} (a : α) (g : G) : (pure a : M α) g = some (a, g) := Eq.trans rfl rfl
section
variable {g : G} {i j : Nat} {s : S} {d : D} {p : D → D → Option S} {a b c : M Arg} {la lb : M (List Arg)} {r : Arg} {rs : List Arg} {ss : List S} {pr : Nat → Bool}
theorem rd_e : rd i g = match g[i]? with
  | some (some _) => some (.slot i, g)
  | _ => none := Eq.trans rfl rfl
theorem cst_e : cst d g = some (.tmp (.val d), g) := Eq.trans rfl rfl
theorem view_t : view (.tmp s) g = some (s.frz, g) := Eq.trans rfl rfl
theorem view_s : view (.slot i) g = match g[i]? with
  | some (some s) => some (s.frz, g)
  | _ => none := Eq.trans rfl rfl
theorem esc_t : esc (.tmp s) g = some (s.frz, g) := Eq.trans rfl rfl
theorem esc_s : esc (.slot i) g = match g[i]? with
  | some (some s) => some (s.frz, g.set i (some (.val s.frz)))
  | _ => none := Eq.trans rfl rfl
theorem frz_v : (S.val d).frz = d := Eq.trans rfl rfl
theorem frz_l {ds : List D} : (S.lst ds).frz = .lst ds := Eq.trans rfl rfl
theorem up_s {α : Type} {x : α} : up (some x) g = some (x, g) := Eq.trans rfl rfl
theorem up_n {α : Type} : up (none : Option α) g = none := Eq.trans rfl rfl
theorem views_n : views [] g = some ([], g) := Eq.trans rfl rfl
theorem views_c : views (r :: rs) g = (do let d ← view r; let ds ← views rs; pure (d :: ds) : M (List D)) g := Eq.trans rfl rfl
theorem escs_n : escs [] g = some ([], g) := Eq.trans rfl rfl
theorem escs_c : escs (r :: rs) g = (do let d ← esc r; let ds ← escs rs; pure (d :: ds) : M (List D)) g := Eq.trans rfl rfl
theorem op2_e {x y : Arg} : op2 p x y g = (do let d ← view x; let e ← view y; let s ← up (p d e); pure (.tmp s) : M Arg) g := Eq.trans rfl rfl
theorem mBin_e : mBin p a b g = (do let x ← a; let y ← b; op2 p x y : M Arg) g := Eq.trans rfl rfl
theorem op1_e {p : D → Option S} : op1 p r g = (do let d ← view r; let s ← up (p d); pure (.tmp s) : M Arg) g := Eq.trans rfl rfl
theorem mUn_e {p : D → Option S} : mUn p a g = (do let x ← a; op1 p x : M Arg) g := Eq.trans rfl rfl
theorem aNil_e : aNil g = some ([], g) := Eq.trans rfl rfl
theorem aCons_e : aCons a la g = (do let r ← a; let rs ← la; pure (r :: rs) : M (List Arg)) g := Eq.trans rfl rfl
theorem opL_e {p : List D → Option S} : opL p rs g = (do let ds ← views rs; let s ← up (p ds); pure (.tmp s) : M Arg) g := Eq.trans rfl rfl
theorem mFn_e {p : List D → Option S} : mFn p la g = (do let xs ← la; opL p xs : M Arg) g := Eq.trans rfl rfl
theorem mkTup_e : mkTup rs g = (do let ds ← escs rs; let s ← up (if ds.length ≤ 100000 then some (S.val (.tup ds)) else none); pure (.tmp s) : M Arg) g := Eq.trans rfl rfl
theorem mkLst_e : mkLst rs g = (do let ds ← escs rs; let s ← up (if ds.length ≤ 100000 then some (S.lst ds) else none); pure (.tmp s) : M Arg) g := Eq.trans rfl rfl
theorem mTup_e : mTup la g = (do let x ← la; mkTup x : M Arg) g := Eq.trans rfl rfl
theorem mLst_e : mLst la g = (do let x ← la; mkLst x : M Arg) g := Eq.trans rfl rfl
theorem tob_e : tob r g = (do let d ← view r; up (asB d) : M Bool) g := Eq.trans rfl rfl
theorem tB_e : tB' a g = (do let r ← a; tob r : M Bool) g := Eq.trans rfl rfl
theorem tAnd_e {x y : M Bool} : tAnd' x y g = (do let c ← x; if c = true then y else pure false : M Bool) g := Eq.trans rfl rfl
theorem tOr_e {x y : M Bool} : tOr' x y g = (do let c ← x; if c = true then pure true else y : M Bool) g := Eq.trans rfl rfl
theorem tNot_e {x : M Bool} : tNot' x g = (do let c ← x; pure (!c) : M Bool) g := Eq.trans rfl rfl
theorem tIte_e {x y z : M Bool} : tIte' x y z g = (do let c ← x; if c = true then y else z : M Bool) g := Eq.trans rfl rfl
theorem mIte_e {x : M Bool} : mIte x a b g = (do let c ← x; if c = true then a else b : M Arg) g := Eq.trans rfl rfl
theorem mAnd_e : mAnd a b g = (do let x ← a; let c ← tob x; if c = true then b else cst (.bl false) : M Arg) g := Eq.trans rfl rfl
theorem mOr_e : mOr a b g = (do let x ← a; let c ← tob x; if c = true then cst (.bl true) else b : M Arg) g := Eq.trans rfl rfl
theorem mNot_e : mNot a g = (do let x ← a; let c ← tob x; cst (.bl (!c)) : M Arg) g := Eq.trans rfl rfl
theorem mChain_e {p' : D → D → Option S} : mChain p p' a b c g = (do let x ← a; let y ← b; let z ← op2 p x y; let k ← tob z; if k = true then (do let w ← c; op2 p' y w) else cst (.bl false) : M Arg) g := Eq.trans rfl rfl
theorem seqM_e {x y : M Fl} : seqM x y g = match x g with
  | none => none
  | some (.next, g1) => y g1
  | some (fl, g1) => some (fl, g1) := Eq.trans rfl rfl
theorem cNext_e : cNext g = some (.next, g) := Eq.trans rfl rfl
theorem cBrk_e : cBrk g = some (.brk, g) := Eq.trans rfl rfl
theorem cCont_e : cCont g = some (.cont, g) := Eq.trans rfl rfl
theorem cRetN_e : cRetN g = some (.ret (.val .non), g) := Eq.trans rfl rfl
theorem cIf_e {x : M Bool} {y z : M Fl} : cIf x y z g = (do let c ← x; if c = true then y else z : M Fl) g := Eq.trans rfl rfl
theorem cExpr_e : cExpr a g = (do let _ ← a; pure .next : M Fl) g := Eq.trans rfl rfl
theorem cSet_e : cSet i a g = (do let r ← a; setM i r; pure .next : M Fl) g := Eq.trans rfl rfl
theorem setM_t : setM i (.tmp s) g = if i < g.length then some ((), g.set i (some s)) else none := Eq.trans rfl rfl
theorem setM_s : setM i (.slot j) g = if i < g.length then (match g[j]? with
    | some (some s) => some ((), (g.set j (some (.val s.frz))).set i (some (.val s.frz)))
    | _ => none) else none := Eq.trans rfl rfl
theorem setD_e : setD i d g = if i < g.length then some ((), g.set i (some (.val d))) else none := Eq.trans rfl rfl
theorem retM_t : retM pr (.tmp s) g = some (.ret s, g) := Eq.trans rfl rfl
theorem retM_s : retM pr (.slot i) g = match g[i]? with
    | some (some s) => if pr i then some (.ret (.val s.frz), g.set i (some (.val s.frz))) else some (.ret s, g.set i none)
    | _ => none := Eq.trans rfl rfl
theorem cRet_e : cRet pr a g = (do let r ← a; retM pr r : M Fl) g := Eq.trans rfl rfl
theorem asgM_e {mt : D → M Unit} : asgM mt r g = (do let d ← esc r; mt d; pure .next : M Fl) g := Eq.trans rfl rfl
theorem cAsg_e {mt : D → M Unit} : cAsg mt a g = (do let r ← a; asgM mt r : M Fl) g := Eq.trans rfl rfl
theorem gTup_e {f : List D → M Unit} {ds : List D} : gTupM f (.tup ds) g = f ds g := Eq.trans rfl rfl
theorem gsNil_e : gsNil [] g = some ((), g) := Eq.trans rfl rfl
theorem gsCons_e {x : D → M Unit} {y : List D → M Unit} {ds : List D} : gsCons x y (d :: ds) g = (do x d; y ds : M Unit) g := Eq.trans rfl rfl
theorem setAtM_e {k : Int} : setAtM i k d g = match g[i]? with
  | some (some (.lst cur)) => match ixN cur.length k with
    | some j => some ((), g.set i (some (.lst (cur.set j d))))
    | none => none
  | _ => none := Eq.trans rfl rfl
theorem cSetAt_e : cSetAt i a b g = (do let r ← b; let _ ← rd i; let rk ← a; let kd ← view rk; let k ← up (asI kd); let d ← esc r; setAtM i k d; pure .next : M Fl) g := Eq.trans rfl rfl
theorem getAtM_e {k : Int} : getAtM i k g = match g[i]? with
  | some (some (.lst cur)) => match atI cur k with
    | some d => some (d, g)
    | none => none
  | _ => none := Eq.trans rfl rfl
theorem cAugAt_e : cAugAt i p a b g = (do let _ ← rd i; let rk ← a; let kd ← view rk; let k ← up (asI kd); let old ← getAtM i k; let r ← b; let y ← view r; let s ← up (p old y); let d ← up (asV s); setAtM i k d; pure .next : M Fl) g := Eq.trans rfl rfl
theorem cAug_e : cAug i p a g = (do let o ← rd i; let r ← a; let x ← view o; let y ← view r; let s ← up (p x y); let d ← up (asV s); setD i d; pure .next : M Fl) g := Eq.trans rfl rfl
theorem isL_e : isL i g = match g[i]? with
  | some (some (.lst _)) => some ((), g)
  | some (some (.val (.lst _))) => some ((), g)
  | _ => none := Eq.trans rfl rfl
theorem mutM_e {q : List D → List D → Option (List D × D)} {ds : List D} : mutM i q ds g = match g[i]? with
  | some (some (.lst cur)) => match q cur ds with
    | some (new, res) => if new.length ≤ 100000 then some (.tmp (.val res), g.set i (some (.lst new))) else none
    | none => none
  | _ => none := Eq.trans rfl rfl
theorem mMut_e {q : List D → List D → Option (List D × D)} : mMut i q la g = (do isL i; let rs ← la; let ds ← escs rs; mutM i q ds : M Arg) g := Eq.trans rfl rfl
theorem oNone_e : oNone g = some (none, g) := Eq.trans rfl rfl
theorem oSome_e : oSome a g = (do let r ← a; let d ← view r; let i ← up (asI d); pure (some i) : M (Option Int)) g := Eq.trans rfl rfl
theorem slM_e {lo hi : Option Int} : slM r lo hi g = (do let d ← view r; let s ← up (pSl d lo hi); pure (.tmp s) : M Arg) g := Eq.trans rfl rfl
theorem mSl_e {l h : M (Option Int)} : mSl a l h g = (do let x ← a; let l ← l; let h ← h; slM x l h : M Arg) g := Eq.trans rfl rfl
theorem seqM'_e : seqM' r g = (do let d ← esc r; up (seqOf d) : M (List D)) g := Eq.trans rfl rfl
theorem wRev_e : wRev a g = (do let r ← a; let d ← esc r; up (revOf d) : M (List D)) g := Eq.trans rfl rfl
theorem wSeq_e : wSeq a g = (do let r ← a; seqM' r : M (List D)) g := Eq.trans rfl rfl
theorem walkM_e {q : List D → Option (List D)} : walkM q rs g = (do let ds ← views rs; up (q ds) : M (List D)) g := Eq.trans rfl rfl
theorem wFn_e {q : List D → Option (List D)} : wFn q la g = (do let xs ← la; walkM q xs : M (List D)) g := Eq.trans rfl rfl
theorem escW_e {q : List D → Option (List D)} : escW q rs g = (do let ds ← escs rs; up (q ds) : M (List D)) g := Eq.trans rfl rfl
theorem wEsc_e {q : List D → Option (List D)} : wEsc q la g = (do let xs ← la; escW q xs : M (List D)) g := Eq.trans rfl rfl
theorem cFor_e {wi : M (List D)} {mt : D → M Unit} {mb : M Fl} : cFor wi mt mb g = (do let ds ← wi; loopM mt mb ds : M Fl) g := Eq.trans rfl rfl
theorem mComp_e {wi : M (List D)} {vs : List Nat} {mt : D → M Unit} {mc : M Bool} : mComp wi vs mt mc a g = (do let ds ← wi; compM vs mt mc a ds : M Arg) g := Eq.trans rfl rfl
theorem compM_e {vs : List Nat} {mt : D → M Unit} {mc : M Bool} {ds : List D} : compM vs mt mc a ds g = if ds.length ≤ 100000 then
    match compL vs mt mc a ds (wipeG g vs) with
    | none => none
    | some (xs, g') => some (.tmp (.lst xs), backG g vs g')
  else none := Eq.trans rfl rfl
theorem takes_n : takes [] g = some ([], g) := Eq.trans rfl rfl
theorem takes_t : takes (.tmp s :: rs) g = (do let ss ← takes rs; pure (s :: ss) : M (List S)) g := Eq.trans rfl rfl
theorem takes_s : takes (.slot i :: rs) g = match g[i]? with
  | some (some (.val d)) => (do let ss ← takes rs; pure (.val d :: ss) : M (List S)) g
  | some (some (.lst ds)) => (do let ss ← takes rs; pure (.lst ds :: ss) : M (List S)) (g.set i none)
  | _ => none := by
  rw [takes]
  refine (bind_ev (α := S) _ _ g).trans ?_
  cases h : g[i]? with
  | none => rfl
  | some o => rcases o with _ | d | ds <;> rfl
theorem puts_n {ss : List S} : puts [] ss g = some ((), g) := by cases ss <;> rfl
theorem puts_t : puts (.tmp s :: rs) (t :: ss) g = puts rs ss g := Eq.trans rfl rfl
theorem puts_s : puts (.slot i :: rs) (s :: ss) g = match g[i]? with
  | some none => puts rs ss (g.set i (some s))
  | _ => puts rs ss g := by
  rw [puts]
  refine (bind_ev (α := Unit) _ _ g).trans ?_
  cases h : g[i]? with
  | none => rfl
  | some o => rcases o with _ | d <;> rfl
theorem callM_e {fm : Fm} {dds : List D} : callM fm dds rs g = (do let ss ← takes rs; let o ← up (fm (ss ++ dds.map .val)); puts rs o.2; pure (.tmp o.1) : M Arg) g := Eq.trans rfl rfl
theorem mCall_e {fm : Fm} {dds : List D} : mCall fm dds la g = (do let rs ← la; callM fm dds rs : M Arg) g := Eq.trans rfl rfl
theorem mCallK_e {fm : Fm} {n m : Nat} {pm : List Nat} : mCallK fm n m pm la lb g = (do
  let rs ← la
  let zs ← lb
  let ds ← escs (rs ++ zs)
  let o ← up (fm ((kgI n m pm (ds.take rs.length) (ds.drop rs.length)).map .val))
  pure (.tmp o.1) : M Arg) g := Eq.trans rfl rfl
theorem toS_t : toS (.tmp s) g = some (s, g) := Eq.trans rfl rfl
theorem toS_s : toS (.slot i) g = match g[i]? with
    | some (some s) => some (.val s.frz, g.set i (some (.val s.frz)))
    | _ => none := Eq.trans rfl rfl
theorem putS_e : putS i s g = if i < g.length then some ((), g.set i (some s)) else none := Eq.trans rfl rfl
theorem cPar_e : cPar i j la g = (do
  let rs ← la
  match rs with
  | [r1, r2] => do let s1 ← toS r1; let s2 ← toS r2; putS i s1; putS j s2; pure .next
  | _ => fun _ => none : M Fl) g := Eq.trans rfl rfl
theorem if_ap {α : Type} {q : Prop} [Decidable q] {x y : M α} : (if q then x else y) g = if q then x g else y g := by split <;> rfl
theorem fnM_e {np nl : Nat} {body : M Fl} : fnM np nl pr body ss = if ss.length = np then
    match body (ss.map some ++ List.replicate (nl - np) none) with
    | some (.ret r, g') => (outs pr 0 ss g').map fun o => (r, o)
    | some (.next, g') => (outs pr 0 ss g').map fun o => (.val .non, o)
    | _ => none
  else none := Eq.trans rfl rfl
end
/-! ### comprehensions and loops, turn by turn -/
section
variable {vs : List Nat} {mt : D → M Unit} {mc : M Bool} {me : M Arg} {mb : M Fl}
def stepC (vs : List Nat) (mt : D → M Unit) (mc : M Bool) (me : M Arg) (d : D) : M (Option D) := fun g =>
  (mt d g).bind fun p => (mc p.2).bind fun c => if c.1 = true then (me c.2).bind fun r => (esc r.1 r.2).bind fun x => some (some x.1, wipeG x.2 vs) else some (none, wipeG c.2 vs)
def wipeM (vs : List Nat) : M Unit := fun g => some ((), wipeG g vs)
theorem wipeM_e {vs : List Nat} {g : G} : wipeM vs g = some ((), wipeG g vs) := Eq.trans rfl rfl
theorem stepC_e {d : D} {g : G} : stepC vs mt mc me d g = (do mt d; let c ← mc; if c = true then (do let r ← me; let x ← esc r; wipeM vs; pure (some x)) else (do wipeM vs; pure none) : M (Option D)) g := by
  unfold stepC
  simp only [bind_ev]
  cases mt d g with
  | none => rfl
  | some p =>
    simp only [Option.bind_some]
    cases mc p.2 with
    | none => rfl
    | some c =>
      simp only [Option.bind_some, if_ap]
      split
      · simp only [bind_ev, wipeM_e, Option.bind_some, pure_ev]
      · simp only [bind_ev, wipeM_e, Option.bind_some, pure_ev]
theorem compL_cons {d : D} {ds : List D} {g : G} : compL vs mt mc me (d :: ds) g = (stepC vs mt mc me d g).bind fun p => (compL vs mt mc me ds p.2).bind fun q => some (p.1.toList ++ q.1, q.2) := by
  rw [compL]
  unfold stepC
  simp only [bind_ev]
  cases mt d g with
  | none => rfl
  | some p =>
    simp only [Option.bind_some]
    cases mc p.2 with
    | none => rfl
    | some c =>
      simp only [Option.bind_some]
      obtain ⟨c, g2⟩ := c
      cases c with
      | false =>
        simp only [Bool.false_eq_true, if_false, Option.bind_some]
        change compL vs mt mc me ds (wipeG g2 vs) = _
        cases compL vs mt mc me ds (wipeG g2 vs) <;> rfl
      | true =>
        simp only [if_true, bind_ev]
        cases me g2 with
        | none => rfl
        | some r =>
          simp only [Option.bind_some]
          cases esc r.1 r.2 with
          | none => rfl
          | some x =>
          change ((do let xs ← compL vs mt mc me ds; pure (x.1 :: xs)) : M (List D)) (wipeG x.2 vs) = _
          rw [bind_ev]
          rfl
theorem compL_nil {g : G} : compL vs mt mc me [] g = some ([], g) := rfl
theorem compL_map {f : D → D} {g : G} : ∀ {ds : List D}, (∀ d ∈ ds, stepC vs mt mc me d g = some (some (f d), g)) → compL vs mt mc me ds g = some (ds.map f, g)
  | [], _ => rfl
  | d :: ds, h => by
    rw [compL_cons, h d (List.mem_cons_self ..)]
    simp only [Option.bind_some]
    rw [compL_map fun x hx => h x (List.mem_cons_of_mem _ hx)]
    rfl
theorem compL_filter {f : D → Option D} {g : G} : ∀ {ds : List D}, (∀ d ∈ ds, stepC vs mt mc me d g = some (f d, g)) → compL vs mt mc me ds g = some (ds.filterMap f, g)
  | [], _ => rfl
  | d :: ds, h => by
    rw [compL_cons, h d (List.mem_cons_self ..)]
    simp only [Option.bind_some]
    rw [compL_filter fun x hx => h x (List.mem_cons_of_mem _ hx)]
    simp only [Option.bind_some, List.filterMap_cons]
    cases f d <;> rfl
/-- two lists, one beside the other -/
inductive Al {α β : Type} (P : α → β → Prop) : List α → List β → Prop
  | nil : Al P [] []
  | cons {a : α} {b : β} {as : List α} {bs : List β} : P a b → Al P as bs → Al P (a :: as) (b :: bs)
theorem Al.length {α β : Type} {P : α → β → Prop} : ∀ {as : List α} {bs : List β}, Al P as bs → as.length = bs.length
  | _, _, .nil => rfl
  | _, _, .cons _ r => congrArg (· + 1) r.length
theorem compL_inv (I : Nat → G → Prop) (P : D → D → Prop) : ∀ {ds : List D} {n : Nat} {g : G}, I n g → (∀ d ∈ ds, ∀ i g, n ≤ i → i < n + ds.length → I i g → ∃ x g', stepC vs mt mc me d g = some (some x, g') ∧ P d x ∧ I (i + 1) g') →
    ∃ xs g', compL vs mt mc me ds g = some (xs, g') ∧ Al P ds xs ∧ I (n + ds.length) g'
  | [], n, g, h, _ => ⟨[], g, rfl, .nil, h⟩
  | d :: ds, n, g, h, st => by
    obtain ⟨x, g1, e1, p1, h1⟩ := st d (List.mem_cons_self ..) n g (Nat.le_refl _) (by simp) h
    obtain ⟨xs, g2, e2, p2, h2⟩ := compL_inv I P (ds := ds) h1 fun d hd i g hi hi2 => st d (List.mem_cons_of_mem _ hd) i g (by omega) (by simp; omega)
    refine ⟨x :: xs, g2, ?_, .cons p1 p2, by rw [List.length_cons, ← Nat.add_assoc, Nat.add_right_comm]; exact h2⟩
    rw [compL_cons, e1]
    simp only [Option.bind_some]
    rw [e2]; rfl
def turnL (mt : D → M Unit) (mb : M Fl) (d : D) : M Fl := fun g => (mt d g).bind fun p => mb p.2
theorem turnL_e {d : D} {g : G} : turnL mt mb d g = (do mt d; mb : M Fl) g := (bind_ev (mt d) (fun _ => mb) g).symm
theorem loopM_nil {g : G} : loopM mt mb [] g = some (.next, g) := rfl
theorem loopM_cons {d : D} {ds : List D} {g : G} : loopM mt mb (d :: ds) g = (turnL mt mb d g).bind fun p => match p.1 with
    | .next => loopM mt mb ds p.2
    | .cont => loopM mt mb ds p.2
    | .brk => some (.next, p.2)
    | .ret s => some (.ret s, p.2) := by
  unfold turnL
  rw [loopM]
  simp only [bind_ev]
  cases mt d g with
  | none => rfl
  | some p =>
    simp only [Option.bind_some]
    cases mb p.2 with
    | none => rfl
    | some q =>
      obtain ⟨fl, g2⟩ := q
      cases fl <;> rfl
theorem loopM_all (I : Nat → G → Prop) : ∀ {ds : List D} {n : Nat} {g : G}, I n g → (∀ i d, ds[i]? = some d → ∀ g, I (n + i) g → ∃ g', turnL mt mb d g = some (.next, g') ∧ I (n + i + 1) g') →
    ∃ g', loopM mt mb ds g = some (.next, g') ∧ I (n + ds.length) g'
  | [], n, g, h, _ => ⟨g, rfl, h⟩
  | d :: ds, n, g, h, st => by
    obtain ⟨g1, e1, h1⟩ := st 0 d rfl g h
    obtain ⟨g2, e2, h2⟩ := loopM_all I (ds := ds) (n := n + 1) h1 fun i d hd g hg => by
      have := st (i + 1) d (by simpa using hd) g (by rw [← Nat.add_assoc, Nat.add_right_comm]; exact hg)
      rw [show n + 1 + i + 1 = n + (i + 1) + 1 by omega]; exact this
    refine ⟨g2, ?_, by rw [List.length_cons, ← Nat.add_assoc, Nat.add_right_comm]; exact h2⟩
    rw [loopM_cons, e1]
    exact e2
theorem loopM_ret (I : Nat → G → Prop) (R : S → G → Prop) : ∀ {ds : List D} {n : Nat} {g : G}, I n g →
    (∀ i d, ds[i]? = some d → ∀ g, I (n + i) g → (∃ g', turnL mt mb d g = some (.next, g') ∧ I (n + i + 1) g') ∨ ∃ s g', turnL mt mb d g = some (.ret s, g') ∧ R s g') →
    (∃ g', loopM mt mb ds g = some (.next, g') ∧ I (n + ds.length) g') ∨ ∃ s g', loopM mt mb ds g = some (.ret s, g') ∧ R s g'
  | [], n, g, h, _ => .inl ⟨g, rfl, h⟩
  | d :: ds, n, g, h, st => by
    rcases st 0 d rfl g h with ⟨g1, e1, h1⟩ | ⟨s, g1, e1, r⟩
    · rcases loopM_ret I R (ds := ds) (n := n + 1) h1 fun i d hd g hg => (by
        have := st (i + 1) d (by simpa using hd) g (by rw [← Nat.add_assoc, Nat.add_right_comm]; exact hg)
        rw [show n + 1 + i + 1 = n + (i + 1) + 1 by omega]; exact this) with ⟨g2, e2, h2⟩ | ⟨s, g2, e2, r⟩
      · refine .inl ⟨g2, ?_, by rw [List.length_cons, ← Nat.add_assoc, Nat.add_right_comm]; exact h2⟩
        rw [loopM_cons, e1]; exact e2
      · refine .inr ⟨s, g2, ?_, r⟩
        rw [loopM_cons, e1]; exact e2
    · refine .inr ⟨s, g1, ?_, r⟩
      rw [loopM_cons, e1]; rfl
end
/-! ### places of lists -/
theorem ixN_nat {n i : Nat} (h : i < n) : ixN n (i : Int) = some i := by
  unfold ixN
  rw [if_pos (by omega), if_pos (by omega)]
  simp
theorem atI_nat {α : Type} {xs : List α} {i : Nat} (h : i < xs.length) : atI xs (i : Int) = some xs[i] := by
  unfold atI
  rw [ixN_nat h]
  simp [h]
/-- a list of whole numbers as data -/
def iz (xs : List Int) : List D := xs.map D.int
theorem dInts_iz (xs : List Int) : dInts (iz xs) = some xs := dInts_of xs
theorem iz_len (xs : List Int) : (iz xs).length = xs.length := List.length_map ..
theorem iz_app (xs ys : List Int) : iz xs ++ iz ys = iz (xs ++ ys) := by unfold iz; rw [List.map_append]
theorem iz_one (x : Int) : [D.int x] = iz [x] := rfl
theorem iz_nil : ([] : List D) = iz [] := rfl
theorem iz_take (xs : List Int) (k : Nat) : (iz xs).take k = iz (xs.take k) := by unfold iz; rw [List.map_take]
theorem iz_drop (xs : List Int) (k : Nat) : (iz xs).drop k = iz (xs.drop k) := by unfold iz; rw [List.map_drop]
theorem iz_rev (xs : List Int) : (iz xs).reverse = iz xs.reverse := by unfold iz; rw [List.map_reverse]
theorem iz_set (xs : List Int) (k : Nat) (x : Int) : (iz xs).set k (.int x) = iz (xs.set k x) := by unfold iz; rw [List.map_set]
theorem iz_at {xs : List Int} {k : Nat} (h : k < xs.length) : atI (iz xs) (k : Int) = some (.int xs[k]) := by
  rw [atI_nat (by rw [iz_len]; exact h)]
  unfold iz; rw [List.getElem_map]
theorem iz_rep (x : Int) (k : Nat) : (List.replicate k [D.int x]).flatten = iz (List.replicate k x) := by
  unfold iz
  induction k with
  | zero => rfl
  | succ k ih => rw [List.replicate_succ, List.replicate_succ, List.flatten_cons, ih]; rfl
theorem iz_rep1 (x : Int) (k : Nat) : List.replicate k (D.int x) = iz (List.replicate k x) := by unfold iz; rw [List.map_replicate]
theorem Al.izs {α : Type} {Q : Int → Prop} : ∀ {ds : List α} {xs : List D}, Al (fun _ x => ∃ i, x = D.int i ∧ Q i) ds xs → ∃ ns, xs = iz ns ∧ ns.length = ds.length ∧ ∀ i ∈ ns, Q i
  | _, _, .nil => ⟨[], rfl, rfl, nofun⟩
  | _, _, .cons ⟨i, e, q⟩ r => by
    obtain ⟨ns, e1, e2, e3⟩ := r.izs
    refine ⟨i :: ns, by rw [e, e1]; rfl, by simp [e2], fun j hj => ?_⟩
    rcases List.mem_cons.mp hj with rfl | hj
    · exact q
    · exact e3 j hj
theorem Al.izz {Q : Int → Int → Prop} : ∀ {js : List Int} {xs : List D}, Al (fun d x => ∃ j i, d = D.int j ∧ x = D.int i ∧ Q j i) (iz js) xs → ∃ ns, xs = iz ns ∧ Al Q js ns
  | [], _, .nil => ⟨[], rfl, .nil⟩
  | j :: js, _, .cons ⟨j', i, e', e, q⟩ r => by
    obtain ⟨ns, e1, e2⟩ := Al.izz (js := js) r
    cases e'
    exact ⟨i :: ns, by rw [e, e1]; rfl, .cons q e2⟩
theorem mem_iz {xs : List Int} {d : D} (h : d ∈ iz xs) : ∃ i ∈ xs, d = .int i := by
  obtain ⟨i, h1, h2⟩ := List.mem_map.mp h
  exact ⟨i, h1, h2.symm⟩
theorem upto_cons {lo : Int} {n : Nat} : upto lo (n + 1) = .int lo :: upto (lo + 1) n := by
  unfold upto
  rw [List.range_succ_eq_map, List.map_cons, List.map_map]
  congr 1
  · simp
  · apply List.map_congr_left
    intro i _
    simp only [Function.comp]
    congr 1
    omega
theorem upto_len {lo : Int} {n : Nat} : (upto lo n).length = n := by unfold upto; simp
theorem upto_get {lo : Int} {n i : Nat} {d : D} (h : (upto lo n)[i]? = some d) : d = .int (lo + i) ∧ i < n := by
  unfold upto at h
  rw [List.getElem?_map] at h
  have hi : i < n := by
    have := (List.getElem?_eq_some_iff.mp (Option.map_eq_some_iff.mp h).choose_spec.1).1
    simpa using this
  rw [List.getElem?_range hi] at h
  cases h
  exact ⟨rfl, hi⟩
theorem upto_mem {lo : Int} {n : Nat} {d : D} (h : d ∈ upto lo n) : ∃ i : Nat, i < n ∧ d = .int (lo + i) := by
  obtain ⟨i, hi, e⟩ := List.getElem_of_mem h
  obtain ⟨e1, h1⟩ := upto_get (by rw [List.getElem?_eq_getElem hi, e])
  exact ⟨i, h1, e1⟩
theorem upto_nat {n : Nat} : upto 0 n = (List.range n).map fun (i : Nat) => D.int (i : Int) := by
  unfold upto
  apply List.map_congr_left
  intro i _
  simp
theorem cut_lo {xs : List D} {k : Nat} (h : k ≤ xs.length) : cutD xs none (some (k : Int)) = xs.take k := by
  unfold cutD
  rw [HT.sIx_none, HT.sIx_nat, Nat.min_eq_left h]
  simp
theorem cut_hi {xs : List D} {k : Nat} (h : k ≤ xs.length) : cutD xs (some (k : Int)) none = xs.drop k := by
  unfold cutD
  rw [HT.sIx_none, HT.sIx_nat, Nat.min_eq_left h]
  apply List.take_of_length_le
  simp
theorem cutz_lo {xs : List Int} {k : Nat} (h : k ≤ xs.length) : cutD (iz xs) none (some (k : Int)) = iz (xs.take k) := by rw [cut_lo (by rw [iz_len]; exact h), iz_take]
theorem cutz_hi {xs : List Int} {k : Nat} (h : k ≤ xs.length) : cutD (iz xs) (some (k : Int)) none = iz (xs.drop k) := by rw [cut_hi (by rw [iz_len]; exact h), iz_drop]
theorem cutz_hi1 {xs : List Int} {k : Nat} (h : k < xs.length) : cutD (iz xs) (some ((k : Int) + 1)) none = iz (xs.drop (k + 1)) := by
  have := cutz_hi (xs := xs) (k := k + 1) h
  rwa [Int.natCast_add] at this
/-- the first place that a loop returns -/
theorem loop_find {mt : D → M Unit} {mb : M Fl} {g : Option S → G} {p : Nat → Bool} : ∀ {js : List Nat} {o : Option S}, (∀ j ∈ js, ∀ o, ∃ o', turnL mt mb (.int j) (g o) = some (if p j = true then .ret (.val (.int j)) else .next, g o')) →
    ∃ o', loopM mt mb (js.map fun (j : Nat) => D.int j) (g o) = some (match js.find? p with | some j => .ret (.val (.int j)) | none => .next, g o')
  | [], o, _ => ⟨o, rfl⟩
  | j :: js, o, h => by
    obtain ⟨o1, e1⟩ := h j (List.mem_cons_self ..) o
    obtain ⟨o', e⟩ := loop_find (js := js) (o := o1) fun i hi => h i (List.mem_cons_of_mem _ hi)
    rw [List.map_cons, loopM_cons, e1, List.find?_cons]
    cases p j with
    | true => exact ⟨_, rfl⟩
    | false => exact ⟨o', e⟩
theorem p1_e {j : Int} (h : small j = true) : p1 [.int j] = some (upto 0 j.toNat) := if_pos h
theorem p2_e {i j : Int} (h : small i = true) (h' : small j = true) : p2 [.int i, .int j] = some (upto i (j - i).toNat) := if_pos ⟨h, h'⟩
theorem seqM_next {x y : M Fl} {g g1 : G} (h : x g = some (.next, g1)) : seqM x y g = y g1 := by rw [seqM_e, h]
theorem cFor_of {wi : M (List D)} {mt : D → M Unit} {mb : M Fl} {g g1 : G} {ds : List D} {r : Option (Fl × G)} (h : wi g = some (ds, g1)) (e : loopM mt mb ds g1 = r) : cFor wi mt mb g = r := by
  rw [cFor_e, bind_ev, h]; exact e
theorem turnL_of {mt : D → M Unit} {mb : M Fl} {g g1 : G} {d : D} {r : Option (Fl × G)} (h : mt d g = some ((), g1)) (e : mb g1 = r) : turnL mt mb d g = r := by
  rw [turnL_e, bind_ev, h]; exact e
theorem pIx_l {ds : List D} {i : Int} : pIx (.lst ds) (.int i) = (atI ds i).map .val := Eq.trans rfl rfl
theorem pIx_t {ds : List D} {i : Int} : pIx (.tup ds) (.int i) = (atI ds i).map .val := Eq.trans rfl rfl
theorem pIx_r {ns : List Int} {i : Int} : pIx (.scr ns) (.int i) = (atI ns i).map fun n => .val (.int n) := Eq.trans rfl rfl
theorem okD_bl {b : Bool} : okD 60 (.bl b) = true := by rw [okD]
theorem okD_int {b : Int} : okD 60 (.int b) = true := by rw [okD]
theorem okD_non : okD 60 .non = true := by rw [okD]
theorem okD_str {z : Str} (h : PyData.strOk z = true) : okD 60 (.str z) = true := by rw [okD, h]
theorem deq_bl {a b : Bool} : deq (.bl a) (.bl b) = (a == b) := by rw [deq]
theorem deq_int {a b : Int} : deq (.int a) (.int b) = (a == b) := by rw [deq]
theorem deq_non : deq .non .non = true := by rw [deq]
theorem deq_str {a b : Str} : deq (.str a) (.str b) = (a == b) := by rw [deq]
theorem pEq_str {a b : Str} (h : PyData.strOk a = true) (h' : PyData.strOk b = true) : pEq (.str a) (.str b) = some (.val (.bl (a == b))) := by
  unfold pEq
  rw [if_pos ⟨okD_str h, okD_str h'⟩, deq_str]
theorem pEq_int {a b : Int} : pEq (.int a) (.int b) = some (.val (.bl (a == b))) := by
  unfold pEq
  rw [if_pos ⟨okD_int, okD_int⟩, deq_int]
theorem pEq_bl {a b : Bool} : pEq (.bl a) (.bl b) = some (.val (.bl (a == b))) := by
  unfold pEq
  rw [if_pos ⟨okD_bl, okD_bl⟩, deq_bl]
theorem pEq_non : pEq .non .non = some (.val (.bl true)) := by
  unfold pEq
  rw [if_pos ⟨okD_non, okD_non⟩, deq_non]
theorem pNe_int {a b : Int} : pNe (.int a) (.int b) = some (.val (.bl (!(a == b)))) := by
  unfold pNe
  rw [if_pos ⟨okD_int, okD_int⟩, deq_int]
theorem pNe_bl {a b : Bool} : pNe (.bl a) (.bl b) = some (.val (.bl (!(a == b)))) := by
  unfold pNe
  rw [if_pos ⟨okD_bl, okD_bl⟩, deq_bl]
/-! ### the box -/
abbrev bx (a b c : Int) : S := .lst [.int a, .int b, .int c]
def BoxOk (n : Nat) (s : S) : Prop := ∃ a b c, s = bx a b c ∧ 0 ≤ a ∧ 0 ≤ b ∧ b ≤ 3000000000 ∧ 0 ≤ c ∧ c ≤ n
theorem BoxOk.up {n m : Nat} {s : S} (h : BoxOk n s) (le : n ≤ m) : BoxOk m s := by
  obtain ⟨a, b, c, h0, h1, h2, h3, h4, h5⟩ := h
  exact ⟨a, b, c, h0, h1, h2, h3, h4, by omega⟩
def takeP (pr : Nat → Bool) (p q : Int) : M Fl :=
    seqM (cIf (tB' (mBin pGt (mBin pIx (rd 0) (cst (.int 0))) (cst (.int 0)))) (seqM (cSet 2 (mBin pMod (mBin pIx (rd 0) (cst (.int 0))) (rd 1)))
    (seqM (cSetAt 0 (cst (.int 0)) (mBin pDiv (mBin pIx (rd 0) (cst (.int 0))) (rd 1)))
    (cRet pr (rd 2)))) (cNext))
    (seqM (cSetAt 0 (cst (.int 2)) (mBin pAdd (mBin pIx (rd 0) (cst (.int 2))) (cst (.int 1))))
    (seqM (cSet 3 (mBin pMod (mBin pPow (mBin pAdd (mBin pIx (rd 0) (cst (.int 1))) (mBin pMul (cst (.int p)) (mBin pIx (rd 0) (cst (.int 2))))) (cst (.int 5))) (cst (.int 2147483647))))
    (cRet pr (mBin pMod (mBin pDiv (mBin pMod (mBin pAdd (mBin pMul (rd 3) (mBin pAdd (mBin pMod (rd 3) (cst (.int q))) (cst (.int 7)))) (mBin pMul (mBin pIx (rd 0) (cst (.int 2))) (cst (.int 7919)))) (cst (.int 2147483629))) (cst (.int 64))) (rd 1)))))
def prT (i : Nat) : Bool := [0, 1].contains i
def takeF (p q : Int) : Fm := fnM 2 4 prT (takeP prT p q)
theorem divw {i j : Int} (h : 0 < j) (h' : j < 9223372036854775808) : CDivW i j := by
  refine ⟨h, ?_⟩
  have : j.natAbs.log2 ≤ 63 := by
    have hj : j.natAbs < 2 ^ 64 := by omega
    exact Nat.lt_succ_iff.mp ((Nat.log2_lt (by omega)).mpr hj)
  omega
theorem mulr {i j : Int} (h : -18446744073709551616 < j) (h' : j < 18446744073709551616) : CMul i j := .inr ⟨by omega, by omega⟩
theorem mull {i j : Int} (h : -18446744073709551616 < i) (h' : i < 18446744073709551616) : CMul i j := .inl ⟨by omega, by omega⟩
theorem take_ok {p q : Int} (hp : 0 ≤ p) (hp' : p ≤ 100000) (hq : 0 < q) (hq' : q ≤ 100000) {n : Nat} {s : S} (h : BoxOk n s) {m : Int} (hm : 0 < m) (hm' : m < 9223372036854775808) (hn : n ≤ 100000000000) :
    ∃ r s', 0 ≤ r ∧ r < m ∧ BoxOk (n + 1) s' ∧ takeF p q [s, .val (.int m)] = some (.val (.int r), [s', .val (.int m)]) := by
  obtain ⟨a, b, c, rfl, ha, hb, hb', hc, hc'⟩ := h
  by_cases h : 0 < a
  · refine ⟨a % m, bx (a / m) b c, Int.emod_nonneg _ (by omega), Int.emod_lt_of_pos _ hm, ⟨_, _, _, rfl, Int.ediv_nonneg ha (by omega), hb, hb', hc, by omega⟩, ?_⟩
    have hd : CDivW a m := divw hm hm'
    simp [takeF, takeP, fnM, seqM, cIf, tB', mBin, rd, cst, bind_ev, pure_ev, op2, view, S.frz, up, pIx, atI, ixN, bx, pCmp, tob, asB, h, cSet, setM, pMod, cSetAt, setAtM, asI, pDiv, hd, esc, cRet, retM, hm, outs, prT]
  · have h0 : a = 0 := by omega
    subst h0
    have hpc : 0 ≤ p * (c + 1) := Int.mul_nonneg hp (by omega)
    have hpc' : p * (c + 1) ≤ 100000 * 100000000001 := Int.mul_le_mul hp' (by omega) (by omega) (by omega)
    have c1 : CMul p (c + 1) := mull (by omega) (by omega)
    have c2 : CPow (b + p * (c + 1)) 5 := ⟨by omega, by omega, by omega⟩
    generalize ho : (b + p * (c + 1)) ^ 5 % 2147483647 = o at *
    have ho1 : 0 ≤ o := by rw [← ho]; exact Int.emod_nonneg _ (by omega)
    have ho2 : o < 2147483647 := by rw [← ho]; exact Int.emod_lt_of_pos _ (by omega)
    have hq1 : 0 ≤ o % q := Int.emod_nonneg _ (by omega)
    have hq2 : o % q < q := Int.emod_lt_of_pos _ (by omega)
    have c3 : CMul o (o % q + 7) := mull (by omega) (by omega)
    have c4 : CMul (c + 1) 7919 := mulr (by omega) (by omega)
    have c5 : CDivW ((o * (o % q + 7) + (c + 1) * 7919) % 2147483629) 64 := divw (by omega) (by omega)
    refine ⟨(o * (o % q + 7) + (c + 1) * 7919) % 2147483629 / 64 % m, bx 0 b (c + 1), Int.emod_nonneg _ (by omega), Int.emod_lt_of_pos _ hm, ⟨_, _, _, rfl, by omega, hb, hb', by omega, by omega⟩, ?_⟩
    simp [takeF, takeP, fnM, seqM, cIf, tB', mBin, rd, cst, bind_ev, pure_ev, op2, view, S.frz, up, pIx, atI, ixN, bx, pCmp, tob, asB, cNext, cSet, setM, pMod, pPow, pAdd, pMul, cSetAt, setAtM, asI, pDiv, esc, cRet, retM, hm, outs, prT, c1, c2, ho, c3, c4, c5, hq]
end DL

/-! The data layer, part J: the laws' shared defs: the box, the likeness, the top. -/
namespace DL
open PySem PySem.Spec PyProof.Rows L2
/-! ### the box -/
def boxE (pr : Nat → Bool) (q : Int) : M Fl :=
    cRet pr (mLst (aCons (mBin pMul (mFn pAbs (aCons (rd 2) (aNil))) (mFn pInt (aCons (mBin pGe (mFn pAbs (aCons (rd 2) (aNil))) (mBin pPow (cst (.int 10)) (cst (.int 18)))) (aNil)))) (aCons (mBin pAdd (mBin pAdd (mBin pMod (rd 2) (cst (.int 2147483629))) (mBin pMul (cst (.int 7919)) (rd 1))) (cst (.int q))) (aCons (cst (.int 0)) (aNil)))))
def boxF (q : Int) : Fm := fnM 2 3 prT (seqM (cSet 2 (mIte (tB' (mBin pLt (rd 1) (mFn pLen (aCons (rd 0) (aNil))))) (mBin pIx (rd 0) (rd 1)) (cst (.int 0)))) (boxE prT q))
def boxG (q : Int) : Fm := fnM 2 3 prT (seqM (cSet 2 (cst (.int 0))) (seqM (cIf (tB' (mBin pLt (rd 1) (mFn pLen (aCons (rd 0) (aNil))))) (cSet 2 (mBin pIx (rd 0) (rd 1))) cNext) (boxE prT q)))
theorem boxE_ok {q : Int} (hq : 0 ≤ q) (hq' : q ≤ 1000) {s : S} {c : Int} {k : Nat} (hk : k < 1000) : ∃ t, BoxOk 0 t ∧ boxE prT q [some s, some (.val (.int k)), some (.val (.int c))] = some (.ret t, [some s, some (.val (.int k)), some (.val (.int c))]) := by
  have h1 : 0 ≤ c % 2147483629 := Int.emod_nonneg _ (by omega)
  have h2 : c % 2147483629 < 2147483629 := Int.emod_lt_of_pos _ (by omega)
  have c1 : CMul 7919 (k : Int) := mull (by omega) (by omega)
  have c2 : CPow 10 18 := ⟨by omega, by omega, by decide⟩
  have h3 : 0 ≤ if c < 0 then -c else c := by split <;> omega
  generalize ha : (if c < 0 then -c else c) = a at h3
  have c3 : ∀ b : Bool, CMul a (if b = true then 1 else 0) := fun b => mulr (by split <;> omega) (by split <;> omega)
  refine ⟨bx (a * (if decide (10 ^ 18 ≤ a) = true then 1 else 0)) (c % 2147483629 + 7919 * (k : Int) + q) 0, ⟨_, _, _, rfl, Int.mul_nonneg h3 (by split <;> omega), by omega, by omega, by omega, by omega⟩, ?_⟩
  have c4 := c3 (decide (10 ^ 18 ≤ a))
  simp only [decide_eq_true_eq] at c4 ⊢
  have c5 : CMul a (if 1000000000000000000 ≤ a then 1 else 0) := by simpa using c4
  simp [boxE, bind_k, kont_s, kont_n, pure_ev, rd_e, cst_e, view_t, view_s, esc_t, esc_s, frz_v, frz_l, up_s, up_n, views_n, views_c, escs_n, escs_c, op2_e, mBin_e, op1_e, mUn_e, aNil_e, aCons_e, opL_e, mFn_e, mkTup_e, mkLst_e, mTup_e, mLst_e, tob_e, tB_e, tAnd_e, tOr_e, tNot_e, tIte_e, mIte_e, mAnd_e, mOr_e, mNot_e, mChain_e, seqM_e, cNext_e, cBrk_e, cCont_e, cRetN_e, cIf_e, cExpr_e, cSet_e, setM_t, setM_s, setD_e, retM_t, retM_s, cRet_e, asgM_e, cAsg_e, gTup_e, gsNil_e, gsCons_e, setAtM_e, cSetAt_e, getAtM_e, cAugAt_e, cAug_e, isL_e, mutM_e, mMut_e, oNone_e, oSome_e, slM_e, mSl_e, seqM'_e, wSeq_e, walkM_e, wFn_e, escW_e, wEsc_e, cFor_e, mComp_e, compM_e, takes_n, takes_t, takes_s, puts_n, puts_t, puts_s, callM_e, mCall_e, mCallK_e, toS_t, toS_s, putS_e, cPar_e, if_ap, wipeM_e, stepC_e, turnL_e, pAdd, pSub, pMul, pDiv, pMod, pPow, pNeg, pCmp, pLen, pAbs, pMin2, pMax2, pInt, pAll, pAny, pSum, pList, pTuple, pIs, pIsNot, pIx_l, pIx_t, pIx_r, pSl, pRev, pLR1, pLR2, pAppend, p1_e, p2_e, pZip, pEnum, pIsT, pIsT2, asB, asI, asV, seqOf, tyD, isTab, isNon, wipeG, backG, outs, List.set, List.getElem?_cons_zero, List.getElem?_cons_succ, iz_len, dInts_iz, pEq_int, pEq_bl, pEq_non, pNe_int, pNe_bl, ha, c1, c2, c5]
theorem boxF_ok {q : Int} (hq : 0 ≤ q) (hq' : q ≤ 1000) {ns : List Int} {k : Nat} (hk : k < 1000) : ∃ t, BoxOk 0 t ∧ boxF q [.val (.scr ns), .val (.int k)] = some (t, [.val (.scr ns), .val (.int k)]) := by
  by_cases h : k < ns.length
  · obtain ⟨t, h1, h2⟩ := boxE_ok hq hq' (s := .val (.scr ns)) (c := ns[k]) hk
    refine ⟨t, h1, ?_⟩
    have e := atI_nat h
    simp [boxF, fnM_e, bind_k, kont_s, kont_n, pure_ev, rd_e, cst_e, view_t, view_s, esc_t, esc_s, frz_v, frz_l, up_s, up_n, views_n, views_c, escs_n, escs_c, op2_e, mBin_e, op1_e, mUn_e, aNil_e, aCons_e, opL_e, mFn_e, mkTup_e, mkLst_e, mTup_e, mLst_e, tob_e, tB_e, tAnd_e, tOr_e, tNot_e, tIte_e, mIte_e, mAnd_e, mOr_e, mNot_e, mChain_e, seqM_e, cNext_e, cBrk_e, cCont_e, cRetN_e, cIf_e, cExpr_e, cSet_e, setM_t, setM_s, setD_e, retM_t, retM_s, cRet_e, asgM_e, cAsg_e, gTup_e, gsNil_e, gsCons_e, setAtM_e, cSetAt_e, getAtM_e, cAugAt_e, cAug_e, isL_e, mutM_e, mMut_e, oNone_e, oSome_e, slM_e, mSl_e, seqM'_e, wSeq_e, walkM_e, wFn_e, escW_e, wEsc_e, cFor_e, mComp_e, compM_e, takes_n, takes_t, takes_s, puts_n, puts_t, puts_s, callM_e, mCall_e, mCallK_e, toS_t, toS_s, putS_e, cPar_e, if_ap, wipeM_e, stepC_e, turnL_e, pAdd, pSub, pMul, pDiv, pMod, pPow, pNeg, pCmp, pLen, pAbs, pMin2, pMax2, pInt, pAll, pAny, pSum, pList, pTuple, pIs, pIsNot, pIx_l, pIx_t, pIx_r, pSl, pRev, pLR1, pLR2, pAppend, p1_e, p2_e, pZip, pEnum, pIsT, pIsT2, asB, asI, asV, seqOf, tyD, isTab, isNon, wipeG, backG, outs, List.set, List.getElem?_cons_zero, List.getElem?_cons_succ, iz_len, dInts_iz, pEq_int, pEq_bl, pEq_non, pNe_int, pNe_bl, h, atI_nat, h2, prT]
  · obtain ⟨t, h1, h2⟩ := boxE_ok hq hq' (s := .val (.scr ns)) (c := 0) hk
    refine ⟨t, h1, ?_⟩
    simp [boxF, fnM_e, bind_k, kont_s, kont_n, pure_ev, rd_e, cst_e, view_t, view_s, esc_t, esc_s, frz_v, frz_l, up_s, up_n, views_n, views_c, escs_n, escs_c, op2_e, mBin_e, op1_e, mUn_e, aNil_e, aCons_e, opL_e, mFn_e, mkTup_e, mkLst_e, mTup_e, mLst_e, tob_e, tB_e, tAnd_e, tOr_e, tNot_e, tIte_e, mIte_e, mAnd_e, mOr_e, mNot_e, mChain_e, seqM_e, cNext_e, cBrk_e, cCont_e, cRetN_e, cIf_e, cExpr_e, cSet_e, setM_t, setM_s, setD_e, retM_t, retM_s, cRet_e, asgM_e, cAsg_e, gTup_e, gsNil_e, gsCons_e, setAtM_e, cSetAt_e, getAtM_e, cAugAt_e, cAug_e, isL_e, mutM_e, mMut_e, oNone_e, oSome_e, slM_e, mSl_e, seqM'_e, wSeq_e, walkM_e, wFn_e, escW_e, wEsc_e, cFor_e, mComp_e, compM_e, takes_n, takes_t, takes_s, puts_n, puts_t, puts_s, callM_e, mCall_e, mCallK_e, toS_t, toS_s, putS_e, cPar_e, if_ap, wipeM_e, stepC_e, turnL_e, pAdd, pSub, pMul, pDiv, pMod, pPow, pNeg, pCmp, pLen, pAbs, pMin2, pMax2, pInt, pAll, pAny, pSum, pList, pTuple, pIs, pIsNot, pIx_l, pIx_t, pIx_r, pSl, pRev, pLR1, pLR2, pAppend, p1_e, p2_e, pZip, pEnum, pIsT, pIsT2, asB, asI, asV, seqOf, tyD, isTab, isNon, wipeG, backG, outs, List.set, List.getElem?_cons_zero, List.getElem?_cons_succ, iz_len, dInts_iz, pEq_int, pEq_bl, pEq_non, pNe_int, pNe_bl, h, atI_nat, h2, prT]
theorem boxG_ok {q : Int} (hq : 0 ≤ q) (hq' : q ≤ 1000) {ns : List Int} {k : Nat} (hk : k < 1000) : ∃ t, BoxOk 0 t ∧ boxG q [.val (.scr ns), .val (.int k)] = some (t, [.val (.scr ns), .val (.int k)]) := by
  by_cases h : k < ns.length
  · obtain ⟨t, h1, h2⟩ := boxE_ok hq hq' (s := .val (.scr ns)) (c := ns[k]) hk
    refine ⟨t, h1, ?_⟩
    have e := atI_nat h
    simp [boxG, fnM_e, bind_k, kont_s, kont_n, pure_ev, rd_e, cst_e, view_t, view_s, esc_t, esc_s, frz_v, frz_l, up_s, up_n, views_n, views_c, escs_n, escs_c, op2_e, mBin_e, op1_e, mUn_e, aNil_e, aCons_e, opL_e, mFn_e, mkTup_e, mkLst_e, mTup_e, mLst_e, tob_e, tB_e, tAnd_e, tOr_e, tNot_e, tIte_e, mIte_e, mAnd_e, mOr_e, mNot_e, mChain_e, seqM_e, cNext_e, cBrk_e, cCont_e, cRetN_e, cIf_e, cExpr_e, cSet_e, setM_t, setM_s, setD_e, retM_t, retM_s, cRet_e, asgM_e, cAsg_e, gTup_e, gsNil_e, gsCons_e, setAtM_e, cSetAt_e, getAtM_e, cAugAt_e, cAug_e, isL_e, mutM_e, mMut_e, oNone_e, oSome_e, slM_e, mSl_e, seqM'_e, wSeq_e, walkM_e, wFn_e, escW_e, wEsc_e, cFor_e, mComp_e, compM_e, takes_n, takes_t, takes_s, puts_n, puts_t, puts_s, callM_e, mCall_e, mCallK_e, toS_t, toS_s, putS_e, cPar_e, if_ap, wipeM_e, stepC_e, turnL_e, pAdd, pSub, pMul, pDiv, pMod, pPow, pNeg, pCmp, pLen, pAbs, pMin2, pMax2, pInt, pAll, pAny, pSum, pList, pTuple, pIs, pIsNot, pIx_l, pIx_t, pIx_r, pSl, pRev, pLR1, pLR2, pAppend, p1_e, p2_e, pZip, pEnum, pIsT, pIsT2, asB, asI, asV, seqOf, tyD, isTab, isNon, wipeG, backG, outs, List.set, List.getElem?_cons_zero, List.getElem?_cons_succ, iz_len, dInts_iz, pEq_int, pEq_bl, pEq_non, pNe_int, pNe_bl, h, atI_nat, h2, prT]
  · obtain ⟨t, h1, h2⟩ := boxE_ok hq hq' (s := .val (.scr ns)) (c := 0) hk
    refine ⟨t, h1, ?_⟩
    simp [boxG, fnM_e, bind_k, kont_s, kont_n, pure_ev, rd_e, cst_e, view_t, view_s, esc_t, esc_s, frz_v, frz_l, up_s, up_n, views_n, views_c, escs_n, escs_c, op2_e, mBin_e, op1_e, mUn_e, aNil_e, aCons_e, opL_e, mFn_e, mkTup_e, mkLst_e, mTup_e, mLst_e, tob_e, tB_e, tAnd_e, tOr_e, tNot_e, tIte_e, mIte_e, mAnd_e, mOr_e, mNot_e, mChain_e, seqM_e, cNext_e, cBrk_e, cCont_e, cRetN_e, cIf_e, cExpr_e, cSet_e, setM_t, setM_s, setD_e, retM_t, retM_s, cRet_e, asgM_e, cAsg_e, gTup_e, gsNil_e, gsCons_e, setAtM_e, cSetAt_e, getAtM_e, cAugAt_e, cAug_e, isL_e, mutM_e, mMut_e, oNone_e, oSome_e, slM_e, mSl_e, seqM'_e, wSeq_e, walkM_e, wFn_e, escW_e, wEsc_e, cFor_e, mComp_e, compM_e, takes_n, takes_t, takes_s, puts_n, puts_t, puts_s, callM_e, mCall_e, mCallK_e, toS_t, toS_s, putS_e, cPar_e, if_ap, wipeM_e, stepC_e, turnL_e, pAdd, pSub, pMul, pDiv, pMod, pPow, pNeg, pCmp, pLen, pAbs, pMin2, pMax2, pInt, pAll, pAny, pSum, pList, pTuple, pIs, pIsNot, pIx_l, pIx_t, pIx_r, pSl, pRev, pLR1, pLR2, pAppend, p1_e, p2_e, pZip, pEnum, pIsT, pIsT2, asB, asI, asV, seqOf, tyD, isTab, isNon, wipeG, backG, outs, List.set, List.getElem?_cons_zero, List.getElem?_cons_succ, iz_len, dInts_iz, pEq_int, pEq_bl, pEq_non, pNe_int, pNe_bl, h, atI_nat, h2, prT]
/-! ### the top -/
def topF (w : M (List D)) (right box : Fm) : Fm := fnM 1 2 ([0].contains ·) (cRet ([0].contains ·) (mFn pAll (aCons (mComp w [1] (setD 1) (pure true) (mCall right [] (aCons (mCall box [] (aCons (rd 0) (aCons (rd 1) (aNil)))) (aNil)))) (aNil))))
def topW (K : Int) : M (List D) := wFn p1 (aCons (mBin pAdd (cst (.int 1)) (mFn pMin2 (aCons (cst (.int K)) (aCons (mFn pLen (aCons (rd 0) (aNil))) (aNil))))) (aNil))
def topV (K : Int) : M (List D) := wFn p1 (aCons (mFn pMax2 (aCons (cst (.int 1)) (aCons (mFn pMin2 (aCons (cst (.int K)) (aCons (mFn pLen (aCons (rd 0) (aNil))) (aNil)))) (aNil)))) (aNil))
theorem all_true : ∀ {ds : List D}, dBls (ds.map fun _ => D.bl true) = some (ds.map fun _ => true)
  | [] => rfl
  | d :: ds => by simp [dBls, all_true (ds := ds)]
theorem topF_ok {w : M (List D)} {right box : Fm} {ns : List Int} {N : Nat} (hw : w [some (.val (.scr ns)), none] = some (upto 0 N, [some (.val (.scr ns)), none])) (hN : N < 1000)
    (hb : ∀ k : Nat, k < 1000 → ∃ t, BoxOk 0 t ∧ box [.val (.scr ns), .val (.int k)] = some (t, [.val (.scr ns), .val (.int k)]))
    (hr : ∀ s, BoxOk 0 s → ∃ s', right [s] = some (.val (.bl true), [s'])) : topF w right box [.val (.scr ns)] = some (.val (.bl true), [.val (.scr ns)]) := by
  have hc : compL [1] (setD 1) (pure true) (mCall right [] (aCons (mCall box [] (aCons (rd 0) (aCons (rd 1) (aNil)))) (aNil))) (upto 0 N) [some (.val (.scr ns)), none] = some ((upto 0 N).map fun _ => .bl true, [some (.val (.scr ns)), none]) := by
    refine compL_map fun d hd => ?_
    obtain ⟨i, hi, rfl⟩ := upto_mem hd
    obtain ⟨t, ht, e⟩ := hb i (by omega)
    obtain ⟨s', e'⟩ := hr t ht
    simp only [Int.zero_add]
    simp [bind_k, kont_s, kont_n, pure_ev, rd_e, cst_e, view_t, view_s, esc_t, esc_s, frz_v, frz_l, up_s, up_n, views_n, views_c, escs_n, escs_c, op2_e, mBin_e, op1_e, mUn_e, aNil_e, aCons_e, opL_e, mFn_e, mkTup_e, mkLst_e, mTup_e, mLst_e, tob_e, tB_e, tAnd_e, tOr_e, tNot_e, tIte_e, mIte_e, mAnd_e, mOr_e, mNot_e, mChain_e, seqM_e, cNext_e, cBrk_e, cCont_e, cRetN_e, cIf_e, cExpr_e, cSet_e, setM_t, setM_s, setD_e, retM_t, retM_s, cRet_e, asgM_e, cAsg_e, gTup_e, gsNil_e, gsCons_e, setAtM_e, cSetAt_e, getAtM_e, cAugAt_e, cAug_e, isL_e, mutM_e, mMut_e, oNone_e, oSome_e, slM_e, mSl_e, seqM'_e, wSeq_e, walkM_e, wFn_e, escW_e, wEsc_e, cFor_e, mComp_e, compM_e, takes_n, takes_t, takes_s, puts_n, puts_t, puts_s, callM_e, mCall_e, mCallK_e, toS_t, toS_s, putS_e, cPar_e, if_ap, wipeM_e, stepC_e, turnL_e, pAdd, pSub, pMul, pDiv, pMod, pPow, pNeg, pCmp, pLen, pAbs, pMin2, pMax2, pInt, pAll, pAny, pSum, pList, pTuple, pIs, pIsNot, pIx_l, pIx_t, pIx_r, pSl, pRev, pLR1, pLR2, pAppend, p1_e, p2_e, pZip, pEnum, pIsT, pIsT2, asB, asI, asV, seqOf, tyD, isTab, isNon, wipeG, backG, outs, List.set, List.getElem?_cons_zero, List.getElem?_cons_succ, iz_len, dInts_iz, pEq_int, pEq_bl, pEq_non, pNe_int, pNe_bl, e, e']
  have hl : (upto 0 N).length ≤ 100000 := by rw [upto_len]; omega
  simp [topF, fnM_e, bind_k, kont_s, kont_n, pure_ev, rd_e, cst_e, view_t, view_s, esc_t, esc_s, frz_v, frz_l, up_s, up_n, views_n, views_c, escs_n, escs_c, op2_e, mBin_e, op1_e, mUn_e, aNil_e, aCons_e, opL_e, mFn_e, mkTup_e, mkLst_e, mTup_e, mLst_e, tob_e, tB_e, tAnd_e, tOr_e, tNot_e, tIte_e, mIte_e, mAnd_e, mOr_e, mNot_e, mChain_e, seqM_e, cNext_e, cBrk_e, cCont_e, cRetN_e, cIf_e, cExpr_e, cSet_e, setM_t, setM_s, setD_e, retM_t, retM_s, cRet_e, asgM_e, cAsg_e, gTup_e, gsNil_e, gsCons_e, setAtM_e, cSetAt_e, getAtM_e, cAugAt_e, cAug_e, isL_e, mutM_e, mMut_e, oNone_e, oSome_e, slM_e, mSl_e, seqM'_e, wSeq_e, walkM_e, wFn_e, escW_e, wEsc_e, cFor_e, mComp_e, compM_e, takes_n, takes_t, takes_s, puts_n, puts_t, puts_s, callM_e, mCall_e, mCallK_e, toS_t, toS_s, putS_e, cPar_e, if_ap, wipeM_e, stepC_e, turnL_e, pAdd, pSub, pMul, pDiv, pMod, pPow, pNeg, pCmp, pLen, pAbs, pMin2, pMax2, pInt, pAll, pAny, pSum, pList, pTuple, pIs, pIsNot, pIx_l, pIx_t, pIx_r, pSl, pRev, pLR1, pLR2, pAppend, p1_e, p2_e, pZip, pEnum, pIsT, pIsT2, asB, asI, asV, seqOf, tyD, isTab, isNon, wipeG, backG, outs, List.set, List.getElem?_cons_zero, List.getElem?_cons_succ, iz_len, dInts_iz, pEq_int, pEq_bl, pEq_non, pNe_int, pNe_bl, hw, hl, hc, all_true]
theorem topW_ok {K : Int} (hK : 0 ≤ K) (hK' : K ≤ 10) {ns : List Int} (hl : ns.length ≤ 63) : ∃ N, N < 1000 ∧ topW K [some (.val (.scr ns)), none] = some (upto 0 N, [some (.val (.scr ns)), none]) := by
  refine ⟨(1 + if (ns.length : Int) < K then (ns.length : Int) else K).toNat, by split <;> omega, ?_⟩
  have hs : small (1 + if (ns.length : Int) < K then (ns.length : Int) else K) = true := decide_eq_true (by split <;> omega)
  simp [topW, bind_k, kont_s, kont_n, pure_ev, rd_e, cst_e, view_t, view_s, esc_t, esc_s, frz_v, frz_l, up_s, up_n, views_n, views_c, escs_n, escs_c, op2_e, mBin_e, op1_e, mUn_e, aNil_e, aCons_e, opL_e, mFn_e, mkTup_e, mkLst_e, mTup_e, mLst_e, tob_e, tB_e, tAnd_e, tOr_e, tNot_e, tIte_e, mIte_e, mAnd_e, mOr_e, mNot_e, mChain_e, seqM_e, cNext_e, cBrk_e, cCont_e, cRetN_e, cIf_e, cExpr_e, cSet_e, setM_t, setM_s, setD_e, retM_t, retM_s, cRet_e, asgM_e, cAsg_e, gTup_e, gsNil_e, gsCons_e, setAtM_e, cSetAt_e, getAtM_e, cAugAt_e, cAug_e, isL_e, mutM_e, mMut_e, oNone_e, oSome_e, slM_e, mSl_e, seqM'_e, wSeq_e, walkM_e, wFn_e, escW_e, wEsc_e, cFor_e, mComp_e, compM_e, takes_n, takes_t, takes_s, puts_n, puts_t, puts_s, callM_e, mCall_e, mCallK_e, toS_t, toS_s, putS_e, cPar_e, if_ap, wipeM_e, stepC_e, turnL_e, pAdd, pSub, pMul, pDiv, pMod, pPow, pNeg, pCmp, pLen, pAbs, pMin2, pMax2, pInt, pAll, pAny, pSum, pList, pTuple, pIs, pIsNot, pIx_l, pIx_t, pIx_r, pSl, pRev, pLR1, pLR2, pAppend, p1_e, p2_e, pZip, pEnum, pIsT, pIsT2, asB, asI, asV, seqOf, tyD, isTab, isNon, wipeG, backG, outs, List.set, List.getElem?_cons_zero, List.getElem?_cons_succ, iz_len, dInts_iz, pEq_int, pEq_bl, pEq_non, pNe_int, pNe_bl, hs]
theorem topV_ok {K : Int} (hK : 0 ≤ K) (hK' : K ≤ 10) {ns : List Int} (hl : ns.length ≤ 63) : ∃ N, N < 1000 ∧ topV K [some (.val (.scr ns)), none] = some (upto 0 N, [some (.val (.scr ns)), none]) := by
  generalize hm : (if (ns.length : Int) < K then (ns.length : Int) else K) = m
  have h1 : 0 ≤ m ∧ m ≤ 10 := by rw [← hm]; split <;> omega
  refine ⟨(if 1 < m then m else 1).toNat, by split <;> omega, ?_⟩
  have hs : small (if 1 < m then m else 1) = true := decide_eq_true (by split <;> omega)
  simp [topV, bind_k, kont_s, kont_n, pure_ev, rd_e, cst_e, view_t, view_s, esc_t, esc_s, frz_v, frz_l, up_s, up_n, views_n, views_c, escs_n, escs_c, op2_e, mBin_e, op1_e, mUn_e, aNil_e, aCons_e, opL_e, mFn_e, mkTup_e, mkLst_e, mTup_e, mLst_e, tob_e, tB_e, tAnd_e, tOr_e, tNot_e, tIte_e, mIte_e, mAnd_e, mOr_e, mNot_e, mChain_e, seqM_e, cNext_e, cBrk_e, cCont_e, cRetN_e, cIf_e, cExpr_e, cSet_e, setM_t, setM_s, setD_e, retM_t, retM_s, cRet_e, asgM_e, cAsg_e, gTup_e, gsNil_e, gsCons_e, setAtM_e, cSetAt_e, getAtM_e, cAugAt_e, cAug_e, isL_e, mutM_e, mMut_e, oNone_e, oSome_e, slM_e, mSl_e, seqM'_e, wSeq_e, walkM_e, wFn_e, escW_e, wEsc_e, cFor_e, mComp_e, compM_e, takes_n, takes_t, takes_s, puts_n, puts_t, puts_s, callM_e, mCall_e, mCallK_e, toS_t, toS_s, putS_e, cPar_e, if_ap, wipeM_e, stepC_e, turnL_e, pAdd, pSub, pMul, pDiv, pMod, pPow, pNeg, pCmp, pLen, pAbs, pMin2, pMax2, pInt, pAll, pAny, pSum, pList, pTuple, pIs, pIsNot, pIx_l, pIx_t, pIx_r, pSl, pRev, pLR1, pLR2, pAppend, p1_e, p2_e, pZip, pEnum, pIsT, pIsT2, asB, asI, asV, seqOf, tyD, isTab, isNon, wipeG, backG, outs, List.set, List.getElem?_cons_zero, List.getElem?_cons_succ, iz_len, dInts_iz, pEq_int, pEq_bl, pEq_non, pNe_int, pNe_bl, hm, hs]
/-! ### the likeness of what is told -/
def sm : Nat → D → Prop
  | 0, _ => False
  | _ + 1, .scr _ => False
  | _ + 1, .str z => PyData.strOk z = true
  | n + 1, .tup ds => ds.length ≤ 100000 ∧ ∀ d ∈ ds, sm n d
  | n + 1, .lst ds => ds.length ≤ 100000 ∧ ∀ d ∈ ds, sm n d
  | _ + 1, _ => True
def sameE (pr : Nat → Bool) : M Fl :=
    seqM (cIf (tOr' (tB' (mBin pIs (rd 1) (cst .non))) (tB' (mUn (pIsT "str") (rd 1)))) (cRet pr (mAnd (mBin pEq (rd 0) (rd 1)) (mBin pEq (mUn (pIsT "str") (rd 0)) (mUn (pIsT "str") (rd 1))))) (cNext))
    (cRet pr (mAnd (mUn (pIsT "int") (rd 0)) (mAnd (mBin pEq (mUn (pIsT "bool") (rd 0)) (mUn (pIsT "bool") (rd 1))) (mBin pEq (rd 0) (rd 1)))))
def sameZ (f : Fm) : M Arg := mFn pAll (aCons (mComp (wEsc pZip (aCons (rd 0) (aCons (rd 1) (aNil)))) [2, 3] (gTupM (gsCons (setD 2) (gsCons (setD 3) (gsNil)))) (pure true) (mCall f [] (aCons (rd 2) (aCons (rd 3) (aNil))))) (aNil))
def sameA (f : Fm) : Fm := fnM 2 4 prT (
    seqM (cIf (tB' (mUn (pIsT2 "list" "tuple") (rd 1))) (seqM (cIf (tOr' (tB' (mBin pNe (mUn (pIsT "list") (rd 0)) (mUn (pIsT "list") (rd 1)))) (tB' (mBin pNe (mUn (pIsT "tuple") (rd 0)) (mUn (pIsT "tuple") (rd 1))))) (cRet prT (cst (.bl false))) (cNext))
    (cRet prT (mAnd (mBin pEq (mFn pLen (aCons (rd 0) (aNil))) (mFn pLen (aCons (rd 1) (aNil)))) (sameZ f)))) (cNext))
    (sameE prT))
def sameB (f : Fm) : Fm := fnM 2 4 prT (
    seqM (cIf (tB' (mUn (pIsT2 "list" "tuple") (rd 1))) (seqM (cIf (tOr' (tB' (mBin pNe (mUn (pIsT "list") (rd 0)) (mUn (pIsT "list") (rd 1)))) (tB' (mBin pNe (mUn (pIsT "tuple") (rd 0)) (mUn (pIsT "tuple") (rd 1))))) (cRet prT (cst (.bl false))) (cNext))
    (seqM (cIf (tB' (mBin pNe (mFn pLen (aCons (rd 0) (aNil))) (mFn pLen (aCons (rd 1) (aNil))))) (cRet prT (cst (.bl false))) (cNext))
    (cRet prT (sameZ f)))) (cNext))
    (sameE prT))
def Same2 (f : Fm) (d : D) : Prop := ∀ s t, s.frz = d → t.frz = d → ∃ s' t', f [s, t] = some (.val (.bl true), [s', t']) ∧ s'.frz = d ∧ t'.frz = d
theorem frz_val {s : S} {d : D} (h : s.frz = d) : s = .val d ∨ ∃ ds, s = .lst ds ∧ d = .lst ds := by
  cases s with
  | val e => cases h; exact .inl rfl
  | lst ds => cases h; exact .inr ⟨ds, rfl, rfl⟩
theorem zipD_mem {ds : List D} {x : D} (h : x ∈ zipD ds ds) : ∃ d ∈ ds, x = .tup [d, d] := by
  obtain ⟨i, hi, e⟩ := List.getElem_of_mem h
  obtain ⟨a, b, e1, e2, e3⟩ := zipD_get (by rw [List.getElem?_eq_getElem hi, e])
  rw [e1] at e2
  cases e2
  exact ⟨a, List.mem_of_getElem? e1, e3⟩
theorem zipD_all {ds : List D} : ((zipD ds ds).map fun _ => true).all id = true := by simp
theorem sameZ_ok {f : Fm} {n : Nat} (ih : ∀ d, sm n d → Same2 f d) {s t : S} {ds : List D} (h : (s.frz = .tup ds ∧ t.frz = .tup ds) ∨ s.frz = .lst ds ∧ t.frz = .lst ds) (hds : ∀ d ∈ ds, sm n d) (hl : ds.length ≤ 100000) :
    sameZ f [some s, some t, none, none] = some (.tmp (.val (.bl true)), [some (.val s.frz), some (.val t.frz), none, none]) := by
  have hc : compL [2, 3] (gTupM (gsCons (setD 2) (gsCons (setD 3) (gsNil)))) (pure true) (mCall f [] (aCons (rd 2) (aCons (rd 3) (aNil)))) (zipD ds ds) [some (.val s.frz), some (.val t.frz), none, none] = some ((zipD ds ds).map fun _ => .bl true, [some (.val s.frz), some (.val t.frz), none, none]) := by
    refine compL_map fun x hx => ?_
    obtain ⟨d, hd, rfl⟩ := zipD_mem hx
    obtain ⟨s', t', e, _, _⟩ := ih d (hds d hd) (.val d) (.val d) rfl rfl
    simp [bind_k, kont_s, kont_n, pure_ev, rd_e, cst_e, view_t, view_s, esc_t, esc_s, frz_v, frz_l, up_s, up_n, views_n, views_c, escs_n, escs_c, op2_e, mBin_e, op1_e, mUn_e, aNil_e, aCons_e, opL_e, mFn_e, mkTup_e, mkLst_e, mTup_e, mLst_e, tob_e, tB_e, tAnd_e, tOr_e, tNot_e, tIte_e, mIte_e, mAnd_e, mOr_e, mNot_e, mChain_e, seqM_e, cNext_e, cBrk_e, cCont_e, cRetN_e, cIf_e, cExpr_e, cSet_e, setM_t, setM_s, setD_e, retM_t, retM_s, cRet_e, asgM_e, cAsg_e, gTup_e, gsNil_e, gsCons_e, setAtM_e, cSetAt_e, getAtM_e, cAugAt_e, cAug_e, isL_e, mutM_e, mMut_e, oNone_e, oSome_e, slM_e, mSl_e, seqM'_e, wSeq_e, walkM_e, wFn_e, escW_e, wEsc_e, cFor_e, mComp_e, compM_e, takes_n, takes_t, takes_s, puts_n, puts_t, puts_s, callM_e, mCall_e, mCallK_e, toS_t, toS_s, putS_e, cPar_e, if_ap, wipeM_e, stepC_e, turnL_e, pAdd, pSub, pMul, pDiv, pMod, pPow, pNeg, pCmp, pLen, pAbs, pMin2, pMax2, pInt, pAll, pAny, pSum, pList, pTuple, pIs, pIsNot, pIx_l, pIx_t, pIx_r, pSl, pRev, pLR1, pLR2, pAppend, p1_e, p2_e, pZip, pEnum, pIsT, pIsT2, asB, asI, asV, seqOf, tyD, isTab, isNon, wipeG, backG, outs, List.set, List.getElem?_cons_zero, List.getElem?_cons_succ, iz_len, dInts_iz, pEq_int, pEq_bl, pEq_non, pNe_int, pNe_bl, e]
  have hl : (zipD ds ds).length ≤ 100000 := by unfold zipD; simpa using hl
  rcases h with ⟨e1, e2⟩ | ⟨e1, e2⟩
  all_goals
    rw [e1, e2] at hc
    simp [sameZ, bind_k, kont_s, kont_n, pure_ev, rd_e, cst_e, view_t, view_s, esc_t, esc_s, frz_v, frz_l, up_s, up_n, views_n, views_c, escs_n, escs_c, op2_e, mBin_e, op1_e, mUn_e, aNil_e, aCons_e, opL_e, mFn_e, mkTup_e, mkLst_e, mTup_e, mLst_e, tob_e, tB_e, tAnd_e, tOr_e, tNot_e, tIte_e, mIte_e, mAnd_e, mOr_e, mNot_e, mChain_e, seqM_e, cNext_e, cBrk_e, cCont_e, cRetN_e, cIf_e, cExpr_e, cSet_e, setM_t, setM_s, setD_e, retM_t, retM_s, cRet_e, asgM_e, cAsg_e, gTup_e, gsNil_e, gsCons_e, setAtM_e, cSetAt_e, getAtM_e, cAugAt_e, cAug_e, isL_e, mutM_e, mMut_e, oNone_e, oSome_e, slM_e, mSl_e, seqM'_e, wSeq_e, walkM_e, wFn_e, escW_e, wEsc_e, cFor_e, mComp_e, compM_e, takes_n, takes_t, takes_s, puts_n, puts_t, puts_s, callM_e, mCall_e, mCallK_e, toS_t, toS_s, putS_e, cPar_e, if_ap, wipeM_e, stepC_e, turnL_e, pAdd, pSub, pMul, pDiv, pMod, pPow, pNeg, pCmp, pLen, pAbs, pMin2, pMax2, pInt, pAll, pAny, pSum, pList, pTuple, pIs, pIsNot, pIx_l, pIx_t, pIx_r, pSl, pRev, pLR1, pLR2, pAppend, p1_e, p2_e, pZip, pEnum, pIsT, pIsT2, asB, asI, asV, seqOf, tyD, isTab, isNon, wipeG, backG, outs, List.set, List.getElem?_cons_zero, List.getElem?_cons_succ, iz_len, dInts_iz, pEq_int, pEq_bl, pEq_non, pNe_int, pNe_bl, e1, e2, hl, hc, all_true, zipD_all]
theorem sameA_ok {f : Fm} {n : Nat} (ih : ∀ d, sm n d → Same2 f d) {d : D} (h : sm (n + 1) d) : Same2 (sameA f) d := by
  intro s t hs ht
  cases d with
  | scr ns => exact absurd h (fun h => h)
  | tup ds =>
    have hz := sameZ_ok ih (.inl ⟨hs, ht⟩) h.2 h.1
    refine ⟨.val s.frz, .val t.frz, ?_, hs, ht⟩
    simp [sameA, fnM_e, bind_k, kont_s, kont_n, pure_ev, rd_e, cst_e, view_t, view_s, esc_t, esc_s, frz_v, frz_l, up_s, up_n, views_n, views_c, escs_n, escs_c, op2_e, mBin_e, op1_e, mUn_e, aNil_e, aCons_e, opL_e, mFn_e, mkTup_e, mkLst_e, mTup_e, mLst_e, tob_e, tB_e, tAnd_e, tOr_e, tNot_e, tIte_e, mIte_e, mAnd_e, mOr_e, mNot_e, mChain_e, seqM_e, cNext_e, cBrk_e, cCont_e, cRetN_e, cIf_e, cExpr_e, cSet_e, setM_t, setM_s, setD_e, retM_t, retM_s, cRet_e, asgM_e, cAsg_e, gTup_e, gsNil_e, gsCons_e, setAtM_e, cSetAt_e, getAtM_e, cAugAt_e, cAug_e, isL_e, mutM_e, mMut_e, oNone_e, oSome_e, slM_e, mSl_e, seqM'_e, wSeq_e, walkM_e, wFn_e, escW_e, wEsc_e, cFor_e, mComp_e, compM_e, takes_n, takes_t, takes_s, puts_n, puts_t, puts_s, callM_e, mCall_e, mCallK_e, toS_t, toS_s, putS_e, cPar_e, if_ap, wipeM_e, stepC_e, turnL_e, pAdd, pSub, pMul, pDiv, pMod, pPow, pNeg, pCmp, pLen, pAbs, pMin2, pMax2, pInt, pAll, pAny, pSum, pList, pTuple, pIs, pIsNot, pIx_l, pIx_t, pIx_r, pSl, pRev, pLR1, pLR2, pAppend, p1_e, p2_e, pZip, pEnum, pIsT, pIsT2, asB, asI, asV, seqOf, tyD, isTab, isNon, wipeG, backG, outs, List.set, List.getElem?_cons_zero, List.getElem?_cons_succ, iz_len, dInts_iz, pEq_int, pEq_bl, pEq_non, pNe_int, pNe_bl, hz, hs, ht, prT]
  | lst ds =>
    have hz := sameZ_ok ih (.inr ⟨hs, ht⟩) h.2 h.1
    refine ⟨.val s.frz, .val t.frz, ?_, hs, ht⟩
    simp [sameA, fnM_e, bind_k, kont_s, kont_n, pure_ev, rd_e, cst_e, view_t, view_s, esc_t, esc_s, frz_v, frz_l, up_s, up_n, views_n, views_c, escs_n, escs_c, op2_e, mBin_e, op1_e, mUn_e, aNil_e, aCons_e, opL_e, mFn_e, mkTup_e, mkLst_e, mTup_e, mLst_e, tob_e, tB_e, tAnd_e, tOr_e, tNot_e, tIte_e, mIte_e, mAnd_e, mOr_e, mNot_e, mChain_e, seqM_e, cNext_e, cBrk_e, cCont_e, cRetN_e, cIf_e, cExpr_e, cSet_e, setM_t, setM_s, setD_e, retM_t, retM_s, cRet_e, asgM_e, cAsg_e, gTup_e, gsNil_e, gsCons_e, setAtM_e, cSetAt_e, getAtM_e, cAugAt_e, cAug_e, isL_e, mutM_e, mMut_e, oNone_e, oSome_e, slM_e, mSl_e, seqM'_e, wSeq_e, walkM_e, wFn_e, escW_e, wEsc_e, cFor_e, mComp_e, compM_e, takes_n, takes_t, takes_s, puts_n, puts_t, puts_s, callM_e, mCall_e, mCallK_e, toS_t, toS_s, putS_e, cPar_e, if_ap, wipeM_e, stepC_e, turnL_e, pAdd, pSub, pMul, pDiv, pMod, pPow, pNeg, pCmp, pLen, pAbs, pMin2, pMax2, pInt, pAll, pAny, pSum, pList, pTuple, pIs, pIsNot, pIx_l, pIx_t, pIx_r, pSl, pRev, pLR1, pLR2, pAppend, p1_e, p2_e, pZip, pEnum, pIsT, pIsT2, asB, asI, asV, seqOf, tyD, isTab, isNon, wipeG, backG, outs, List.set, List.getElem?_cons_zero, List.getElem?_cons_succ, iz_len, dInts_iz, pEq_int, pEq_bl, pEq_non, pNe_int, pNe_bl, hz, hs, ht, prT]
  | non =>
    refine ⟨s, t, ?_, hs, ht⟩
    simp [sameA, sameE, fnM_e, bind_k, kont_s, kont_n, pure_ev, rd_e, cst_e, view_t, view_s, esc_t, esc_s, frz_v, frz_l, up_s, up_n, views_n, views_c, escs_n, escs_c, op2_e, mBin_e, op1_e, mUn_e, aNil_e, aCons_e, opL_e, mFn_e, mkTup_e, mkLst_e, mTup_e, mLst_e, tob_e, tB_e, tAnd_e, tOr_e, tNot_e, tIte_e, mIte_e, mAnd_e, mOr_e, mNot_e, mChain_e, seqM_e, cNext_e, cBrk_e, cCont_e, cRetN_e, cIf_e, cExpr_e, cSet_e, setM_t, setM_s, setD_e, retM_t, retM_s, cRet_e, asgM_e, cAsg_e, gTup_e, gsNil_e, gsCons_e, setAtM_e, cSetAt_e, getAtM_e, cAugAt_e, cAug_e, isL_e, mutM_e, mMut_e, oNone_e, oSome_e, slM_e, mSl_e, seqM'_e, wSeq_e, walkM_e, wFn_e, escW_e, wEsc_e, cFor_e, mComp_e, compM_e, takes_n, takes_t, takes_s, puts_n, puts_t, puts_s, callM_e, mCall_e, mCallK_e, toS_t, toS_s, putS_e, cPar_e, if_ap, wipeM_e, stepC_e, turnL_e, pAdd, pSub, pMul, pDiv, pMod, pPow, pNeg, pCmp, pLen, pAbs, pMin2, pMax2, pInt, pAll, pAny, pSum, pList, pTuple, pIs, pIsNot, pIx_l, pIx_t, pIx_r, pSl, pRev, pLR1, pLR2, pAppend, p1_e, p2_e, pZip, pEnum, pIsT, pIsT2, asB, asI, asV, seqOf, tyD, isTab, isNon, wipeG, backG, outs, List.set, List.getElem?_cons_zero, List.getElem?_cons_succ, iz_len, dInts_iz, pEq_int, pEq_bl, pEq_non, pNe_int, pNe_bl, hs, ht, prT]
  | bl b =>
    refine ⟨s, t, ?_, hs, ht⟩
    simp [sameA, sameE, fnM_e, bind_k, kont_s, kont_n, pure_ev, rd_e, cst_e, view_t, view_s, esc_t, esc_s, frz_v, frz_l, up_s, up_n, views_n, views_c, escs_n, escs_c, op2_e, mBin_e, op1_e, mUn_e, aNil_e, aCons_e, opL_e, mFn_e, mkTup_e, mkLst_e, mTup_e, mLst_e, tob_e, tB_e, tAnd_e, tOr_e, tNot_e, tIte_e, mIte_e, mAnd_e, mOr_e, mNot_e, mChain_e, seqM_e, cNext_e, cBrk_e, cCont_e, cRetN_e, cIf_e, cExpr_e, cSet_e, setM_t, setM_s, setD_e, retM_t, retM_s, cRet_e, asgM_e, cAsg_e, gTup_e, gsNil_e, gsCons_e, setAtM_e, cSetAt_e, getAtM_e, cAugAt_e, cAug_e, isL_e, mutM_e, mMut_e, oNone_e, oSome_e, slM_e, mSl_e, seqM'_e, wSeq_e, walkM_e, wFn_e, escW_e, wEsc_e, cFor_e, mComp_e, compM_e, takes_n, takes_t, takes_s, puts_n, puts_t, puts_s, callM_e, mCall_e, mCallK_e, toS_t, toS_s, putS_e, cPar_e, if_ap, wipeM_e, stepC_e, turnL_e, pAdd, pSub, pMul, pDiv, pMod, pPow, pNeg, pCmp, pLen, pAbs, pMin2, pMax2, pInt, pAll, pAny, pSum, pList, pTuple, pIs, pIsNot, pIx_l, pIx_t, pIx_r, pSl, pRev, pLR1, pLR2, pAppend, p1_e, p2_e, pZip, pEnum, pIsT, pIsT2, asB, asI, asV, seqOf, tyD, isTab, isNon, wipeG, backG, outs, List.set, List.getElem?_cons_zero, List.getElem?_cons_succ, iz_len, dInts_iz, pEq_int, pEq_bl, pEq_non, pNe_int, pNe_bl, hs, ht, prT]
  | int i =>
    refine ⟨s, t, ?_, hs, ht⟩
    simp [sameA, sameE, fnM_e, bind_k, kont_s, kont_n, pure_ev, rd_e, cst_e, view_t, view_s, esc_t, esc_s, frz_v, frz_l, up_s, up_n, views_n, views_c, escs_n, escs_c, op2_e, mBin_e, op1_e, mUn_e, aNil_e, aCons_e, opL_e, mFn_e, mkTup_e, mkLst_e, mTup_e, mLst_e, tob_e, tB_e, tAnd_e, tOr_e, tNot_e, tIte_e, mIte_e, mAnd_e, mOr_e, mNot_e, mChain_e, seqM_e, cNext_e, cBrk_e, cCont_e, cRetN_e, cIf_e, cExpr_e, cSet_e, setM_t, setM_s, setD_e, retM_t, retM_s, cRet_e, asgM_e, cAsg_e, gTup_e, gsNil_e, gsCons_e, setAtM_e, cSetAt_e, getAtM_e, cAugAt_e, cAug_e, isL_e, mutM_e, mMut_e, oNone_e, oSome_e, slM_e, mSl_e, seqM'_e, wSeq_e, walkM_e, wFn_e, escW_e, wEsc_e, cFor_e, mComp_e, compM_e, takes_n, takes_t, takes_s, puts_n, puts_t, puts_s, callM_e, mCall_e, mCallK_e, toS_t, toS_s, putS_e, cPar_e, if_ap, wipeM_e, stepC_e, turnL_e, pAdd, pSub, pMul, pDiv, pMod, pPow, pNeg, pCmp, pLen, pAbs, pMin2, pMax2, pInt, pAll, pAny, pSum, pList, pTuple, pIs, pIsNot, pIx_l, pIx_t, pIx_r, pSl, pRev, pLR1, pLR2, pAppend, p1_e, p2_e, pZip, pEnum, pIsT, pIsT2, asB, asI, asV, seqOf, tyD, isTab, isNon, wipeG, backG, outs, List.set, List.getElem?_cons_zero, List.getElem?_cons_succ, iz_len, dInts_iz, pEq_int, pEq_bl, pEq_non, pNe_int, pNe_bl, hs, ht, prT]
  | str z =>
    have hz : PyData.strOk z = true := h
    refine ⟨s, t, ?_, hs, ht⟩
    simp [sameA, sameE, fnM_e, bind_k, kont_s, kont_n, pure_ev, rd_e, cst_e, view_t, view_s, esc_t, esc_s, frz_v, frz_l, up_s, up_n, views_n, views_c, escs_n, escs_c, op2_e, mBin_e, op1_e, mUn_e, aNil_e, aCons_e, opL_e, mFn_e, mkTup_e, mkLst_e, mTup_e, mLst_e, tob_e, tB_e, tAnd_e, tOr_e, tNot_e, tIte_e, mIte_e, mAnd_e, mOr_e, mNot_e, mChain_e, seqM_e, cNext_e, cBrk_e, cCont_e, cRetN_e, cIf_e, cExpr_e, cSet_e, setM_t, setM_s, setD_e, retM_t, retM_s, cRet_e, asgM_e, cAsg_e, gTup_e, gsNil_e, gsCons_e, setAtM_e, cSetAt_e, getAtM_e, cAugAt_e, cAug_e, isL_e, mutM_e, mMut_e, oNone_e, oSome_e, slM_e, mSl_e, seqM'_e, wSeq_e, walkM_e, wFn_e, escW_e, wEsc_e, cFor_e, mComp_e, compM_e, takes_n, takes_t, takes_s, puts_n, puts_t, puts_s, callM_e, mCall_e, mCallK_e, toS_t, toS_s, putS_e, cPar_e, if_ap, wipeM_e, stepC_e, turnL_e, pAdd, pSub, pMul, pDiv, pMod, pPow, pNeg, pCmp, pLen, pAbs, pMin2, pMax2, pInt, pAll, pAny, pSum, pList, pTuple, pIs, pIsNot, pIx_l, pIx_t, pIx_r, pSl, pRev, pLR1, pLR2, pAppend, p1_e, p2_e, pZip, pEnum, pIsT, pIsT2, asB, asI, asV, seqOf, tyD, isTab, isNon, wipeG, backG, outs, List.set, List.getElem?_cons_zero, List.getElem?_cons_succ, iz_len, dInts_iz, pEq_int, pEq_bl, pEq_non, pNe_int, pNe_bl, hs, ht, prT, pEq_str hz hz]
theorem sameB_ok {f : Fm} {n : Nat} (ih : ∀ d, sm n d → Same2 f d) {d : D} (h : sm (n + 1) d) : Same2 (sameB f) d := by
  intro s t hs ht
  cases d with
  | scr ns => exact absurd h (fun h => h)
  | tup ds =>
    have hz := sameZ_ok ih (.inl ⟨hs, ht⟩) h.2 h.1
    refine ⟨.val s.frz, .val t.frz, ?_, hs, ht⟩
    simp [sameB, fnM_e, bind_k, kont_s, kont_n, pure_ev, rd_e, cst_e, view_t, view_s, esc_t, esc_s, frz_v, frz_l, up_s, up_n, views_n, views_c, escs_n, escs_c, op2_e, mBin_e, op1_e, mUn_e, aNil_e, aCons_e, opL_e, mFn_e, mkTup_e, mkLst_e, mTup_e, mLst_e, tob_e, tB_e, tAnd_e, tOr_e, tNot_e, tIte_e, mIte_e, mAnd_e, mOr_e, mNot_e, mChain_e, seqM_e, cNext_e, cBrk_e, cCont_e, cRetN_e, cIf_e, cExpr_e, cSet_e, setM_t, setM_s, setD_e, retM_t, retM_s, cRet_e, asgM_e, cAsg_e, gTup_e, gsNil_e, gsCons_e, setAtM_e, cSetAt_e, getAtM_e, cAugAt_e, cAug_e, isL_e, mutM_e, mMut_e, oNone_e, oSome_e, slM_e, mSl_e, seqM'_e, wSeq_e, walkM_e, wFn_e, escW_e, wEsc_e, cFor_e, mComp_e, compM_e, takes_n, takes_t, takes_s, puts_n, puts_t, puts_s, callM_e, mCall_e, mCallK_e, toS_t, toS_s, putS_e, cPar_e, if_ap, wipeM_e, stepC_e, turnL_e, pAdd, pSub, pMul, pDiv, pMod, pPow, pNeg, pCmp, pLen, pAbs, pMin2, pMax2, pInt, pAll, pAny, pSum, pList, pTuple, pIs, pIsNot, pIx_l, pIx_t, pIx_r, pSl, pRev, pLR1, pLR2, pAppend, p1_e, p2_e, pZip, pEnum, pIsT, pIsT2, asB, asI, asV, seqOf, tyD, isTab, isNon, wipeG, backG, outs, List.set, List.getElem?_cons_zero, List.getElem?_cons_succ, iz_len, dInts_iz, pEq_int, pEq_bl, pEq_non, pNe_int, pNe_bl, hz, hs, ht, prT]
  | lst ds =>
    have hz := sameZ_ok ih (.inr ⟨hs, ht⟩) h.2 h.1
    refine ⟨.val s.frz, .val t.frz, ?_, hs, ht⟩
    simp [sameB, fnM_e, bind_k, kont_s, kont_n, pure_ev, rd_e, cst_e, view_t, view_s, esc_t, esc_s, frz_v, frz_l, up_s, up_n, views_n, views_c, escs_n, escs_c, op2_e, mBin_e, op1_e, mUn_e, aNil_e, aCons_e, opL_e, mFn_e, mkTup_e, mkLst_e, mTup_e, mLst_e, tob_e, tB_e, tAnd_e, tOr_e, tNot_e, tIte_e, mIte_e, mAnd_e, mOr_e, mNot_e, mChain_e, seqM_e, cNext_e, cBrk_e, cCont_e, cRetN_e, cIf_e, cExpr_e, cSet_e, setM_t, setM_s, setD_e, retM_t, retM_s, cRet_e, asgM_e, cAsg_e, gTup_e, gsNil_e, gsCons_e, setAtM_e, cSetAt_e, getAtM_e, cAugAt_e, cAug_e, isL_e, mutM_e, mMut_e, oNone_e, oSome_e, slM_e, mSl_e, seqM'_e, wSeq_e, walkM_e, wFn_e, escW_e, wEsc_e, cFor_e, mComp_e, compM_e, takes_n, takes_t, takes_s, puts_n, puts_t, puts_s, callM_e, mCall_e, mCallK_e, toS_t, toS_s, putS_e, cPar_e, if_ap, wipeM_e, stepC_e, turnL_e, pAdd, pSub, pMul, pDiv, pMod, pPow, pNeg, pCmp, pLen, pAbs, pMin2, pMax2, pInt, pAll, pAny, pSum, pList, pTuple, pIs, pIsNot, pIx_l, pIx_t, pIx_r, pSl, pRev, pLR1, pLR2, pAppend, p1_e, p2_e, pZip, pEnum, pIsT, pIsT2, asB, asI, asV, seqOf, tyD, isTab, isNon, wipeG, backG, outs, List.set, List.getElem?_cons_zero, List.getElem?_cons_succ, iz_len, dInts_iz, pEq_int, pEq_bl, pEq_non, pNe_int, pNe_bl, hz, hs, ht, prT]
  | non =>
    refine ⟨s, t, ?_, hs, ht⟩
    simp [sameB, sameE, fnM_e, bind_k, kont_s, kont_n, pure_ev, rd_e, cst_e, view_t, view_s, esc_t, esc_s, frz_v, frz_l, up_s, up_n, views_n, views_c, escs_n, escs_c, op2_e, mBin_e, op1_e, mUn_e, aNil_e, aCons_e, opL_e, mFn_e, mkTup_e, mkLst_e, mTup_e, mLst_e, tob_e, tB_e, tAnd_e, tOr_e, tNot_e, tIte_e, mIte_e, mAnd_e, mOr_e, mNot_e, mChain_e, seqM_e, cNext_e, cBrk_e, cCont_e, cRetN_e, cIf_e, cExpr_e, cSet_e, setM_t, setM_s, setD_e, retM_t, retM_s, cRet_e, asgM_e, cAsg_e, gTup_e, gsNil_e, gsCons_e, setAtM_e, cSetAt_e, getAtM_e, cAugAt_e, cAug_e, isL_e, mutM_e, mMut_e, oNone_e, oSome_e, slM_e, mSl_e, seqM'_e, wSeq_e, walkM_e, wFn_e, escW_e, wEsc_e, cFor_e, mComp_e, compM_e, takes_n, takes_t, takes_s, puts_n, puts_t, puts_s, callM_e, mCall_e, mCallK_e, toS_t, toS_s, putS_e, cPar_e, if_ap, wipeM_e, stepC_e, turnL_e, pAdd, pSub, pMul, pDiv, pMod, pPow, pNeg, pCmp, pLen, pAbs, pMin2, pMax2, pInt, pAll, pAny, pSum, pList, pTuple, pIs, pIsNot, pIx_l, pIx_t, pIx_r, pSl, pRev, pLR1, pLR2, pAppend, p1_e, p2_e, pZip, pEnum, pIsT, pIsT2, asB, asI, asV, seqOf, tyD, isTab, isNon, wipeG, backG, outs, List.set, List.getElem?_cons_zero, List.getElem?_cons_succ, iz_len, dInts_iz, pEq_int, pEq_bl, pEq_non, pNe_int, pNe_bl, hs, ht, prT]
  | bl b =>
    refine ⟨s, t, ?_, hs, ht⟩
    simp [sameB, sameE, fnM_e, bind_k, kont_s, kont_n, pure_ev, rd_e, cst_e, view_t, view_s, esc_t, esc_s, frz_v, frz_l, up_s, up_n, views_n, views_c, escs_n, escs_c, op2_e, mBin_e, op1_e, mUn_e, aNil_e, aCons_e, opL_e, mFn_e, mkTup_e, mkLst_e, mTup_e, mLst_e, tob_e, tB_e, tAnd_e, tOr_e, tNot_e, tIte_e, mIte_e, mAnd_e, mOr_e, mNot_e, mChain_e, seqM_e, cNext_e, cBrk_e, cCont_e, cRetN_e, cIf_e, cExpr_e, cSet_e, setM_t, setM_s, setD_e, retM_t, retM_s, cRet_e, asgM_e, cAsg_e, gTup_e, gsNil_e, gsCons_e, setAtM_e, cSetAt_e, getAtM_e, cAugAt_e, cAug_e, isL_e, mutM_e, mMut_e, oNone_e, oSome_e, slM_e, mSl_e, seqM'_e, wSeq_e, walkM_e, wFn_e, escW_e, wEsc_e, cFor_e, mComp_e, compM_e, takes_n, takes_t, takes_s, puts_n, puts_t, puts_s, callM_e, mCall_e, mCallK_e, toS_t, toS_s, putS_e, cPar_e, if_ap, wipeM_e, stepC_e, turnL_e, pAdd, pSub, pMul, pDiv, pMod, pPow, pNeg, pCmp, pLen, pAbs, pMin2, pMax2, pInt, pAll, pAny, pSum, pList, pTuple, pIs, pIsNot, pIx_l, pIx_t, pIx_r, pSl, pRev, pLR1, pLR2, pAppend, p1_e, p2_e, pZip, pEnum, pIsT, pIsT2, asB, asI, asV, seqOf, tyD, isTab, isNon, wipeG, backG, outs, List.set, List.getElem?_cons_zero, List.getElem?_cons_succ, iz_len, dInts_iz, pEq_int, pEq_bl, pEq_non, pNe_int, pNe_bl, hs, ht, prT]
  | int i =>
    refine ⟨s, t, ?_, hs, ht⟩
    simp [sameB, sameE, fnM_e, bind_k, kont_s, kont_n, pure_ev, rd_e, cst_e, view_t, view_s, esc_t, esc_s, frz_v, frz_l, up_s, up_n, views_n, views_c, escs_n, escs_c, op2_e, mBin_e, op1_e, mUn_e, aNil_e, aCons_e, opL_e, mFn_e, mkTup_e, mkLst_e, mTup_e, mLst_e, tob_e, tB_e, tAnd_e, tOr_e, tNot_e, tIte_e, mIte_e, mAnd_e, mOr_e, mNot_e, mChain_e, seqM_e, cNext_e, cBrk_e, cCont_e, cRetN_e, cIf_e, cExpr_e, cSet_e, setM_t, setM_s, setD_e, retM_t, retM_s, cRet_e, asgM_e, cAsg_e, gTup_e, gsNil_e, gsCons_e, setAtM_e, cSetAt_e, getAtM_e, cAugAt_e, cAug_e, isL_e, mutM_e, mMut_e, oNone_e, oSome_e, slM_e, mSl_e, seqM'_e, wSeq_e, walkM_e, wFn_e, escW_e, wEsc_e, cFor_e, mComp_e, compM_e, takes_n, takes_t, takes_s, puts_n, puts_t, puts_s, callM_e, mCall_e, mCallK_e, toS_t, toS_s, putS_e, cPar_e, if_ap, wipeM_e, stepC_e, turnL_e, pAdd, pSub, pMul, pDiv, pMod, pPow, pNeg, pCmp, pLen, pAbs, pMin2, pMax2, pInt, pAll, pAny, pSum, pList, pTuple, pIs, pIsNot, pIx_l, pIx_t, pIx_r, pSl, pRev, pLR1, pLR2, pAppend, p1_e, p2_e, pZip, pEnum, pIsT, pIsT2, asB, asI, asV, seqOf, tyD, isTab, isNon, wipeG, backG, outs, List.set, List.getElem?_cons_zero, List.getElem?_cons_succ, iz_len, dInts_iz, pEq_int, pEq_bl, pEq_non, pNe_int, pNe_bl, hs, ht, prT]
  | str z =>
    have hz : PyData.strOk z = true := h
    refine ⟨s, t, ?_, hs, ht⟩
    simp [sameB, sameE, fnM_e, bind_k, kont_s, kont_n, pure_ev, rd_e, cst_e, view_t, view_s, esc_t, esc_s, frz_v, frz_l, up_s, up_n, views_n, views_c, escs_n, escs_c, op2_e, mBin_e, op1_e, mUn_e, aNil_e, aCons_e, opL_e, mFn_e, mkTup_e, mkLst_e, mTup_e, mLst_e, tob_e, tB_e, tAnd_e, tOr_e, tNot_e, tIte_e, mIte_e, mAnd_e, mOr_e, mNot_e, mChain_e, seqM_e, cNext_e, cBrk_e, cCont_e, cRetN_e, cIf_e, cExpr_e, cSet_e, setM_t, setM_s, setD_e, retM_t, retM_s, cRet_e, asgM_e, cAsg_e, gTup_e, gsNil_e, gsCons_e, setAtM_e, cSetAt_e, getAtM_e, cAugAt_e, cAug_e, isL_e, mutM_e, mMut_e, oNone_e, oSome_e, slM_e, mSl_e, seqM'_e, wSeq_e, walkM_e, wFn_e, escW_e, wEsc_e, cFor_e, mComp_e, compM_e, takes_n, takes_t, takes_s, puts_n, puts_t, puts_s, callM_e, mCall_e, mCallK_e, toS_t, toS_s, putS_e, cPar_e, if_ap, wipeM_e, stepC_e, turnL_e, pAdd, pSub, pMul, pDiv, pMod, pPow, pNeg, pCmp, pLen, pAbs, pMin2, pMax2, pInt, pAll, pAny, pSum, pList, pTuple, pIs, pIsNot, pIx_l, pIx_t, pIx_r, pSl, pRev, pLR1, pLR2, pAppend, p1_e, p2_e, pZip, pEnum, pIsT, pIsT2, asB, asI, asV, seqOf, tyD, isTab, isNon, wipeG, backG, outs, List.set, List.getElem?_cons_zero, List.getElem?_cons_succ, iz_len, dInts_iz, pEq_int, pEq_bl, pEq_non, pNe_int, pNe_bl, hs, ht, prT, pEq_str hz hz]
theorem same_all {F : Nat → Fm} {step : Fm → Fm} (h : ∀ n, F (n + 1) = step (F n)) (hs : ∀ {f : Fm} {n : Nat}, (∀ d, sm n d → Same2 f d) → ∀ {d : D}, sm (n + 1) d → Same2 (step f) d) : ∀ n d, sm n d → Same2 (F n) d
  | 0, _, q => q.elim
  | n + 1, d, q => by rw [h]; exact hs (same_all h hs n) q
end DL

/-! The data layer, part R: runs of one breath, as the program does them (from_its_hand, run_done, breathed), and what they come to. -/
namespace DL
open PySem PySem.Spec PyProof.Rows L2
/-- a hand's breath: from the left or the right, in or out -/
structure Bz (z : Str) (left plus : Bool) : Prop where
  inL : pIn (.str z) (.tup [.str "L+", .str "L-"]) = some (.val (.bl left))
  inP : pIn (.str z) (.tup [.str "L+", .str "R+"]) = some (.val (.bl plus))
theorem bz_of {z a b : Str} {c : Bool} (h : ((a == z) || ((b == z) || false)) = c) : pIn (.str z) (.tup [.str a, .str b]) = some (.val (.bl c)) := by
  simp only [pIn, itemsD, Option.bind_some, flatD, List.all_cons, List.all_nil, Bool.and_true, and_self, if_true, List.any_cons, List.any_nil, deq_str, h]
theorem bz1 : Bz "L+" true true := ⟨bz_of (by decide +kernel), bz_of (by decide +kernel)⟩
theorem bz2 : Bz "L-" true false := ⟨bz_of (by decide +kernel), bz_of (by decide +kernel)⟩
theorem bz3 : Bz "R+" false true := ⟨bz_of (by decide +kernel), bz_of (by decide +kernel)⟩
theorem bz4 : Bz "R-" false false := ⟨bz_of (by decide +kernel), bz_of (by decide +kernel)⟩
def pr4 (i : Nat) : Bool := [0, 1, 2, 3].contains i
def pr3 (i : Nat) : Bool := [0, 1, 2].contains i
def handF : Fm := fnM 2 2 prT (cRet prT (mIte (tB' (mBin pIn (rd 1) (mTup (aCons (cst (.str "L+")) (aCons (cst (.str "L-")) (aNil)))))) (mFn pList (aCons (rd 0) (aNil))) (mUn pRevL (rd 0))))
def runB : M Fl := seqM (cIf (tB' (mBin pIn (rd 2) (mTup (aCons (cst (.str "L+")) (aCons (cst (.str "R+")) (aNil)))))) (seqM (cSet 8 (mFn pMin2 (aCons (rd 5) (aCons (mBin pSub (rd 7) (mBin pIx (rd 4) (rd 6))) (aNil)))))
    (cAugAt 4 pAddI (rd 6) (rd 8))) (seqM (cSet 8 (mFn pMin2 (aCons (rd 5) (aCons (mBin pIx (rd 4) (rd 6)) (aNil)))))
    (cAugAt 4 pSub (rd 6) (rd 8))))
    (cAug 5 pSub (rd 8))
def runT : D → M Unit := gTupM (gsCons (setD 6) (gsCons (setD 7) (gsNil)))
def runF : Fm := fnM 4 9 pr4 (
    seqM (cPar 4 5 (aCons (mCall handF [] (aCons (rd 1) (aCons (rd 2) (aNil)))) (aCons (rd 3) (aNil))))
    (seqM (cFor (wEsc pEnum (aCons (mCall handF [] (aCons (rd 0) (aCons (rd 2) (aNil)))) (aNil))) runT runB)
    (cRet pr4 (mTup (aCons (mFn pTuple (aCons (mCall handF [] (aCons (rd 4) (aCons (rd 2) (aNil)))) (aNil))) (aCons (rd 5) (aNil)))))))
def breathedF : Fm := fnM 3 7 pr3 (
    seqM (cSet 3 (mFn pTuple (aCons (rd 1) (aNil))))
    (seqM (cFor (wSeq (rd 2)) (gTupM (gsCons (setD 4) (gsCons (setD 5) (gsNil)))) (cAsg (gTupM (gsCons (setD 3) (gsCons (setD 6) (gsNil)))) (mCall runF [] (aCons (rd 0) (aCons (rd 3) (aCons (rd 4) (aCons (rd 5) (aNil))))))))
    (cRet pr3 (rd 3))))
/-! ### the mathematics of a run -/
/-- how much a place still gives to a breath -/
def room (plus : Bool) (l r : Int) : Int := if plus = true then r - l else l
def put (plus : Bool) (l g : Int) : Int := if plus = true then l + g else l - g
def goes (plus : Bool) (l r k : Int) : Int := if room plus l r < k then room plus l r else k
def pour (plus : Bool) : List Int → List Int → Int → List Int × Int
  | r :: rs, l :: ls, k => ((put plus l (goes plus l r k)) :: (pour plus rs ls (k - goes plus l r k)).1, (pour plus rs ls (k - goes plus l r k)).2)
  | _, _, k => ([], k)
def dir (left : Bool) (xs : List Int) : List Int := if left = true then xs else xs.reverse
/-- a whole run, from its hand -/
def runM (left plus : Bool) (rs ls : List Int) (k : Int) : List Int := dir left (pour plus (dir left rs) (dir left ls) k).1
theorem pour_len {plus : Bool} : ∀ {rs ls : List Int} {k : Int}, ls.length = rs.length → (pour plus rs ls k).1.length = rs.length
  | [], [], k, _ => rfl
  | r :: rs, l :: ls, k, h => by
    simp only [pour, List.length_cons]
    rw [pour_len (by simpa using h)]
theorem dir_len {left : Bool} {xs : List Int} : (dir left xs).length = xs.length := by
  unfold dir; split
  · rfl
  · exact List.length_reverse
theorem dir_dir {left : Bool} {xs : List Int} : dir left (dir left xs) = xs := by
  unfold dir; cases left
  · simp
  · rfl
/-! ### the program does it -/
def Seqz (d : D) (xs : List Int) : Prop := d = .tup (iz xs) ∨ d = .lst (iz xs)
theorem hand_k {z : Str} {left plus : Bool} (B : Bz z left plus) {s : S} {xs : List Int} (h : Seqz s.frz xs) (hl : xs.length ≤ 1000) :
    handF [s, .val (.str z)] = some (.lst (iz (dir left xs)), [s, .val (.str z)]) := by
  have h1 : xs.length ≤ 100000 := by omega
  cases left with
  | true => rcases h with h | h <;> simp [handF, fnM_e, bind_k, kont_s, kont_n, pure_ev, rd_e, cst_e, view_t, view_s, esc_t, esc_s, frz_v, frz_l, up_s, up_n, views_n, views_c, escs_n, escs_c, op2_e, mBin_e, op1_e, mUn_e, aNil_e, aCons_e, opL_e, mFn_e, mkTup_e, mkLst_e, mTup_e, mLst_e, tob_e, tB_e, tAnd_e, tOr_e, tNot_e, tIte_e, mIte_e, mAnd_e, mOr_e, mNot_e, mChain_e, seqM_e, cNext_e, cBrk_e, cCont_e, cRetN_e, cIf_e, cExpr_e, cSet_e, setM_t, setM_s, setD_e, retM_t, retM_s, cRet_e, asgM_e, cAsg_e, gTup_e, gsNil_e, gsCons_e, setAtM_e, cSetAt_e, getAtM_e, cAugAt_e, cAug_e, isL_e, mutM_e, mMut_e, oNone_e, oSome_e, slM_e, mSl_e, seqM'_e, wSeq_e, walkM_e, wFn_e, escW_e, wEsc_e, cFor_e, mComp_e, compM_e, takes_n, takes_t, takes_s, puts_n, puts_t, puts_s, callM_e, mCall_e, mCallK_e, toS_t, toS_s, putS_e, cPar_e, if_ap, wipeM_e, stepC_e, turnL_e, wRev_e, asB, pList, pRevL, B.inL, h, outs, prT, dir]
  | false => rcases h with h | h <;> simp [handF, fnM_e, bind_k, kont_s, kont_n, pure_ev, rd_e, cst_e, view_t, view_s, esc_t, esc_s, frz_v, frz_l, up_s, up_n, views_n, views_c, escs_n, escs_c, op2_e, mBin_e, op1_e, mUn_e, aNil_e, aCons_e, opL_e, mFn_e, mkTup_e, mkLst_e, mTup_e, mLst_e, tob_e, tB_e, tAnd_e, tOr_e, tNot_e, tIte_e, mIte_e, mAnd_e, mOr_e, mNot_e, mChain_e, seqM_e, cNext_e, cBrk_e, cCont_e, cRetN_e, cIf_e, cExpr_e, cSet_e, setM_t, setM_s, setD_e, retM_t, retM_s, cRet_e, asgM_e, cAsg_e, gTup_e, gsNil_e, gsCons_e, setAtM_e, cSetAt_e, getAtM_e, cAugAt_e, cAug_e, isL_e, mutM_e, mMut_e, oNone_e, oSome_e, slM_e, mSl_e, seqM'_e, wSeq_e, walkM_e, wFn_e, escW_e, wEsc_e, cFor_e, mComp_e, compM_e, takes_n, takes_t, takes_s, puts_n, puts_t, puts_s, callM_e, mCall_e, mCallK_e, toS_t, toS_s, putS_e, cPar_e, if_ap, wipeM_e, stepC_e, turnL_e, wRev_e, asB, pList, pRevL, B.inL, h, outs, prT, dir, iz_len, h1, iz_rev]
theorem app_at {pre ls : List Int} {l : Int} : atI (iz (pre ++ l :: ls)) (pre.length : Int) = some (.int l) := by
  rw [iz_at (by simp)]
  simp
theorem app_set {pre ls : List Int} {l x : Int} : (iz (pre ++ l :: ls)).set pre.length (.int x) = iz (pre ++ x :: ls) := by
  rw [iz_set, List.set_append_right _ _ (Nat.le_refl _)]
  simp
theorem run_loop {z : Str} {left plus : Bool} (B : Bz z left plus) {o0 o1 o3 : Option S} : ∀ {rs ls pre : List Int} {k : Int} {o6 o7 o8 : Option S}, ls.length = rs.length → (∃ o6' o7' o8',
    loopM runT runB (enumD pre.length (iz rs)) [o0, o1, some (.val (.str z)), o3, some (.lst (iz (pre ++ ls))), some (.val (.int k)), o6, o7, o8]
      = some (.next, [o0, o1, some (.val (.str z)), o3, some (.lst (iz (pre ++ (pour plus rs ls k).1))), some (.val (.int (pour plus rs ls k).2)), o6', o7', o8']))
  | [], [], pre, k, o6, o7, o8, _ => ⟨o6, o7, o8, rfl⟩
  | r :: rs, l :: ls, pre, k, o6, o7, o8, h => by
    obtain ⟨o6', o7', o8', ih⟩ := run_loop B (o0 := o0) (o1 := o1) (o3 := o3) (rs := rs) (ls := ls) (pre := pre ++ [put plus l (goes plus l r k)]) (k := k - goes plus l r k) (o6 := some (.val (.int pre.length))) (o7 := some (.val (.int r))) (o8 := some (.val (.int (goes plus l r k)))) (by simpa using h)
    refine ⟨o6', o7', o8', ?_⟩
    have e1 : (enumD pre.length (iz (r :: rs))) = .tup [.int pre.length, .int r] :: enumD ((pre ++ [put plus l (goes plus l r k)]).length : Nat) (iz rs) := by
      show D.tup [.int pre.length, .int r] :: enumD ((pre.length : Int) + 1) (iz rs) = _
      simp
    have e2 := app_at (pre := pre) (ls := ls) (l := l)
    have e3 : ixN (pre.length + (ls.length + 1)) (pre.length : Int) = some pre.length := ixN_nat (by omega)
    have e4 : ∀ x : Int, (iz (pre ++ l :: ls)).set pre.length (.int x) = iz (pre ++ x :: ls) := fun x => app_set
    rw [e1, loopM_cons]
    have turn : turnL runT runB (.tup [.int pre.length, .int r]) [o0, o1, some (.val (.str z)), o3, some (.lst (iz (pre ++ l :: ls))), some (.val (.int k)), o6, o7, o8]
        = some (.next, [o0, o1, some (.val (.str z)), o3, some (.lst (iz (pre ++ put plus l (goes plus l r k) :: ls))), some (.val (.int (k - goes plus l r k))), some (.val (.int pre.length)), some (.val (.int r)), some (.val (.int (goes plus l r k)))]) := by
      cases plus with
      | true => simp [runT, runB, bind_k, kont_s, kont_n, pure_ev, rd_e, cst_e, view_t, view_s, esc_t, esc_s, frz_v, frz_l, up_s, up_n, views_n, views_c, escs_n, escs_c, op2_e, mBin_e, op1_e, mUn_e, aNil_e, aCons_e, opL_e, mFn_e, mkTup_e, mkLst_e, mTup_e, mLst_e, tob_e, tB_e, tAnd_e, tOr_e, tNot_e, tIte_e, mIte_e, mAnd_e, mOr_e, mNot_e, mChain_e, seqM_e, cNext_e, cBrk_e, cCont_e, cRetN_e, cIf_e, cExpr_e, cSet_e, setM_t, setM_s, setD_e, retM_t, retM_s, cRet_e, asgM_e, cAsg_e, gTup_e, gsNil_e, gsCons_e, setAtM_e, cSetAt_e, getAtM_e, cAugAt_e, cAug_e, isL_e, mutM_e, mMut_e, oNone_e, oSome_e, slM_e, mSl_e, seqM'_e, wSeq_e, walkM_e, wFn_e, escW_e, wEsc_e, cFor_e, mComp_e, compM_e, takes_n, takes_t, takes_s, puts_n, puts_t, puts_s, callM_e, mCall_e, mCallK_e, toS_t, toS_s, putS_e, cPar_e, if_ap, wipeM_e, stepC_e, turnL_e, wRev_e, asB, asI, asV, B.inP, pMin2, pSub, pIx_l, pAddI, e2, iz_len, e3, e4, put, goes, room]
      | false => simp [runT, runB, bind_k, kont_s, kont_n, pure_ev, rd_e, cst_e, view_t, view_s, esc_t, esc_s, frz_v, frz_l, up_s, up_n, views_n, views_c, escs_n, escs_c, op2_e, mBin_e, op1_e, mUn_e, aNil_e, aCons_e, opL_e, mFn_e, mkTup_e, mkLst_e, mTup_e, mLst_e, tob_e, tB_e, tAnd_e, tOr_e, tNot_e, tIte_e, mIte_e, mAnd_e, mOr_e, mNot_e, mChain_e, seqM_e, cNext_e, cBrk_e, cCont_e, cRetN_e, cIf_e, cExpr_e, cSet_e, setM_t, setM_s, setD_e, retM_t, retM_s, cRet_e, asgM_e, cAsg_e, gTup_e, gsNil_e, gsCons_e, setAtM_e, cSetAt_e, getAtM_e, cAugAt_e, cAug_e, isL_e, mutM_e, mMut_e, oNone_e, oSome_e, slM_e, mSl_e, seqM'_e, wSeq_e, walkM_e, wFn_e, escW_e, wEsc_e, cFor_e, mComp_e, compM_e, takes_n, takes_t, takes_s, puts_n, puts_t, puts_s, callM_e, mCall_e, mCallK_e, toS_t, toS_s, putS_e, cPar_e, if_ap, wipeM_e, stepC_e, turnL_e, wRev_e, asB, asI, asV, B.inP, pMin2, pSub, pIx_l, pAddI, e2, iz_len, e3, e4, put, goes, room]
    rw [turn]
    simp only [Option.bind_some]
    simp only [List.append_assoc, List.singleton_append] at ih
    exact ih
theorem run_k {z : Str} {left plus : Bool} (B : Bz z left plus) {d e : D} {rs ls : List Int} {k : Int} (hr : Seqz d rs) (hs : Seqz e ls) (hl : ls.length = rs.length) (hb : rs.length ≤ 1000) :
    ∃ k', runF [.val d, .val e, .val (.str z), .val (.int k)] = some (.val (.tup [.tup (iz (runM left plus rs ls k)), .int k']), [.val d, .val e, .val (.str z), .val (.int k)]) := by
  have h1 := hand_k B (s := .val d) hr hb
  have h2 := hand_k B (s := .val e) hs (by omega)
  obtain ⟨o6, o7, o8, hloop⟩ := run_loop B (o0 := some (.val d)) (o1 := some (.val e)) (o3 := some (.val (.int k))) (rs := dir left rs) (ls := dir left ls) (pre := []) (k := k) (o6 := none) (o7 := none) (o8 := none) (by rw [dir_len, dir_len]; exact hl)
  have hp : (pour plus (dir left rs) (dir left ls) k).1.length = rs.length := by rw [pour_len (by rw [dir_len, dir_len]; exact hl), dir_len]
  have h3 := hand_k B (s := .lst (iz (pour plus (dir left rs) (dir left ls) k).1)) (.inr rfl) (by rw [hp]; exact hb)
  simp only [List.nil_append, List.length_nil, Int.natCast_zero] at hloop
  refine ⟨(pour plus (dir left rs) (dir left ls) k).2, ?_⟩
  simp [runF, fnM_e, bind_k, kont_s, kont_n, pure_ev, rd_e, cst_e, view_t, view_s, esc_t, esc_s, frz_v, frz_l, up_s, up_n, views_n, views_c, escs_n, escs_c, op2_e, mBin_e, op1_e, mUn_e, aNil_e, aCons_e, opL_e, mFn_e, mkTup_e, mkLst_e, mTup_e, mLst_e, tob_e, tB_e, tAnd_e, tOr_e, tNot_e, tIte_e, mIte_e, mAnd_e, mOr_e, mNot_e, mChain_e, seqM_e, cNext_e, cBrk_e, cCont_e, cRetN_e, cIf_e, cExpr_e, cSet_e, setM_t, setM_s, setD_e, retM_t, retM_s, cRet_e, asgM_e, cAsg_e, gTup_e, gsNil_e, gsCons_e, setAtM_e, cSetAt_e, getAtM_e, cAugAt_e, cAug_e, isL_e, mutM_e, mMut_e, oNone_e, oSome_e, slM_e, mSl_e, seqM'_e, wSeq_e, walkM_e, wFn_e, escW_e, wEsc_e, cFor_e, mComp_e, compM_e, takes_n, takes_t, takes_s, puts_n, puts_t, puts_s, callM_e, mCall_e, mCallK_e, toS_t, toS_s, putS_e, cPar_e, if_ap, wipeM_e, stepC_e, turnL_e, wRev_e, pEnum, pTuple, h1, h2, h3, hloop, outs, pr4, runM]
/-! ### a word: run by run -/
def hL (z : Str) : Bool := (("L+" : Str) == z) || ((("L-" : Str) == z) || false)
def hP (z : Str) : Bool := (("L+" : Str) == z) || ((("R+" : Str) == z) || false)
theorem bz (z : Str) : Bz z (hL z) (hP z) := ⟨bz_of rfl, bz_of rfl⟩
def wd (w : List (Str × Int)) : List D := w.map fun p => .tup [.str p.1, .int p.2]
def run1 (rs ls : List Int) (p : Str × Int) : List Int := runM (hL p.1) (hP p.1) rs ls p.2
def wordM (rs ls : List Int) (w : List (Str × Int)) : List Int := w.foldl (run1 rs) ls
theorem run1_len {rs ls : List Int} {p : Str × Int} (h : ls.length = rs.length) : (run1 rs ls p).length = rs.length := by
  unfold run1 runM
  rw [dir_len, pour_len (by rw [dir_len, dir_len]; exact h), dir_len]
theorem wordM_len {rs : List Int} : ∀ {w : List (Str × Int)} {ls : List Int}, ls.length = rs.length → (wordM rs ls w).length = rs.length
  | [], ls, h => h
  | p :: w, ls, h => wordM_len (w := w) (run1_len h)
def breathedT : D → M Unit := gTupM (gsCons (setD 4) (gsCons (setD 5) (gsNil)))
def breathedB : M Fl := cAsg (gTupM (gsCons (setD 3) (gsCons (setD 6) (gsNil)))) (mCall runF [] (aCons (rd 0) (aCons (rd 3) (aCons (rd 4) (aCons (rd 5) (aNil))))))
theorem breathed_loop {d dw : D} {o1 : Option S} {rs : List Int} (hr : Seqz d rs) (hb : rs.length ≤ 1000) : ∀ {w : List (Str × Int)} {ls : List Int} {o4 o5 o6 : Option S}, ls.length = rs.length → ∃ o4' o5' o6',
    loopM breathedT breathedB (wd w) [some (.val d), o1, some (.val dw), some (.val (.tup (iz ls))), o4, o5, o6] = some (.next, [some (.val d), o1, some (.val dw), some (.val (.tup (iz (wordM rs ls w)))), o4', o5', o6'])
  | [], ls, o4, o5, o6, _ => ⟨o4, o5, o6, rfl⟩
  | p :: w, ls, o4, o5, o6, h => by
    obtain ⟨k', e⟩ := run_k (bz p.1) hr (.inl rfl : Seqz (.tup (iz ls)) ls) h hb (k := p.2)
    obtain ⟨o4', o5', o6', ih⟩ := breathed_loop (dw := dw) (o1 := o1) hr hb (w := w) (ls := run1 rs ls p) (o4 := some (.val (.str p.1))) (o5 := some (.val (.int p.2))) (o6 := some (.val (.int k'))) (run1_len h)
    refine ⟨o4', o5', o6', ?_⟩
    show loopM breathedT breathedB (.tup [.str p.1, .int p.2] :: wd w) _ = _
    have turn : turnL breathedT breathedB (.tup [.str p.1, .int p.2]) [some (.val d), o1, some (.val dw), some (.val (.tup (iz ls))), o4, o5, o6]
        = some (.next, [some (.val d), o1, some (.val dw), some (.val (.tup (iz (run1 rs ls p)))), some (.val (.str p.1)), some (.val (.int p.2)), some (.val (.int k'))]) := by
      simp [breathedT, breathedB, bind_k, kont_s, kont_n, pure_ev, rd_e, cst_e, view_t, view_s, esc_t, esc_s, frz_v, frz_l, up_s, up_n, views_n, views_c, escs_n, escs_c, op2_e, mBin_e, op1_e, mUn_e, aNil_e, aCons_e, opL_e, mFn_e, mkTup_e, mkLst_e, mTup_e, mLst_e, tob_e, tB_e, tAnd_e, tOr_e, tNot_e, tIte_e, mIte_e, mAnd_e, mOr_e, mNot_e, mChain_e, seqM_e, cNext_e, cBrk_e, cCont_e, cRetN_e, cIf_e, cExpr_e, cSet_e, setM_t, setM_s, setD_e, retM_t, retM_s, cRet_e, asgM_e, cAsg_e, gTup_e, gsNil_e, gsCons_e, setAtM_e, cSetAt_e, getAtM_e, cAugAt_e, cAug_e, isL_e, mutM_e, mMut_e, oNone_e, oSome_e, slM_e, mSl_e, seqM'_e, wSeq_e, walkM_e, wFn_e, escW_e, wEsc_e, cFor_e, mComp_e, compM_e, takes_n, takes_t, takes_s, puts_n, puts_t, puts_s, callM_e, mCall_e, mCallK_e, toS_t, toS_s, putS_e, cPar_e, if_ap, wipeM_e, stepC_e, turnL_e, wRev_e, e, run1]
    rw [loopM_cons, turn]
    exact ih
theorem breathed_is : breathedF = fnM 3 7 pr3 (seqM (cSet 3 (mFn pTuple (aCons (rd 1) (aNil)))) (seqM (cFor (wSeq (rd 2)) breathedT breathedB) (cRet pr3 (rd 3)))) := rfl
theorem breathed_k {d e : D} {sw : S} {rs ls : List Int} {w : List (Str × Int)} (hr : Seqz d rs) (hs : Seqz e ls) (hl : ls.length = rs.length) (hb : rs.length ≤ 1000) (hw : sw.frz = .lst (wd w) ∨ sw.frz = .tup (wd w)) :
    breathedF [.val d, .val e, sw] = some (.val (.tup (iz (wordM rs ls w))), [.val d, .val e, .val sw.frz]) := by
  obtain ⟨o4, o5, o6, h⟩ := breathed_loop (dw := sw.frz) (o1 := some (.val e)) hr hb (w := w) (ls := ls) (o4 := none) (o5 := none) (o6 := none) hl
  rw [breathed_is]
  rcases hs with rfl | rfl
  all_goals
    rcases hw with hw | hw
    all_goals
      rw [hw] at h ⊢
      simp [fnM_e, bind_k, kont_s, kont_n, pure_ev, rd_e, cst_e, view_t, view_s, esc_t, esc_s, frz_v, frz_l, up_s, up_n, views_n, views_c, escs_n, escs_c, op2_e, mBin_e, op1_e, mUn_e, aNil_e, aCons_e, opL_e, mFn_e, mkTup_e, mkLst_e, mTup_e, mLst_e, tob_e, tB_e, tAnd_e, tOr_e, tNot_e, tIte_e, mIte_e, mAnd_e, mOr_e, mNot_e, mChain_e, seqM_e, cNext_e, cBrk_e, cCont_e, cRetN_e, cIf_e, cExpr_e, cSet_e, setM_t, setM_s, setD_e, retM_t, retM_s, cRet_e, asgM_e, cAsg_e, gTup_e, gsNil_e, gsCons_e, setAtM_e, cSetAt_e, getAtM_e, cAugAt_e, cAug_e, isL_e, mutM_e, mMut_e, oNone_e, oSome_e, slM_e, mSl_e, seqM'_e, wSeq_e, walkM_e, wFn_e, escW_e, wEsc_e, cFor_e, mComp_e, compM_e, takes_n, takes_t, takes_s, puts_n, puts_t, puts_s, callM_e, mCall_e, mCallK_e, toS_t, toS_s, putS_e, cPar_e, if_ap, wipeM_e, stepC_e, turnL_e, wRev_e, pTuple, seqOf, hw, h, outs, pr3]
/-! ### single breaths -/
/-- a standing within its rooms -/
abbrev Lies (rs ls : List Int) : Prop := Al (fun r l => 0 ≤ l ∧ l ≤ r) rs ls
theorem Al.rev {α β : Type} {P : α → β → Prop} : ∀ {as : List α} {bs : List β}, Al P as bs → Al P as.reverse bs.reverse := by
  have app : ∀ {as cs : List α} {bs ds : List β}, Al P as bs → Al P cs ds → Al P (as ++ cs) (bs ++ ds) := by
    intro as cs bs ds h q
    induction h with
    | nil => exact q
    | cons a r ih => exact .cons a ih
  intro as bs h
  induction h with
  | nil => exact .nil
  | cons a r ih => rw [List.reverse_cons, List.reverse_cons]; exact app ih (.cons a .nil)
theorem Al.dirs {P : Int → Int → Prop} {left : Bool} {as bs : List Int} (h : Al P as bs) : Al P (dir left as) (dir left bs) := by
  unfold dir; cases left
  · exact h.rev
  · exact h
theorem Al.at {α β : Type} {P : α → β → Prop} : ∀ {as : List α} {bs : List β}, Al P as bs → ∀ {i : Nat} (h : i < as.length) (h' : i < bs.length), P as[i] bs[i]
  | _, _, .nil, i, h, _ => absurd h (Nat.not_lt_zero _)
  | _, _, .cons a r, 0, _, _ => a
  | _, _, .cons a r, i + 1, h, h' => r.at (i := i) (by simpa using h) (by simpa using h')
theorem goes_ok {plus : Bool} {l r k : Int} (h : 0 ≤ l ∧ l ≤ r) (hk : 0 ≤ k) : 0 ≤ goes plus l r k ∧ goes plus l r k ≤ k ∧ 0 ≤ put plus l (goes plus l r k) ∧ put plus l (goes plus l r k) ≤ r := by
  unfold goes put room
  cases plus <;> (simp; split <;> omega)
theorem pour_lies {plus : Bool} : ∀ {rs ls : List Int} {k : Int}, Lies rs ls → 0 ≤ k → Lies rs (pour plus rs ls k).1
  | _, _, k, .nil, _ => .nil
  | _, _, k, .cons h r, hk => by
    have g := goes_ok (plus := plus) h hk
    exact .cons ⟨g.2.2.1, g.2.2.2⟩ (pour_lies r (by omega))
theorem run_lies {left plus : Bool} {rs ls : List Int} {k : Int} (h : Lies rs ls) (hk : 0 ≤ k) : Lies rs (runM left plus rs ls k) := by
  have := (pour_lies (plus := plus) (h.dirs (left := left)) hk).dirs (left := left)
  rw [dir_dir] at this
  exact this
theorem pour_zero {plus : Bool} : ∀ {rs ls : List Int}, Lies rs ls → (pour plus rs ls 0).1 = ls
  | _, _, .nil => rfl
  | r :: rs, l :: ls, .cons h q => by
    have g := goes_ok (plus := plus) (k := 0) h (Int.le_refl 0)
    have e : goes plus l r 0 = 0 := by omega
    simp only [pour, e, Int.sub_zero]
    rw [pour_zero q]
    unfold put; cases plus <;> simp
theorem pour_none {plus : Bool} : ∀ {rs ls : List Int} {k : Int}, Lies rs ls → 0 ≤ k → (∀ i (h : i < ls.length) (h' : i < rs.length), room plus ls[i] rs[i] ≤ 0) → (pour plus rs ls k).1 = ls
  | _, _, k, .nil, _, _ => rfl
  | r :: rs, l :: ls, k, .cons h q, hk, hn => by
    have h0 := hn 0 (by simp) (by simp)
    simp only [List.getElem_cons_zero] at h0
    have e : goes plus l r k = 0 := by
      unfold goes room at *
      cases plus <;> (simp at h0 ⊢; omega)
    simp only [pour, e, Int.sub_zero]
    rw [pour_none q hk fun i h h' => by have := hn (i + 1) (by simpa using h) (by simpa using h'); simpa using this]
    unfold put; cases plus <;> simp
theorem pour_one {plus : Bool} : ∀ {rs ls : List Int} {j : Nat}, Lies rs ls → (hj : j < ls.length) → (hj' : j < rs.length) → 0 < room plus ls[j] rs[j] → (∀ i (h : i < ls.length) (h' : i < rs.length), i < j → room plus ls[i] rs[i] ≤ 0) → (pour plus rs ls 1).1 = ls.set j (put plus ls[j] 1)
  | _, _, _, .nil, hj, _, _, _ => absurd hj (Nat.not_lt_zero _)
  | r :: rs, l :: ls, 0, .cons h q, hj, hj', hp, hn => by
    simp only [List.getElem_cons_zero] at hp
    have e : goes plus l r 1 = 1 := by
      unfold goes; split <;> omega
    simp only [pour, e, List.set_cons_zero, List.getElem_cons_zero]
    rw [show (1 : Int) - 1 = 0 from rfl, pour_zero q]
  | r :: rs, l :: ls, j + 1, .cons h q, hj, hj', hp, hn => by
    have h0 := hn 0 (by simp) (by simp) (by omega)
    simp only [List.getElem_cons_zero] at h0
    simp only [List.getElem_cons_succ] at hp
    have e : goes plus l r 1 = 0 := by
      unfold goes room at *
      cases plus <;> (simp at h0 ⊢; omega)
    simp only [pour, e, Int.sub_zero, List.set_cons_succ, List.getElem_cons_succ]
    rw [pour_one q (by simpa using hj) (by simpa using hj') hp fun i h h' hi => by have := hn (i + 1) (by simpa using h) (by simpa using h') (by omega); simpa using this]
    unfold put; cases plus <;> simp
theorem pour_add {plus : Bool} : ∀ {rs ls : List Int} {a b : Int}, Lies rs ls → 0 ≤ a → 0 ≤ b → (pour plus rs (pour plus rs ls a).1 b).1 = (pour plus rs ls (a + b)).1
  | _, _, a, b, .nil, _, _ => rfl
  | r :: rs, l :: ls, a, b, .cons h q, ha, hb => by
    have g := goes_ok (plus := plus) h ha
    have g2 := goes_ok (plus := plus) (l := put plus l (goes plus l r a)) (r := r) ⟨g.2.2.1, g.2.2.2⟩ hb
    have e : goes plus l r a + goes plus (put plus l (goes plus l r a)) r b = goes plus l r (a + b) := by
      unfold goes put room
      cases plus <;> (simp; split <;> split <;> split <;> omega)
    have e2 : put plus (put plus l (goes plus l r a)) (goes plus (put plus l (goes plus l r a)) r b) = put plus l (goes plus l r (a + b)) := by
      rw [← e]; unfold put; cases plus <;> (simp; omega)
    simp only [pour]
    rw [e2, pour_add q (by omega) (by omega), show a - goes plus l r a + (b - goes plus (put plus l (goes plus l r a)) r b) = a + b - goes plus l r (a + b) by omega]
theorem run_add {left plus : Bool} {rs ls : List Int} {a b : Int} (h : Lies rs ls) (ha : 0 ≤ a) (hb : 0 ≤ b) : runM left plus rs (runM left plus rs ls a) b = runM left plus rs ls (a + b) := by
  unfold runM
  rw [dir_dir, pour_add h.dirs ha hb]
theorem run_zero {left plus : Bool} {rs ls : List Int} (h : Lies rs ls) : runM left plus rs ls 0 = ls := by
  unfold runM
  rw [pour_zero h.dirs, dir_dir]
/-! ### order, place by place -/
abbrev Le (ls ms : List Int) : Prop := Al (fun l m => l ≤ m) ls ms
theorem pour_le_plus : ∀ {rs ls ms : List Int} {a b : Int}, Lies rs ls → Lies rs ms → Le ls ms → 0 ≤ a → a ≤ b → Le (pour true rs ls a).1 (pour true rs ms b).1
  | _, _, _, a, b, .nil, .nil, .nil, _, _ => .nil
  | r :: rs, l :: ls, m :: ms, a, b, .cons h q, .cons h' q', .cons c d, ha, hab => by
    have e : put true l (goes true l r a) ≤ put true m (goes true m r b) ∧ 0 ≤ a - goes true l r a ∧ a - goes true l r a ≤ b - goes true m r b := by
      unfold goes put room; simp; split <;> split <;> omega
    exact .cons e.1 (pour_le_plus q q' d e.2.1 e.2.2)
theorem pour_le_minus : ∀ {rs ls ms : List Int} {a b : Int}, Lies rs ls → Lies rs ms → Le ls ms → 0 ≤ b → b ≤ a → Le (pour false rs ls a).1 (pour false rs ms b).1
  | _, _, _, a, b, .nil, .nil, .nil, _, _ => .nil
  | r :: rs, l :: ls, m :: ms, a, b, .cons h q, .cons h' q', .cons c d, ha, hab => by
    have e : put false l (goes false l r a) ≤ put false m (goes false m r b) ∧ 0 ≤ b - goes false m r b ∧ b - goes false m r b ≤ a - goes false l r a := by
      unfold goes put room; simp; split <;> split <;> omega
    exact .cons e.1 (pour_le_minus q q' d e.2.1 e.2.2)
theorem run_le {left plus : Bool} {rs ls ms : List Int} {k : Int} (h : Lies rs ls) (h' : Lies rs ms) (c : Le ls ms) (hk : 0 ≤ k) : Le (runM left plus rs ls k) (runM left plus rs ms k) := by
  unfold runM
  refine Al.dirs ?_
  cases plus
  · exact pour_le_minus h.dirs h'.dirs c.dirs hk (Int.le_refl _)
  · exact pour_le_plus h.dirs h'.dirs c.dirs hk (Int.le_refl _)
/-- the runs of a word are not negative -/
def WordOk (w : List (Str × Int)) : Prop := ∀ p ∈ w, 0 ≤ p.2
theorem word_lies {rs : List Int} : ∀ {w : List (Str × Int)} {ls : List Int}, WordOk w → Lies rs ls → Lies rs (wordM rs ls w)
  | [], _, _, h => h
  | p :: w, ls, hw, h => word_lies (w := w) (fun q hq => hw q (List.mem_cons_of_mem _ hq)) (run_lies h (hw p (List.mem_cons_self ..)))
theorem word_le {rs : List Int} : ∀ {w : List (Str × Int)} {ls ms : List Int}, WordOk w → Lies rs ls → Lies rs ms → Le ls ms → Le (wordM rs ls w) (wordM rs ms w)
  | [], _, _, _, _, _, c => c
  | p :: w, ls, ms, hw, h, h', c => by
    have hp := hw p (List.mem_cons_self ..)
    exact word_le (w := w) (fun q hq => hw q (List.mem_cons_of_mem _ hq)) (run_lies h hp) (run_lies h' hp) (run_le h h' c hp)
/-! ### a law's own going, breath by breath -/
structure Bk (z : Str) (left plus : Bool) : Prop where
  c0 : ∃ a, pIx (.str z) (.int 0) = some (.val (.str a)) ∧ pEq (.str a) (.str "L") = some (.val (.bl left))
  c1 : ∃ a, pIx (.str z) (.int 1) = some (.val (.str a)) ∧ pEq (.str a) (.str "+") = some (.val (.bl plus))
  eL : hL z = left
  eP : hP z = plus
theorem strq {a b : Str} {c : Bool} (h : PyData.strOk a = true) (h' : PyData.strOk b = true) (e : (a == b) = c) : pEq (.str a) (.str b) = some (.val (.bl c)) := by rw [pEq_str h h', e]
theorem bk1 : Bk "L+" true true := ⟨⟨"L", rfl, strq (by decide +kernel) (by decide +kernel) (by decide +kernel)⟩, ⟨"+", rfl, strq (by decide +kernel) (by decide +kernel) (by decide +kernel)⟩, by decide +kernel, by decide +kernel⟩
theorem bk2 : Bk "L-" true false := ⟨⟨"L", rfl, strq (by decide +kernel) (by decide +kernel) (by decide +kernel)⟩, ⟨"-", rfl, strq (by decide +kernel) (by decide +kernel) (by decide +kernel)⟩, by decide +kernel, by decide +kernel⟩
theorem bk3 : Bk "R+" false true := ⟨⟨"R", rfl, strq (by decide +kernel) (by decide +kernel) (by decide +kernel)⟩, ⟨"+", rfl, strq (by decide +kernel) (by decide +kernel) (by decide +kernel)⟩, by decide +kernel, by decide +kernel⟩
theorem bk4 : Bk "R-" false false := ⟨⟨"R", rfl, strq (by decide +kernel) (by decide +kernel) (by decide +kernel)⟩, ⟨"-", rfl, strq (by decide +kernel) (by decide +kernel) (by decide +kernel)⟩, by decide +kernel, by decide +kernel⟩
def IsHand (z : Str) : Prop := Bk z (hL z) (hP z)
theorem hand1 : IsHand "L+" := by unfold IsHand; rw [bk1.eL, bk1.eP]; exact bk1
theorem hand2 : IsHand "L-" := by unfold IsHand; rw [bk2.eL, bk2.eP]; exact bk2
theorem hand3 : IsHand "R+" := by unfold IsHand; rw [bk3.eL, bk3.eP]; exact bk3
theorem hand4 : IsHand "R-" := by unfold IsHand; rw [bk4.eL, bk4.eP]; exact bk4
def spotF : Fm := fnM 3 5 pr3 (
    seqM (cSet 3 (mUn pLR1 (mFn pLen (aCons (rd 0) (aNil)))))
    (seqM (cFor (wSeq (mIte (tB' (mBin pEq (mBin pIx (rd 2) (cst (.int 0))) (cst (.str "L")))) (rd 3) (mUn pRev (rd 3)))) (setD 4) (cIf (tIte' (tB' (mBin pEq (mBin pIx (rd 2) (cst (.int 1))) (cst (.str "+")))) (tB' (mBin pLt (mBin pIx (rd 1) (rd 4)) (mBin pIx (rd 0) (rd 4)))) (tB' (mBin pGt (mBin pIx (rd 1) (rd 4)) (cst (.int 0))))) (cRet pr3 (rd 4)) (cNext)))
    (cRet pr3 (cst .non))))
def oneF : Fm := fnM 3 5 pr3 (
    seqM (cSet 3 (mCall spotF [] (aCons (rd 0) (aCons (rd 1) (aCons (rd 2) (aNil))))))
    (seqM (cIf (tB' (mBin pIs (rd 3) (cst .non))) (cRet pr3 (rd 1)) (cNext))
    (seqM (cSet 4 (mBin pAdd (mBin pIx (rd 1) (rd 3)) (mIte (tB' (mBin pEq (mBin pIx (rd 2) (cst (.int 1))) (cst (.str "+")))) (cst (.int 1)) (mUn pNeg (cst (.int 1))))))
    (cRet pr3 (mBin pAdd (mBin pAdd (mSl (rd 1) (oNone) (oSome (rd 3))) (mTup (aCons (rd 4) (aNil)))) (mSl (rd 1) (oSome (mBin pAdd (rd 3) (cst (.int 1)))) (oNone)))))))
def dirN (left : Bool) (js : List Nat) : List Nat := if left = true then js else js.reverse
def spotM (left plus : Bool) (rs ls : List Int) : Option Nat := (dirN left (List.range rs.length)).find? fun i => decide (0 < room plus (ls.getD i 0) (rs.getD i 0))
def optD : Option Nat → D
  | some i => .int (i : Int)
  | none => .non
theorem spot_k {z : Str} {left plus : Bool} (B : Bk z left plus) {rs ls : List Int} (hl : ls.length = rs.length) (h : rs.length ≤ 1000) :
    spotF [.val (.tup (iz rs)), .val (.tup (iz ls)), .val (.str z)] = some (.val (optD (spotM left plus rs ls)), [.val (.tup (iz rs)), .val (.tup (iz ls)), .val (.str z)]) := by
  obtain ⟨c, hc, hcL⟩ := B.c0
  obtain ⟨c', hc', hcP⟩ := B.c1
  obtain ⟨o', e⟩ := loop_find (mt := setD 4) (mb := cIf (tIte' (tB' (mBin pEq (mBin pIx (rd 2) (cst (.int 1))) (cst (.str "+")))) (tB' (mBin pLt (mBin pIx (rd 1) (rd 4)) (mBin pIx (rd 0) (rd 4)))) (tB' (mBin pGt (mBin pIx (rd 1) (rd 4)) (cst (.int 0))))) (cRet pr3 (rd 4)) (cNext))
    (g := fun o => [some (.val (.tup (iz rs))), some (.val (.tup (iz ls))), some (.val (.str z)), some (if left = true then .val (.lst (upto 0 rs.length)) else .lst (upto 0 rs.length)), o]) (p := fun i => decide (0 < room plus (ls.getD i 0) (rs.getD i 0))) (js := dirN left (List.range rs.length)) (o := none) (by
      intro j hj o
      have hj : j < rs.length := by
        unfold dirN at hj; split at hj
        · exact List.mem_range.mp hj
        · exact List.mem_range.mp (List.mem_reverse.mp hj)
      have hj' : j < ls.length := by omega
      have e1 := iz_at hj
      have e2 := iz_at hj'
      have e3 : ls.getD j 0 = ls[j] := by rw [List.getD_eq_getElem?_getD, List.getElem?_eq_getElem hj']; rfl
      have e4 : rs.getD j 0 = rs[j] := by rw [List.getD_eq_getElem?_getD, List.getElem?_eq_getElem hj]; rfl
      rw [e3, e4]
      cases plus with
      | true =>
        by_cases q : ls[j] < rs[j]
        · have q2 : 0 < room true ls[j] rs[j] := by unfold room; simp; omega
          refine ⟨none, ?_⟩
          simp [bind_k, kont_s, kont_n, pure_ev, rd_e, cst_e, view_t, view_s, esc_t, esc_s, frz_v, frz_l, up_s, up_n, views_n, views_c, escs_n, escs_c, op2_e, mBin_e, op1_e, mUn_e, aNil_e, aCons_e, opL_e, mFn_e, mkTup_e, mkLst_e, mTup_e, mLst_e, tob_e, tB_e, tAnd_e, tOr_e, tNot_e, tIte_e, mIte_e, mAnd_e, mOr_e, mNot_e, mChain_e, seqM_e, cNext_e, cBrk_e, cCont_e, cRetN_e, cIf_e, cExpr_e, cSet_e, setM_t, setM_s, setD_e, retM_t, retM_s, cRet_e, asgM_e, cAsg_e, gTup_e, gsNil_e, gsCons_e, setAtM_e, cSetAt_e, getAtM_e, cAugAt_e, cAug_e, isL_e, mutM_e, mMut_e, oNone_e, oSome_e, slM_e, mSl_e, seqM'_e, wSeq_e, walkM_e, wFn_e, escW_e, wEsc_e, cFor_e, mComp_e, compM_e, takes_n, takes_t, takes_s, puts_n, puts_t, puts_s, callM_e, mCall_e, mCallK_e, toS_t, toS_s, putS_e, cPar_e, if_ap, wipeM_e, stepC_e, turnL_e, wRev_e, pIx_t, pCmp, asB, hc', hcP, e1, e2, q, q2, pr3]
        · have q2 : ¬ 0 < room true ls[j] rs[j] := by unfold room; simp; omega
          refine ⟨some (.val (.int j)), ?_⟩
          simp [bind_k, kont_s, kont_n, pure_ev, rd_e, cst_e, view_t, view_s, esc_t, esc_s, frz_v, frz_l, up_s, up_n, views_n, views_c, escs_n, escs_c, op2_e, mBin_e, op1_e, mUn_e, aNil_e, aCons_e, opL_e, mFn_e, mkTup_e, mkLst_e, mTup_e, mLst_e, tob_e, tB_e, tAnd_e, tOr_e, tNot_e, tIte_e, mIte_e, mAnd_e, mOr_e, mNot_e, mChain_e, seqM_e, cNext_e, cBrk_e, cCont_e, cRetN_e, cIf_e, cExpr_e, cSet_e, setM_t, setM_s, setD_e, retM_t, retM_s, cRet_e, asgM_e, cAsg_e, gTup_e, gsNil_e, gsCons_e, setAtM_e, cSetAt_e, getAtM_e, cAugAt_e, cAug_e, isL_e, mutM_e, mMut_e, oNone_e, oSome_e, slM_e, mSl_e, seqM'_e, wSeq_e, walkM_e, wFn_e, escW_e, wEsc_e, cFor_e, mComp_e, compM_e, takes_n, takes_t, takes_s, puts_n, puts_t, puts_s, callM_e, mCall_e, mCallK_e, toS_t, toS_s, putS_e, cPar_e, if_ap, wipeM_e, stepC_e, turnL_e, wRev_e, pIx_t, pCmp, asB, hc', hcP, e1, e2, q, q2, pr3]
      | false =>
        by_cases q : 0 < ls[j]
        · have q2 : 0 < room false ls[j] rs[j] := by unfold room; simp; omega
          refine ⟨none, ?_⟩
          simp [bind_k, kont_s, kont_n, pure_ev, rd_e, cst_e, view_t, view_s, esc_t, esc_s, frz_v, frz_l, up_s, up_n, views_n, views_c, escs_n, escs_c, op2_e, mBin_e, op1_e, mUn_e, aNil_e, aCons_e, opL_e, mFn_e, mkTup_e, mkLst_e, mTup_e, mLst_e, tob_e, tB_e, tAnd_e, tOr_e, tNot_e, tIte_e, mIte_e, mAnd_e, mOr_e, mNot_e, mChain_e, seqM_e, cNext_e, cBrk_e, cCont_e, cRetN_e, cIf_e, cExpr_e, cSet_e, setM_t, setM_s, setD_e, retM_t, retM_s, cRet_e, asgM_e, cAsg_e, gTup_e, gsNil_e, gsCons_e, setAtM_e, cSetAt_e, getAtM_e, cAugAt_e, cAug_e, isL_e, mutM_e, mMut_e, oNone_e, oSome_e, slM_e, mSl_e, seqM'_e, wSeq_e, walkM_e, wFn_e, escW_e, wEsc_e, cFor_e, mComp_e, compM_e, takes_n, takes_t, takes_s, puts_n, puts_t, puts_s, callM_e, mCall_e, mCallK_e, toS_t, toS_s, putS_e, cPar_e, if_ap, wipeM_e, stepC_e, turnL_e, wRev_e, pIx_t, pCmp, asB, hc', hcP, e1, e2, q, q2, pr3]
        · have q2 : ¬ 0 < room false ls[j] rs[j] := by unfold room; simp; omega
          refine ⟨some (.val (.int j)), ?_⟩
          simp [bind_k, kont_s, kont_n, pure_ev, rd_e, cst_e, view_t, view_s, esc_t, esc_s, frz_v, frz_l, up_s, up_n, views_n, views_c, escs_n, escs_c, op2_e, mBin_e, op1_e, mUn_e, aNil_e, aCons_e, opL_e, mFn_e, mkTup_e, mkLst_e, mTup_e, mLst_e, tob_e, tB_e, tAnd_e, tOr_e, tNot_e, tIte_e, mIte_e, mAnd_e, mOr_e, mNot_e, mChain_e, seqM_e, cNext_e, cBrk_e, cCont_e, cRetN_e, cIf_e, cExpr_e, cSet_e, setM_t, setM_s, setD_e, retM_t, retM_s, cRet_e, asgM_e, cAsg_e, gTup_e, gsNil_e, gsCons_e, setAtM_e, cSetAt_e, getAtM_e, cAugAt_e, cAug_e, isL_e, mutM_e, mMut_e, oNone_e, oSome_e, slM_e, mSl_e, seqM'_e, wSeq_e, walkM_e, wFn_e, escW_e, wEsc_e, cFor_e, mComp_e, compM_e, takes_n, takes_t, takes_s, puts_n, puts_t, puts_s, callM_e, mCall_e, mCallK_e, toS_t, toS_s, putS_e, cPar_e, if_ap, wipeM_e, stepC_e, turnL_e, wRev_e, pIx_t, pCmp, asB, hc', hcP, e1, e2, q, q2, pr3])
  have hs : -1000000 ≤ (rs.length : Int) := by omega
  have hs' : (rs.length : Int) ≤ 100000 := by omega
  have hw : (dirN left (List.range rs.length)).map (fun (j : Nat) => D.int j) = if left = true then upto 0 rs.length else (upto 0 rs.length).reverse := by
    unfold dirN; rw [upto_nat]; split
    · rfl
    · rw [List.map_reverse]
  rw [hw] at e
  unfold spotM
  cases left with
  | true =>
    simp only [if_true] at e
    cases q : (dirN true (List.range rs.length)).find? fun i => decide (0 < room plus (ls.getD i 0) (rs.getD i 0)) with
    | none =>
      rw [q] at e
      simp [spotF, fnM_e, bind_k, kont_s, kont_n, pure_ev, rd_e, cst_e, view_t, view_s, esc_t, esc_s, frz_v, frz_l, up_s, up_n, views_n, views_c, escs_n, escs_c, op2_e, mBin_e, op1_e, mUn_e, aNil_e, aCons_e, opL_e, mFn_e, mkTup_e, mkLst_e, mTup_e, mLst_e, tob_e, tB_e, tAnd_e, tOr_e, tNot_e, tIte_e, mIte_e, mAnd_e, mOr_e, mNot_e, mChain_e, seqM_e, cNext_e, cBrk_e, cCont_e, cRetN_e, cIf_e, cExpr_e, cSet_e, setM_t, setM_s, setD_e, retM_t, retM_s, cRet_e, asgM_e, cAsg_e, gTup_e, gsNil_e, gsCons_e, setAtM_e, cSetAt_e, getAtM_e, cAugAt_e, cAug_e, isL_e, mutM_e, mMut_e, oNone_e, oSome_e, slM_e, mSl_e, seqM'_e, wSeq_e, walkM_e, wFn_e, escW_e, wEsc_e, cFor_e, mComp_e, compM_e, takes_n, takes_t, takes_s, puts_n, puts_t, puts_s, callM_e, mCall_e, mCallK_e, toS_t, toS_s, putS_e, cPar_e, if_ap, wipeM_e, stepC_e, turnL_e, wRev_e, asB, pLen, pLR1, seqOf, hc, hcL, hs, hs', iz_len, e, outs, pr3, optD]
    | some j =>
      rw [q] at e
      simp [spotF, fnM_e, bind_k, kont_s, kont_n, pure_ev, rd_e, cst_e, view_t, view_s, esc_t, esc_s, frz_v, frz_l, up_s, up_n, views_n, views_c, escs_n, escs_c, op2_e, mBin_e, op1_e, mUn_e, aNil_e, aCons_e, opL_e, mFn_e, mkTup_e, mkLst_e, mTup_e, mLst_e, tob_e, tB_e, tAnd_e, tOr_e, tNot_e, tIte_e, mIte_e, mAnd_e, mOr_e, mNot_e, mChain_e, seqM_e, cNext_e, cBrk_e, cCont_e, cRetN_e, cIf_e, cExpr_e, cSet_e, setM_t, setM_s, setD_e, retM_t, retM_s, cRet_e, asgM_e, cAsg_e, gTup_e, gsNil_e, gsCons_e, setAtM_e, cSetAt_e, getAtM_e, cAugAt_e, cAug_e, isL_e, mutM_e, mMut_e, oNone_e, oSome_e, slM_e, mSl_e, seqM'_e, wSeq_e, walkM_e, wFn_e, escW_e, wEsc_e, cFor_e, mComp_e, compM_e, takes_n, takes_t, takes_s, puts_n, puts_t, puts_s, callM_e, mCall_e, mCallK_e, toS_t, toS_s, putS_e, cPar_e, if_ap, wipeM_e, stepC_e, turnL_e, wRev_e, asB, pLen, pLR1, seqOf, hc, hcL, hs, hs', iz_len, e, outs, pr3, optD]
  | false =>
    simp only [Bool.false_eq_true, if_false] at e
    cases q : (dirN false (List.range rs.length)).find? fun i => decide (0 < room plus (ls.getD i 0) (rs.getD i 0)) with
    | none =>
      rw [q] at e
      simp [spotF, fnM_e, bind_k, kont_s, kont_n, pure_ev, rd_e, cst_e, view_t, view_s, esc_t, esc_s, frz_v, frz_l, up_s, up_n, views_n, views_c, escs_n, escs_c, op2_e, mBin_e, op1_e, mUn_e, aNil_e, aCons_e, opL_e, mFn_e, mkTup_e, mkLst_e, mTup_e, mLst_e, tob_e, tB_e, tAnd_e, tOr_e, tNot_e, tIte_e, mIte_e, mAnd_e, mOr_e, mNot_e, mChain_e, seqM_e, cNext_e, cBrk_e, cCont_e, cRetN_e, cIf_e, cExpr_e, cSet_e, setM_t, setM_s, setD_e, retM_t, retM_s, cRet_e, asgM_e, cAsg_e, gTup_e, gsNil_e, gsCons_e, setAtM_e, cSetAt_e, getAtM_e, cAugAt_e, cAug_e, isL_e, mutM_e, mMut_e, oNone_e, oSome_e, slM_e, mSl_e, seqM'_e, wSeq_e, walkM_e, wFn_e, escW_e, wEsc_e, cFor_e, mComp_e, compM_e, takes_n, takes_t, takes_s, puts_n, puts_t, puts_s, callM_e, mCall_e, mCallK_e, toS_t, toS_s, putS_e, cPar_e, if_ap, wipeM_e, stepC_e, turnL_e, wRev_e, asB, pLen, pLR1, pRev, seqOf, hc, hcL, hs, hs', iz_len, e, outs, pr3, optD]
    | some j =>
      rw [q] at e
      simp [spotF, fnM_e, bind_k, kont_s, kont_n, pure_ev, rd_e, cst_e, view_t, view_s, esc_t, esc_s, frz_v, frz_l, up_s, up_n, views_n, views_c, escs_n, escs_c, op2_e, mBin_e, op1_e, mUn_e, aNil_e, aCons_e, opL_e, mFn_e, mkTup_e, mkLst_e, mTup_e, mLst_e, tob_e, tB_e, tAnd_e, tOr_e, tNot_e, tIte_e, mIte_e, mAnd_e, mOr_e, mNot_e, mChain_e, seqM_e, cNext_e, cBrk_e, cCont_e, cRetN_e, cIf_e, cExpr_e, cSet_e, setM_t, setM_s, setD_e, retM_t, retM_s, cRet_e, asgM_e, cAsg_e, gTup_e, gsNil_e, gsCons_e, setAtM_e, cSetAt_e, getAtM_e, cAugAt_e, cAug_e, isL_e, mutM_e, mMut_e, oNone_e, oSome_e, slM_e, mSl_e, seqM'_e, wSeq_e, walkM_e, wFn_e, escW_e, wEsc_e, cFor_e, mComp_e, compM_e, takes_n, takes_t, takes_s, puts_n, puts_t, puts_s, callM_e, mCall_e, mCallK_e, toS_t, toS_s, putS_e, cPar_e, if_ap, wipeM_e, stepC_e, turnL_e, wRev_e, asB, pLen, pLR1, pRev, seqOf, hc, hcL, hs, hs', iz_len, e, outs, pr3, optD]
def oneM (left plus : Bool) (rs ls : List Int) : List Int := match spotM left plus rs ls with
  | some i => ls.set i (put plus (ls.getD i 0) 1)
  | none => ls
theorem spotM_lt {left plus : Bool} {rs ls : List Int} {i : Nat} (h : spotM left plus rs ls = some i) : i < rs.length := by
  have := List.mem_of_find?_eq_some h
  unfold dirN at this; split at this
  · exact List.mem_range.mp this
  · exact List.mem_range.mp (List.mem_reverse.mp this)
theorem one_k {z : Str} {left plus : Bool} (B : Bk z left plus) {rs ls : List Int} (hl : ls.length = rs.length) (h : rs.length ≤ 1000) :
    oneF [.val (.tup (iz rs)), .val (.tup (iz ls)), .val (.str z)] = some (.val (.tup (iz (oneM left plus rs ls))), [.val (.tup (iz rs)), .val (.tup (iz ls)), .val (.str z)]) := by
  obtain ⟨c', hc', hcP⟩ := B.c1
  have e := spot_k B hl h
  unfold oneM
  cases q : spotM left plus rs ls with
  | none =>
    rw [q] at e
    simp [oneF, fnM_e, bind_k, kont_s, kont_n, pure_ev, rd_e, cst_e, view_t, view_s, esc_t, esc_s, frz_v, frz_l, up_s, up_n, views_n, views_c, escs_n, escs_c, op2_e, mBin_e, op1_e, mUn_e, aNil_e, aCons_e, opL_e, mFn_e, mkTup_e, mkLst_e, mTup_e, mLst_e, tob_e, tB_e, tAnd_e, tOr_e, tNot_e, tIte_e, mIte_e, mAnd_e, mOr_e, mNot_e, mChain_e, seqM_e, cNext_e, cBrk_e, cCont_e, cRetN_e, cIf_e, cExpr_e, cSet_e, setM_t, setM_s, setD_e, retM_t, retM_s, cRet_e, asgM_e, cAsg_e, gTup_e, gsNil_e, gsCons_e, setAtM_e, cSetAt_e, getAtM_e, cAugAt_e, cAug_e, isL_e, mutM_e, mMut_e, oNone_e, oSome_e, slM_e, mSl_e, seqM'_e, wSeq_e, walkM_e, wFn_e, escW_e, wEsc_e, cFor_e, mComp_e, compM_e, takes_n, takes_t, takes_s, puts_n, puts_t, puts_s, callM_e, mCall_e, mCallK_e, toS_t, toS_s, putS_e, cPar_e, if_ap, wipeM_e, stepC_e, turnL_e, wRev_e, pIs, isNon, asB, e, optD, outs, pr3]
  | some i =>
    rw [q] at e
    have hi : i < ls.length := by rw [hl]; exact spotM_lt q
    have e1 := iz_at hi
    have e0 : ls.getD i 0 = ls[i] := by rw [List.getD_eq_getElem?_getD, List.getElem?_eq_getElem hi]; rfl
    have e2 := cutz_lo (xs := ls) (k := i) (by omega)
    have e3 := cutz_hi1 hi
    have e4 : ∀ x, ls.take i ++ x :: ls.drop (i + 1) = ls.set i x := fun x => by rw [List.set_eq_take_append_cons_drop, if_pos hi]
    have l1 : min i ls.length + 1 ≤ 100000 := by omega
    have l2 : min i ls.length + 1 + (ls.length - (i + 1)) ≤ 100000 := by omega
    show oneF _ = some (.val (.tup (iz (ls.set i (put plus (ls.getD i 0) 1)))), _)
    rw [e0]
    cases plus with
    | true => simp [oneF, fnM_e, bind_k, kont_s, kont_n, pure_ev, rd_e, cst_e, view_t, view_s, esc_t, esc_s, frz_v, frz_l, up_s, up_n, views_n, views_c, escs_n, escs_c, op2_e, mBin_e, op1_e, mUn_e, aNil_e, aCons_e, opL_e, mFn_e, mkTup_e, mkLst_e, mTup_e, mLst_e, tob_e, tB_e, tAnd_e, tOr_e, tNot_e, tIte_e, mIte_e, mAnd_e, mOr_e, mNot_e, mChain_e, seqM_e, cNext_e, cBrk_e, cCont_e, cRetN_e, cIf_e, cExpr_e, cSet_e, setM_t, setM_s, setD_e, retM_t, retM_s, cRet_e, asgM_e, cAsg_e, gTup_e, gsNil_e, gsCons_e, setAtM_e, cSetAt_e, getAtM_e, cAugAt_e, cAug_e, isL_e, mutM_e, mMut_e, oNone_e, oSome_e, slM_e, mSl_e, seqM'_e, wSeq_e, walkM_e, wFn_e, escW_e, wEsc_e, cFor_e, mComp_e, compM_e, takes_n, takes_t, takes_s, puts_n, puts_t, puts_s, callM_e, mCall_e, mCallK_e, toS_t, toS_s, putS_e, cPar_e, if_ap, wipeM_e, stepC_e, turnL_e, wRev_e, pIx_t, pAdd, pSl, pNeg, pIs, isNon, asB, asI, hc', hcP, e, optD, e1, e2, e3, outs, pr3, iz_len, l1, l2, iz_one, iz_app, e4, put]
    | false => simp [oneF, fnM_e, bind_k, kont_s, kont_n, pure_ev, rd_e, cst_e, view_t, view_s, esc_t, esc_s, frz_v, frz_l, up_s, up_n, views_n, views_c, escs_n, escs_c, op2_e, mBin_e, op1_e, mUn_e, aNil_e, aCons_e, opL_e, mFn_e, mkTup_e, mkLst_e, mTup_e, mLst_e, tob_e, tB_e, tAnd_e, tOr_e, tNot_e, tIte_e, mIte_e, mAnd_e, mOr_e, mNot_e, mChain_e, seqM_e, cNext_e, cBrk_e, cCont_e, cRetN_e, cIf_e, cExpr_e, cSet_e, setM_t, setM_s, setD_e, retM_t, retM_s, cRet_e, asgM_e, cAsg_e, gTup_e, gsNil_e, gsCons_e, setAtM_e, cSetAt_e, getAtM_e, cAugAt_e, cAug_e, isL_e, mutM_e, mMut_e, oNone_e, oSome_e, slM_e, mSl_e, seqM'_e, wSeq_e, walkM_e, wFn_e, escW_e, wEsc_e, cFor_e, mComp_e, compM_e, takes_n, takes_t, takes_s, puts_n, puts_t, puts_s, callM_e, mCall_e, mCallK_e, toS_t, toS_s, putS_e, cPar_e, if_ap, wipeM_e, stepC_e, turnL_e, wRev_e, pIx_t, pAdd, pSl, pNeg, pIs, isNon, asB, asI, hc', hcP, e, optD, e1, e2, e3, outs, pr3, iz_len, l1, l2, iz_one, iz_app, e4, put, Int.sub_eq_add_neg]
theorem spotM_none {left plus : Bool} {rs ls : List Int} (h : spotM left plus rs ls = none) : ∀ i, i < rs.length → ¬ 0 < room plus (ls.getD i 0) (rs.getD i 0) := fun i hi => by
  have := List.find?_eq_none.mp h i (by unfold dirN; split <;> simp [hi])
  simpa using this
theorem spotM_some {left plus : Bool} {rs ls : List Int} {j : Nat} (h : spotM left plus rs ls = some j) : 0 < room plus (ls.getD j 0) (rs.getD j 0) ∧ ∀ i, i < rs.length → (if left = true then i < j else j < i) → ¬ 0 < room plus (ls.getD i 0) (rs.getD i 0) := by
  have hp := List.find?_some h
  refine ⟨by simpa using hp, fun i hi hij => ?_⟩
  obtain ⟨_, as, bs, e, ha⟩ := List.find?_eq_some_iff_append.mp h
  cases left with
  | true =>
    simp only [if_true] at hij
    have hs : (dirN true (List.range rs.length)).Pairwise (· < ·) := by unfold dirN; simpa using List.pairwise_lt_range
    rw [e] at hs
    have hm : i ∈ as ++ j :: bs := by rw [← e]; unfold dirN; simp [hi]
    rcases List.mem_append.mp hm with q | q
    · simpa using ha i q
    · rcases List.mem_cons.mp q with q | q
      · omega
      · have := (List.pairwise_append.mp hs).2.1
        have := (List.pairwise_cons.mp this).1 i q
        omega
  | false =>
    simp only [Bool.false_eq_true, if_false] at hij
    have hs : (dirN false (List.range rs.length)).Pairwise (fun a b => b < a) := by
      unfold dirN
      simp only [Bool.false_eq_true, if_false]
      exact List.pairwise_reverse.mpr List.pairwise_lt_range
    rw [e] at hs
    have hm : i ∈ as ++ j :: bs := by rw [← e]; unfold dirN; simp [hi]
    rcases List.mem_append.mp hm with q | q
    · simpa using ha i q
    · rcases List.mem_cons.mp q with q | q
      · omega
      · have := (List.pairwise_append.mp hs).2.1
        have := (List.pairwise_cons.mp this).1 i q
        omega
theorem getD_at {xs : List Int} {i : Nat} (h : i < xs.length) : xs.getD i 0 = xs[i] := by rw [List.getD_eq_getElem?_getD, List.getElem?_eq_getElem h]; rfl
/-- a single breath is a run of one -/
theorem one_run {left plus : Bool} {rs ls : List Int} (h : Lies rs ls) : oneM left plus rs ls = runM left plus rs ls 1 := by
  have hl : ls.length = rs.length := h.length.symm
  unfold oneM
  cases q : spotM left plus rs ls with
  | none =>
    have hn := spotM_none q
    unfold runM
    rw [pour_none h.dirs (by decide) fun i hi hi' => ?_, dir_dir]
    have hi2 : i < rs.length := by rwa [dir_len] at hi'
    cases left with
    | true =>
      have := hn i hi2
      rw [getD_at hi2, getD_at (by omega)] at this
      simp only [dir, if_true]; omega
    | false =>
      have := hn (rs.length - 1 - i) (by omega)
      rw [getD_at (by omega), getD_at (by omega)] at this
      simp only [dir, Bool.false_eq_true, if_false, List.getElem_reverse, hl]; omega
  | some j =>
    obtain ⟨hp, hb⟩ := spotM_some q
    have hj := spotM_lt q
    have hj2 : j < ls.length := by omega
    rw [getD_at hj, getD_at hj2] at hp
    show ls.set j (put plus (ls.getD j 0) 1) = _
    rw [getD_at hj2]
    unfold runM
    cases left with
    | true =>
      simp only [dir, if_true]
      rw [pour_one h hj2 hj hp fun i hi hi' hij => by
        have := hb i hi' (by simpa using hij)
        rw [getD_at hi', getD_at hi] at this
        omega]
    | false =>
      simp only [dir, Bool.false_eq_true, if_false]
      have k1 : rs.length - 1 - j < ls.reverse.length := by rw [List.length_reverse]; omega
      have k2 : rs.length - 1 - j < rs.reverse.length := by rw [List.length_reverse]; omega
      have g1 : ls.reverse[rs.length - 1 - j] = ls[j] := by
        rw [List.getElem_reverse]; congr 1; omega
      have g2 : rs.reverse[rs.length - 1 - j] = rs[j] := by
        rw [List.getElem_reverse]; congr 1; omega
      rw [pour_one h.rev k1 k2 (by rw [g1, g2]; exact hp) fun i hi hi' hij => by
        rw [List.length_reverse] at hi hi'
        have := hb (rs.length - 1 - i) (by omega) (by simp; omega)
        rw [getD_at (by omega), getD_at (by omega)] at this
        rw [List.getElem_reverse, List.getElem_reverse]
        simp only [hl]; omega]
      rw [g1]
      apply List.ext_getElem
      · simp
      · intro i hi hi'
        rw [List.length_set] at hi
        rw [List.getElem_reverse, List.getElem_set, List.getElem_set]
        simp only [List.length_set, List.length_reverse, List.getElem_reverse]
        by_cases c : j = i
        · rw [if_pos c, if_pos (by omega)]
        · rw [if_neg c, if_neg (by omega)]
          congr 1; omega
/-! ### a word, breath by breath -/
def goneP (i : Nat) : Bool := [0, 2].contains i
def goneI : M Fl := cSet 1 (mCall oneF [] (aCons (rd 0) (aCons (rd 1) (aCons (rd 3) (aNil)))))
def goneB : M Fl := cFor (wFn p1 (aCons (rd 4) (aNil))) (setD 5) goneI
def goneT : D → M Unit := gTupM (gsCons (setD 3) (gsCons (setD 4) (gsNil)))
def goneF : Fm := fnM 3 6 goneP (seqM (cFor (wSeq (rd 2)) goneT goneB) (cRet goneP (rd 1)))
/-- hands and small counts -/
def Hands (w : List (Str × Int)) : Prop := ∀ p ∈ w, IsHand p.1 ∧ 0 ≤ p.2 ∧ p.2 ≤ 1000000000
theorem Hands.ok {w : List (Str × Int)} (h : Hands w) : WordOk w := fun p hp => (h p hp).2.1
theorem gone_run {rs ls : List Int} {p : Str × Int} {o2 o5 : Option S} (h : Lies rs ls) (hb : rs.length ≤ 1000) (hp : IsHand p.1 ∧ 0 ≤ p.2 ∧ p.2 ≤ 1000000000) :
    ∃ o5', goneB [some (.val (.tup (iz rs))), some (.val (.tup (iz ls))), o2, some (.val (.str p.1)), some (.val (.int p.2)), o5] = some (.next, [some (.val (.tup (iz rs))), some (.val (.tup (iz (run1 rs ls p)))), o2, some (.val (.str p.1)), some (.val (.int p.2)), o5']) := by
  obtain ⟨g', e, o5', rfl⟩ := loopM_all (mt := setD 5) (mb := goneI)
    (fun m g => ∃ o5, g = [some (.val (.tup (iz rs))), some (.val (.tup (iz (runM (hL p.1) (hP p.1) rs ls m)))), o2, some (.val (.str p.1)), some (.val (.int p.2)), o5])
    (ds := upto 0 p.2.toNat) (n := 0) (g := [some (.val (.tup (iz rs))), some (.val (.tup (iz ls))), o2, some (.val (.str p.1)), some (.val (.int p.2)), o5]) ⟨o5, by rw [show ((0 : Nat) : Int) = 0 from rfl, run_zero h]⟩ (by
      rintro i d hd _ ⟨o5, rfl⟩
      obtain ⟨rfl, hi⟩ := upto_get hd
      have hq := run_lies (left := hL p.1) (plus := hP p.1) h (show (0 : Int) ≤ ((0 + i : Nat) : Int) by omega)
      have e := one_k hp.1 (rs := rs) (ls := runM (hL p.1) (hP p.1) rs ls ((0 + i : Nat) : Int)) hq.length.symm hb
      rw [one_run hq, run_add h (by omega) (by decide)] at e
      refine ⟨_, ?_, some (.val (.int (0 + (i : Int)))), rfl⟩
      rw [show (((0 + i : Nat) : Int) + 1) = ((0 + i + 1 : Nat) : Int) by omega] at e
      generalize runM (hL p.1) (hP p.1) rs ls ((0 + i + 1 : Nat) : Int) = y at e ⊢
      generalize runM (hL p.1) (hP p.1) rs ls ((0 + i : Nat) : Int) = x at e ⊢
      simp [bind_k, kont_s, kont_n, pure_ev, rd_e, cst_e, view_t, view_s, esc_t, esc_s, frz_v, frz_l, up_s, up_n, views_n, views_c, escs_n, escs_c, op2_e, mBin_e, op1_e, mUn_e, aNil_e, aCons_e, opL_e, mFn_e, mkTup_e, mkLst_e, mTup_e, mLst_e, tob_e, tB_e, tAnd_e, tOr_e, tNot_e, tIte_e, mIte_e, mAnd_e, mOr_e, mNot_e, mChain_e, seqM_e, cNext_e, cBrk_e, cCont_e, cRetN_e, cIf_e, cExpr_e, cSet_e, setM_t, setM_s, setD_e, retM_t, retM_s, cRet_e, asgM_e, cAsg_e, gTup_e, gsNil_e, gsCons_e, setAtM_e, cSetAt_e, getAtM_e, cAugAt_e, cAug_e, isL_e, mutM_e, mMut_e, oNone_e, oSome_e, slM_e, mSl_e, seqM'_e, wSeq_e, walkM_e, wFn_e, escW_e, wEsc_e, cFor_e, mComp_e, compM_e, takes_n, takes_t, takes_s, puts_n, puts_t, puts_s, callM_e, mCall_e, mCallK_e, toS_t, toS_s, putS_e, cPar_e, if_ap, wipeM_e, stepC_e, turnL_e, wRev_e, goneI, e])
  rw [upto_len] at e
  refine ⟨o5', ?_⟩
  have hs : small p.2 = true := decide_eq_true (by omega)
  rw [show ((0 + p.2.toNat : Nat) : Int) = p.2 by omega] at e
  simp [goneB, bind_k, kont_s, kont_n, pure_ev, rd_e, cst_e, view_t, view_s, esc_t, esc_s, frz_v, frz_l, up_s, up_n, views_n, views_c, escs_n, escs_c, op2_e, mBin_e, op1_e, mUn_e, aNil_e, aCons_e, opL_e, mFn_e, mkTup_e, mkLst_e, mTup_e, mLst_e, tob_e, tB_e, tAnd_e, tOr_e, tNot_e, tIte_e, mIte_e, mAnd_e, mOr_e, mNot_e, mChain_e, seqM_e, cNext_e, cBrk_e, cCont_e, cRetN_e, cIf_e, cExpr_e, cSet_e, setM_t, setM_s, setD_e, retM_t, retM_s, cRet_e, asgM_e, cAsg_e, gTup_e, gsNil_e, gsCons_e, setAtM_e, cSetAt_e, getAtM_e, cAugAt_e, cAug_e, isL_e, mutM_e, mMut_e, oNone_e, oSome_e, slM_e, mSl_e, seqM'_e, wSeq_e, walkM_e, wFn_e, escW_e, wEsc_e, cFor_e, mComp_e, compM_e, takes_n, takes_t, takes_s, puts_n, puts_t, puts_s, callM_e, mCall_e, mCallK_e, toS_t, toS_s, putS_e, cPar_e, if_ap, wipeM_e, stepC_e, turnL_e, wRev_e, p1_e hs, e, run1]
theorem gone_loop {rs : List Int} {o2 : Option S} (hb : rs.length ≤ 1000) : ∀ {w : List (Str × Int)} {ls : List Int} {o3 o4 o5 : Option S}, Hands w → Lies rs ls → ∃ o3' o4' o5',
    loopM goneT goneB (wd w) [some (.val (.tup (iz rs))), some (.val (.tup (iz ls))), o2, o3, o4, o5] = some (.next, [some (.val (.tup (iz rs))), some (.val (.tup (iz (wordM rs ls w)))), o2, o3', o4', o5'])
  | [], ls, o3, o4, o5, _, _ => ⟨o3, o4, o5, rfl⟩
  | p :: w, ls, o3, o4, o5, hw, h => by
    have hp := hw p (List.mem_cons_self ..)
    obtain ⟨o5', e⟩ := gone_run (o2 := o2) (o5 := o5) h hb hp
    obtain ⟨o3', o4', o5'', ih⟩ := gone_loop (o2 := o2) hb (w := w) (ls := run1 rs ls p) (o3 := some (.val (.str p.1))) (o4 := some (.val (.int p.2))) (o5 := o5') (fun q hq => hw q (List.mem_cons_of_mem _ hq)) (run_lies h hp.2.1)
    refine ⟨o3', o4', o5'', ?_⟩
    show loopM goneT goneB (.tup [.str p.1, .int p.2] :: wd w) _ = _
    have turn : turnL goneT goneB (.tup [.str p.1, .int p.2]) [some (.val (.tup (iz rs))), some (.val (.tup (iz ls))), o2, o3, o4, o5]
        = some (.next, [some (.val (.tup (iz rs))), some (.val (.tup (iz (run1 rs ls p)))), o2, some (.val (.str p.1)), some (.val (.int p.2)), o5']) := by
      simp [goneT, bind_k, kont_s, kont_n, pure_ev, rd_e, cst_e, view_t, view_s, esc_t, esc_s, frz_v, frz_l, up_s, up_n, views_n, views_c, escs_n, escs_c, op2_e, mBin_e, op1_e, mUn_e, aNil_e, aCons_e, opL_e, mFn_e, mkTup_e, mkLst_e, mTup_e, mLst_e, tob_e, tB_e, tAnd_e, tOr_e, tNot_e, tIte_e, mIte_e, mAnd_e, mOr_e, mNot_e, mChain_e, seqM_e, cNext_e, cBrk_e, cCont_e, cRetN_e, cIf_e, cExpr_e, cSet_e, setM_t, setM_s, setD_e, retM_t, retM_s, cRet_e, asgM_e, cAsg_e, gTup_e, gsNil_e, gsCons_e, setAtM_e, cSetAt_e, getAtM_e, cAugAt_e, cAug_e, isL_e, mutM_e, mMut_e, oNone_e, oSome_e, slM_e, mSl_e, seqM'_e, wSeq_e, walkM_e, wFn_e, escW_e, wEsc_e, cFor_e, mComp_e, compM_e, takes_n, takes_t, takes_s, puts_n, puts_t, puts_s, callM_e, mCall_e, mCallK_e, toS_t, toS_s, putS_e, cPar_e, if_ap, wipeM_e, stepC_e, turnL_e, wRev_e, e]
    rw [loopM_cons, turn]
    exact ih
theorem gone_k {rs ls : List Int} {w : List (Str × Int)} {sw : S} (hb : rs.length ≤ 1000) (h : Lies rs ls) (hw : Hands w) (hs : sw.frz = .lst (wd w) ∨ sw.frz = .tup (wd w)) :
    goneF [.val (.tup (iz rs)), .val (.tup (iz ls)), sw] = some (.val (.tup (iz (wordM rs ls w))), [.val (.tup (iz rs)), .val (.tup (iz ls)), .val sw.frz]) := by
  obtain ⟨o3, o4, o5, e⟩ := gone_loop (o2 := some (.val sw.frz)) hb (w := w) (ls := ls) (o3 := none) (o4 := none) (o5 := none) hw h
  rcases hs with hs | hs
  all_goals
    rw [hs] at e ⊢
    simp [goneF, fnM_e, bind_k, kont_s, kont_n, pure_ev, rd_e, cst_e, view_t, view_s, esc_t, esc_s, frz_v, frz_l, up_s, up_n, views_n, views_c, escs_n, escs_c, op2_e, mBin_e, op1_e, mUn_e, aNil_e, aCons_e, opL_e, mFn_e, mkTup_e, mkLst_e, mTup_e, mLst_e, tob_e, tB_e, tAnd_e, tOr_e, tNot_e, tIte_e, mIte_e, mAnd_e, mOr_e, mNot_e, mChain_e, seqM_e, cNext_e, cBrk_e, cCont_e, cRetN_e, cIf_e, cExpr_e, cSet_e, setM_t, setM_s, setD_e, retM_t, retM_s, cRet_e, asgM_e, cAsg_e, gTup_e, gsNil_e, gsCons_e, setAtM_e, cSetAt_e, getAtM_e, cAugAt_e, cAug_e, isL_e, mutM_e, mMut_e, oNone_e, oSome_e, slM_e, mSl_e, seqM'_e, wSeq_e, walkM_e, wFn_e, escW_e, wEsc_e, cFor_e, mComp_e, compM_e, takes_n, takes_t, takes_s, puts_n, puts_t, puts_s, callM_e, mCall_e, mCallK_e, toS_t, toS_s, putS_e, cPar_e, if_ap, wipeM_e, stepC_e, turnL_e, wRev_e, seqOf, hs, e, outs, goneP]
/-! ### going on until it stays -/
def iter (f : List Int → List Int) : Nat → List Int → List Int
  | 0, x => x
  | n + 1, x => iter f n (f x)
theorem iter_succ {f : List Int → List Int} : ∀ {n : Nat} {x : List Int}, iter f (n + 1) x = f (iter f n x)
  | 0, _ => rfl
  | n + 1, x => by rw [iter, iter_succ (n := n) (x := f x), iter]
theorem iter_fix {f : List Int → List Int} {x : List Int} (h : f x = x) : ∀ n, iter f n x = x
  | 0 => rfl
  | n + 1 => by rw [iter, h, iter_fix h n]
theorem iter_add {f : List Int → List Int} {x : List Int} : ∀ {m n : Nat}, iter f (m + n) x = iter f n (iter f m x)
  | 0, n => by rw [Nat.zero_add]; rfl
  | m + 1, n => by
    rw [Nat.add_right_comm, iter, iter]
    exact iter_add
theorem le_sum : ∀ {ls ms : List Int}, Le ls ms → ls.sum ≤ ms.sum ∧ (ls.sum = ms.sum → ls = ms)
  | _, _, .nil => ⟨Int.le_refl _, fun _ => rfl⟩
  | l :: ls, m :: ms, .cons h r => by
    obtain ⟨a, b⟩ := le_sum r
    simp only [List.sum_cons]
    refine ⟨by omega, fun e => ?_⟩
    rw [b (by omega), show l = m by omega]
theorem le_anti {ls ms : List Int} (h : Le ls ms) (h' : Le ms ls) : ls = ms := by
  obtain ⟨a, b⟩ := le_sum h
  exact b (Int.le_antisymm a (le_sum h').1)
theorem le_trans' : ∀ {a b c : List Int}, Le a b → Le b c → Le a c
  | _, _, _, .nil, .nil => .nil
  | _, _, _, .cons h r, .cons h' r' => .cons (Int.le_trans h h') (le_trans' r r')
theorem le_refl' : ∀ {a : List Int}, Le a a
  | [] => .nil
  | _ :: _ => .cons (Int.le_refl _) le_refl'
theorem lies_sum : ∀ {rs ls : List Int}, Lies rs ls → 0 ≤ ls.sum ∧ ls.sum ≤ rs.sum
  | _, _, .nil => ⟨Int.le_refl _, Int.le_refl _⟩
  | _, _, .cons h r => by
    have := lies_sum r
    simp only [List.sum_cons]
    omega
/-- a way that only rises (or only falls) stays after as many steps as there is room -/
theorem iter_up {rs : List Int} {f : List Int → List Int} (hf : ∀ x, Lies rs x → Lies rs (f x)) (mono : ∀ x y, Lies rs x → Lies rs y → Le x y → Le (f x) (f y)) : ∀ (n : Nat) {x : List Int}, Lies rs x → Le x (f x) → rs.sum ≤ x.sum + n → f (iter f n x) = iter f n x
  | 0, x, h, c, hn => by
    have h2 := lies_sum (hf x h)
    obtain ⟨a, b⟩ := le_sum c
    exact (b (by simp at hn; omega)).symm
  | n + 1, x, h, c, hn => by
    by_cases e : f x = x
    · rw [iter_fix e, e]
    · obtain ⟨a, b⟩ := le_sum c
      have : x.sum ≠ (f x).sum := fun q => e (b q).symm
      exact iter_up hf mono n (hf x h) (mono _ _ h (hf x h) c) (by omega)
theorem iter_down {rs : List Int} {f : List Int → List Int} (hf : ∀ x, Lies rs x → Lies rs (f x)) (mono : ∀ x y, Lies rs x → Lies rs y → Le x y → Le (f x) (f y)) : ∀ (n : Nat) {x : List Int}, Lies rs x → Le (f x) x → x.sum ≤ n → f (iter f n x) = iter f n x
  | 0, x, h, c, hn => by
    have h2 := lies_sum (hf x h)
    obtain ⟨a, b⟩ := le_sum c
    exact b (by simp at hn; omega)
  | n + 1, x, h, c, hn => by
    by_cases e : f x = x
    · rw [iter_fix e, e]
    · obtain ⟨a, b⟩ := le_sum c
      have : (f x).sum ≠ x.sum := fun q => e (b q)
      exact iter_down hf mono n (hf x h) (mono _ _ (hf x h) h c) (by omega)
theorem iter_lies {rs : List Int} {f : List Int → List Int} (hf : ∀ x, Lies rs x → Lies rs (f x)) : ∀ (n : Nat) {x : List Int}, Lies rs x → Lies rs (iter f n x)
  | 0, _, h => h
  | n + 1, _, h => iter_lies hf n (hf _ h)
theorem iter_mono {rs : List Int} {f : List Int → List Int} (hf : ∀ x, Lies rs x → Lies rs (f x)) (mono : ∀ x y, Lies rs x → Lies rs y → Le x y → Le (f x) (f y)) : ∀ (n : Nat) {x y : List Int}, Lies rs x → Lies rs y → Le x y → Le (iter f n x) (iter f n y)
  | 0, _, _, _, _, c => c
  | n + 1, _, _, h, h', c => iter_mono hf mono n (hf _ h) (hf _ h') (mono _ _ h h' c)
end DL

/-! The data layer, part T: behind_each, stands, least and greatest still. -/
namespace DL
open PySem PySem.Spec PyProof.Rows L2
theorem okDs_iz : ∀ (n : Nat) (xs : List Int), okDs n (iz xs) = true
  | n, [] => by rw [show iz [] = [] from rfl, okDs]
  | n, x :: xs => by
    rw [show iz (x :: xs) = .int x :: iz xs from rfl, okDs, okDs_iz n xs]
    cases n <;> simp [okD]
theorem deqs_iz : ∀ (xs ys : List Int), deqs (iz xs) (iz ys) = decide (xs = ys)
  | [], [] => by rw [show iz [] = [] from rfl, deqs]; simp
  | [], y :: ys => by rw [show iz [] = [] from rfl, show iz (y :: ys) = .int y :: iz ys from rfl, deqs]; all_goals simp
  | x :: xs, [] => by rw [show iz [] = [] from rfl, show iz (x :: xs) = .int x :: iz xs from rfl, deqs]; all_goals simp
  | x :: xs, y :: ys => by
    rw [show iz (x :: xs) = .int x :: iz xs from rfl, show iz (y :: ys) = .int y :: iz ys from rfl, deqs, deqs_iz xs ys, deq_int]
    by_cases h : x = y <;> by_cases h' : xs = ys <;> simp [h, h']
theorem pEq_iz (xs ys : List Int) : pEq (.tup (iz xs)) (.tup (iz ys)) = some (.val (.bl (decide (xs = ys)))) := by
  unfold pEq
  rw [if_pos ⟨by rw [okD, okDs_iz], by rw [okD, okDs_iz]⟩, deq, deqs_iz]
theorem pNe_iz (xs ys : List Int) : pNe (.tup (iz xs)) (.tup (iz ys)) = some (.val (.bl (!decide (xs = ys)))) := by
  unfold pNe
  rw [if_pos ⟨by rw [okD, okDs_iz], by rw [okD, okDs_iz]⟩, deq, deqs_iz]
theorem at_last {fs : List D} {x : D} : atI (fs ++ [x]) (-1) = some x := by
  unfold atI ixN
  rw [if_neg (by decide), if_pos (by simp; omega)]
  have : ((-1 : Int) + ((fs ++ [x]).length : Nat)).toNat = fs.length := by simp; omega
  rw [this]
  simp
def behC : M Bool := tB' (mBin pLe (mFn pLen (aCons (rd 4) (aNil))) (rd 3))
def behB : M Fl := seqM (cSet 5 (mCall breathedF [] (aCons (rd 0) (aCons (mBin pIx (rd 4) (mUn pNeg (cst (.int 1)))) (aCons (rd 2) (aNil))))))
    (seqM (cIf (tB' (mBin pEq (rd 5) (mBin pIx (rd 4) (mUn pNeg (cst (.int 1)))))) (cRet pr4 (rd 4)) (cNext))
    (cExpr (mMut 4 pAppend (aCons (rd 5) (aNil)))))
def behF (n : Nat) : Fm := fnM 4 6 pr4 (seqM (cSet 4 (mLst (aCons (mFn pTuple (aCons (rd 1) (aNil))) (aNil)))) (seqM (whileM behC behB n) (cRet pr4 (rd 4))))
/-- the word's slot, before or after it was walked -/
def IsW (w : List (Str × Int)) (s : S) : Prop := s.frz = .lst (wd w) ∨ s.frz = .tup (wd w)
theorem IsW.frz {w : List (Str × Int)} {s : S} (h : IsW w s) : IsW w (.val s.frz) := h
def whK (mc : M Bool) (mb : M Fl) (n : Nat) : Fl → M Fl
  | .next => whileM mc mb n
  | .cont => whileM mc mb n
  | .brk => pure .next
  | .ret s => pure (.ret s)
theorem while_s {mc : M Bool} {mb : M Fl} {n : Nat} {g : G} : whileM mc mb (n + 1) g = (do let c ← mc; if c = true then (do let fl ← mb; whK mc mb n fl) else pure .next : M Fl) g := by
  rw [whileM]
  simp only [bind_ev]
  cases mc g with
  | none => rfl
  | some p =>
    simp only [Option.bind_some, if_ap]
    split
    · simp only [bind_ev]
      cases mb p.2 with
      | none => rfl
      | some q =>
        obtain ⟨fl, g2⟩ := q
        cases fl <;> rfl
    · rfl
def behS (d : D) (o1 : Option S) (s2 : S) (many : Nat) (L : List D) (o5 : Option S) : G := [some (.val d), o1, some s2, some (.val (.int many)), some (.lst L), o5]
theorem beh_loop {d : D} {o1 : Option S} {rs : List Int} {w : List (Str × Int)} {many : Nat} (hr : Seqz d rs) (hb : rs.length ≤ 1000) (hm : many ≤ 90000) : ∀ {n j : Nat} {fs : List D} {x : List Int} {s2 : S} {o5 : Option S}, many - j < n → fs.length = j → j ≤ many → x.length = rs.length → IsW w s2 →
    ∃ L s2' o5', IsW w s2' ∧ (∃ fs', L = fs' ++ [.tup (iz (iter (fun y => wordM rs y w) (many - j) x))]) ∧ L.length ≤ many + 1 ∧
      (whileM behC behB n (behS d o1 s2 many (fs ++ [.tup (iz x)]) o5) = some (.next, behS d o1 s2' many L o5') ∨ whileM behC behB n (behS d o1 s2 many (fs ++ [.tup (iz x)]) o5) = some (.ret (.lst L), [some (.val d), o1, some s2', some (.val (.int many)), none, o5']))
  | 0, j, fs, x, s2, o5, h, _, _, _, _ => absurd h (Nat.not_lt_zero _)
  | n + 1, j, fs, x, s2, o5, h, hf, hj, hx, hw => by
    by_cases hjm : j = many
    · refine ⟨fs ++ [.tup (iz x)], s2, o5, hw, ⟨fs, by rw [hjm, Nat.sub_self]; rfl⟩, by simp; omega, .inl ?_⟩
      have hc : ¬ ((fs.length : Int) + 1 ≤ (many : Int)) := by omega
      rw [while_s]
      simp [behC, behS, bind_k, kont_s, kont_n, pure_ev, rd_e, cst_e, view_t, view_s, esc_t, esc_s, frz_v, frz_l, up_s, up_n, views_n, views_c, escs_n, escs_c, op2_e, mBin_e, op1_e, mUn_e, aNil_e, aCons_e, opL_e, mFn_e, mkTup_e, mkLst_e, mTup_e, mLst_e, tob_e, tB_e, tAnd_e, tOr_e, tNot_e, tIte_e, mIte_e, mAnd_e, mOr_e, mNot_e, mChain_e, seqM_e, cNext_e, cBrk_e, cCont_e, cRetN_e, cIf_e, cExpr_e, cSet_e, setM_t, setM_s, setD_e, retM_t, retM_s, cRet_e, asgM_e, cAsg_e, gTup_e, gsNil_e, gsCons_e, setAtM_e, cSetAt_e, getAtM_e, cAugAt_e, cAug_e, isL_e, mutM_e, mMut_e, oNone_e, oSome_e, slM_e, mSl_e, seqM'_e, wSeq_e, walkM_e, wFn_e, escW_e, wEsc_e, cFor_e, mComp_e, compM_e, takes_n, takes_t, takes_s, puts_n, puts_t, puts_s, callM_e, mCall_e, mCallK_e, toS_t, toS_s, putS_e, cPar_e, if_ap, wipeM_e, stepC_e, turnL_e, wRev_e, pLen, pCmp, asB, hc]
    · have hc : ((fs.length : Int) + 1 ≤ (many : Int)) := by omega
      have e := breathed_k (sw := s2) hr (.inl rfl : Seqz (.tup (iz x)) x) hx hb hw
      have el := at_last (fs := fs) (x := .tup (iz x))
      have eq := pEq_iz (wordM rs x w) x
      have hc1 : behC (behS d o1 s2 many (fs ++ [.tup (iz x)]) o5) = some (true, behS d o1 s2 many (fs ++ [.tup (iz x)]) o5) := by
        simp [behC, behS, bind_k, kont_s, kont_n, pure_ev, rd_e, cst_e, view_t, view_s, esc_t, esc_s, frz_v, frz_l, up_s, up_n, views_n, views_c, escs_n, escs_c, op2_e, mBin_e, op1_e, mUn_e, aNil_e, aCons_e, opL_e, mFn_e, mkTup_e, mkLst_e, mTup_e, mLst_e, tob_e, tB_e, tAnd_e, tOr_e, tNot_e, tIte_e, mIte_e, mAnd_e, mOr_e, mNot_e, mChain_e, seqM_e, cNext_e, cBrk_e, cCont_e, cRetN_e, cIf_e, cExpr_e, cSet_e, setM_t, setM_s, setD_e, retM_t, retM_s, cRet_e, asgM_e, cAsg_e, gTup_e, gsNil_e, gsCons_e, setAtM_e, cSetAt_e, getAtM_e, cAugAt_e, cAug_e, isL_e, mutM_e, mMut_e, oNone_e, oSome_e, slM_e, mSl_e, seqM'_e, wSeq_e, walkM_e, wFn_e, escW_e, wEsc_e, cFor_e, mComp_e, compM_e, takes_n, takes_t, takes_s, puts_n, puts_t, puts_s, callM_e, mCall_e, mCallK_e, toS_t, toS_s, putS_e, cPar_e, if_ap, wipeM_e, stepC_e, turnL_e, wRev_e, pLen, pCmp, asB, hc]
      by_cases hfix : wordM rs x w = x
      · refine ⟨fs ++ [.tup (iz x)], .val s2.frz, some (.val (.tup (iz x))), hw.frz, ⟨fs, by rw [iter_fix hfix]⟩, by simp; omega, .inr ?_⟩
        have hb1 : behB (behS d o1 s2 many (fs ++ [.tup (iz x)]) o5) = some (.ret (.lst (fs ++ [.tup (iz x)])), [some (.val d), o1, some (.val s2.frz), some (.val (.int many)), none, some (.val (.tup (iz x)))]) := by
          rw [hfix] at e eq
          cases s2 with
          | val v => simp only [frz_v] at e; simp [behB, behS, bind_k, kont_s, kont_n, pure_ev, rd_e, cst_e, view_t, view_s, esc_t, esc_s, frz_v, frz_l, up_s, up_n, views_n, views_c, escs_n, escs_c, op2_e, mBin_e, op1_e, mUn_e, aNil_e, aCons_e, opL_e, mFn_e, mkTup_e, mkLst_e, mTup_e, mLst_e, tob_e, tB_e, tAnd_e, tOr_e, tNot_e, tIte_e, mIte_e, mAnd_e, mOr_e, mNot_e, mChain_e, seqM_e, cNext_e, cBrk_e, cCont_e, cRetN_e, cIf_e, cExpr_e, cSet_e, setM_t, setM_s, setD_e, retM_t, retM_s, cRet_e, asgM_e, cAsg_e, gTup_e, gsNil_e, gsCons_e, setAtM_e, cSetAt_e, getAtM_e, cAugAt_e, cAug_e, isL_e, mutM_e, mMut_e, oNone_e, oSome_e, slM_e, mSl_e, seqM'_e, wSeq_e, walkM_e, wFn_e, escW_e, wEsc_e, cFor_e, mComp_e, compM_e, takes_n, takes_t, takes_s, puts_n, puts_t, puts_s, callM_e, mCall_e, mCallK_e, toS_t, toS_s, putS_e, cPar_e, if_ap, wipeM_e, stepC_e, turnL_e, wRev_e, pIx_l, pNeg, asB, el, e, eq, pr4]
          | lst v => simp only [frz_l] at e; simp [behB, behS, bind_k, kont_s, kont_n, pure_ev, rd_e, cst_e, view_t, view_s, esc_t, esc_s, frz_v, frz_l, up_s, up_n, views_n, views_c, escs_n, escs_c, op2_e, mBin_e, op1_e, mUn_e, aNil_e, aCons_e, opL_e, mFn_e, mkTup_e, mkLst_e, mTup_e, mLst_e, tob_e, tB_e, tAnd_e, tOr_e, tNot_e, tIte_e, mIte_e, mAnd_e, mOr_e, mNot_e, mChain_e, seqM_e, cNext_e, cBrk_e, cCont_e, cRetN_e, cIf_e, cExpr_e, cSet_e, setM_t, setM_s, setD_e, retM_t, retM_s, cRet_e, asgM_e, cAsg_e, gTup_e, gsNil_e, gsCons_e, setAtM_e, cSetAt_e, getAtM_e, cAugAt_e, cAug_e, isL_e, mutM_e, mMut_e, oNone_e, oSome_e, slM_e, mSl_e, seqM'_e, wSeq_e, walkM_e, wFn_e, escW_e, wEsc_e, cFor_e, mComp_e, compM_e, takes_n, takes_t, takes_s, puts_n, puts_t, puts_s, callM_e, mCall_e, mCallK_e, toS_t, toS_s, putS_e, cPar_e, if_ap, wipeM_e, stepC_e, turnL_e, wRev_e, pIx_l, pNeg, asB, el, e, eq, pr4]
        rw [while_s, bind_k, hc1, kont_s]
        simp only [if_true]
        rw [bind_k, hb1, kont_s]
        rfl
      · have hb1 : behB (behS d o1 s2 many (fs ++ [.tup (iz x)]) o5) = some (.next, behS d o1 (.val s2.frz) many ((fs ++ [.tup (iz x)]) ++ [.tup (iz (wordM rs x w))]) (some (.val (.tup (iz (wordM rs x w)))))) := by
          have hl : fs.length + 1 + 1 ≤ 100000 := by omega
          cases s2 with
          | val v => simp only [frz_v] at e; simp [behB, behS, bind_k, kont_s, kont_n, pure_ev, rd_e, cst_e, view_t, view_s, esc_t, esc_s, frz_v, frz_l, up_s, up_n, views_n, views_c, escs_n, escs_c, op2_e, mBin_e, op1_e, mUn_e, aNil_e, aCons_e, opL_e, mFn_e, mkTup_e, mkLst_e, mTup_e, mLst_e, tob_e, tB_e, tAnd_e, tOr_e, tNot_e, tIte_e, mIte_e, mAnd_e, mOr_e, mNot_e, mChain_e, seqM_e, cNext_e, cBrk_e, cCont_e, cRetN_e, cIf_e, cExpr_e, cSet_e, setM_t, setM_s, setD_e, retM_t, retM_s, cRet_e, asgM_e, cAsg_e, gTup_e, gsNil_e, gsCons_e, setAtM_e, cSetAt_e, getAtM_e, cAugAt_e, cAug_e, isL_e, mutM_e, mMut_e, oNone_e, oSome_e, slM_e, mSl_e, seqM'_e, wSeq_e, walkM_e, wFn_e, escW_e, wEsc_e, cFor_e, mComp_e, compM_e, takes_n, takes_t, takes_s, puts_n, puts_t, puts_s, callM_e, mCall_e, mCallK_e, toS_t, toS_s, putS_e, cPar_e, if_ap, wipeM_e, stepC_e, turnL_e, wRev_e, pIx_l, pNeg, asB, el, e, eq, hfix, pAppend, hl, pr4]
          | lst v => simp only [frz_l] at e; simp [behB, behS, bind_k, kont_s, kont_n, pure_ev, rd_e, cst_e, view_t, view_s, esc_t, esc_s, frz_v, frz_l, up_s, up_n, views_n, views_c, escs_n, escs_c, op2_e, mBin_e, op1_e, mUn_e, aNil_e, aCons_e, opL_e, mFn_e, mkTup_e, mkLst_e, mTup_e, mLst_e, tob_e, tB_e, tAnd_e, tOr_e, tNot_e, tIte_e, mIte_e, mAnd_e, mOr_e, mNot_e, mChain_e, seqM_e, cNext_e, cBrk_e, cCont_e, cRetN_e, cIf_e, cExpr_e, cSet_e, setM_t, setM_s, setD_e, retM_t, retM_s, cRet_e, asgM_e, cAsg_e, gTup_e, gsNil_e, gsCons_e, setAtM_e, cSetAt_e, getAtM_e, cAugAt_e, cAug_e, isL_e, mutM_e, mMut_e, oNone_e, oSome_e, slM_e, mSl_e, seqM'_e, wSeq_e, walkM_e, wFn_e, escW_e, wEsc_e, cFor_e, mComp_e, compM_e, takes_n, takes_t, takes_s, puts_n, puts_t, puts_s, callM_e, mCall_e, mCallK_e, toS_t, toS_s, putS_e, cPar_e, if_ap, wipeM_e, stepC_e, turnL_e, wRev_e, pIx_l, pNeg, asB, el, e, eq, hfix, pAppend, hl, pr4]
        obtain ⟨L, s2', o5', q1, ⟨fs', q2⟩, q3, q4⟩ := beh_loop (d := d) (o1 := o1) (w := w) hr hb hm (n := n) (j := j + 1) (fs := fs ++ [.tup (iz x)]) (x := wordM rs x w) (s2 := .val s2.frz) (o5 := some (.val (.tup (iz (wordM rs x w))))) (by omega) (by simp [hf]) (by omega) (wordM_len hx) hw.frz
        refine ⟨L, s2', o5', q1, ⟨fs', ?_⟩, q3, ?_⟩
        · rw [q2, show many - j = (many - (j + 1)) + 1 by omega]; rfl
        · rw [while_s, bind_k, hc1, kont_s]
          simp only [if_true]
          rw [bind_k, hb1, kont_s]
          exact q4
theorem beh_k {d e : D} {sw : S} {rs ls : List Int} {w : List (Str × Int)} {many n : Nat} (hr : Seqz d rs) (hs : Seqz e ls) (hl : ls.length = rs.length) (hb : rs.length ≤ 1000) (hm : many ≤ 90000) (hn : many < n) (hw : IsW w sw) :
    ∃ L sw', IsW w sw' ∧ L.length ≤ many + 1 ∧ (∃ fs', L = fs' ++ [.tup (iz (iter (fun y => wordM rs y w) many ls))]) ∧ behF n [.val d, .val e, sw, .val (.int many)] = some (.lst L, [.val d, .val e, sw', .val (.int many)]) := by
  obtain ⟨L, s2', o5', q1, q2, q3, q4⟩ := beh_loop (d := d) (o1 := some (.val e)) (w := w) hr hb hm (n := n) (j := 0) (fs := []) (x := ls) (s2 := sw) (o5 := none) (by omega) rfl (Nat.zero_le _) hl hw
  refine ⟨L, s2', q1, q3, q2, ?_⟩
  simp only [behS, List.nil_append] at q4
  rcases q4 with q4 | q4
  · rcases hs with rfl | rfl <;> simp [behF, fnM_e, bind_k, kont_s, kont_n, pure_ev, rd_e, cst_e, view_t, view_s, esc_t, esc_s, frz_v, frz_l, up_s, up_n, views_n, views_c, escs_n, escs_c, op2_e, mBin_e, op1_e, mUn_e, aNil_e, aCons_e, opL_e, mFn_e, mkTup_e, mkLst_e, mTup_e, mLst_e, tob_e, tB_e, tAnd_e, tOr_e, tNot_e, tIte_e, mIte_e, mAnd_e, mOr_e, mNot_e, mChain_e, seqM_e, cNext_e, cBrk_e, cCont_e, cRetN_e, cIf_e, cExpr_e, cSet_e, setM_t, setM_s, setD_e, retM_t, retM_s, cRet_e, asgM_e, cAsg_e, gTup_e, gsNil_e, gsCons_e, setAtM_e, cSetAt_e, getAtM_e, cAugAt_e, cAug_e, isL_e, mutM_e, mMut_e, oNone_e, oSome_e, slM_e, mSl_e, seqM'_e, wSeq_e, walkM_e, wFn_e, escW_e, wEsc_e, cFor_e, mComp_e, compM_e, takes_n, takes_t, takes_s, puts_n, puts_t, puts_s, callM_e, mCall_e, mCallK_e, toS_t, toS_s, putS_e, cPar_e, if_ap, wipeM_e, stepC_e, turnL_e, wRev_e, pTuple, q4, outs, pr4]
  · rcases hs with rfl | rfl <;> simp [behF, fnM_e, bind_k, kont_s, kont_n, pure_ev, rd_e, cst_e, view_t, view_s, esc_t, esc_s, frz_v, frz_l, up_s, up_n, views_n, views_c, escs_n, escs_c, op2_e, mBin_e, op1_e, mUn_e, aNil_e, aCons_e, opL_e, mFn_e, mkTup_e, mkLst_e, mTup_e, mLst_e, tob_e, tB_e, tAnd_e, tOr_e, tNot_e, tIte_e, mIte_e, mAnd_e, mOr_e, mNot_e, mChain_e, seqM_e, cNext_e, cBrk_e, cCont_e, cRetN_e, cIf_e, cExpr_e, cSet_e, setM_t, setM_s, setD_e, retM_t, retM_s, cRet_e, asgM_e, cAsg_e, gTup_e, gsNil_e, gsCons_e, setAtM_e, cSetAt_e, getAtM_e, cAugAt_e, cAug_e, isL_e, mutM_e, mMut_e, oNone_e, oSome_e, slM_e, mSl_e, seqM'_e, wSeq_e, walkM_e, wFn_e, escW_e, wEsc_e, cFor_e, mComp_e, compM_e, takes_n, takes_t, takes_s, puts_n, puts_t, puts_s, callM_e, mCall_e, mCallK_e, toS_t, toS_s, putS_e, cPar_e, if_ap, wipeM_e, stepC_e, turnL_e, wRev_e, pTuple, q4, outs, pr4]
def standsF (n : Nat) : Fm := fnM 3 4 pr3 (
    seqM (cSet 3 (mCall (behF n) [] (aCons (rd 0) (aCons (rd 1) (aCons (rd 2) (aCons (mBin pMul (cst (.int 2)) (mFn pSum (aCons (rd 0) (aNil)))) (aNil)))))))
    (cRet pr3 (mTup (aCons (mBin pSub (mFn pLen (aCons (rd 3) (aNil))) (cst (.int 1))) (aCons (mBin pIx (rd 3) (mUn pNeg (cst (.int 1)))) (aNil))))))
theorem stands_k {d e : D} {sw : S} {rs ls : List Int} {w : List (Str × Int)} {m n : Nat} (hr : Seqz d rs) (hs : Seqz e ls) (hl : ls.length = rs.length) (hb : rs.length ≤ 1000) (hm : rs.sum = m) (hm' : m ≤ 40000) (hn : 100000 ≤ n) (hw : IsW w sw) :
    ∃ j sw', IsW w sw' ∧ standsF n [.val d, .val e, sw] = some (.val (.tup [.int j, .tup (iz (iter (fun y => wordM rs y w) (2 * m) ls))]), [.val d, .val e, sw']) := by
  obtain ⟨L, sw', q1, q2, ⟨fs, q3⟩, q4⟩ := beh_k (many := 2 * m) (n := n) hr hs hl hb (by omega) (by omega) hw
  have c1 : CMul 2 (m : Int) := mull (by omega) (by omega)
  have el := at_last (fs := fs) (x := .tup (iz (iter (fun y => wordM rs y w) (2 * m) ls)))
  rw [← q3] at el
  rw [show ((2 * m : Nat) : Int) = 2 * (m : Int) by omega] at q4
  cases sw with
  | val v =>
    refine ⟨(L.length : Int) - 1, .val v, hw, ?_⟩
    rcases hr with rfl | rfl <;> simp [standsF, fnM_e, bind_k, kont_s, kont_n, pure_ev, rd_e, cst_e, view_t, view_s, esc_t, esc_s, frz_v, frz_l, up_s, up_n, views_n, views_c, escs_n, escs_c, op2_e, mBin_e, op1_e, mUn_e, aNil_e, aCons_e, opL_e, mFn_e, mkTup_e, mkLst_e, mTup_e, mLst_e, tob_e, tB_e, tAnd_e, tOr_e, tNot_e, tIte_e, mIte_e, mAnd_e, mOr_e, mNot_e, mChain_e, seqM_e, cNext_e, cBrk_e, cCont_e, cRetN_e, cIf_e, cExpr_e, cSet_e, setM_t, setM_s, setD_e, retM_t, retM_s, cRet_e, asgM_e, cAsg_e, gTup_e, gsNil_e, gsCons_e, setAtM_e, cSetAt_e, getAtM_e, cAugAt_e, cAug_e, isL_e, mutM_e, mMut_e, oNone_e, oSome_e, slM_e, mSl_e, seqM'_e, wSeq_e, walkM_e, wFn_e, escW_e, wEsc_e, cFor_e, mComp_e, compM_e, takes_n, takes_t, takes_s, puts_n, puts_t, puts_s, callM_e, mCall_e, mCallK_e, toS_t, toS_s, putS_e, cPar_e, if_ap, wipeM_e, stepC_e, turnL_e, wRev_e, pSum, dInts_iz, hm, pMul, c1, q4, pLen, pSub, pNeg, pIx_l, el, outs, pr3]
  | lst v =>
    refine ⟨(L.length : Int) - 1, sw', q1, ?_⟩
    rcases hr with rfl | rfl <;> cases sw' <;> simp [standsF, fnM_e, bind_k, kont_s, kont_n, pure_ev, rd_e, cst_e, view_t, view_s, esc_t, esc_s, frz_v, frz_l, up_s, up_n, views_n, views_c, escs_n, escs_c, op2_e, mBin_e, op1_e, mUn_e, aNil_e, aCons_e, opL_e, mFn_e, mkTup_e, mkLst_e, mTup_e, mLst_e, tob_e, tB_e, tAnd_e, tOr_e, tNot_e, tIte_e, mIte_e, mAnd_e, mOr_e, mNot_e, mChain_e, seqM_e, cNext_e, cBrk_e, cCont_e, cRetN_e, cIf_e, cExpr_e, cSet_e, setM_t, setM_s, setD_e, retM_t, retM_s, cRet_e, asgM_e, cAsg_e, gTup_e, gsNil_e, gsCons_e, setAtM_e, cSetAt_e, getAtM_e, cAugAt_e, cAug_e, isL_e, mutM_e, mMut_e, oNone_e, oSome_e, slM_e, mSl_e, seqM'_e, wSeq_e, walkM_e, wFn_e, escW_e, wEsc_e, cFor_e, mComp_e, compM_e, takes_n, takes_t, takes_s, puts_n, puts_t, puts_s, callM_e, mCall_e, mCallK_e, toS_t, toS_s, putS_e, cPar_e, if_ap, wipeM_e, stepC_e, turnL_e, wRev_e, pSum, dInts_iz, hm, pMul, c1, q4, pLen, pSub, pNeg, pIx_l, el, outs, pr3]
def prZ (i : Nat) : Bool := [0].contains i
def bareF : Fm := fnM 1 1 prZ (cRet prZ (mBin pMul (mTup (aCons (cst (.int 0)) (aNil))) (mFn pLen (aCons (rd 0) (aNil)))))
def fullF : Fm := fnM 1 1 prZ (cRet prZ (mFn pTuple (aCons (rd 0) (aNil))))
theorem bare_k {d : D} {rs : List Int} (hr : Seqz d rs) (hb : rs.length ≤ 1000) : bareF [.val d] = some (.val (.tup (iz (List.replicate rs.length 0))), [.val d]) := by
  have p1 : -1000000 ≤ (rs.length : Int) := by omega
  have p2 : (rs.length : Int) ≤ 1000 := by omega
  rcases hr with rfl | rfl <;> simp [bareF, fnM_e, bind_k, kont_s, kont_n, pure_ev, rd_e, cst_e, view_t, view_s, esc_t, esc_s, frz_v, frz_l, up_s, up_n, views_n, views_c, escs_n, escs_c, op2_e, mBin_e, op1_e, mUn_e, aNil_e, aCons_e, opL_e, mFn_e, mkTup_e, mkLst_e, mTup_e, mLst_e, tob_e, tB_e, tAnd_e, tOr_e, tNot_e, tIte_e, mIte_e, mAnd_e, mOr_e, mNot_e, mChain_e, seqM_e, cNext_e, cBrk_e, cCont_e, cRetN_e, cIf_e, cExpr_e, cSet_e, setM_t, setM_s, setD_e, retM_t, retM_s, cRet_e, asgM_e, cAsg_e, gTup_e, gsNil_e, gsCons_e, setAtM_e, cSetAt_e, getAtM_e, cAugAt_e, cAug_e, isL_e, mutM_e, mMut_e, oNone_e, oSome_e, slM_e, mSl_e, seqM'_e, wSeq_e, walkM_e, wFn_e, escW_e, wEsc_e, cFor_e, mComp_e, compM_e, takes_n, takes_t, takes_s, puts_n, puts_t, puts_s, callM_e, mCall_e, mCallK_e, toS_t, toS_s, putS_e, cPar_e, if_ap, wipeM_e, stepC_e, turnL_e, wRev_e, pLen, iz_len, pMul, hb, p1, p2, iz_rep1, outs, prZ]
theorem full_k {d : D} {rs : List Int} (hr : Seqz d rs) : fullF [.val d] = some (.val (.tup (iz rs)), [.val d]) := by
  rcases hr with rfl | rfl <;> simp [fullF, fnM_e, bind_k, kont_s, kont_n, pure_ev, rd_e, cst_e, view_t, view_s, esc_t, esc_s, frz_v, frz_l, up_s, up_n, views_n, views_c, escs_n, escs_c, op2_e, mBin_e, op1_e, mUn_e, aNil_e, aCons_e, opL_e, mFn_e, mkTup_e, mkLst_e, mTup_e, mLst_e, tob_e, tB_e, tAnd_e, tOr_e, tNot_e, tIte_e, mIte_e, mAnd_e, mOr_e, mNot_e, mChain_e, seqM_e, cNext_e, cBrk_e, cCont_e, cRetN_e, cIf_e, cExpr_e, cSet_e, setM_t, setM_s, setD_e, retM_t, retM_s, cRet_e, asgM_e, cAsg_e, gTup_e, gsNil_e, gsCons_e, setAtM_e, cSetAt_e, getAtM_e, cAugAt_e, cAug_e, isL_e, mutM_e, mMut_e, oNone_e, oSome_e, slM_e, mSl_e, seqM'_e, wSeq_e, walkM_e, wFn_e, escW_e, wEsc_e, cFor_e, mComp_e, compM_e, takes_n, takes_t, takes_s, puts_n, puts_t, puts_s, callM_e, mCall_e, mCallK_e, toS_t, toS_s, putS_e, cPar_e, if_ap, wipeM_e, stepC_e, turnL_e, wRev_e, pTuple, outs, prZ]
def leastF (n : Nat) (f : Fm) : Fm := fnM 2 2 prT (cRet prT (mBin pIx (mCall (standsF n) [] (aCons (rd 0) (aCons (mCall f [] (aCons (rd 0) (aNil))) (aCons (rd 1) (aNil))))) (cst (.int 1))))
theorem least_k {f : Fm} {d : D} {sw : S} {rs ls : List Int} {w : List (Str × Int)} {m n : Nat} (hf : f [.val d] = some (.val (.tup (iz ls)), [.val d])) (hr : Seqz d rs) (hl : ls.length = rs.length) (hb : rs.length ≤ 1000) (hm : rs.sum = m) (hm' : m ≤ 40000) (hn : 100000 ≤ n) (hw : IsW w sw) :
    ∃ sw', IsW w sw' ∧ leastF n f [.val d, sw] = some (.val (.tup (iz (iter (fun y => wordM rs y w) (2 * m) ls))), [.val d, sw']) := by
  obtain ⟨j, sw', q1, q2⟩ := stands_k (n := n) hr (.inl rfl : Seqz (.tup (iz ls)) ls) hl hb hm hm' hn hw
  have e1 : atI [D.int j, .tup (iz (iter (fun y => wordM rs y w) (2 * m) ls))] 1 = some (.tup (iz (iter (fun y => wordM rs y w) (2 * m) ls))) := rfl
  cases sw with
  | val v =>
    refine ⟨.val v, hw, ?_⟩
    simp [leastF, fnM_e, bind_k, kont_s, kont_n, pure_ev, rd_e, cst_e, view_t, view_s, esc_t, esc_s, frz_v, frz_l, up_s, up_n, views_n, views_c, escs_n, escs_c, op2_e, mBin_e, op1_e, mUn_e, aNil_e, aCons_e, opL_e, mFn_e, mkTup_e, mkLst_e, mTup_e, mLst_e, tob_e, tB_e, tAnd_e, tOr_e, tNot_e, tIte_e, mIte_e, mAnd_e, mOr_e, mNot_e, mChain_e, seqM_e, cNext_e, cBrk_e, cCont_e, cRetN_e, cIf_e, cExpr_e, cSet_e, setM_t, setM_s, setD_e, retM_t, retM_s, cRet_e, asgM_e, cAsg_e, gTup_e, gsNil_e, gsCons_e, setAtM_e, cSetAt_e, getAtM_e, cAugAt_e, cAug_e, isL_e, mutM_e, mMut_e, oNone_e, oSome_e, slM_e, mSl_e, seqM'_e, wSeq_e, walkM_e, wFn_e, escW_e, wEsc_e, cFor_e, mComp_e, compM_e, takes_n, takes_t, takes_s, puts_n, puts_t, puts_s, callM_e, mCall_e, mCallK_e, toS_t, toS_s, putS_e, cPar_e, if_ap, wipeM_e, stepC_e, turnL_e, wRev_e, hf, q2, pIx_t, e1, outs, prT]
  | lst v =>
    refine ⟨sw', q1, ?_⟩
    cases sw' <;> simp [leastF, fnM_e, bind_k, kont_s, kont_n, pure_ev, rd_e, cst_e, view_t, view_s, esc_t, esc_s, frz_v, frz_l, up_s, up_n, views_n, views_c, escs_n, escs_c, op2_e, mBin_e, op1_e, mUn_e, aNil_e, aCons_e, opL_e, mFn_e, mkTup_e, mkLst_e, mTup_e, mLst_e, tob_e, tB_e, tAnd_e, tOr_e, tNot_e, tIte_e, mIte_e, mAnd_e, mOr_e, mNot_e, mChain_e, seqM_e, cNext_e, cBrk_e, cCont_e, cRetN_e, cIf_e, cExpr_e, cSet_e, setM_t, setM_s, setD_e, retM_t, retM_s, cRet_e, asgM_e, cAsg_e, gTup_e, gsNil_e, gsCons_e, setAtM_e, cSetAt_e, getAtM_e, cAugAt_e, cAug_e, isL_e, mutM_e, mMut_e, oNone_e, oSome_e, slM_e, mSl_e, seqM'_e, wSeq_e, walkM_e, wFn_e, escW_e, wEsc_e, cFor_e, mComp_e, compM_e, takes_n, takes_t, takes_s, puts_n, puts_t, puts_s, callM_e, mCall_e, mCallK_e, toS_t, toS_s, putS_e, cPar_e, if_ap, wipeM_e, stepC_e, turnL_e, wRev_e, hf, q2, pIx_t, e1, outs, prT]
/-! ### partial sums -/
def sums : Int → List Int → List Int
  | a, [] => [a]
  | a, x :: xs => a :: sums (a + x) xs
def sumsF : Fm := fnM 1 3 prZ (
    seqM (cSet 1 (mLst (aCons (cst (.int 0)) (aNil))))
    (seqM (cFor (wSeq (rd 0)) (setD 2) (cExpr (mMut 1 pAppend (aCons (mBin pAdd (mBin pIx (rd 1) (mUn pNeg (cst (.int 1)))) (rd 2)) (aNil)))))
    (cRet prZ (rd 1))))
theorem sums_loop {o0 : Option S} : ∀ {xs : List Int} {fs : List Int} {a : Int} {o2 : Option S}, fs.length + xs.length ≤ 10000 → ∃ o2',
    loopM (setD 2) (cExpr (mMut 1 pAppend (aCons (mBin pAdd (mBin pIx (rd 1) (mUn pNeg (cst (.int 1)))) (rd 2)) (aNil)))) (iz xs) [o0, some (.lst (iz fs ++ [.int a])), o2] = some (.next, [o0, some (.lst (iz fs ++ iz (sums a xs))), o2'])
  | [], fs, a, o2, _ => ⟨o2, rfl⟩
  | x :: xs, fs, a, o2, h => by
    simp only [List.length_cons] at h
    obtain ⟨o2', ih⟩ := sums_loop (o0 := o0) (xs := xs) (fs := fs ++ [a]) (a := a + x) (o2 := some (.val (.int x))) (by simp; omega)
    refine ⟨o2', ?_⟩
    have el := at_last (fs := iz fs) (x := .int a)
    have hl : fs.length + 1 + 1 ≤ 100000 := by omega
    show loopM _ _ (.int x :: iz xs) _ = _
    have turn : turnL (setD 2) (cExpr (mMut 1 pAppend (aCons (mBin pAdd (mBin pIx (rd 1) (mUn pNeg (cst (.int 1)))) (rd 2)) (aNil)))) (.int x) [o0, some (.lst (iz fs ++ [.int a])), o2] = some (.next, [o0, some (.lst (iz (fs ++ [a]) ++ [.int (a + x)])), some (.val (.int x))]) := by
      rw [← iz_app, ← iz_one]
      simp [bind_k, kont_s, kont_n, pure_ev, rd_e, cst_e, view_t, view_s, esc_t, esc_s, frz_v, frz_l, up_s, up_n, views_n, views_c, escs_n, escs_c, op2_e, mBin_e, op1_e, mUn_e, aNil_e, aCons_e, opL_e, mFn_e, mkTup_e, mkLst_e, mTup_e, mLst_e, tob_e, tB_e, tAnd_e, tOr_e, tNot_e, tIte_e, mIte_e, mAnd_e, mOr_e, mNot_e, mChain_e, seqM_e, cNext_e, cBrk_e, cCont_e, cRetN_e, cIf_e, cExpr_e, cSet_e, setM_t, setM_s, setD_e, retM_t, retM_s, cRet_e, asgM_e, cAsg_e, gTup_e, gsNil_e, gsCons_e, setAtM_e, cSetAt_e, getAtM_e, cAugAt_e, cAug_e, isL_e, mutM_e, mMut_e, oNone_e, oSome_e, slM_e, mSl_e, seqM'_e, wSeq_e, walkM_e, wFn_e, escW_e, wEsc_e, cFor_e, mComp_e, compM_e, takes_n, takes_t, takes_s, puts_n, puts_t, puts_s, callM_e, mCall_e, mCallK_e, toS_t, toS_s, putS_e, cPar_e, if_ap, wipeM_e, stepC_e, turnL_e, wRev_e, pIx_l, pNeg, pAdd, pAppend, el, iz_len, hl]
    rw [loopM_cons, turn]
    simp only [Option.bind_some]
    rw [ih, ← iz_app, List.append_assoc]
    rfl
theorem sums_k {xs : List Int} (h : xs.length ≤ 9000) : sumsF [.val (.tup (iz xs))] = some (.lst (iz (sums 0 xs)), [.val (.tup (iz xs))]) := by
  obtain ⟨o2', e⟩ := sums_loop (o0 := some (.val (.tup (iz xs)))) (xs := xs) (fs := []) (a := 0) (o2 := none) (by simp; omega)
  simp only [iz, List.map_nil, List.nil_append] at e
  simp [sumsF, fnM_e, bind_k, kont_s, kont_n, pure_ev, rd_e, cst_e, view_t, view_s, esc_t, esc_s, frz_v, frz_l, up_s, up_n, views_n, views_c, escs_n, escs_c, op2_e, mBin_e, op1_e, mUn_e, aNil_e, aCons_e, opL_e, mFn_e, mkTup_e, mkLst_e, mTup_e, mLst_e, tob_e, tB_e, tAnd_e, tOr_e, tNot_e, tIte_e, mIte_e, mAnd_e, mOr_e, mNot_e, mChain_e, seqM_e, cNext_e, cBrk_e, cCont_e, cRetN_e, cIf_e, cExpr_e, cSet_e, setM_t, setM_s, setD_e, retM_t, retM_s, cRet_e, asgM_e, cAsg_e, gTup_e, gsNil_e, gsCons_e, setAtM_e, cSetAt_e, getAtM_e, cAugAt_e, cAug_e, isL_e, mutM_e, mMut_e, oNone_e, oSome_e, slM_e, mSl_e, seqM'_e, wSeq_e, walkM_e, wFn_e, escW_e, wEsc_e, cFor_e, mComp_e, compM_e, takes_n, takes_t, takes_s, puts_n, puts_t, puts_s, callM_e, mCall_e, mCallK_e, toS_t, toS_s, putS_e, cPar_e, if_ap, wipeM_e, stepC_e, turnL_e, wRev_e, seqOf, iz, e, outs, prZ]
theorem sums_len : ∀ {xs : List Int} {a : Int}, (sums a xs).length = xs.length + 1
  | [], _ => rfl
  | x :: xs, a => by rw [sums, List.length_cons, sums_len, List.length_cons]
theorem sums_le : ∀ {xs ys : List Int} {a b : Int}, Le xs ys → a ≤ b → Le (sums a xs) (sums b ys)
  | _, _, a, b, .nil, h => .cons h .nil
  | _, _, a, b, .cons c r, h => .cons h (sums_le r (by omega))
end DL

namespace LW
open PySem PySem.Spec PyProof.Rows L2 DL
def fuel : Nat := 1000000
/-! ### the text -/
def topS (i : Nat) : Stmt := PySem.Challenge.pw_breathrows_k30_the_least_and_the_greates.main.body.getD i (.Pass ⟨0, 0, 0, 0⟩)
abbrev s_w_all : Stmt := topS 26
abbrev N_w_all : List Str := ["_law_sizes_here", "_law_found", "_law_size", "_law_longer", "_law_lot", "_law_here"]
theorem sc_w_all : FnScope N_w_all ["_law_sizes_here"] (defScope s_w_all) := ⟨rfl, rfl, rfl, by decide +kernel, rfl, by decide +kernel, by decide +kernel⟩
abbrev s_w_take : Stmt := topS 18
abbrev N_w_take : List Str := ["_law_box_here", "_law_below", "_law_found", "_law_once"]
theorem sc_w_take : FnScope N_w_take ["_law_box_here", "_law_below"] (defScope s_w_take) := ⟨rfl, rfl, rfl, by decide +kernel, rfl, by decide +kernel, by decide +kernel⟩
abbrev s_w_sizes : Stmt := topS 20
abbrev N_w_sizes : List Str := ["_law_box_here", "_law_most", "_law_high", "_law_k"]
theorem sc_w_sizes : FnScope N_w_sizes ["_law_box_here", "_law_most", "_law_high"] (defScope s_w_sizes) := ⟨rfl, rfl, rfl, by decide +kernel, rfl, by decide +kernel, by decide +kernel⟩
abbrev s_w_runs : Stmt := topS 23
abbrev N_w_runs : List Str := ["_law_box_here", "_law_most", "_law_high", "_law_found", "_law_k"]
theorem sc_w_runs : FnScope N_w_runs ["_law_box_here", "_law_most", "_law_high"] (defScope s_w_runs) := ⟨rfl, rfl, rfl, by decide +kernel, rfl, by decide +kernel, by decide +kernel⟩
abbrev s_w_spot : Stmt := topS 21
abbrev N_w_spot : List Str := ["_law_sizes_here", "_law_lot", "_law_breath", "_law_spots", "_law_spot_here"]
theorem sc_w_spot : FnScope N_w_spot ["_law_sizes_here", "_law_lot", "_law_breath"] (defScope s_w_spot) := ⟨rfl, rfl, rfl, by decide +kernel, rfl, by decide +kernel, by decide +kernel⟩
abbrev s_w_breathed : Stmt := topS 22
abbrev N_w_breathed : List Str := ["_law_sizes_here", "_law_lot", "_law_breath", "_law_spot_here", "_law_here"]
theorem sc_w_breathed : FnScope N_w_breathed ["_law_sizes_here", "_law_lot", "_law_breath"] (defScope s_w_breathed) := ⟨rfl, rfl, rfl, by decide +kernel, rfl, by decide +kernel, by decide +kernel⟩
abbrev s_w_gone : Stmt := topS 24
abbrev N_w_gone : List Str := ["_law_sizes_here", "_law_lot", "_law_runs_here", "_law_breath", "_law_often", "_law_turn"]
theorem sc_w_gone : FnScope N_w_gone ["_law_sizes_here", "_law_lot", "_law_runs_here"] (defScope s_w_gone) := ⟨rfl, rfl, rfl, by decide +kernel, rfl, by decide +kernel, by decide +kernel⟩
abbrev s_w_end : Stmt := topS 27
abbrev N_w_end : List Str := ["_law_sizes_here", "_law_lot", "_law_runs_here", "_law_turn"]
theorem sc_w_end : FnScope N_w_end ["_law_sizes_here", "_law_lot", "_law_runs_here"] (defScope s_w_end) := ⟨rfl, rfl, rfl, by decide +kernel, rfl, by decide +kernel, by decide +kernel⟩
abbrev s_w_same : Stmt := topS 19
abbrev N_w_same : List Str := ["_law_found", "_law_due", "_law_mine", "_law_its"]
theorem sc_w_same : FnScope N_w_same ["_law_found", "_law_due"] (defScope s_w_same) := ⟨rfl, rfl, rfl, by decide +kernel, rfl, by decide +kernel, by decide +kernel⟩
abbrev s_from_its_hand : Stmt := topS 7
abbrev N_from_its_hand : List Str := ["some", "breath"]
theorem sc_from_its_hand : FnScope N_from_its_hand ["some", "breath"] (defScope s_from_its_hand) := ⟨rfl, rfl, rfl, by decide +kernel, rfl, by decide +kernel, by decide +kernel⟩
abbrev s_run_done : Stmt := topS 8
abbrev N_run_done : List Str := ["rooms", "standing", "breath", "many", "found", "left", "place", "room", "goes"]
theorem sc_run_done : FnScope N_run_done ["rooms", "standing", "breath", "many"] (defScope s_run_done) := ⟨rfl, rfl, rfl, by decide +kernel, rfl, by decide +kernel, by decide +kernel⟩
abbrev s_breathed : Stmt := topS 9
abbrev N_breathed : List Str := ["rooms", "standing", "word", "found", "breath", "many", "heard_now"]
theorem sc_breathed : FnScope N_breathed ["rooms", "standing", "word"] (defScope s_breathed) := ⟨rfl, rfl, rfl, by decide +kernel, rfl, by decide +kernel, by decide +kernel⟩
abbrev s_behind_each : Stmt := topS 11
abbrev N_behind_each : List Str := ["rooms", "standing", "word", "many", "found", "later"]
theorem sc_behind_each : FnScope N_behind_each ["rooms", "standing", "word", "many"] (defScope s_behind_each) := ⟨rfl, rfl, rfl, by decide +kernel, rfl, by decide +kernel, by decide +kernel⟩
abbrev s_stands : Stmt := topS 13
abbrev N_stands : List Str := ["rooms", "standing", "word", "found"]
theorem sc_stands : FnScope N_stands ["rooms", "standing", "word"] (defScope s_stands) := ⟨rfl, rfl, rfl, by decide +kernel, rfl, by decide +kernel, by decide +kernel⟩
abbrev s_bare : Stmt := topS 1
abbrev N_bare : List Str := ["rooms"]
theorem sc_bare : FnScope N_bare ["rooms"] (defScope s_bare) := ⟨rfl, rfl, rfl, by decide +kernel, rfl, by decide +kernel, by decide +kernel⟩
abbrev s_least_still : Stmt := topS 14
abbrev N_least_still : List Str := ["rooms", "word"]
theorem sc_least_still : FnScope N_least_still ["rooms", "word"] (defScope s_least_still) := ⟨rfl, rfl, rfl, by decide +kernel, rfl, by decide +kernel, by decide +kernel⟩
abbrev s_full : Stmt := topS 2
abbrev N_full : List Str := ["rooms"]
theorem sc_full : FnScope N_full ["rooms"] (defScope s_full) := ⟨rfl, rfl, rfl, by decide +kernel, rfl, by decide +kernel, by decide +kernel⟩
abbrev s_greatest_still : Stmt := topS 15
abbrev N_greatest_still : List Str := ["rooms", "word"]
theorem sc_greatest_still : FnScope N_greatest_still ["rooms", "word"] (defScope s_greatest_still) := ⟨rfl, rfl, rfl, by decide +kernel, rfl, by decide +kernel, by decide +kernel⟩
abbrev s_w_sums : Stmt := topS 25
abbrev N_w_sums : List Str := ["_law_lot", "_law_found", "_law_here"]
theorem sc_w_sums : FnScope N_w_sums ["_law_lot"] (defScope s_w_sums) := ⟨rfl, rfl, rfl, by decide +kernel, rfl, by decide +kernel, by decide +kernel⟩
abbrev s_w_right : Stmt := topS 28
abbrev N_w_right : List Str := ["_law_box_here", "_law_turn", "_law_sizes_here", "_law_runs_here", "_law_least", "_law_most", "_law_told", "_law_low", "_law_high", "_law_lot", "_law_here", "_law_k"]
theorem sc_w_right : FnScope N_w_right ["_law_box_here"] (defScope s_w_right) := ⟨rfl, rfl, rfl, by decide +kernel, rfl, by decide +kernel, by decide +kernel⟩
abbrev s_w_box : Stmt := topS 17
abbrev N_w_box : List Str := ["_law_script", "_law_k", "_law_cell"]
theorem sc_w_box : FnScope N_w_box ["_law_script", "_law_k"] (defScope s_w_box) := ⟨rfl, rfl, rfl, by decide +kernel, rfl, by decide +kernel, by decide +kernel⟩
abbrev s_law : Stmt := topS 29
abbrev N_law : List Str := ["_law_script", "_law_k"]
theorem sc_law : FnScope N_law ["_law_script"] (defScope s_law) := ⟨rfl, rfl, rfl, by decide +kernel, rfl, by decide +kernel, by decide +kernel⟩
/-! ### what each def does -/
def pr_w_all (i : Nat) : Bool := [0].contains i
def m_w_all : M Fl :=
    seqM (cSet 1 (mLst (aCons (mTup (aNil)) (aNil))))
    (seqM (cFor (wSeq (rd 0)) (setD 2) (seqM (cSet 3 (mLst (aNil)))
    (seqM (cFor (wSeq (rd 1)) (setD 4) (cSet 3 (mBin pAdd (rd 3) (mComp (wFn p1 (aCons (mBin pAdd (rd 2) (cst (.int 1))) (aNil))) [5] (setD 5) (pure true) (mBin pAdd (rd 4) (mTup (aCons (rd 5) (aNil))))))))
    (cSet 1 (rd 3)))))
    (cRet pr_w_all (rd 1)))
def F_w_all : Fm := fnM 1 6 pr_w_all m_w_all
def pr_w_take (i : Nat) : Bool := [0, 1].contains i
def m_w_take : M Fl :=
    seqM (cIf (tB' (mBin pGt (mBin pIx (rd 0) (cst (.int 0))) (cst (.int 0)))) (seqM (cSet 2 (mBin pMod (mBin pIx (rd 0) (cst (.int 0))) (rd 1)))
    (seqM (cSetAt 0 (cst (.int 0)) (mBin pDiv (mBin pIx (rd 0) (cst (.int 0))) (rd 1)))
    (cRet pr_w_take (rd 2)))) (cNext))
    (seqM (cSetAt 0 (cst (.int 2)) (mBin pAdd (mBin pIx (rd 0) (cst (.int 2))) (cst (.int 1))))
    (seqM (cSet 3 (mBin pMod (mBin pPow (mBin pAdd (mBin pIx (rd 0) (cst (.int 1))) (mBin pMul (cst (.int 48271)) (mBin pIx (rd 0) (cst (.int 2))))) (cst (.int 5))) (cst (.int 2147483647))))
    (cRet pr_w_take (mBin pMod (mBin pDiv (mBin pMod (mBin pAdd (mBin pMul (rd 3) (mBin pAdd (mBin pMod (rd 3) (cst (.int 30011))) (cst (.int 7)))) (mBin pMul (mBin pIx (rd 0) (cst (.int 2))) (cst (.int 7919)))) (cst (.int 2147483629))) (cst (.int 64))) (rd 1)))))
def F_w_take : Fm := fnM 2 4 pr_w_take m_w_take
def pr_w_sizes (i : Nat) : Bool := [0, 1, 2].contains i
def m_w_sizes : M Fl :=
    cRet pr_w_sizes (mFn pTuple (aCons (mComp (wFn p1 (aCons (mBin pAdd (cst (.int 1)) (mCall F_w_take [] (aCons (rd 0) (aCons (rd 1) (aNil))))) (aNil))) [3] (setD 3) (pure true) (mBin pAdd (cst (.int 1)) (mCall F_w_take [] (aCons (rd 0) (aCons (rd 2) (aNil)))))) (aNil)))
def F_w_sizes : Fm := fnM 3 4 pr_w_sizes m_w_sizes
def pr_w_runs (i : Nat) : Bool := [0, 1, 2].contains i
def m_w_runs : M Fl :=
    seqM (cSet 3 (mLst (aNil)))
    (seqM (cFor (wFn p1 (aCons (mCall F_w_take [] (aCons (rd 0) (aCons (mBin pAdd (rd 1) (cst (.int 1))) (aNil)))) (aNil))) (setD 4) (cExpr (mMut 3 pAppend (aCons (mTup (aCons (mBin pIx (mLst (aCons (cst (.str "L+")) (aCons (cst (.str "L-")) (aCons (cst (.str "R+")) (aCons (cst (.str "R-")) (aNil)))))) (mCall F_w_take [] (aCons (rd 0) (aCons (cst (.int 4)) (aNil))))) (aCons (mBin pAdd (cst (.int 1)) (mCall F_w_take [] (aCons (rd 0) (aCons (rd 2) (aNil))))) (aNil)))) (aNil)))))
    (cRet pr_w_runs (rd 3)))
def F_w_runs : Fm := fnM 3 5 pr_w_runs m_w_runs
def pr_w_spot (i : Nat) : Bool := [0, 1, 2].contains i
def m_w_spot : M Fl :=
    seqM (cSet 3 (mUn pLR1 (mFn pLen (aCons (rd 0) (aNil)))))
    (seqM (cFor (wSeq (mIte (tB' (mBin pEq (mBin pIx (rd 2) (cst (.int 0))) (cst (.str "L")))) (rd 3) (mUn pRev (rd 3)))) (setD 4) (cIf (tIte' (tB' (mBin pEq (mBin pIx (rd 2) (cst (.int 1))) (cst (.str "+")))) (tB' (mBin pLt (mBin pIx (rd 1) (rd 4)) (mBin pIx (rd 0) (rd 4)))) (tB' (mBin pGt (mBin pIx (rd 1) (rd 4)) (cst (.int 0))))) (cRet pr_w_spot (rd 4)) (cNext)))
    (cRet pr_w_spot (cst .non)))
def F_w_spot : Fm := fnM 3 5 pr_w_spot m_w_spot
def pr_w_breathed (i : Nat) : Bool := [0, 1, 2].contains i
def m_w_breathed : M Fl :=
    seqM (cSet 3 (mCall F_w_spot [] (aCons (rd 0) (aCons (rd 1) (aCons (rd 2) (aNil))))))
    (seqM (cIf (tB' (mBin pIs (rd 3) (cst .non))) (cRet pr_w_breathed (rd 1)) (cNext))
    (seqM (cSet 4 (mBin pAdd (mBin pIx (rd 1) (rd 3)) (mIte (tB' (mBin pEq (mBin pIx (rd 2) (cst (.int 1))) (cst (.str "+")))) (cst (.int 1)) (mUn pNeg (cst (.int 1))))))
    (cRet pr_w_breathed (mBin pAdd (mBin pAdd (mSl (rd 1) (oNone) (oSome (rd 3))) (mTup (aCons (rd 4) (aNil)))) (mSl (rd 1) (oSome (mBin pAdd (rd 3) (cst (.int 1)))) (oNone))))))
def F_w_breathed : Fm := fnM 3 5 pr_w_breathed m_w_breathed
def pr_w_gone (i : Nat) : Bool := [0, 2].contains i
def m_w_gone : M Fl :=
    seqM (cFor (wSeq (rd 2)) (gTupM (gsCons (setD 3) (gsCons (setD 4) (gsNil)))) (cFor (wFn p1 (aCons (rd 4) (aNil))) (setD 5) (cSet 1 (mCall F_w_breathed [] (aCons (rd 0) (aCons (rd 1) (aCons (rd 3) (aNil))))))))
    (cRet pr_w_gone (rd 1))
def F_w_gone : Fm := fnM 3 6 pr_w_gone m_w_gone
def pr_w_end (i : Nat) : Bool := [0, 2].contains i
def m_w_end : M Fl :=
    seqM (cFor (wFn p1 (aCons (mFn pSum (aCons (rd 0) (aNil))) (aNil))) (setD 3) (cSet 1 (mCall F_w_gone [] (aCons (rd 0) (aCons (rd 1) (aCons (rd 2) (aNil)))))))
    (cRet pr_w_end (rd 1))
def F_w_end : Fm := fnM 3 4 pr_w_end m_w_end
def pr_w_same (i : Nat) : Bool := [0, 1].contains i
def m_w_same (f_w_same : Fm) : M Fl :=
    seqM (cIf (tB' (mUn (pIsT2 "list" "tuple") (rd 1))) (seqM (cIf (tOr' (tB' (mBin pNe (mUn (pIsT "list") (rd 0)) (mUn (pIsT "list") (rd 1)))) (tB' (mBin pNe (mUn (pIsT "tuple") (rd 0)) (mUn (pIsT "tuple") (rd 1))))) (cRet pr_w_same (cst (.bl false))) (cNext))
    (cRet pr_w_same (mAnd (mBin pEq (mFn pLen (aCons (rd 0) (aNil))) (mFn pLen (aCons (rd 1) (aNil)))) (mFn pAll (aCons (mComp (wEsc pZip (aCons (rd 0) (aCons (rd 1) (aNil)))) [2, 3] (gTupM (gsCons (setD 2) (gsCons (setD 3) (gsNil)))) (pure true) (mCall f_w_same [] (aCons (rd 2) (aCons (rd 3) (aNil))))) (aNil)))))) (cNext))
    (seqM (cIf (tOr' (tB' (mBin pIs (rd 1) (cst .non))) (tB' (mUn (pIsT "str") (rd 1)))) (cRet pr_w_same (mAnd (mBin pEq (rd 0) (rd 1)) (mBin pEq (mUn (pIsT "str") (rd 0)) (mUn (pIsT "str") (rd 1))))) (cNext))
    (cRet pr_w_same (mAnd (mUn (pIsT "int") (rd 0)) (mAnd (mBin pEq (mUn (pIsT "bool") (rd 0)) (mUn (pIsT "bool") (rd 1))) (mBin pEq (rd 0) (rd 1))))))
def F_w_same : Nat → Fm
  | 0 => fun _ => none
  | n + 1 => fnM 2 4 pr_w_same (m_w_same (F_w_same n))
def pr_from_its_hand (i : Nat) : Bool := [0, 1].contains i
def m_from_its_hand : M Fl :=
    cRet pr_from_its_hand (mIte (tB' (mBin pIn (rd 1) (mTup (aCons (cst (.str "L+")) (aCons (cst (.str "L-")) (aNil)))))) (mFn pList (aCons (rd 0) (aNil))) (mUn pRevL (rd 0)))
def F_from_its_hand : Fm := fnM 2 2 pr_from_its_hand m_from_its_hand
def pr_run_done (i : Nat) : Bool := [0, 1, 2, 3].contains i
def m_run_done : M Fl :=
    seqM (cPar 4 5 (aCons (mCall F_from_its_hand [] (aCons (rd 1) (aCons (rd 2) (aNil)))) (aCons (rd 3) (aNil))))
    (seqM (cFor (wEsc pEnum (aCons (mCall F_from_its_hand [] (aCons (rd 0) (aCons (rd 2) (aNil)))) (aNil))) (gTupM (gsCons (setD 6) (gsCons (setD 7) (gsNil)))) (seqM (cIf (tB' (mBin pIn (rd 2) (mTup (aCons (cst (.str "L+")) (aCons (cst (.str "R+")) (aNil)))))) (seqM (cSet 8 (mFn pMin2 (aCons (rd 5) (aCons (mBin pSub (rd 7) (mBin pIx (rd 4) (rd 6))) (aNil)))))
    (cAugAt 4 pAddI (rd 6) (rd 8))) (seqM (cSet 8 (mFn pMin2 (aCons (rd 5) (aCons (mBin pIx (rd 4) (rd 6)) (aNil)))))
    (cAugAt 4 pSub (rd 6) (rd 8))))
    (cAug 5 pSub (rd 8))))
    (cRet pr_run_done (mTup (aCons (mFn pTuple (aCons (mCall F_from_its_hand [] (aCons (rd 4) (aCons (rd 2) (aNil)))) (aNil))) (aCons (rd 5) (aNil))))))
def F_run_done : Fm := fnM 4 9 pr_run_done m_run_done
def pr_breathed (i : Nat) : Bool := [0, 1, 2].contains i
def m_breathed : M Fl :=
    seqM (cSet 3 (mFn pTuple (aCons (rd 1) (aNil))))
    (seqM (cFor (wSeq (rd 2)) (gTupM (gsCons (setD 4) (gsCons (setD 5) (gsNil)))) (cAsg (gTupM (gsCons (setD 3) (gsCons (setD 6) (gsNil)))) (mCall F_run_done [] (aCons (rd 0) (aCons (rd 3) (aCons (rd 4) (aCons (rd 5) (aNil))))))))
    (cRet pr_breathed (rd 3)))
def F_breathed : Fm := fnM 3 7 pr_breathed m_breathed
def pr_behind_each (i : Nat) : Bool := [0, 1, 2, 3].contains i
def m_behind_each : M Fl :=
    seqM (cSet 4 (mLst (aCons (mFn pTuple (aCons (rd 1) (aNil))) (aNil))))
    (seqM (whileM (tB' (mBin pLe (mFn pLen (aCons (rd 4) (aNil))) (rd 3))) (seqM (cSet 5 (mCall F_breathed [] (aCons (rd 0) (aCons (mBin pIx (rd 4) (mUn pNeg (cst (.int 1)))) (aCons (rd 2) (aNil))))))
    (seqM (cIf (tB' (mBin pEq (rd 5) (mBin pIx (rd 4) (mUn pNeg (cst (.int 1)))))) (cRet pr_behind_each (rd 4)) (cNext))
    (cExpr (mMut 4 pAppend (aCons (rd 5) (aNil)))))) fuel)
    (cRet pr_behind_each (rd 4)))
def F_behind_each : Fm := fnM 4 6 pr_behind_each m_behind_each
def pr_stands (i : Nat) : Bool := [0, 1, 2].contains i
def m_stands : M Fl :=
    seqM (cSet 3 (mCall F_behind_each [] (aCons (rd 0) (aCons (rd 1) (aCons (rd 2) (aCons (mBin pMul (cst (.int 2)) (mFn pSum (aCons (rd 0) (aNil)))) (aNil)))))))
    (cRet pr_stands (mTup (aCons (mBin pSub (mFn pLen (aCons (rd 3) (aNil))) (cst (.int 1))) (aCons (mBin pIx (rd 3) (mUn pNeg (cst (.int 1)))) (aNil)))))
def F_stands : Fm := fnM 3 4 pr_stands m_stands
def pr_bare (i : Nat) : Bool := [0].contains i
def m_bare : M Fl :=
    cRet pr_bare (mBin pMul (mTup (aCons (cst (.int 0)) (aNil))) (mFn pLen (aCons (rd 0) (aNil))))
def F_bare : Fm := fnM 1 1 pr_bare m_bare
def pr_least_still (i : Nat) : Bool := [0, 1].contains i
def m_least_still : M Fl :=
    cRet pr_least_still (mBin pIx (mCall F_stands [] (aCons (rd 0) (aCons (mCall F_bare [] (aCons (rd 0) (aNil))) (aCons (rd 1) (aNil))))) (cst (.int 1)))
def F_least_still : Fm := fnM 2 2 pr_least_still m_least_still
def pr_full (i : Nat) : Bool := [0].contains i
def m_full : M Fl :=
    cRet pr_full (mFn pTuple (aCons (rd 0) (aNil)))
def F_full : Fm := fnM 1 1 pr_full m_full
def pr_greatest_still (i : Nat) : Bool := [0, 1].contains i
def m_greatest_still : M Fl :=
    cRet pr_greatest_still (mBin pIx (mCall F_stands [] (aCons (rd 0) (aCons (mCall F_full [] (aCons (rd 0) (aNil))) (aCons (rd 1) (aNil))))) (cst (.int 1)))
def F_greatest_still : Fm := fnM 2 2 pr_greatest_still m_greatest_still
def pr_w_sums (i : Nat) : Bool := [0].contains i
def m_w_sums : M Fl :=
    seqM (cSet 1 (mLst (aCons (cst (.int 0)) (aNil))))
    (seqM (cFor (wSeq (rd 0)) (setD 2) (cExpr (mMut 1 pAppend (aCons (mBin pAdd (mBin pIx (rd 1) (mUn pNeg (cst (.int 1)))) (rd 2)) (aNil)))))
    (cRet pr_w_sums (rd 1)))
def F_w_sums : Fm := fnM 1 3 pr_w_sums m_w_sums
def pr_w_right (i : Nat) : Bool := [0].contains i
def m_w_right : M Fl :=
    seqM (cFor (wFn p1 (aCons (cst (.int 4)) (aNil))) (setD 1) (seqM (cPar 2 3 (aCons (mCall F_w_sizes [] (aCons (rd 0) (aCons (cst (.int 4)) (aCons (cst (.int 3)) (aNil))))) (aCons (mCall F_w_runs [] (aCons (rd 0) (aCons (cst (.int 4)) (aCons (cst (.int 3)) (aNil))))) (aNil))))
    (seqM (cPar 4 5 (aCons (mCall F_w_end [] (aCons (rd 2) (aCons (mBin pMul (mTup (aCons (cst (.int 0)) (aNil))) (mFn pLen (aCons (rd 2) (aNil)))) (aCons (rd 3) (aNil))))) (aCons (mCall F_w_end [] (aCons (rd 2) (aCons (rd 2) (aCons (rd 3) (aNil))))) (aNil))))
    (seqM (cIf (tNot' (tB' (mCall (F_w_same 12) [] (aCons (mLst (aCons (mCall F_least_still [] (aCons (rd 2) (aCons (rd 3) (aNil)))) (aCons (mCall F_greatest_still [] (aCons (rd 2) (aCons (rd 3) (aNil)))) (aNil)))) (aCons (mLst (aCons (rd 4) (aCons (rd 5) (aNil)))) (aNil)))))) (cRet pr_w_right (cst (.bl false))) (cNext))
    (seqM (cSet 6 (mLst (aCons (mCallK F_least_still 0 2 [1, 0] (aNil) (aCons (rd 3) (aCons (mFn pList (aCons (rd 2) (aNil))) (aNil)))) (aCons (mCallK F_greatest_still 0 2 [1, 0] (aNil) (aCons (rd 3) (aCons (rd 2) (aNil)))) (aNil)))))
    (seqM (cIf (tNot' (tB' (mCall (F_w_same 12) [] (aCons (rd 6) (aCons (mLst (aCons (rd 4) (aCons (rd 5) (aNil)))) (aNil)))))) (cRet pr_w_right (cst (.bl false))) (cNext))
    (seqM (cIf (tOr' (tB' (mBin pNe (mCall F_w_gone [] (aCons (rd 2) (aCons (rd 4) (aCons (rd 3) (aNil))))) (rd 4))) (tB' (mBin pNe (mCall F_w_gone [] (aCons (rd 2) (aCons (rd 5) (aCons (rd 3) (aNil))))) (rd 5)))) (cRet pr_w_right (cst (.bl false))) (cNext))
    (seqM (cAsg (gTupM (gsCons (setD 7) (gsCons (setD 8) (gsNil)))) (mTup (aCons (mCall F_w_sums [] (aCons (rd 4) (aNil))) (aCons (mCall F_w_sums [] (aCons (rd 5) (aNil))) (aNil)))))
    (cFor (wSeq (mCall F_w_all [] (aCons (rd 2) (aNil)))) (setD 9) (cIf (tB' (mBin pEq (mCall F_w_gone [] (aCons (rd 2) (aCons (rd 9) (aCons (rd 3) (aNil))))) (rd 9))) (seqM (cSet 10 (mCall F_w_sums [] (aCons (rd 9) (aNil))))
    (cIf (tNot' (tB' (mFn pAll (aCons (mComp (wFn p1 (aCons (mFn pLen (aCons (rd 10) (aNil))) (aNil))) [11] (setD 11) (pure true) (mChain pLe pLe (mBin pIx (rd 7) (rd 11)) (mBin pIx (rd 10) (rd 11)) (mBin pIx (rd 8) (rd 11)))) (aNil))))) (cRet pr_w_right (cst (.bl false))) (cNext))) (cNext)))))))))))
    (cRet pr_w_right (cst (.bl true)))
def F_w_right : Fm := fnM 1 12 pr_w_right m_w_right
def pr_w_box (i : Nat) : Bool := [0, 1].contains i
def m_w_box : M Fl :=
    seqM (cSet 2 (mIte (tB' (mBin pLt (rd 1) (mFn pLen (aCons (rd 0) (aNil))))) (mBin pIx (rd 0) (rd 1)) (cst (.int 0))))
    (cRet pr_w_box (mLst (aCons (mBin pMul (mFn pAbs (aCons (rd 2) (aNil))) (mFn pInt (aCons (mBin pGe (mFn pAbs (aCons (rd 2) (aNil))) (mBin pPow (cst (.int 10)) (cst (.int 18)))) (aNil)))) (aCons (mBin pAdd (mBin pAdd (mBin pMod (rd 2) (cst (.int 2147483629))) (mBin pMul (cst (.int 7919)) (rd 1))) (cst (.int 29))) (aCons (cst (.int 0)) (aNil))))))
def F_w_box : Fm := fnM 2 3 pr_w_box m_w_box
def pr_law (i : Nat) : Bool := [0].contains i
def m_law : M Fl :=
    cRet pr_law (mFn pAll (aCons (mComp (wFn p1 (aCons (mBin pAdd (cst (.int 1)) (mFn pMin2 (aCons (cst (.int 3)) (aCons (mFn pLen (aCons (rd 0) (aNil))) (aNil))))) (aNil))) [1] (setD 1) (pure true) (mCall F_w_right [] (aCons (mCall F_w_box [] (aCons (rd 0) (aCons (rd 1) (aNil)))) (aNil)))) (aNil)))
def F_law : Fm := fnM 1 2 pr_law m_law
/-! ### what the top has written -/
structure Txt (K : PySem.W.Frag) (mg : Str → Option Value) where
  a_w_all : Addr
  d_w_all : FuncData
  F_w_all : Fun K "_law_all" "_law_all" s_w_all a_w_all d_w_all
  m_w_all : mg "_law_all" = some (.ref a_w_all)
  b_w_all : Binds K d_w_all ["_law_sizes_here"] []
  a_w_take : Addr
  d_w_take : FuncData
  F_w_take : Fun K "_law_take" "_law_take" s_w_take a_w_take d_w_take
  m_w_take : mg "_law_take" = some (.ref a_w_take)
  b_w_take : Binds K d_w_take ["_law_box_here", "_law_below"] []
  a_w_sizes : Addr
  d_w_sizes : FuncData
  F_w_sizes : Fun K "_law_sizes" "_law_sizes" s_w_sizes a_w_sizes d_w_sizes
  m_w_sizes : mg "_law_sizes" = some (.ref a_w_sizes)
  b_w_sizes : Binds K d_w_sizes ["_law_box_here", "_law_most", "_law_high"] []
  a_w_runs : Addr
  d_w_runs : FuncData
  F_w_runs : Fun K "_law_runs" "_law_runs" s_w_runs a_w_runs d_w_runs
  m_w_runs : mg "_law_runs" = some (.ref a_w_runs)
  b_w_runs : Binds K d_w_runs ["_law_box_here", "_law_most", "_law_high"] []
  a_w_spot : Addr
  d_w_spot : FuncData
  F_w_spot : Fun K "_law_spot" "_law_spot" s_w_spot a_w_spot d_w_spot
  m_w_spot : mg "_law_spot" = some (.ref a_w_spot)
  b_w_spot : Binds K d_w_spot ["_law_sizes_here", "_law_lot", "_law_breath"] []
  a_w_breathed : Addr
  d_w_breathed : FuncData
  F_w_breathed : Fun K "_law_breathed" "_law_breathed" s_w_breathed a_w_breathed d_w_breathed
  m_w_breathed : mg "_law_breathed" = some (.ref a_w_breathed)
  b_w_breathed : Binds K d_w_breathed ["_law_sizes_here", "_law_lot", "_law_breath"] []
  a_w_gone : Addr
  d_w_gone : FuncData
  F_w_gone : Fun K "_law_gone" "_law_gone" s_w_gone a_w_gone d_w_gone
  m_w_gone : mg "_law_gone" = some (.ref a_w_gone)
  b_w_gone : Binds K d_w_gone ["_law_sizes_here", "_law_lot", "_law_runs_here"] []
  a_w_end : Addr
  d_w_end : FuncData
  F_w_end : Fun K "_law_end" "_law_end" s_w_end a_w_end d_w_end
  m_w_end : mg "_law_end" = some (.ref a_w_end)
  b_w_end : Binds K d_w_end ["_law_sizes_here", "_law_lot", "_law_runs_here"] []
  a_w_same : Addr
  d_w_same : FuncData
  F_w_same : Fun K "_law_same" "_law_same" s_w_same a_w_same d_w_same
  m_w_same : mg "_law_same" = some (.ref a_w_same)
  b_w_same : Binds K d_w_same ["_law_found", "_law_due"] []
  a_from_its_hand : Addr
  d_from_its_hand : FuncData
  F_from_its_hand : Fun K "from_its_hand" "from_its_hand" s_from_its_hand a_from_its_hand d_from_its_hand
  m_from_its_hand : mg "from_its_hand" = some (.ref a_from_its_hand)
  b_from_its_hand : Binds K d_from_its_hand ["some", "breath"] []
  a_run_done : Addr
  d_run_done : FuncData
  F_run_done : Fun K "run_done" "run_done" s_run_done a_run_done d_run_done
  m_run_done : mg "run_done" = some (.ref a_run_done)
  b_run_done : Binds K d_run_done ["rooms", "standing", "breath", "many"] []
  a_breathed : Addr
  d_breathed : FuncData
  F_breathed : Fun K "breathed" "breathed" s_breathed a_breathed d_breathed
  m_breathed : mg "breathed" = some (.ref a_breathed)
  b_breathed : Binds K d_breathed ["rooms", "standing", "word"] []
  a_behind_each : Addr
  d_behind_each : FuncData
  F_behind_each : Fun K "behind_each" "behind_each" s_behind_each a_behind_each d_behind_each
  m_behind_each : mg "behind_each" = some (.ref a_behind_each)
  b_behind_each : Binds K d_behind_each ["rooms", "standing", "word", "many"] []
  a_stands : Addr
  d_stands : FuncData
  F_stands : Fun K "stands" "stands" s_stands a_stands d_stands
  m_stands : mg "stands" = some (.ref a_stands)
  b_stands : Binds K d_stands ["rooms", "standing", "word"] []
  a_bare : Addr
  d_bare : FuncData
  F_bare : Fun K "bare" "bare" s_bare a_bare d_bare
  m_bare : mg "bare" = some (.ref a_bare)
  b_bare : Binds K d_bare ["rooms"] []
  a_least_still : Addr
  d_least_still : FuncData
  F_least_still : Fun K "least_still" "least_still" s_least_still a_least_still d_least_still
  m_least_still : mg "least_still" = some (.ref a_least_still)
  b_least_still : Binds K d_least_still ["rooms", "word"] []
  a_full : Addr
  d_full : FuncData
  F_full : Fun K "full" "full" s_full a_full d_full
  m_full : mg "full" = some (.ref a_full)
  b_full : Binds K d_full ["rooms"] []
  a_greatest_still : Addr
  d_greatest_still : FuncData
  F_greatest_still : Fun K "greatest_still" "greatest_still" s_greatest_still a_greatest_still d_greatest_still
  m_greatest_still : mg "greatest_still" = some (.ref a_greatest_still)
  b_greatest_still : Binds K d_greatest_still ["rooms", "word"] []
  a_w_sums : Addr
  d_w_sums : FuncData
  F_w_sums : Fun K "_law_sums" "_law_sums" s_w_sums a_w_sums d_w_sums
  m_w_sums : mg "_law_sums" = some (.ref a_w_sums)
  b_w_sums : Binds K d_w_sums ["_law_lot"] []
  a_w_right : Addr
  d_w_right : FuncData
  F_w_right : Fun K "_law_right" "_law_right" s_w_right a_w_right d_w_right
  m_w_right : mg "_law_right" = some (.ref a_w_right)
  b_w_right : Binds K d_w_right ["_law_box_here"] []
  a_w_box : Addr
  d_w_box : FuncData
  F_w_box : Fun K "_law_box" "_law_box" s_w_box a_w_box d_w_box
  m_w_box : mg "_law_box" = some (.ref a_w_box)
  b_w_box : Binds K d_w_box ["_law_script", "_law_k"] []
  a_law : Addr
  d_law : FuncData
  F_law : Fun K "law" "law" s_law a_law d_law
  m_law : mg "law" = some (.ref a_law)
  b_law : Binds K d_law ["_law_script"] []
  kb_greatest_still_0_10 : KBinds K d_greatest_still ["rooms", "word"] ["word", "rooms"] (kgI 0 2 [1, 0]) (kgI 0 2 [1, 0])
  kb_least_still_0_10 : KBinds K d_least_still ["rooms", "word"] ["word", "rooms"] (kgI 0 2 [1, 0]) (kgI 0 2 [1, 0])
  z_abs : mg "abs" = none
  z_all : mg "all" = none
  z_bool : mg "bool" = none
  z_enumerate : mg "enumerate" = none
  z_int : mg "int" = none
  z_isinstance : mg "isinstance" = none
  z_len : mg "len" = none
  z_list : mg "list" = none
  z_min : mg "min" = none
  z_range : mg "range" = none
  z_reversed : mg "reversed" = none
  z_str : mg "str" = none
  z_sum : mg "sum" = none
  z_tuple : mg "tuple" = none
  z_zip : mg "zip" = none
  t_LEFT_IN : Tok
  c_LEFT_IN : mg "LEFT_IN" = some (.str "L+" t_LEFT_IN)
  t_LEFT_OUT : Tok
  c_LEFT_OUT : mg "LEFT_OUT" = some (.str "L-" t_LEFT_OUT)
  t_RIGHT_IN : Tok
  c_RIGHT_IN : mg "RIGHT_IN" = some (.str "R+" t_RIGHT_IN)
section
variable {P : Program} {w : World} {K : PySem.W.Frag} {mg : Str → Option Value} {base : Heap}
theorem ok_w_all (T : Txt K mg) : FnOk P w K mg base CX0 1 T.a_w_all T.d_w_all ["_law_sizes_here"] (spF K F_w_all) :=
  fn_ok 1 6 T.F_w_all sc_w_all rfl rfl fun cdv A outer s H E hr =>
    b_cons (s_set (i := 1) sc_w_all.nd rfl (.inl rfl) (by decide) (e_lst (el_cons (e_tup (el_nil)) (el_nil))))
    (b_cons (s_for PassesOwn.never rfl (i_seq (e_var 0 (pv 0))) (g_name sc_w_all.nd rfl (.inl rfl) (by decide)) (b_cons (s_set (i := 3) sc_w_all.nd rfl (.inl rfl) (by decide) (e_lst (el_nil)))
    (b_cons (s_for PassesOwn.never rfl (i_seq (e_var 1 (pv 1))) (g_name sc_w_all.nd rfl (.inr rfl) (by decide)) (b_one (s_set (i := 3) sc_w_all.nd rfl (.inl rfl) (by decide) (e_bin opAddX okAdd (e_var 3 (pv 3)) (e_lc (own := [("_law_here", 5)]) rfl sc_w_all.nd (i_range1 (by rfl) T.z_range (el_cons (e_bin opAddX okAdd (e_var 2 (pv 2)) (e_int)) (el_nil))) (blkOk_by (own := [("_law_here", 5)]) (N := N_w_all) (sc := defScope s_w_all) (by decide +kernel)) (fun _ _ _ _ _ => g_name sc_w_all.nd rfl (.inl rfl) (by decide)) (fun _ _ _ _ _ => ts_nil) (fun _ _ _ _ _ => e_bin opAddX okAdd (e_var 4 (pv 4)) (e_tup (el_cons (e_var 5 (pv 5)) (el_nil)))))))))
    (b_one (s_set (i := 1) sc_w_all.nd rfl (.inl rfl) (by decide) (e_var 3 (pv 3)))))))
    (b_one (s_ret (e_var 1 (pv 1)))))
theorem ok_w_take (T : Txt K mg) : FnOk P w K mg base CX0 1 T.a_w_take T.d_w_take ["_law_box_here", "_law_below"] (spF K F_w_take) :=
  fn_ok 2 4 T.F_w_take sc_w_take rfl rfl fun cdv A outer s H E hr =>
    b_cons (s_if (t_cmp op_gt okCmp (e_ix ix_seq okIx (e_var 0 (pv 0)) (e_int) (fun _ _ => rfl)) (e_int) (nomark _)) (b_cons (s_set (i := 2) sc_w_take.nd rfl (.inl rfl) (by decide) (e_bin op_mod okMod (e_ix ix_seq okIx (e_var 0 (pv 0)) (e_int) (fun _ _ => rfl)) (e_var 1 (pv 1))))
    (b_cons (s_setAt (i := 0) (e_bin op_fdivW okDiv (e_ix ix_seq okIx (e_var 0 (pv 0)) (e_int) (fun _ _ => rfl)) (e_var 1 (pv 1))) (pv 0) (e_int))
    (b_one (s_ret (e_var 2 (pv 2)))))) (b_nil))
    (b_cons (s_setAt (i := 0) (e_bin opAddX okAdd (e_ix ix_seq okIx (e_var 0 (pv 0)) (e_int) (fun _ _ => rfl)) (e_int)) (pv 0) (e_int))
    (b_cons (s_set (i := 3) sc_w_take.nd rfl (.inl rfl) (by decide) (e_bin op_mod okMod (e_bin op_pow okPow (e_bin opAddX okAdd (e_ix ix_seq okIx (e_var 0 (pv 0)) (e_int) (fun _ _ => rfl)) (e_bin opMulX okMul (e_int) (e_ix ix_seq okIx (e_var 0 (pv 0)) (e_int) (fun _ _ => rfl)))) (e_int)) (e_int)))
    (b_one (s_ret (e_bin op_mod okMod (e_bin op_fdivW okDiv (e_bin op_mod okMod (e_bin opAddX okAdd (e_bin opMulX okMul (e_var 3 (pv 3)) (e_bin opAddX okAdd (e_bin op_mod okMod (e_var 3 (pv 3)) (e_int)) (e_int))) (e_bin opMulX okMul (e_ix ix_seq okIx (e_var 0 (pv 0)) (e_int) (fun _ _ => rfl)) (e_int))) (e_int)) (e_int)) (e_var 1 (pv 1)))))))
theorem ok_w_sizes (T : Txt K mg) (G_w_take : FnOk P w K mg base CX0 1 T.a_w_take T.d_w_take ["_law_box_here", "_law_below"] (spF K F_w_take)) : FnOk P w K mg base CX0 2 T.a_w_sizes T.d_w_sizes ["_law_box_here", "_law_most", "_law_high"] (spF K F_w_sizes) :=
  fn_ok 3 4 T.F_w_sizes sc_w_sizes rfl rfl fun cdv A outer s H E hr =>
    b_one (s_ret (e_callTy call_tuple_of okTuple (by rfl) T.z_tuple PyProof.Rows.boot_tuple (el_cons (e_lc (own := [("_law_k", 3)]) rfl sc_w_sizes.nd (i_range1 (by rfl) T.z_range (el_cons (e_bin opAddX okAdd (e_int) (e_call G_w_take hr (by rfl) T.m_w_take T.F_w_take.kp T.b_w_take .nil (fun _ => .nil) (el_cons (e_var 0 (pv 0)) (el_cons (e_var 1 (pv 1)) (el_nil))))) (el_nil))) (blkOk_by (own := [("_law_k", 3)]) (N := N_w_sizes) (sc := defScope s_w_sizes) (by decide +kernel)) (fun _ _ _ _ _ => g_name sc_w_sizes.nd rfl (.inl rfl) (by decide)) (fun _ _ _ _ _ => ts_nil) (fun _ _ _ _ _ => e_bin opAddX okAdd (e_int) (e_call G_w_take hr (by rfl) T.m_w_take T.F_w_take.kp T.b_w_take .nil (fun _ => .nil) (el_cons (e_var 0 (pv 0)) (el_cons (e_var 2 (pv 2)) (el_nil)))))) (el_nil))))
theorem ok_w_runs (T : Txt K mg) (G_w_take : FnOk P w K mg base CX0 1 T.a_w_take T.d_w_take ["_law_box_here", "_law_below"] (spF K F_w_take)) : FnOk P w K mg base CX0 2 T.a_w_runs T.d_w_runs ["_law_box_here", "_law_most", "_law_high"] (spF K F_w_runs) :=
  fn_ok 3 5 T.F_w_runs sc_w_runs rfl rfl fun cdv A outer s H E hr =>
    b_cons (s_set (i := 3) sc_w_runs.nd rfl (.inl rfl) (by decide) (e_lst (el_nil)))
    (b_cons (s_for PassesOwn.never rfl (i_range1 (by rfl) T.z_range (el_cons (e_call G_w_take hr (by rfl) T.m_w_take T.F_w_take.kp T.b_w_take .nil (fun _ => .nil) (el_cons (e_var 0 (pv 0)) (el_cons (e_bin opAddX okAdd (e_var 1 (pv 1)) (e_int)) (el_nil)))) (el_nil))) (g_name sc_w_runs.nd rfl (.inl rfl) (by decide)) (b_one (s_expr (e_mut PySem.F.slot_list_append PySem.F.type_list_append mt_append okAppend (pv 3) (el_cons (e_tup (el_cons (e_ix ix_seq okIx (e_lst (el_cons (e_str) (el_cons (e_str) (el_cons (e_str) (el_cons (e_str) (el_nil)))))) (e_call G_w_take hr (by rfl) T.m_w_take T.F_w_take.kp T.b_w_take .nil (fun _ => .nil) (el_cons (e_var 0 (pv 0)) (el_cons (e_int) (el_nil)))) (fun _ _ => rfl)) (el_cons (e_bin opAddX okAdd (e_int) (e_call G_w_take hr (by rfl) T.m_w_take T.F_w_take.kp T.b_w_take .nil (fun _ => .nil) (el_cons (e_var 0 (pv 0)) (el_cons (e_var 2 (pv 2)) (el_nil))))) (el_nil)))) (el_nil))))))
    (b_one (s_ret (e_var 3 (pv 3)))))
theorem ok_w_spot (T : Txt K mg) : FnOk P w K mg base CX0 1 T.a_w_spot T.d_w_spot ["_law_sizes_here", "_law_lot", "_law_breath"] (spF K F_w_spot) :=
  fn_ok 3 5 T.F_w_spot sc_w_spot rfl rfl fun cdv A outer s H E hr =>
    b_cons (s_set (i := 3) sc_w_spot.nd rfl (.inl rfl) (by decide) (e_listRg1 rfl (by rfl) T.z_list (by rfl) T.z_range (e_callB opLenX okLen (by rfl) T.z_len PySem.boot_len (el_cons (e_var 0 (pv 0)) (el_nil)))))
    (b_cons (s_for PassesOwn.never rfl (i_seq (e_ite (t_cmp (op_eqD hr.units) okEq (e_ix ix_seq okIx (e_var 2 (pv 2)) (e_int) (fun _ _ => rfl)) (e_str) (nomark _)) (e_var 3 (pv 3)) (e_rev (e_var 3 (pv 3))))) (g_name sc_w_spot.nd rfl (.inl rfl) (by decide)) (b_one (s_if (t_ite (t_cmp (op_eqD hr.units) okEq (e_ix ix_seq okIx (e_var 2 (pv 2)) (e_int) (fun _ _ => rfl)) (e_str) (nomark _)) (t_cmp op_lt okCmp (e_ix ix_seq okIx (e_var 1 (pv 1)) (e_var 4 (pv 4)) (fun _ _ => rfl)) (e_ix ix_seq okIx (e_var 0 (pv 0)) (e_var 4 (pv 4)) (fun _ _ => rfl)) (nomark _)) (t_cmp op_gt okCmp (e_ix ix_seq okIx (e_var 1 (pv 1)) (e_var 4 (pv 4)) (fun _ _ => rfl)) (e_int) (nomark _))) (b_one (s_ret (e_var 4 (pv 4)))) (b_nil))))
    (b_one (s_ret (e_non))))
theorem ok_w_breathed (T : Txt K mg) (G_w_spot : FnOk P w K mg base CX0 1 T.a_w_spot T.d_w_spot ["_law_sizes_here", "_law_lot", "_law_breath"] (spF K F_w_spot)) : FnOk P w K mg base CX0 2 T.a_w_breathed T.d_w_breathed ["_law_sizes_here", "_law_lot", "_law_breath"] (spF K F_w_breathed) :=
  fn_ok 3 5 T.F_w_breathed sc_w_breathed rfl rfl fun cdv A outer s H E hr =>
    b_cons (s_set (i := 3) sc_w_breathed.nd rfl (.inl rfl) (by decide) (e_call G_w_spot hr (by rfl) T.m_w_spot T.F_w_spot.kp T.b_w_spot .nil (fun _ => .nil) (el_cons (e_var 0 (pv 0)) (el_cons (e_var 1 (pv 1)) (el_cons (e_var 2 (pv 2)) (el_nil))))))
    (b_cons (s_if (t_cmp opIsX okIs (e_var 3 (pv 3)) (e_non) (nomark _)) (b_one (s_ret (e_var 1 (pv 1)))) (b_nil))
    (b_cons (s_set (i := 4) sc_w_breathed.nd rfl (.inl rfl) (by decide) (e_bin opAddX okAdd (e_ix ix_seq okIx (e_var 1 (pv 1)) (e_var 3 (pv 3)) (fun _ _ => rfl)) (e_ite (t_cmp (op_eqD hr.units) okEq (e_ix ix_seq okIx (e_var 2 (pv 2)) (e_int) (fun _ _ => rfl)) (e_str) (nomark _)) (e_int) (e_un un_neg okNeg (e_int)))))
    (b_one (s_ret (e_bin opAddX okAdd (e_bin opAddX okAdd (e_slice (e_var 1 (pv 1)) (o_none) (o_some (e_var 3 (pv 3)))) (e_tup (el_cons (e_var 4 (pv 4)) (el_nil)))) (e_slice (e_var 1 (pv 1)) (o_some (e_bin opAddX okAdd (e_var 3 (pv 3)) (e_int))) (o_none)))))))
theorem ok_w_gone (T : Txt K mg) (G_w_breathed : FnOk P w K mg base CX0 2 T.a_w_breathed T.d_w_breathed ["_law_sizes_here", "_law_lot", "_law_breath"] (spF K F_w_breathed)) : FnOk P w K mg base CX0 3 T.a_w_gone T.d_w_gone ["_law_sizes_here", "_law_lot", "_law_runs_here"] (spF K F_w_gone) :=
  fn_ok 3 6 T.F_w_gone sc_w_gone rfl rfl fun cdv A outer s H E hr =>
    b_cons (s_for PassesOwn.never rfl (i_seq (e_var 2 (pv 2))) (g_tup rfl (gs_cons (g_name sc_w_gone.nd rfl (.inl rfl) (by decide)) (gs_cons (g_name sc_w_gone.nd rfl (.inl rfl) (by decide)) (gs_nil))) (fun _ _ _ h => gsCons_len (fun _ _ _ h => gsCons_len (fun _ _ _ h => gsNil_len h) h) h)) (b_one (s_for PassesOwn.never rfl (i_range1 (by rfl) T.z_range (el_cons (e_var 4 (pv 4)) (el_nil))) (g_name sc_w_gone.nd rfl (.inl rfl) (by decide)) (b_one (s_set (i := 1) sc_w_gone.nd rfl (.inl rfl) (by decide) (e_call G_w_breathed hr (by rfl) T.m_w_breathed T.F_w_breathed.kp T.b_w_breathed .nil (fun _ => .nil) (el_cons (e_var 0 (pv 0)) (el_cons (e_var 1 (pv 1)) (el_cons (e_var 3 (pv 3)) (el_nil))))))))))
    (b_one (s_ret (e_var 1 (pv 1))))
theorem ok_w_end (T : Txt K mg) (G_w_gone : FnOk P w K mg base CX0 3 T.a_w_gone T.d_w_gone ["_law_sizes_here", "_law_lot", "_law_runs_here"] (spF K F_w_gone)) : FnOk P w K mg base CX0 4 T.a_w_end T.d_w_end ["_law_sizes_here", "_law_lot", "_law_runs_here"] (spF K F_w_end) :=
  fn_ok 3 4 T.F_w_end sc_w_end rfl rfl fun cdv A outer s H E hr =>
    b_cons (s_for PassesOwn.never rfl (i_range1 (by rfl) T.z_range (el_cons (e_callB (opSumX rfl) okSum (by rfl) T.z_sum boot_sum (el_cons (e_var 0 (pv 0)) (el_nil))) (el_nil))) (g_name sc_w_end.nd rfl (.inl rfl) (by decide)) (b_one (s_set (i := 1) sc_w_end.nd rfl (.inl rfl) (by decide) (e_call G_w_gone hr (by rfl) T.m_w_gone T.F_w_gone.kp T.b_w_gone .nil (fun _ => .nil) (el_cons (e_var 0 (pv 0)) (el_cons (e_var 1 (pv 1)) (el_cons (e_var 2 (pv 2)) (el_nil))))))))
    (b_one (s_ret (e_var 1 (pv 1))))
theorem ok_w_same (T : Txt K mg) : ∀ n, FnOk P w K mg base CX0 (0 + n) T.a_w_same T.d_w_same ["_law_found", "_law_due"] (spF K (F_w_same n))
  | 0 => fnok_none
  | n + 1 => by
    have G_w_same := ok_w_same T n
    exact fn_ok 2 4 T.F_w_same sc_w_same rfl rfl fun cdv A outer s H E hr =>
      b_cons (s_if (t_val (e_isi2 (by simp) (by simp) (by rfl) T.z_isinstance boot_isinstance (e_var 1 (pv 1)) (pe_bltn (v := .ty "list") (by rfl) T.z_list (by decide +kernel) rfl) (pe_bltn (v := .ty "tuple") (by rfl) T.z_tuple (by decide +kernel) rfl))) (b_cons (s_if (PW.pt (t_or (t_cmp (op_neD hr.units) okNe (e_isi (by simp) (by rfl) T.z_isinstance boot_isinstance (e_var 0 (pv 0)) (pe_bltn (v := .ty "list") (by rfl) T.z_list (by decide +kernel) rfl)) (e_isi (by simp) (by rfl) T.z_isinstance boot_isinstance (e_var 1 (pv 1)) (pe_bltn (v := .ty "list") (by rfl) T.z_list (by decide +kernel) rfl)) (nomark _)) (t_one' (t_cmp (op_neD hr.units) okNe (e_isi (by simp) (by rfl) T.z_isinstance boot_isinstance (e_var 0 (pv 0)) (pe_bltn (v := .ty "tuple") (by rfl) T.z_tuple (by decide +kernel) rfl)) (e_isi (by simp) (by rfl) T.z_isinstance boot_isinstance (e_var 1 (pv 1)) (pe_bltn (v := .ty "tuple") (by rfl) T.z_tuple (by decide +kernel) rfl)) (nomark _))))) (b_one (s_ret (e_bl))) (b_nil))
        (b_one (s_ret (e_and (e_cmp (op_eqD hr.units) okEq (e_callB opLenX okLen (by rfl) T.z_len PySem.boot_len (el_cons (e_var 0 (pv 0)) (el_nil))) (e_callB opLenX okLen (by rfl) T.z_len PySem.boot_len (el_cons (e_var 1 (pv 1)) (el_nil))) (nomark _)) (pe_one (e_callB (cr_all rfl) okAll (by rfl) T.z_all boot_all (el_cons (e_lc (own := [("_law_mine", 2), ("_law_its", 3)]) rfl sc_w_same.nd (i_zip (by rfl) T.z_zip (el_cons (e_var 0 (pv 0)) (el_cons (e_var 1 (pv 1)) (el_nil)))) (blkOk_by (own := [("_law_mine", 2), ("_law_its", 3)]) (N := N_w_same) (sc := defScope s_w_same) (by decide +kernel)) (fun _ _ _ _ _ => g_tup rfl (gs_cons (g_name sc_w_same.nd rfl (.inl rfl) (by decide)) (gs_cons (g_name sc_w_same.nd rfl (.inl rfl) (by decide)) (gs_nil))) (fun _ _ _ h => gsCons_len (fun _ _ _ h => gsCons_len (fun _ _ _ h => gsNil_len h) h) h)) (fun _ _ _ _ _ => ts_nil) (fun _ _ _ _ _ => e_call G_w_same hr (by rfl) T.m_w_same T.F_w_same.kp T.b_w_same .nil (fun _ => .nil) (el_cons (e_var 2 (pv 2)) (el_cons (e_var 3 (pv 3)) (el_nil))))) (el_nil)))))))) (b_nil))
        (b_cons (s_if (PW.pt (t_or (t_cmp opIsX okIs (e_var 1 (pv 1)) (e_non) (nomark _)) (t_one' (t_val (e_isi (by simp) (by rfl) T.z_isinstance boot_isinstance (e_var 1 (pv 1)) (pe_bltn (v := .ty "str") (by rfl) T.z_str (by decide +kernel) rfl)))))) (b_one (s_ret (e_and (e_cmp (op_eqD hr.units) okEq (e_var 0 (pv 0)) (e_var 1 (pv 1)) (nomark _)) (pe_one (e_cmp (op_eqD hr.units) okEq (e_isi (by simp) (by rfl) T.z_isinstance boot_isinstance (e_var 0 (pv 0)) (pe_bltn (v := .ty "str") (by rfl) T.z_str (by decide +kernel) rfl)) (e_isi (by simp) (by rfl) T.z_isinstance boot_isinstance (e_var 1 (pv 1)) (pe_bltn (v := .ty "str") (by rfl) T.z_str (by decide +kernel) rfl)) (nomark _)))))) (b_nil))
        (b_one (s_ret (e_and (e_isi (by simp) (by rfl) T.z_isinstance boot_isinstance (e_var 0 (pv 0)) (pe_bltn (v := .ty "int") (by rfl) T.z_int (by decide +kernel) rfl)) (e_and (e_cmp (op_eqD hr.units) okEq (e_isi (by simp) (by rfl) T.z_isinstance boot_isinstance (e_var 0 (pv 0)) (pe_bltn (v := .ty "bool") (by rfl) T.z_bool (by decide +kernel) rfl)) (e_isi (by simp) (by rfl) T.z_isinstance boot_isinstance (e_var 1 (pv 1)) (pe_bltn (v := .ty "bool") (by rfl) T.z_bool (by decide +kernel) rfl)) (nomark _)) (pe_one (e_cmp (op_eqD hr.units) okEq (e_var 0 (pv 0)) (e_var 1 (pv 1)) (nomark _))))))))
theorem ok_from_its_hand (T : Txt K mg) : FnOk P w K mg base CX0 1 T.a_from_its_hand T.d_from_its_hand ["some", "breath"] (spF K F_from_its_hand) :=
  fn_ok 2 2 T.F_from_its_hand sc_from_its_hand rfl rfl fun cdv A outer s H E hr =>
    b_one (s_ret (e_ite (t_cmp op_in_seq okIn (e_var 1 (pv 1)) (e_tup (el_cons (e_c (v := .str "L+") (pe_glob (by rfl) T.c_LEFT_IN ⟨_, rfl⟩) (fun _ => .str _)) (el_cons (e_c (v := .str "L-") (pe_glob (by rfl) T.c_LEFT_OUT ⟨_, rfl⟩) (fun _ => .str _)) (el_nil)))) (by rfl)) (e_callTy call_list_of okList (by rfl) T.z_list PyProof.Rows.boot_list (el_cons (e_var 0 (pv 0)) (el_nil))) (e_listRev rfl (by rfl) T.z_list (by rfl) T.z_reversed (e_var 0 (pv 0)))))
theorem ok_run_done (T : Txt K mg) (G_from_its_hand : FnOk P w K mg base CX0 1 T.a_from_its_hand T.d_from_its_hand ["some", "breath"] (spF K F_from_its_hand)) : FnOk P w K mg base CX0 2 T.a_run_done T.d_run_done ["rooms", "standing", "breath", "many"] (spF K F_run_done) :=
  fn_ok 4 9 T.F_run_done sc_run_done rfl rfl fun cdv A outer s H E hr =>
    b_cons (s_par' (i := 4) (j := 5) rfl sc_run_done.nd rfl rfl (by decide) rfl rfl (by decide) (by decide) (el_cons (e_call G_from_its_hand hr (by rfl) T.m_from_its_hand T.F_from_its_hand.kp T.b_from_its_hand .nil (fun _ => .nil) (el_cons (e_var 1 (pv 1)) (el_cons (e_var 2 (pv 2)) (el_nil)))) (el_cons (e_var 3 (pv 3)) (el_nil))) (by rfl))
    (b_cons (s_for PassesOwn.never rfl (i_enum (by rfl) T.z_enumerate (el_cons (e_call G_from_its_hand hr (by rfl) T.m_from_its_hand T.F_from_its_hand.kp T.b_from_its_hand .nil (fun _ => .nil) (el_cons (e_var 0 (pv 0)) (el_cons (e_var 2 (pv 2)) (el_nil)))) (el_nil))) (g_tup rfl (gs_cons (g_name sc_run_done.nd rfl (.inl rfl) (by decide)) (gs_cons (g_name sc_run_done.nd rfl (.inl rfl) (by decide)) (gs_nil))) (fun _ _ _ h => gsCons_len (fun _ _ _ h => gsCons_len (fun _ _ _ h => gsNil_len h) h) h)) (b_cons (s_if (t_cmp op_in_seq okIn (e_var 2 (pv 2)) (e_tup (el_cons (e_c (v := .str "L+") (pe_glob (by rfl) T.c_LEFT_IN ⟨_, rfl⟩) (fun _ => .str _)) (el_cons (e_c (v := .str "R+") (pe_glob (by rfl) T.c_RIGHT_IN ⟨_, rfl⟩) (fun _ => .str _)) (el_nil)))) (by rfl)) (b_cons (s_set (i := 8) sc_run_done.nd rfl (.inl rfl) (by decide) (e_callB (call_min2 rfl) okMin2 (by rfl) T.z_min boot_min (el_cons (e_var 5 (pv 5)) (el_cons (e_bin op_sub okSub (e_var 7 (pv 7)) (e_ix ix_seq okIx (e_var 4 (pv 4)) (e_var 6 (pv 6)) (fun _ _ => rfl))) (el_nil)))))
    (b_one (s_augAt (i := 4) iopAdd okAddI (pv 4) (e_var 6 (pv 6)) (e_var 8 (pv 8))))) (b_cons (s_set (i := 8) sc_run_done.nd rfl (.inl rfl) (by decide) (e_callB (call_min2 rfl) okMin2 (by rfl) T.z_min boot_min (el_cons (e_var 5 (pv 5)) (el_cons (e_ix ix_seq okIx (e_var 4 (pv 4)) (e_var 6 (pv 6)) (fun _ _ => rfl)) (el_nil)))))
    (b_one (s_augAt (i := 4) iop_sub okSub (pv 4) (e_var 6 (pv 6)) (e_var 8 (pv 8))))))
    (b_one (s_aug (i := 5) iop_sub okSub sc_run_done.nd rfl (.inl rfl) (by decide) (e_var 8 (pv 8))))))
    (b_one (s_ret (e_tup (el_cons (e_callTy call_tuple_of okTuple (by rfl) T.z_tuple PyProof.Rows.boot_tuple (el_cons (e_call G_from_its_hand hr (by rfl) T.m_from_its_hand T.F_from_its_hand.kp T.b_from_its_hand .nil (fun _ => .nil) (el_cons (e_var 4 (pv 4)) (el_cons (e_var 2 (pv 2)) (el_nil)))) (el_nil))) (el_cons (e_var 5 (pv 5)) (el_nil)))))))
theorem ok_breathed (T : Txt K mg) (G_run_done : FnOk P w K mg base CX0 2 T.a_run_done T.d_run_done ["rooms", "standing", "breath", "many"] (spF K F_run_done)) : FnOk P w K mg base CX0 3 T.a_breathed T.d_breathed ["rooms", "standing", "word"] (spF K F_breathed) :=
  fn_ok 3 7 T.F_breathed sc_breathed rfl rfl fun cdv A outer s H E hr =>
    b_cons (s_set (i := 3) sc_breathed.nd rfl (.inl rfl) (by decide) (e_callTy call_tuple_of okTuple (by rfl) T.z_tuple PyProof.Rows.boot_tuple (el_cons (e_var 1 (pv 1)) (el_nil))))
    (b_cons (s_for PassesOwn.never rfl (i_seq (e_var 2 (pv 2))) (g_tup rfl (gs_cons (g_name sc_breathed.nd rfl (.inl rfl) (by decide)) (gs_cons (g_name sc_breathed.nd rfl (.inl rfl) (by decide)) (gs_nil))) (fun _ _ _ h => gsCons_len (fun _ _ _ h => gsCons_len (fun _ _ _ h => gsNil_len h) h) h)) (b_one (s_asg (e_call G_run_done hr (by rfl) T.m_run_done T.F_run_done.kp T.b_run_done .nil (fun _ => .nil) (el_cons (e_var 0 (pv 0)) (el_cons (e_var 3 (pv 3)) (el_cons (e_var 4 (pv 4)) (el_cons (e_var 5 (pv 5)) (el_nil)))))) (g_tup rfl (gs_cons (g_name sc_breathed.nd rfl (.inl rfl) (by decide)) (gs_cons (g_name sc_breathed.nd rfl (.inl rfl) (by decide)) (gs_nil))) (fun _ _ _ h => gsCons_len (fun _ _ _ h => gsCons_len (fun _ _ _ h => gsNil_len h) h) h)))))
    (b_one (s_ret (e_var 3 (pv 3)))))
theorem ok_behind_each (T : Txt K mg) (G_breathed : FnOk P w K mg base CX0 3 T.a_breathed T.d_breathed ["rooms", "standing", "word"] (spF K F_breathed)) : FnOk P w K mg base CX0 4 T.a_behind_each T.d_behind_each ["rooms", "standing", "word", "many"] (spF K F_behind_each) :=
  fn_ok 4 6 T.F_behind_each sc_behind_each rfl rfl fun cdv A outer s H E hr =>
    b_cons (s_set (i := 4) sc_behind_each.nd rfl (.inl rfl) (by decide) (e_lst (el_cons (e_callTy call_tuple_of okTuple (by rfl) T.z_tuple PyProof.Rows.boot_tuple (el_cons (e_var 1 (pv 1)) (el_nil))) (el_nil))))
    (b_cons (s_while fuel PassesOwn.never (t_cmp op_le okCmp (e_callB opLenX okLen (by rfl) T.z_len PySem.boot_len (el_cons (e_var 4 (pv 4)) (el_nil))) (e_var 3 (pv 3)) (nomark _)) (b_cons (s_set (i := 5) sc_behind_each.nd rfl (.inl rfl) (by decide) (e_call G_breathed hr (by rfl) T.m_breathed T.F_breathed.kp T.b_breathed .nil (fun _ => .nil) (el_cons (e_var 0 (pv 0)) (el_cons (e_ix ix_seq okIx (e_var 4 (pv 4)) (e_un un_neg okNeg (e_int)) (fun _ _ => rfl)) (el_cons (e_var 2 (pv 2)) (el_nil))))))
    (b_cons (s_if (t_cmp (op_eqD hr.units) okEq (e_var 5 (pv 5)) (e_ix ix_seq okIx (e_var 4 (pv 4)) (e_un un_neg okNeg (e_int)) (fun _ _ => rfl)) (nomark _)) (b_one (s_ret (e_var 4 (pv 4)))) (b_nil))
    (b_one (s_expr (e_mut PySem.F.slot_list_append PySem.F.type_list_append mt_append okAppend (pv 4) (el_cons (e_var 5 (pv 5)) (el_nil))))))))
    (b_one (s_ret (e_var 4 (pv 4)))))
theorem ok_stands (T : Txt K mg) (G_behind_each : FnOk P w K mg base CX0 4 T.a_behind_each T.d_behind_each ["rooms", "standing", "word", "many"] (spF K F_behind_each)) : FnOk P w K mg base CX0 5 T.a_stands T.d_stands ["rooms", "standing", "word"] (spF K F_stands) :=
  fn_ok 3 4 T.F_stands sc_stands rfl rfl fun cdv A outer s H E hr =>
    b_cons (s_set (i := 3) sc_stands.nd rfl (.inl rfl) (by decide) (e_call G_behind_each hr (by rfl) T.m_behind_each T.F_behind_each.kp T.b_behind_each .nil (fun _ => .nil) (el_cons (e_var 0 (pv 0)) (el_cons (e_var 1 (pv 1)) (el_cons (e_var 2 (pv 2)) (el_cons (e_bin opMulX okMul (e_int) (e_callB (opSumX rfl) okSum (by rfl) T.z_sum boot_sum (el_cons (e_var 0 (pv 0)) (el_nil)))) (el_nil)))))))
    (b_one (s_ret (e_tup (el_cons (e_bin op_sub okSub (e_callB opLenX okLen (by rfl) T.z_len PySem.boot_len (el_cons (e_var 3 (pv 3)) (el_nil))) (e_int)) (el_cons (e_ix ix_seq okIx (e_var 3 (pv 3)) (e_un un_neg okNeg (e_int)) (fun _ _ => rfl)) (el_nil))))))
theorem ok_bare (T : Txt K mg) : FnOk P w K mg base CX0 1 T.a_bare T.d_bare ["rooms"] (spF K F_bare) :=
  fn_ok 1 1 T.F_bare sc_bare rfl rfl fun cdv A outer s H E hr =>
    b_one (s_ret (e_bin opMulX okMul (e_tup (el_cons (e_int) (el_nil))) (e_callB opLenX okLen (by rfl) T.z_len PySem.boot_len (el_cons (e_var 0 (pv 0)) (el_nil)))))
theorem ok_least_still (T : Txt K mg) (G_stands : FnOk P w K mg base CX0 5 T.a_stands T.d_stands ["rooms", "standing", "word"] (spF K F_stands)) (G_bare : FnOk P w K mg base CX0 1 T.a_bare T.d_bare ["rooms"] (spF K F_bare)) : FnOk P w K mg base CX0 6 T.a_least_still T.d_least_still ["rooms", "word"] (spF K F_least_still) :=
  fn_ok 2 2 T.F_least_still sc_least_still rfl rfl fun cdv A outer s H E hr =>
    b_one (s_ret (e_ix ix_seq okIx (e_call G_stands hr (by rfl) T.m_stands T.F_stands.kp T.b_stands .nil (fun _ => .nil) (el_cons (e_var 0 (pv 0)) (el_cons (e_call G_bare (hr.mono (by omega)) (by rfl) T.m_bare T.F_bare.kp T.b_bare .nil (fun _ => .nil) (el_cons (e_var 0 (pv 0)) (el_nil))) (el_cons (e_var 1 (pv 1)) (el_nil))))) (e_int) (fun _ _ => rfl)))
theorem ok_full (T : Txt K mg) : FnOk P w K mg base CX0 1 T.a_full T.d_full ["rooms"] (spF K F_full) :=
  fn_ok 1 1 T.F_full sc_full rfl rfl fun cdv A outer s H E hr =>
    b_one (s_ret (e_callTy call_tuple_of okTuple (by rfl) T.z_tuple PyProof.Rows.boot_tuple (el_cons (e_var 0 (pv 0)) (el_nil))))
theorem ok_greatest_still (T : Txt K mg) (G_stands : FnOk P w K mg base CX0 5 T.a_stands T.d_stands ["rooms", "standing", "word"] (spF K F_stands)) (G_full : FnOk P w K mg base CX0 1 T.a_full T.d_full ["rooms"] (spF K F_full)) : FnOk P w K mg base CX0 6 T.a_greatest_still T.d_greatest_still ["rooms", "word"] (spF K F_greatest_still) :=
  fn_ok 2 2 T.F_greatest_still sc_greatest_still rfl rfl fun cdv A outer s H E hr =>
    b_one (s_ret (e_ix ix_seq okIx (e_call G_stands hr (by rfl) T.m_stands T.F_stands.kp T.b_stands .nil (fun _ => .nil) (el_cons (e_var 0 (pv 0)) (el_cons (e_call G_full (hr.mono (by omega)) (by rfl) T.m_full T.F_full.kp T.b_full .nil (fun _ => .nil) (el_cons (e_var 0 (pv 0)) (el_nil))) (el_cons (e_var 1 (pv 1)) (el_nil))))) (e_int) (fun _ _ => rfl)))
theorem ok_w_sums (T : Txt K mg) : FnOk P w K mg base CX0 1 T.a_w_sums T.d_w_sums ["_law_lot"] (spF K F_w_sums) :=
  fn_ok 1 3 T.F_w_sums sc_w_sums rfl rfl fun cdv A outer s H E hr =>
    b_cons (s_set (i := 1) sc_w_sums.nd rfl (.inl rfl) (by decide) (e_lst (el_cons (e_int) (el_nil))))
    (b_cons (s_for PassesOwn.never rfl (i_seq (e_var 0 (pv 0))) (g_name sc_w_sums.nd rfl (.inl rfl) (by decide)) (b_one (s_expr (e_mut PySem.F.slot_list_append PySem.F.type_list_append mt_append okAppend (pv 1) (el_cons (e_bin opAddX okAdd (e_ix ix_seq okIx (e_var 1 (pv 1)) (e_un un_neg okNeg (e_int)) (fun _ _ => rfl)) (e_var 2 (pv 2))) (el_nil))))))
    (b_one (s_ret (e_var 1 (pv 1)))))
theorem ok_w_right (T : Txt K mg) (G_w_all : FnOk P w K mg base CX0 1 T.a_w_all T.d_w_all ["_law_sizes_here"] (spF K F_w_all)) (G_w_sizes : FnOk P w K mg base CX0 2 T.a_w_sizes T.d_w_sizes ["_law_box_here", "_law_most", "_law_high"] (spF K F_w_sizes)) (G_w_runs : FnOk P w K mg base CX0 2 T.a_w_runs T.d_w_runs ["_law_box_here", "_law_most", "_law_high"] (spF K F_w_runs)) (G_w_end : FnOk P w K mg base CX0 4 T.a_w_end T.d_w_end ["_law_sizes_here", "_law_lot", "_law_runs_here"] (spF K F_w_end)) (G_w_same : FnOk P w K mg base CX0 12 T.a_w_same T.d_w_same ["_law_found", "_law_due"] (spF K (F_w_same 12))) (G_least_still : FnOk P w K mg base CX0 6 T.a_least_still T.d_least_still ["rooms", "word"] (spF K F_least_still)) (G_greatest_still : FnOk P w K mg base CX0 6 T.a_greatest_still T.d_greatest_still ["rooms", "word"] (spF K F_greatest_still)) (G_w_sums : FnOk P w K mg base CX0 1 T.a_w_sums T.d_w_sums ["_law_lot"] (spF K F_w_sums)) (G_w_gone : FnOk P w K mg base CX0 3 T.a_w_gone T.d_w_gone ["_law_sizes_here", "_law_lot", "_law_runs_here"] (spF K F_w_gone)) : FnOk P w K mg base CX0 13 T.a_w_right T.d_w_right ["_law_box_here"] (spF K F_w_right) :=
  fn_ok 1 12 T.F_w_right sc_w_right rfl rfl fun cdv A outer s H E hr =>
    b_cons (s_for PassesOwn.never rfl (i_range1 (by rfl) T.z_range (el_cons (e_int) (el_nil))) (g_name sc_w_right.nd rfl (.inl rfl) (by decide)) (b_cons (s_par' (i := 2) (j := 3) rfl sc_w_right.nd rfl rfl (by decide) rfl rfl (by decide) (by decide) (el_cons (e_call G_w_sizes (hr.mono (by omega)) (by rfl) T.m_w_sizes T.F_w_sizes.kp T.b_w_sizes .nil (fun _ => .nil) (el_cons (e_var 0 (pv 0)) (el_cons (e_int) (el_cons (e_int) (el_nil))))) (el_cons (e_call G_w_runs (hr.mono (by omega)) (by rfl) T.m_w_runs T.F_w_runs.kp T.b_w_runs .nil (fun _ => .nil) (el_cons (e_var 0 (pv 0)) (el_cons (e_int) (el_cons (e_int) (el_nil))))) (el_nil))) (by rfl))
    (b_cons (s_par' (i := 4) (j := 5) rfl sc_w_right.nd rfl rfl (by decide) rfl rfl (by decide) (by decide) (el_cons (e_call G_w_end (hr.mono (by omega)) (by rfl) T.m_w_end T.F_w_end.kp T.b_w_end .nil (fun _ => .nil) (el_cons (e_var 2 (pv 2)) (el_cons (e_bin opMulX okMul (e_tup (el_cons (e_int) (el_nil))) (e_callB opLenX okLen (by rfl) T.z_len PySem.boot_len (el_cons (e_var 2 (pv 2)) (el_nil)))) (el_cons (e_var 3 (pv 3)) (el_nil))))) (el_cons (e_call G_w_end (hr.mono (by omega)) (by rfl) T.m_w_end T.F_w_end.kp T.b_w_end .nil (fun _ => .nil) (el_cons (e_var 2 (pv 2)) (el_cons (e_var 2 (pv 2)) (el_cons (e_var 3 (pv 3)) (el_nil))))) (el_nil))) (by rfl))
    (b_cons (s_if (t_not (t_val (e_call G_w_same hr (by rfl) T.m_w_same T.F_w_same.kp T.b_w_same .nil (fun _ => .nil) (el_cons (e_lst (el_cons (e_call G_least_still (hr.mono (by omega)) (by rfl) T.m_least_still T.F_least_still.kp T.b_least_still .nil (fun _ => .nil) (el_cons (e_var 2 (pv 2)) (el_cons (e_var 3 (pv 3)) (el_nil)))) (el_cons (e_call G_greatest_still (hr.mono (by omega)) (by rfl) T.m_greatest_still T.F_greatest_still.kp T.b_greatest_still .nil (fun _ => .nil) (el_cons (e_var 2 (pv 2)) (el_cons (e_var 3 (pv 3)) (el_nil)))) (el_nil)))) (el_cons (e_lst (el_cons (e_var 4 (pv 4)) (el_cons (e_var 5 (pv 5)) (el_nil)))) (el_nil)))))) (b_one (s_ret (e_bl))) (b_nil))
    (b_cons (s_set (i := 6) sc_w_right.nd rfl (.inl rfl) (by decide) (e_lst (el_cons (e_callK0 G_least_still (hr.mono (by omega)) (by rfl) T.m_least_still T.F_least_still.kp T.kb_least_still_0_10 (ek_cons (e_var 3 (pv 3)) (ek_cons (e_callTy call_list_of okList (by rfl) T.z_list PyProof.Rows.boot_list (el_cons (e_var 2 (pv 2)) (el_nil))) (ek_nil)))) (el_cons (e_callK0 G_greatest_still (hr.mono (by omega)) (by rfl) T.m_greatest_still T.F_greatest_still.kp T.kb_greatest_still_0_10 (ek_cons (e_var 3 (pv 3)) (ek_cons (e_var 2 (pv 2)) (ek_nil)))) (el_nil)))))
    (b_cons (s_if (t_not (t_val (e_call G_w_same hr (by rfl) T.m_w_same T.F_w_same.kp T.b_w_same .nil (fun _ => .nil) (el_cons (e_var 6 (pv 6)) (el_cons (e_lst (el_cons (e_var 4 (pv 4)) (el_cons (e_var 5 (pv 5)) (el_nil)))) (el_nil)))))) (b_one (s_ret (e_bl))) (b_nil))
    (b_cons (s_if (PW.pt (t_or (t_cmp (op_neD hr.units) okNe (e_call G_w_gone (hr.mono (by omega)) (by rfl) T.m_w_gone T.F_w_gone.kp T.b_w_gone .nil (fun _ => .nil) (el_cons (e_var 2 (pv 2)) (el_cons (e_var 4 (pv 4)) (el_cons (e_var 3 (pv 3)) (el_nil))))) (e_var 4 (pv 4)) (nomark _)) (t_one' (t_cmp (op_neD hr.units) okNe (e_call G_w_gone (hr.mono (by omega)) (by rfl) T.m_w_gone T.F_w_gone.kp T.b_w_gone .nil (fun _ => .nil) (el_cons (e_var 2 (pv 2)) (el_cons (e_var 5 (pv 5)) (el_cons (e_var 3 (pv 3)) (el_nil))))) (e_var 5 (pv 5)) (nomark _))))) (b_one (s_ret (e_bl))) (b_nil))
    (b_cons (s_asg (e_tup (el_cons (e_call G_w_sums (hr.mono (by omega)) (by rfl) T.m_w_sums T.F_w_sums.kp T.b_w_sums .nil (fun _ => .nil) (el_cons (e_var 4 (pv 4)) (el_nil))) (el_cons (e_call G_w_sums (hr.mono (by omega)) (by rfl) T.m_w_sums T.F_w_sums.kp T.b_w_sums .nil (fun _ => .nil) (el_cons (e_var 5 (pv 5)) (el_nil))) (el_nil)))) (g_tup rfl (gs_cons (g_name sc_w_right.nd rfl (.inr rfl) (by decide)) (gs_cons (g_name sc_w_right.nd rfl (.inr rfl) (by decide)) (gs_nil))) (fun _ _ _ h => gsCons_len (fun _ _ _ h => gsCons_len (fun _ _ _ h => gsNil_len h) h) h)))
    (b_one (s_for PassesOwn.never rfl (i_seq (e_call G_w_all (hr.mono (by omega)) (by rfl) T.m_w_all T.F_w_all.kp T.b_w_all .nil (fun _ => .nil) (el_cons (e_var 2 (pv 2)) (el_nil)))) (g_name sc_w_right.nd rfl (.inl rfl) (by decide)) (b_one (s_if (t_cmp (op_eqD hr.units) okEq (e_call G_w_gone (hr.mono (by omega)) (by rfl) T.m_w_gone T.F_w_gone.kp T.b_w_gone .nil (fun _ => .nil) (el_cons (e_var 2 (pv 2)) (el_cons (e_var 9 (pv 9)) (el_cons (e_var 3 (pv 3)) (el_nil))))) (e_var 9 (pv 9)) (nomark _)) (b_cons (s_set (i := 10) sc_w_right.nd rfl (.inr rfl) (by decide) (e_call G_w_sums (hr.mono (by omega)) (by rfl) T.m_w_sums T.F_w_sums.kp T.b_w_sums .nil (fun _ => .nil) (el_cons (e_var 9 (pv 9)) (el_nil))))
    (b_one (s_if (t_not (t_val (e_callB (cr_all rfl) okAll (by rfl) T.z_all boot_all (el_cons (e_lc (own := [("_law_k", 11)]) rfl sc_w_right.nd (i_range1 (by rfl) T.z_range (el_cons (e_callB opLenX okLen (by rfl) T.z_len PySem.boot_len (el_cons (e_var 10 (pv 10)) (el_nil))) (el_nil))) (blkOk_by (own := [("_law_k", 11)]) (N := N_w_right) (sc := defScope s_w_right) (by decide +kernel)) (fun _ _ _ _ _ => g_name sc_w_right.nd rfl (.inl rfl) (by decide)) (fun _ _ _ _ _ => ts_nil) (fun _ _ _ _ _ => e_chain op_le op_le okCmp okCmp (e_ix ix_seq okIx (e_var 7 (pv 7)) (e_var 11 (pv 11)) (fun _ _ => rfl)) (e_ix ix_seq okIx (e_var 10 (pv 10)) (e_var 11 (pv 11)) (fun _ _ => rfl)) (e_ix ix_seq okIx (e_var 8 (pv 8)) (e_var 11 (pv 11)) (fun _ _ => rfl)) (by with_unfolding_all rfl))) (el_nil))))) (b_one (s_ret (e_bl))) (b_nil)))) (b_nil)))))))))))))
    (b_one (s_ret (e_bl)))
theorem ok_w_box (T : Txt K mg) : FnOk P w K mg base CX0 1 T.a_w_box T.d_w_box ["_law_script", "_law_k"] (spF K F_w_box) :=
  fn_ok 2 3 T.F_w_box sc_w_box rfl rfl fun cdv A outer s H E hr =>
    b_cons (s_set (i := 2) sc_w_box.nd rfl (.inl rfl) (by decide) (e_ite (t_cmp op_lt okCmp (e_var 1 (pv 1)) (e_callB opLenX okLen (by rfl) T.z_len PySem.boot_len (el_cons (e_var 0 (pv 0)) (el_nil))) (nomark _)) (e_ix ix_seq okIx (e_var 0 (pv 0)) (e_var 1 (pv 1)) (fun _ _ => rfl)) (e_int)))
    (b_one (s_ret (e_lst (el_cons (e_bin opMulX okMul (e_callB call_abs okAbs (by rfl) T.z_abs boot_abs (el_cons (e_var 2 (pv 2)) (el_nil))) (e_callTy call_int1 okInt (by rfl) T.z_int PyProof.Rows.boot_int (el_cons (e_cmp op_ge okCmp (e_callB call_abs okAbs (by rfl) T.z_abs boot_abs (el_cons (e_var 2 (pv 2)) (el_nil))) (e_bin op_pow okPow (e_int) (e_int)) (nomark _)) (el_nil)))) (el_cons (e_bin opAddX okAdd (e_bin opAddX okAdd (e_bin op_mod okMod (e_var 2 (pv 2)) (e_int)) (e_bin opMulX okMul (e_int) (e_var 1 (pv 1)))) (e_int)) (el_cons (e_int) (el_nil)))))))
theorem ok_law (T : Txt K mg) (G_w_right : FnOk P w K mg base CX0 13 T.a_w_right T.d_w_right ["_law_box_here"] (spF K F_w_right)) (G_w_box : FnOk P w K mg base CX0 1 T.a_w_box T.d_w_box ["_law_script", "_law_k"] (spF K F_w_box)) : FnOk P w K mg base CX0 14 T.a_law T.d_law ["_law_script"] (spF K F_law) :=
  fn_ok 1 2 T.F_law sc_law rfl rfl fun cdv A outer s H E hr =>
    b_one (s_ret (e_callB (cr_all rfl) okAll (by rfl) T.z_all boot_all (el_cons (e_lc (own := [("_law_k", 1)]) rfl sc_law.nd (i_range1 (by rfl) T.z_range (el_cons (e_bin opAddX okAdd (e_int) (e_callB (call_min2 rfl) okMin2 (by rfl) T.z_min boot_min (el_cons (e_int) (el_cons (e_callB opLenX okLen (by rfl) T.z_len PySem.boot_len (el_cons (e_var 0 (pv 0)) (el_nil))) (el_nil))))) (el_nil))) (blkOk_by (own := [("_law_k", 1)]) (N := N_law) (sc := defScope s_law) (by decide +kernel)) (fun _ _ _ _ _ => g_name sc_law.nd rfl (.inl rfl) (by decide)) (fun _ _ _ _ _ => ts_nil) (fun _ _ _ _ _ => e_call G_w_right hr (by rfl) T.m_w_right T.F_w_right.kp T.b_w_right .nil (fun _ => .nil) (el_cons (e_call G_w_box (hr.mono (by omega)) (by rfl) T.m_w_box T.F_w_box.kp T.b_w_box .nil (fun _ => .nil) (el_cons (e_var 0 (pv 0)) (el_cons (e_var 1 (pv 1)) (el_nil)))) (el_nil)))) (el_nil))))
theorem ok_all (T : Txt K mg) : FnOk P w K mg base CX0 14 T.a_law T.d_law ["_law_script"] (spF K F_law) := by
  have G_w_all := ok_w_all (P := P) (w := w) (base := base) T
  have G_w_take := ok_w_take (P := P) (w := w) (base := base) T
  have G_w_sizes := ok_w_sizes (P := P) (w := w) (base := base) T G_w_take
  have G_w_runs := ok_w_runs (P := P) (w := w) (base := base) T G_w_take
  have G_w_spot := ok_w_spot (P := P) (w := w) (base := base) T
  have G_w_breathed := ok_w_breathed (P := P) (w := w) (base := base) T G_w_spot
  have G_w_gone := ok_w_gone (P := P) (w := w) (base := base) T G_w_breathed
  have G_w_end := ok_w_end (P := P) (w := w) (base := base) T G_w_gone
  have G_w_same := ok_w_same (P := P) (w := w) (base := base) T 12
  have G_from_its_hand := ok_from_its_hand (P := P) (w := w) (base := base) T
  have G_run_done := ok_run_done (P := P) (w := w) (base := base) T G_from_its_hand
  have G_breathed := ok_breathed (P := P) (w := w) (base := base) T G_run_done
  have G_behind_each := ok_behind_each (P := P) (w := w) (base := base) T G_breathed
  have G_stands := ok_stands (P := P) (w := w) (base := base) T G_behind_each
  have G_bare := ok_bare (P := P) (w := w) (base := base) T
  have G_least_still := ok_least_still (P := P) (w := w) (base := base) T G_stands G_bare
  have G_full := ok_full (P := P) (w := w) (base := base) T
  have G_greatest_still := ok_greatest_still (P := P) (w := w) (base := base) T G_stands G_full
  have G_w_sums := ok_w_sums (P := P) (w := w) (base := base) T
  have G_w_right := ok_w_right (P := P) (w := w) (base := base) T G_w_all G_w_sizes G_w_runs G_w_end G_w_same G_least_still G_greatest_still G_w_sums G_w_gone
  have G_w_box := ok_w_box (P := P) (w := w) (base := base) T
  exact ok_law T G_w_right G_w_box
end
theorem all_mk {l : PySem.W.OpenLaw} {w : World} {K : PySem.W.Frag} {h : Heap} {mg : Str → Option Value} {fa f_w_all f_w_take f_w_sizes f_w_runs f_w_spot f_w_breathed f_w_gone f_w_end f_w_same f_from_its_hand f_run_done f_breathed f_behind_each f_stands f_bare f_least_still f_full f_greatest_still f_w_sums f_w_right f_w_box f_law : Addr} (X : K.In h) (G : h.Ns mainGlobals mg) (hfa : mg "law" = some (.ref fa))
    {od_w_all an_w_all od_w_take an_w_take od_w_sizes an_w_sizes od_w_runs an_w_runs od_w_spot an_w_spot od_w_breathed an_w_breathed od_w_gone an_w_gone od_w_end an_w_end od_w_same an_w_same od_from_its_hand an_from_its_hand od_run_done an_run_done od_breathed an_breathed od_behind_each an_behind_each od_stands an_stands od_bare an_bare od_least_still an_least_still od_full an_full od_greatest_still an_greatest_still od_w_sums an_w_sums od_w_right an_w_right od_w_box an_w_box od_law an_law : Option Addr} {sl_w_all sl_w_take sl_w_sizes sl_w_runs sl_w_spot sl_w_breathed sl_w_gone sl_w_end sl_w_same sl_from_its_hand sl_run_done sl_breathed sl_behind_each sl_stands sl_bare sl_least_still sl_full sl_greatest_still sl_w_sums sl_w_right sl_w_box sl_law : Array (Option Value)}
    {oc_w_all kV_w_all dc_w_all pm_w_all cd_w_all ct_w_all oc_w_take kV_w_take dc_w_take pm_w_take cd_w_take ct_w_take oc_w_sizes kV_w_sizes dc_w_sizes pm_w_sizes cd_w_sizes ct_w_sizes oc_w_runs kV_w_runs dc_w_runs pm_w_runs cd_w_runs ct_w_runs oc_w_spot kV_w_spot dc_w_spot pm_w_spot cd_w_spot ct_w_spot oc_w_breathed kV_w_breathed dc_w_breathed pm_w_breathed cd_w_breathed ct_w_breathed oc_w_gone kV_w_gone dc_w_gone pm_w_gone cd_w_gone ct_w_gone oc_w_end kV_w_end dc_w_end pm_w_end cd_w_end ct_w_end oc_w_same kV_w_same dc_w_same pm_w_same cd_w_same ct_w_same oc_from_its_hand kV_from_its_hand dc_from_its_hand pm_from_its_hand cd_from_its_hand ct_from_its_hand oc_run_done kV_run_done dc_run_done pm_run_done cd_run_done ct_run_done oc_breathed kV_breathed dc_breathed pm_breathed cd_breathed ct_breathed oc_behind_each kV_behind_each dc_behind_each pm_behind_each cd_behind_each ct_behind_each oc_stands kV_stands dc_stands pm_stands cd_stands ct_stands oc_bare kV_bare dc_bare pm_bare cd_bare ct_bare oc_least_still kV_least_still dc_least_still pm_least_still cd_least_still ct_least_still oc_full kV_full dc_full pm_full cd_full ct_full oc_greatest_still kV_greatest_still dc_greatest_still pm_greatest_still cd_greatest_still ct_greatest_still oc_w_sums kV_w_sums dc_w_sums pm_w_sums cd_w_sums ct_w_sums oc_w_right kV_w_right dc_w_right pm_w_right cd_w_right ct_w_right oc_w_box kV_w_box dc_w_box pm_w_box cd_w_box ct_w_box oc_law kV_law dc_law pm_law cd_law ct_law : Value}
    {t_LEFT_IN t_LEFT_OUT t_RIGHT_IN : Tok}
    (a_w_all : PySem.W.nsIn K mainGlobals "_law_all" = some (some (.ref f_w_all))) (l_w_all : K.lookup f_w_all = some ⟨oc_w_all, od_w_all, .func (PySem.W.fnOf "_law_all" "_law_all" (defArgs s_w_all) (defBody s_w_all) (defScope s_w_all) .none kV_w_all dc_w_all pm_w_all an_w_all cd_w_all ct_w_all), sl_w_all⟩) (c_w_all : PySem.W.codeIn K cd_w_all "_law_all" = true) (k_w_all : PySem.W.keepIn K (.ref f_w_all) = true)
    (a_w_take : PySem.W.nsIn K mainGlobals "_law_take" = some (some (.ref f_w_take))) (l_w_take : K.lookup f_w_take = some ⟨oc_w_take, od_w_take, .func (PySem.W.fnOf "_law_take" "_law_take" (defArgs s_w_take) (defBody s_w_take) (defScope s_w_take) .none kV_w_take dc_w_take pm_w_take an_w_take cd_w_take ct_w_take), sl_w_take⟩) (c_w_take : PySem.W.codeIn K cd_w_take "_law_take" = true) (k_w_take : PySem.W.keepIn K (.ref f_w_take) = true)
    (a_w_sizes : PySem.W.nsIn K mainGlobals "_law_sizes" = some (some (.ref f_w_sizes))) (l_w_sizes : K.lookup f_w_sizes = some ⟨oc_w_sizes, od_w_sizes, .func (PySem.W.fnOf "_law_sizes" "_law_sizes" (defArgs s_w_sizes) (defBody s_w_sizes) (defScope s_w_sizes) .none kV_w_sizes dc_w_sizes pm_w_sizes an_w_sizes cd_w_sizes ct_w_sizes), sl_w_sizes⟩) (c_w_sizes : PySem.W.codeIn K cd_w_sizes "_law_sizes" = true) (k_w_sizes : PySem.W.keepIn K (.ref f_w_sizes) = true)
    (a_w_runs : PySem.W.nsIn K mainGlobals "_law_runs" = some (some (.ref f_w_runs))) (l_w_runs : K.lookup f_w_runs = some ⟨oc_w_runs, od_w_runs, .func (PySem.W.fnOf "_law_runs" "_law_runs" (defArgs s_w_runs) (defBody s_w_runs) (defScope s_w_runs) .none kV_w_runs dc_w_runs pm_w_runs an_w_runs cd_w_runs ct_w_runs), sl_w_runs⟩) (c_w_runs : PySem.W.codeIn K cd_w_runs "_law_runs" = true) (k_w_runs : PySem.W.keepIn K (.ref f_w_runs) = true)
    (a_w_spot : PySem.W.nsIn K mainGlobals "_law_spot" = some (some (.ref f_w_spot))) (l_w_spot : K.lookup f_w_spot = some ⟨oc_w_spot, od_w_spot, .func (PySem.W.fnOf "_law_spot" "_law_spot" (defArgs s_w_spot) (defBody s_w_spot) (defScope s_w_spot) .none kV_w_spot dc_w_spot pm_w_spot an_w_spot cd_w_spot ct_w_spot), sl_w_spot⟩) (c_w_spot : PySem.W.codeIn K cd_w_spot "_law_spot" = true) (k_w_spot : PySem.W.keepIn K (.ref f_w_spot) = true)
    (a_w_breathed : PySem.W.nsIn K mainGlobals "_law_breathed" = some (some (.ref f_w_breathed))) (l_w_breathed : K.lookup f_w_breathed = some ⟨oc_w_breathed, od_w_breathed, .func (PySem.W.fnOf "_law_breathed" "_law_breathed" (defArgs s_w_breathed) (defBody s_w_breathed) (defScope s_w_breathed) .none kV_w_breathed dc_w_breathed pm_w_breathed an_w_breathed cd_w_breathed ct_w_breathed), sl_w_breathed⟩) (c_w_breathed : PySem.W.codeIn K cd_w_breathed "_law_breathed" = true) (k_w_breathed : PySem.W.keepIn K (.ref f_w_breathed) = true)
    (a_w_gone : PySem.W.nsIn K mainGlobals "_law_gone" = some (some (.ref f_w_gone))) (l_w_gone : K.lookup f_w_gone = some ⟨oc_w_gone, od_w_gone, .func (PySem.W.fnOf "_law_gone" "_law_gone" (defArgs s_w_gone) (defBody s_w_gone) (defScope s_w_gone) .none kV_w_gone dc_w_gone pm_w_gone an_w_gone cd_w_gone ct_w_gone), sl_w_gone⟩) (c_w_gone : PySem.W.codeIn K cd_w_gone "_law_gone" = true) (k_w_gone : PySem.W.keepIn K (.ref f_w_gone) = true)
    (a_w_end : PySem.W.nsIn K mainGlobals "_law_end" = some (some (.ref f_w_end))) (l_w_end : K.lookup f_w_end = some ⟨oc_w_end, od_w_end, .func (PySem.W.fnOf "_law_end" "_law_end" (defArgs s_w_end) (defBody s_w_end) (defScope s_w_end) .none kV_w_end dc_w_end pm_w_end an_w_end cd_w_end ct_w_end), sl_w_end⟩) (c_w_end : PySem.W.codeIn K cd_w_end "_law_end" = true) (k_w_end : PySem.W.keepIn K (.ref f_w_end) = true)
    (a_w_same : PySem.W.nsIn K mainGlobals "_law_same" = some (some (.ref f_w_same))) (l_w_same : K.lookup f_w_same = some ⟨oc_w_same, od_w_same, .func (PySem.W.fnOf "_law_same" "_law_same" (defArgs s_w_same) (defBody s_w_same) (defScope s_w_same) .none kV_w_same dc_w_same pm_w_same an_w_same cd_w_same ct_w_same), sl_w_same⟩) (c_w_same : PySem.W.codeIn K cd_w_same "_law_same" = true) (k_w_same : PySem.W.keepIn K (.ref f_w_same) = true)
    (a_from_its_hand : PySem.W.nsIn K mainGlobals "from_its_hand" = some (some (.ref f_from_its_hand))) (l_from_its_hand : K.lookup f_from_its_hand = some ⟨oc_from_its_hand, od_from_its_hand, .func (PySem.W.fnOf "from_its_hand" "from_its_hand" (defArgs s_from_its_hand) (defBody s_from_its_hand) (defScope s_from_its_hand) .none kV_from_its_hand dc_from_its_hand pm_from_its_hand an_from_its_hand cd_from_its_hand ct_from_its_hand), sl_from_its_hand⟩) (c_from_its_hand : PySem.W.codeIn K cd_from_its_hand "from_its_hand" = true) (k_from_its_hand : PySem.W.keepIn K (.ref f_from_its_hand) = true)
    (a_run_done : PySem.W.nsIn K mainGlobals "run_done" = some (some (.ref f_run_done))) (l_run_done : K.lookup f_run_done = some ⟨oc_run_done, od_run_done, .func (PySem.W.fnOf "run_done" "run_done" (defArgs s_run_done) (defBody s_run_done) (defScope s_run_done) .none kV_run_done dc_run_done pm_run_done an_run_done cd_run_done ct_run_done), sl_run_done⟩) (c_run_done : PySem.W.codeIn K cd_run_done "run_done" = true) (k_run_done : PySem.W.keepIn K (.ref f_run_done) = true)
    (a_breathed : PySem.W.nsIn K mainGlobals "breathed" = some (some (.ref f_breathed))) (l_breathed : K.lookup f_breathed = some ⟨oc_breathed, od_breathed, .func (PySem.W.fnOf "breathed" "breathed" (defArgs s_breathed) (defBody s_breathed) (defScope s_breathed) .none kV_breathed dc_breathed pm_breathed an_breathed cd_breathed ct_breathed), sl_breathed⟩) (c_breathed : PySem.W.codeIn K cd_breathed "breathed" = true) (k_breathed : PySem.W.keepIn K (.ref f_breathed) = true)
    (a_behind_each : PySem.W.nsIn K mainGlobals "behind_each" = some (some (.ref f_behind_each))) (l_behind_each : K.lookup f_behind_each = some ⟨oc_behind_each, od_behind_each, .func (PySem.W.fnOf "behind_each" "behind_each" (defArgs s_behind_each) (defBody s_behind_each) (defScope s_behind_each) .none kV_behind_each dc_behind_each pm_behind_each an_behind_each cd_behind_each ct_behind_each), sl_behind_each⟩) (c_behind_each : PySem.W.codeIn K cd_behind_each "behind_each" = true) (k_behind_each : PySem.W.keepIn K (.ref f_behind_each) = true)
    (a_stands : PySem.W.nsIn K mainGlobals "stands" = some (some (.ref f_stands))) (l_stands : K.lookup f_stands = some ⟨oc_stands, od_stands, .func (PySem.W.fnOf "stands" "stands" (defArgs s_stands) (defBody s_stands) (defScope s_stands) .none kV_stands dc_stands pm_stands an_stands cd_stands ct_stands), sl_stands⟩) (c_stands : PySem.W.codeIn K cd_stands "stands" = true) (k_stands : PySem.W.keepIn K (.ref f_stands) = true)
    (a_bare : PySem.W.nsIn K mainGlobals "bare" = some (some (.ref f_bare))) (l_bare : K.lookup f_bare = some ⟨oc_bare, od_bare, .func (PySem.W.fnOf "bare" "bare" (defArgs s_bare) (defBody s_bare) (defScope s_bare) .none kV_bare dc_bare pm_bare an_bare cd_bare ct_bare), sl_bare⟩) (c_bare : PySem.W.codeIn K cd_bare "bare" = true) (k_bare : PySem.W.keepIn K (.ref f_bare) = true)
    (a_least_still : PySem.W.nsIn K mainGlobals "least_still" = some (some (.ref f_least_still))) (l_least_still : K.lookup f_least_still = some ⟨oc_least_still, od_least_still, .func (PySem.W.fnOf "least_still" "least_still" (defArgs s_least_still) (defBody s_least_still) (defScope s_least_still) .none kV_least_still dc_least_still pm_least_still an_least_still cd_least_still ct_least_still), sl_least_still⟩) (c_least_still : PySem.W.codeIn K cd_least_still "least_still" = true) (k_least_still : PySem.W.keepIn K (.ref f_least_still) = true)
    (a_full : PySem.W.nsIn K mainGlobals "full" = some (some (.ref f_full))) (l_full : K.lookup f_full = some ⟨oc_full, od_full, .func (PySem.W.fnOf "full" "full" (defArgs s_full) (defBody s_full) (defScope s_full) .none kV_full dc_full pm_full an_full cd_full ct_full), sl_full⟩) (c_full : PySem.W.codeIn K cd_full "full" = true) (k_full : PySem.W.keepIn K (.ref f_full) = true)
    (a_greatest_still : PySem.W.nsIn K mainGlobals "greatest_still" = some (some (.ref f_greatest_still))) (l_greatest_still : K.lookup f_greatest_still = some ⟨oc_greatest_still, od_greatest_still, .func (PySem.W.fnOf "greatest_still" "greatest_still" (defArgs s_greatest_still) (defBody s_greatest_still) (defScope s_greatest_still) .none kV_greatest_still dc_greatest_still pm_greatest_still an_greatest_still cd_greatest_still ct_greatest_still), sl_greatest_still⟩) (c_greatest_still : PySem.W.codeIn K cd_greatest_still "greatest_still" = true) (k_greatest_still : PySem.W.keepIn K (.ref f_greatest_still) = true)
    (a_w_sums : PySem.W.nsIn K mainGlobals "_law_sums" = some (some (.ref f_w_sums))) (l_w_sums : K.lookup f_w_sums = some ⟨oc_w_sums, od_w_sums, .func (PySem.W.fnOf "_law_sums" "_law_sums" (defArgs s_w_sums) (defBody s_w_sums) (defScope s_w_sums) .none kV_w_sums dc_w_sums pm_w_sums an_w_sums cd_w_sums ct_w_sums), sl_w_sums⟩) (c_w_sums : PySem.W.codeIn K cd_w_sums "_law_sums" = true) (k_w_sums : PySem.W.keepIn K (.ref f_w_sums) = true)
    (a_w_right : PySem.W.nsIn K mainGlobals "_law_right" = some (some (.ref f_w_right))) (l_w_right : K.lookup f_w_right = some ⟨oc_w_right, od_w_right, .func (PySem.W.fnOf "_law_right" "_law_right" (defArgs s_w_right) (defBody s_w_right) (defScope s_w_right) .none kV_w_right dc_w_right pm_w_right an_w_right cd_w_right ct_w_right), sl_w_right⟩) (c_w_right : PySem.W.codeIn K cd_w_right "_law_right" = true) (k_w_right : PySem.W.keepIn K (.ref f_w_right) = true)
    (a_w_box : PySem.W.nsIn K mainGlobals "_law_box" = some (some (.ref f_w_box))) (l_w_box : K.lookup f_w_box = some ⟨oc_w_box, od_w_box, .func (PySem.W.fnOf "_law_box" "_law_box" (defArgs s_w_box) (defBody s_w_box) (defScope s_w_box) .none kV_w_box dc_w_box pm_w_box an_w_box cd_w_box ct_w_box), sl_w_box⟩) (c_w_box : PySem.W.codeIn K cd_w_box "_law_box" = true) (k_w_box : PySem.W.keepIn K (.ref f_w_box) = true)
    (a_law : PySem.W.nsIn K mainGlobals "law" = some (some (.ref f_law))) (l_law : K.lookup f_law = some ⟨oc_law, od_law, .func (PySem.W.fnOf "law" "law" (defArgs s_law) (defBody s_law) (defScope s_law) .none kV_law dc_law pm_law an_law cd_law ct_law), sl_law⟩) (c_law : PySem.W.codeIn K cd_law "law" = true) (k_law : PySem.W.keepIn K (.ref f_law) = true)
    (z_abs : PySem.W.nsIn K mainGlobals "abs" = some none)
    (z_all : PySem.W.nsIn K mainGlobals "all" = some none)
    (z_bool : PySem.W.nsIn K mainGlobals "bool" = some none)
    (z_enumerate : PySem.W.nsIn K mainGlobals "enumerate" = some none)
    (z_int : PySem.W.nsIn K mainGlobals "int" = some none)
    (z_isinstance : PySem.W.nsIn K mainGlobals "isinstance" = some none)
    (z_len : PySem.W.nsIn K mainGlobals "len" = some none)
    (z_list : PySem.W.nsIn K mainGlobals "list" = some none)
    (z_min : PySem.W.nsIn K mainGlobals "min" = some none)
    (z_range : PySem.W.nsIn K mainGlobals "range" = some none)
    (z_reversed : PySem.W.nsIn K mainGlobals "reversed" = some none)
    (z_str : PySem.W.nsIn K mainGlobals "str" = some none)
    (z_sum : PySem.W.nsIn K mainGlobals "sum" = some none)
    (z_tuple : PySem.W.nsIn K mainGlobals "tuple" = some none)
    (z_zip : PySem.W.nsIn K mainGlobals "zip" = some none)
    (g_LEFT_IN : PySem.W.nsIn K mainGlobals "LEFT_IN" = some (some (.str "L+" t_LEFT_IN)))
    (g_LEFT_OUT : PySem.W.nsIn K mainGlobals "LEFT_OUT" = some (some (.str "L-" t_LEFT_OUT)))
    (g_RIGHT_IN : PySem.W.nsIn K mainGlobals "RIGHT_IN" = some (some (.str "R+" t_RIGHT_IN)))
    : ∃ fd : FuncData, (∀ (s : Shared) (v : Value), BindsTo s fd ⟨[v], []⟩ [("_law_script", v)]) ∧ ∀ base : Heap, K.In base → base.Ns mainGlobals mg → FnOk l.prog w K mg base CX0 14 fa fd ["_law_script"] (spF K F_law) := by
  have e := hfa.symm.trans (PySem.W.mg_of X G a_law)
  cases e
  have F_w_all := fun_mk (st := s_w_all) l_w_all c_w_all k_w_all
  have F_w_take := fun_mk (st := s_w_take) l_w_take c_w_take k_w_take
  have F_w_sizes := fun_mk (st := s_w_sizes) l_w_sizes c_w_sizes k_w_sizes
  have F_w_runs := fun_mk (st := s_w_runs) l_w_runs c_w_runs k_w_runs
  have F_w_spot := fun_mk (st := s_w_spot) l_w_spot c_w_spot k_w_spot
  have F_w_breathed := fun_mk (st := s_w_breathed) l_w_breathed c_w_breathed k_w_breathed
  have F_w_gone := fun_mk (st := s_w_gone) l_w_gone c_w_gone k_w_gone
  have F_w_end := fun_mk (st := s_w_end) l_w_end c_w_end k_w_end
  have F_w_same := fun_mk (st := s_w_same) l_w_same c_w_same k_w_same
  have F_from_its_hand := fun_mk (st := s_from_its_hand) l_from_its_hand c_from_its_hand k_from_its_hand
  have F_run_done := fun_mk (st := s_run_done) l_run_done c_run_done k_run_done
  have F_breathed := fun_mk (st := s_breathed) l_breathed c_breathed k_breathed
  have F_behind_each := fun_mk (st := s_behind_each) l_behind_each c_behind_each k_behind_each
  have F_stands := fun_mk (st := s_stands) l_stands c_stands k_stands
  have F_bare := fun_mk (st := s_bare) l_bare c_bare k_bare
  have F_least_still := fun_mk (st := s_least_still) l_least_still c_least_still k_least_still
  have F_full := fun_mk (st := s_full) l_full c_full k_full
  have F_greatest_still := fun_mk (st := s_greatest_still) l_greatest_still c_greatest_still k_greatest_still
  have F_w_sums := fun_mk (st := s_w_sums) l_w_sums c_w_sums k_w_sums
  have F_w_right := fun_mk (st := s_w_right) l_w_right c_w_right k_w_right
  have F_w_box := fun_mk (st := s_w_box) l_w_box c_w_box k_w_box
  have F_law := fun_mk (st := s_law) l_law c_law k_law
  let T : Txt K mg := {
    a_w_all := f_w_all,
    d_w_all := _,
    F_w_all := F_w_all,
    m_w_all := PySem.W.mg_of X G a_w_all,
    b_w_all := F_w_all.binds (ps := ["_law_sizes_here"]) fun _ _ _ _ _ _ us hl => match us, hl with | [_], _ => rfl,
    a_w_take := f_w_take,
    d_w_take := _,
    F_w_take := F_w_take,
    m_w_take := PySem.W.mg_of X G a_w_take,
    b_w_take := F_w_take.binds (ps := ["_law_box_here", "_law_below"]) fun _ _ _ _ _ _ us hl => match us, hl with | [_, _], _ => rfl,
    a_w_sizes := f_w_sizes,
    d_w_sizes := _,
    F_w_sizes := F_w_sizes,
    m_w_sizes := PySem.W.mg_of X G a_w_sizes,
    b_w_sizes := F_w_sizes.binds (ps := ["_law_box_here", "_law_most", "_law_high"]) fun _ _ _ _ _ _ us hl => match us, hl with | [_, _, _], _ => rfl,
    a_w_runs := f_w_runs,
    d_w_runs := _,
    F_w_runs := F_w_runs,
    m_w_runs := PySem.W.mg_of X G a_w_runs,
    b_w_runs := F_w_runs.binds (ps := ["_law_box_here", "_law_most", "_law_high"]) fun _ _ _ _ _ _ us hl => match us, hl with | [_, _, _], _ => rfl,
    a_w_spot := f_w_spot,
    d_w_spot := _,
    F_w_spot := F_w_spot,
    m_w_spot := PySem.W.mg_of X G a_w_spot,
    b_w_spot := F_w_spot.binds (ps := ["_law_sizes_here", "_law_lot", "_law_breath"]) fun _ _ _ _ _ _ us hl => match us, hl with | [_, _, _], _ => rfl,
    a_w_breathed := f_w_breathed,
    d_w_breathed := _,
    F_w_breathed := F_w_breathed,
    m_w_breathed := PySem.W.mg_of X G a_w_breathed,
    b_w_breathed := F_w_breathed.binds (ps := ["_law_sizes_here", "_law_lot", "_law_breath"]) fun _ _ _ _ _ _ us hl => match us, hl with | [_, _, _], _ => rfl,
    a_w_gone := f_w_gone,
    d_w_gone := _,
    F_w_gone := F_w_gone,
    m_w_gone := PySem.W.mg_of X G a_w_gone,
    b_w_gone := F_w_gone.binds (ps := ["_law_sizes_here", "_law_lot", "_law_runs_here"]) fun _ _ _ _ _ _ us hl => match us, hl with | [_, _, _], _ => rfl,
    a_w_end := f_w_end,
    d_w_end := _,
    F_w_end := F_w_end,
    m_w_end := PySem.W.mg_of X G a_w_end,
    b_w_end := F_w_end.binds (ps := ["_law_sizes_here", "_law_lot", "_law_runs_here"]) fun _ _ _ _ _ _ us hl => match us, hl with | [_, _, _], _ => rfl,
    a_w_same := f_w_same,
    d_w_same := _,
    F_w_same := F_w_same,
    m_w_same := PySem.W.mg_of X G a_w_same,
    b_w_same := F_w_same.binds (ps := ["_law_found", "_law_due"]) fun _ _ _ _ _ _ us hl => match us, hl with | [_, _], _ => rfl,
    a_from_its_hand := f_from_its_hand,
    d_from_its_hand := _,
    F_from_its_hand := F_from_its_hand,
    m_from_its_hand := PySem.W.mg_of X G a_from_its_hand,
    b_from_its_hand := F_from_its_hand.binds (ps := ["some", "breath"]) fun _ _ _ _ _ _ us hl => match us, hl with | [_, _], _ => rfl,
    a_run_done := f_run_done,
    d_run_done := _,
    F_run_done := F_run_done,
    m_run_done := PySem.W.mg_of X G a_run_done,
    b_run_done := F_run_done.binds (ps := ["rooms", "standing", "breath", "many"]) fun _ _ _ _ _ _ us hl => match us, hl with | [_, _, _, _], _ => rfl,
    a_breathed := f_breathed,
    d_breathed := _,
    F_breathed := F_breathed,
    m_breathed := PySem.W.mg_of X G a_breathed,
    b_breathed := F_breathed.binds (ps := ["rooms", "standing", "word"]) fun _ _ _ _ _ _ us hl => match us, hl with | [_, _, _], _ => rfl,
    a_behind_each := f_behind_each,
    d_behind_each := _,
    F_behind_each := F_behind_each,
    m_behind_each := PySem.W.mg_of X G a_behind_each,
    b_behind_each := F_behind_each.binds (ps := ["rooms", "standing", "word", "many"]) fun _ _ _ _ _ _ us hl => match us, hl with | [_, _, _, _], _ => rfl,
    a_stands := f_stands,
    d_stands := _,
    F_stands := F_stands,
    m_stands := PySem.W.mg_of X G a_stands,
    b_stands := F_stands.binds (ps := ["rooms", "standing", "word"]) fun _ _ _ _ _ _ us hl => match us, hl with | [_, _, _], _ => rfl,
    a_bare := f_bare,
    d_bare := _,
    F_bare := F_bare,
    m_bare := PySem.W.mg_of X G a_bare,
    b_bare := F_bare.binds (ps := ["rooms"]) fun _ _ _ _ _ _ us hl => match us, hl with | [_], _ => rfl,
    a_least_still := f_least_still,
    d_least_still := _,
    F_least_still := F_least_still,
    m_least_still := PySem.W.mg_of X G a_least_still,
    b_least_still := F_least_still.binds (ps := ["rooms", "word"]) fun _ _ _ _ _ _ us hl => match us, hl with | [_, _], _ => rfl,
    a_full := f_full,
    d_full := _,
    F_full := F_full,
    m_full := PySem.W.mg_of X G a_full,
    b_full := F_full.binds (ps := ["rooms"]) fun _ _ _ _ _ _ us hl => match us, hl with | [_], _ => rfl,
    a_greatest_still := f_greatest_still,
    d_greatest_still := _,
    F_greatest_still := F_greatest_still,
    m_greatest_still := PySem.W.mg_of X G a_greatest_still,
    b_greatest_still := F_greatest_still.binds (ps := ["rooms", "word"]) fun _ _ _ _ _ _ us hl => match us, hl with | [_, _], _ => rfl,
    a_w_sums := f_w_sums,
    d_w_sums := _,
    F_w_sums := F_w_sums,
    m_w_sums := PySem.W.mg_of X G a_w_sums,
    b_w_sums := F_w_sums.binds (ps := ["_law_lot"]) fun _ _ _ _ _ _ us hl => match us, hl with | [_], _ => rfl,
    a_w_right := f_w_right,
    d_w_right := _,
    F_w_right := F_w_right,
    m_w_right := PySem.W.mg_of X G a_w_right,
    b_w_right := F_w_right.binds (ps := ["_law_box_here"]) fun _ _ _ _ _ _ us hl => match us, hl with | [_], _ => rfl,
    a_w_box := f_w_box,
    d_w_box := _,
    F_w_box := F_w_box,
    m_w_box := PySem.W.mg_of X G a_w_box,
    b_w_box := F_w_box.binds (ps := ["_law_script", "_law_k"]) fun _ _ _ _ _ _ us hl => match us, hl with | [_, _], _ => rfl,
    a_law := fa,
    d_law := _,
    F_law := F_law,
    m_law := PySem.W.mg_of X G a_law,
    b_law := F_law.binds (ps := ["_law_script"]) fun _ _ _ _ _ _ us hl => match us, hl with | [_], _ => rfl,
    kb_greatest_still_0_10 := kb_mk (ps := ["rooms", "word"]) (ks := ["word", "rooms"]) (n := 0) (m := 2) (pm := [1, 0]) F_greatest_still (by decide) fun _ _ _ _ _ _ us ws hl hw => match us, ws, hl, hw with | [], [_, _], _, _ => rfl,
    kb_least_still_0_10 := kb_mk (ps := ["rooms", "word"]) (ks := ["word", "rooms"]) (n := 0) (m := 2) (pm := [1, 0]) F_least_still (by decide) fun _ _ _ _ _ _ us ws hl hw => match us, ws, hl, hw with | [], [_, _], _, _ => rfl,
    z_abs := PySem.W.mg_none_of X G z_abs,
    z_all := PySem.W.mg_none_of X G z_all,
    z_bool := PySem.W.mg_none_of X G z_bool,
    z_enumerate := PySem.W.mg_none_of X G z_enumerate,
    z_int := PySem.W.mg_none_of X G z_int,
    z_isinstance := PySem.W.mg_none_of X G z_isinstance,
    z_len := PySem.W.mg_none_of X G z_len,
    z_list := PySem.W.mg_none_of X G z_list,
    z_min := PySem.W.mg_none_of X G z_min,
    z_range := PySem.W.mg_none_of X G z_range,
    z_reversed := PySem.W.mg_none_of X G z_reversed,
    z_str := PySem.W.mg_none_of X G z_str,
    z_sum := PySem.W.mg_none_of X G z_sum,
    z_tuple := PySem.W.mg_none_of X G z_tuple,
    z_zip := PySem.W.mg_none_of X G z_zip,
    t_LEFT_IN := t_LEFT_IN,
    c_LEFT_IN := PySem.W.mg_of X G g_LEFT_IN,
    t_LEFT_OUT := t_LEFT_OUT,
    c_LEFT_OUT := PySem.W.mg_of X G g_LEFT_OUT,
    t_RIGHT_IN := t_RIGHT_IN,
    c_RIGHT_IN := PySem.W.mg_of X G g_RIGHT_IN }
  exact ⟨T.d_law, fun s v => .of_eq rfl, fun base _ _ => ok_all T⟩
end LW

namespace LW
open PySem PySem.Spec PyProof.Rows L2 DL
theorem take_is : F_w_take = takeF 48271 30011 := rfl
theorem box_is : F_w_box = boxF 29 := rfl
theorem law_is : F_law = topF (topW 3) F_w_right F_w_box := rfl
theorem same_is (n : Nat) : F_w_same (n + 1) = sameA (F_w_same n) := rfl
theorem same_ok {d : D} (h : sm 12 d) : Same2 (F_w_same 12) d := same_all same_is sameA_ok 12 d h
theorem gone_is : F_w_gone = goneF := rfl
theorem sums_is : F_w_sums = sumsF := rfl
theorem least_is : F_least_still = leastF fuel bareF := rfl
theorem great_is : F_greatest_still = leastF fuel fullF := rfl
theorem take_k {n : Nat} {s : S} (h : BoxOk n s) {m : Int} (hm : 0 < m) (hm' : m < 9223372036854775808) (hn : n ≤ 100000000000) :
    ∃ r s', 0 ≤ r ∧ r < m ∧ BoxOk (n + 1) s' ∧ F_w_take [s, .val (.int m)] = some (.val (.int r), [s', .val (.int m)]) := take_ok (by decide) (by decide) (by decide) (by decide) h hm hm' hn
theorem sizes_k {n : Nat} {s : S} (h : BoxOk n s) {m k : Int} (hm : 0 < m) (hm' : m < 1000) (hk : 0 < k) (hk' : k < 1000) (hn : n ≤ 10000000) :
    ∃ xs s', BoxOk (n + 1001) s' ∧ 1 ≤ xs.length ∧ (xs.length : Int) ≤ m ∧ (∀ x ∈ xs, 1 ≤ x ∧ x ≤ k) ∧ F_w_sizes [s, .val (.int m), .val (.int k)] = some (.val (.tup (iz xs)), [s', .val (.int m), .val (.int k)]) := by
  obtain ⟨r, s1, r0, r1, h1, e1⟩ := take_k h hm (by omega) (by omega)
  obtain ⟨a, b, c, rfl, _⟩ := id h
  obtain ⟨a1, b1, c1, rfl, _⟩ := id h1
  have hs : small (1 + r) = true := decide_eq_true (by omega)
  obtain ⟨xs, g', e2, al, s2, h2, rfl⟩ := compL_inv (vs := [3]) (mt := setD 3) (mc := pure true) (me := mBin pAdd (cst (.int 1)) (mCall F_w_take [] (aCons (rd 0) (aCons (rd 2) (aNil)))))
    (fun i g => ∃ s, BoxOk (n + 1 + i) s ∧ g = [some s, some (.val (.int m)), some (.val (.int k)), none]) (fun _ x => ∃ i, x = .int i ∧ 1 ≤ i ∧ i ≤ k) (ds := upto 0 (1 + r).toNat) (n := 0) ⟨_, h1, rfl⟩ (by
      rintro d hd i _ _ hi ⟨s, hs, rfl⟩
      rw [upto_len] at hi
      obtain ⟨r, s', q0, q1, h', e⟩ := take_k hs hk (by omega) (by omega)
      obtain ⟨a, b, c, rfl, _⟩ := id hs
      obtain ⟨a', b', c', rfl, _⟩ := id h'
      refine ⟨.int (1 + r), _, ?_, ⟨_, rfl, by omega, by omega⟩, _, h', rfl⟩
      simp [bind_k, kont_s, kont_n, pure_ev, rd_e, cst_e, view_t, view_s, esc_t, esc_s, frz_v, frz_l, up_s, up_n, views_n, views_c, escs_n, escs_c, op2_e, mBin_e, op1_e, mUn_e, aNil_e, aCons_e, opL_e, mFn_e, mkTup_e, mkLst_e, mTup_e, mLst_e, tob_e, tB_e, tAnd_e, tOr_e, tNot_e, tIte_e, mIte_e, mAnd_e, mOr_e, mNot_e, mChain_e, seqM_e, cNext_e, cBrk_e, cCont_e, cRetN_e, cIf_e, cExpr_e, cSet_e, setM_t, setM_s, setD_e, retM_t, retM_s, cRet_e, asgM_e, cAsg_e, gTup_e, gsNil_e, gsCons_e, setAtM_e, cSetAt_e, getAtM_e, cAugAt_e, cAug_e, isL_e, mutM_e, mMut_e, oNone_e, oSome_e, slM_e, mSl_e, seqM'_e, wSeq_e, walkM_e, wFn_e, escW_e, wEsc_e, cFor_e, mComp_e, compM_e, takes_n, takes_t, takes_s, puts_n, puts_t, puts_s, callM_e, mCall_e, mCallK_e, toS_t, toS_s, putS_e, cPar_e, if_ap, wipeM_e, stepC_e, turnL_e, wRev_e, pAdd, pSub, pMul, pDiv, pMod, pPow, pNeg, pCmp, pLen, pAbs, pMin2, pMax2, pInt, pAll, pAny, pSum, pList, pTuple, pIs, pIsNot, pIx_l, pIx_t, pIx_r, pSl, pRev, pLR1, pLR2, pAppend, pRevL, pIn, pNotIn, pAddI, pMulI, revOf, itemsD, flatD, p1_e, p2_e, pZip, pEnum, pIsT, pIsT2, asB, asI, asV, seqOf, tyD, isTab, isNon, wipeG, backG, outs, List.set, List.getElem?_cons_zero, List.getElem?_cons_succ, iz_len, dInts_iz, pEq_int, pEq_bl, pEq_non, pNe_int, pNe_bl, e])
  obtain ⟨ns, rfl, hl, hp⟩ := al.izs
  rw [upto_len] at hl
  obtain ⟨a2, b2, c2, rfl, _⟩ := id h2
  refine ⟨ns, _, h2.up (by rw [upto_len]; omega), by omega, by omega, hp, ?_⟩
  have hl' : (upto 0 (1 + r).toNat).length ≤ 100000 := by rw [upto_len]; omega
  simp [F_w_sizes, m_w_sizes, fnM_e, bind_k, kont_s, kont_n, pure_ev, rd_e, cst_e, view_t, view_s, esc_t, esc_s, frz_v, frz_l, up_s, up_n, views_n, views_c, escs_n, escs_c, op2_e, mBin_e, op1_e, mUn_e, aNil_e, aCons_e, opL_e, mFn_e, mkTup_e, mkLst_e, mTup_e, mLst_e, tob_e, tB_e, tAnd_e, tOr_e, tNot_e, tIte_e, mIte_e, mAnd_e, mOr_e, mNot_e, mChain_e, seqM_e, cNext_e, cBrk_e, cCont_e, cRetN_e, cIf_e, cExpr_e, cSet_e, setM_t, setM_s, setD_e, retM_t, retM_s, cRet_e, asgM_e, cAsg_e, gTup_e, gsNil_e, gsCons_e, setAtM_e, cSetAt_e, getAtM_e, cAugAt_e, cAug_e, isL_e, mutM_e, mMut_e, oNone_e, oSome_e, slM_e, mSl_e, seqM'_e, wSeq_e, walkM_e, wFn_e, escW_e, wEsc_e, cFor_e, mComp_e, compM_e, takes_n, takes_t, takes_s, puts_n, puts_t, puts_s, callM_e, mCall_e, mCallK_e, toS_t, toS_s, putS_e, cPar_e, if_ap, wipeM_e, stepC_e, turnL_e, wRev_e, pAdd, pSub, pMul, pDiv, pMod, pPow, pNeg, pCmp, pLen, pAbs, pMin2, pMax2, pInt, pAll, pAny, pSum, pList, pTuple, pIs, pIsNot, pIx_l, pIx_t, pIx_r, pSl, pRev, pLR1, pLR2, pAppend, pRevL, pIn, pNotIn, pAddI, pMulI, revOf, itemsD, flatD, p1_e, p2_e, pZip, pEnum, pIsT, pIsT2, asB, asI, asV, seqOf, tyD, isTab, isNon, wipeG, backG, outs, List.set, List.getElem?_cons_zero, List.getElem?_cons_succ, iz_len, dInts_iz, pEq_int, pEq_bl, pEq_non, pNe_int, pNe_bl, e1, e2, hs, hl', pr_w_sizes]
def nth4 (i : Int) : Str := if i = 0 then "L+" else if i = 1 then "L-" else if i = 2 then "R+" else "R-"
theorem nth4_hand (i : Int) : IsHand (nth4 i) := by
  unfold nth4; split
  · exact hand1
  · split
    · exact hand2
    · split
      · exact hand3
      · exact hand4
theorem nth4_at {i : Int} (h : 0 ≤ i) (h' : i < 4) : atI [D.str "L+", .str "L-", .str "R+", .str "R-"] i = some (.str (nth4 i)) := by
  have : i = 0 ∨ i = 1 ∨ i = 2 ∨ i = 3 := by omega
  rcases this with rfl | rfl | rfl | rfl <;> rfl
def runsB : M Fl := cExpr (mMut 3 pAppend (aCons (mTup (aCons (mBin pIx (mLst (aCons (cst (.str "L+")) (aCons (cst (.str "L-")) (aCons (cst (.str "R+")) (aCons (cst (.str "R-")) (aNil)))))) (mCall F_w_take [] (aCons (rd 0) (aCons (cst (.int 4)) (aNil))))) (aCons (mBin pAdd (cst (.int 1)) (mCall F_w_take [] (aCons (rd 0) (aCons (rd 2) (aNil))))) (aNil)))) (aNil)))
theorem runs_is : F_w_runs = fnM 3 5 pr_w_runs (seqM (cSet 3 (mLst (aNil))) (seqM (cFor (wFn p1 (aCons (mCall F_w_take [] (aCons (rd 0) (aCons (mBin pAdd (rd 1) (cst (.int 1))) (aNil)))) (aNil))) (setD 4) runsB) (cRet pr_w_runs (rd 3)))) := rfl
theorem runs_k {n : Nat} {s : S} (h : BoxOk n s) {m k : Int} (hm : 0 ≤ m) (hm' : m < 1000) (hk : 0 < k) (hk' : k < 1000) (hn : n ≤ 10000000) :
    ∃ w s', BoxOk (n + 3000) s' ∧ Hands w ∧ F_w_runs [s, .val (.int m), .val (.int k)] = some (.lst (wd w), [s', .val (.int m), .val (.int k)]) := by
  obtain ⟨r, s1, r0, r1, h1, e1⟩ := take_k h (m := m + 1) (by omega) (by omega) (by omega)
  have hs : small r = true := decide_eq_true (by omega)
  obtain ⟨g', e2, s2, w, o4, h2, hw, hwl, rfl⟩ := loopM_all (mt := setD 4) (mb := runsB)
    (fun i g => ∃ s w o4, BoxOk (n + 1 + i * 2) s ∧ Hands w ∧ w.length = i ∧ g = [some s, some (.val (.int m)), some (.val (.int k)), some (.lst (wd w)), o4]) (ds := upto 0 r.toNat) (n := 0) (g := [some s1, some (.val (.int m)), some (.val (.int k)), some (.lst (wd [])), none]) ⟨_, [], none, h1, nofun, rfl, rfl⟩ (by
      rintro i d hd _ ⟨s, w, o4, hs, hw, hwl, rfl⟩
      obtain ⟨rfl, hi⟩ := upto_get hd
      obtain ⟨q, s', q0, q1, h', e⟩ := take_k hs (m := 4) (by omega) (by omega) (by omega)
      obtain ⟨q', s'', q0', q1', h'', e'⟩ := take_k h' (m := k) hk (by omega) (by omega)
      obtain ⟨a, b, c, rfl, _⟩ := id hs
      obtain ⟨a', b', c', rfl, _⟩ := id h'
      obtain ⟨a2, b2, c2, rfl, _⟩ := id h''
      have e3 := nth4_at q0 q1
      refine ⟨[some (bx a2 b2 c2), some (.val (.int m)), some (.val (.int k)), some (.lst (wd (w ++ [(nth4 q, 1 + q')]))), some (.val (.int (0 + (i : Int))))], ?_, _, w ++ [(nth4 q, 1 + q')], _, h''.up (by omega), ?_, by simp [hwl], rfl⟩
      · have hl : w.length + 1 ≤ 100000 := by omega
        have hl2 : (wd w).length = w.length := by simp [wd]
        have ha : wd (w ++ [(nth4 q, 1 + q')]) = wd w ++ [.tup [.str (nth4 q), .int (1 + q')]] := by simp [wd]
        rw [ha]
        simp [runsB, bind_k, kont_s, kont_n, pure_ev, rd_e, cst_e, view_t, view_s, esc_t, esc_s, frz_v, frz_l, up_s, up_n, views_n, views_c, escs_n, escs_c, op2_e, mBin_e, op1_e, mUn_e, aNil_e, aCons_e, opL_e, mFn_e, mkTup_e, mkLst_e, mTup_e, mLst_e, tob_e, tB_e, tAnd_e, tOr_e, tNot_e, tIte_e, mIte_e, mAnd_e, mOr_e, mNot_e, mChain_e, seqM_e, cNext_e, cBrk_e, cCont_e, cRetN_e, cIf_e, cExpr_e, cSet_e, setM_t, setM_s, setD_e, retM_t, retM_s, cRet_e, asgM_e, cAsg_e, gTup_e, gsNil_e, gsCons_e, setAtM_e, cSetAt_e, getAtM_e, cAugAt_e, cAug_e, isL_e, mutM_e, mMut_e, oNone_e, oSome_e, slM_e, mSl_e, seqM'_e, wSeq_e, walkM_e, wFn_e, escW_e, wEsc_e, cFor_e, mComp_e, compM_e, takes_n, takes_t, takes_s, puts_n, puts_t, puts_s, callM_e, mCall_e, mCallK_e, toS_t, toS_s, putS_e, cPar_e, if_ap, wipeM_e, stepC_e, turnL_e, wRev_e, pAdd, pSub, pMul, pDiv, pMod, pPow, pNeg, pCmp, pLen, pAbs, pMin2, pMax2, pInt, pAll, pAny, pSum, pList, pTuple, pIs, pIsNot, pIx_l, pIx_t, pIx_r, pSl, pRev, pLR1, pLR2, pAppend, pRevL, pIn, pNotIn, pAddI, pMulI, revOf, itemsD, flatD, p1_e, p2_e, pZip, pEnum, pIsT, pIsT2, asB, asI, asV, seqOf, tyD, isTab, isNon, wipeG, backG, outs, List.set, List.getElem?_cons_zero, List.getElem?_cons_succ, iz_len, dInts_iz, pEq_int, pEq_bl, pEq_non, pNe_int, pNe_bl, e, e', e3, hl2, hl]
      · intro p hp
        rcases List.mem_append.mp hp with hp | hp
        · exact hw p hp
        · rw [List.mem_singleton.mp hp]
          exact ⟨nth4_hand q, by show 0 ≤ 1 + q'; omega, by show 1 + q' ≤ _; omega⟩)
  obtain ⟨a, b, c, rfl, _⟩ := id h
  obtain ⟨a1, b1, c1, rfl, _⟩ := id h1
  rw [upto_len] at h2
  obtain ⟨a2, b2, c2, rfl, _⟩ := id h2
  refine ⟨w, _, h2.up (by omega), hw, ?_⟩
  rw [show wd [] = [] from rfl] at e2
  rw [runs_is]
  simp [fnM_e, bind_k, kont_s, kont_n, pure_ev, rd_e, cst_e, view_t, view_s, esc_t, esc_s, frz_v, frz_l, up_s, up_n, views_n, views_c, escs_n, escs_c, op2_e, mBin_e, op1_e, mUn_e, aNil_e, aCons_e, opL_e, mFn_e, mkTup_e, mkLst_e, mTup_e, mLst_e, tob_e, tB_e, tAnd_e, tOr_e, tNot_e, tIte_e, mIte_e, mAnd_e, mOr_e, mNot_e, mChain_e, seqM_e, cNext_e, cBrk_e, cCont_e, cRetN_e, cIf_e, cExpr_e, cSet_e, setM_t, setM_s, setD_e, retM_t, retM_s, cRet_e, asgM_e, cAsg_e, gTup_e, gsNil_e, gsCons_e, setAtM_e, cSetAt_e, getAtM_e, cAugAt_e, cAug_e, isL_e, mutM_e, mMut_e, oNone_e, oSome_e, slM_e, mSl_e, seqM'_e, wSeq_e, walkM_e, wFn_e, escW_e, wEsc_e, cFor_e, mComp_e, compM_e, takes_n, takes_t, takes_s, puts_n, puts_t, puts_s, callM_e, mCall_e, mCallK_e, toS_t, toS_s, putS_e, cPar_e, if_ap, wipeM_e, stepC_e, turnL_e, wRev_e, pAdd, pSub, pMul, pDiv, pMod, pPow, pNeg, pCmp, pLen, pAbs, pMin2, pMax2, pInt, pAll, pAny, pSum, pList, pTuple, pIs, pIsNot, pIx_l, pIx_t, pIx_r, pSl, pRev, pLR1, pLR2, pAppend, pRevL, pIn, pNotIn, pAddI, pMulI, revOf, itemsD, flatD, p1_e, p2_e, pZip, pEnum, pIsT, pIsT2, asB, asI, asV, seqOf, tyD, isTab, isNon, wipeG, backG, outs, List.set, List.getElem?_cons_zero, List.getElem?_cons_succ, iz_len, dInts_iz, pEq_int, pEq_bl, pEq_non, pNe_int, pNe_bl, e1, hs, e2, pr_w_runs]
theorem end_k {rs ls : List Int} {w : List (Str × Int)} {sw : S} {m : Nat} (hb : rs.length ≤ 1000) (h : Lies rs ls) (hw : Hands w) (hs : IsW w sw) (hm : rs.sum = m) (hm' : m ≤ 40000) :
    ∃ sw', IsW w sw' ∧ F_w_end [.val (.tup (iz rs)), .val (.tup (iz ls)), sw] = some (.val (.tup (iz (iter (fun y => wordM rs y w) m ls))), [.val (.tup (iz rs)), .val (.tup (iz ls)), sw']) := by
  obtain ⟨g', e, s2, o3, q, rfl⟩ := loopM_all (mt := setD 3) (mb := cSet 1 (mCall F_w_gone [] (aCons (rd 0) (aCons (rd 1) (aCons (rd 2) (aNil))))))
    (fun i g => ∃ s2 o3, IsW w s2 ∧ g = [some (.val (.tup (iz rs))), some (.val (.tup (iz (iter (fun y => wordM rs y w) i ls)))), some s2, o3]) (ds := upto 0 m) (n := 0) (g := [some (.val (.tup (iz rs))), some (.val (.tup (iz ls))), some sw, none]) ⟨sw, none, hs, rfl⟩ (by
      rintro i d hd _ ⟨s2, o3, q, rfl⟩
      obtain ⟨rfl, hi⟩ := upto_get hd
      have e := gone_k (sw := s2) hb (iter_lies (f := fun y => wordM rs y w) (fun x hx => word_lies hw.ok hx) (0 + i) h) hw q
      rw [← gone_is] at e
      refine ⟨[some (.val (.tup (iz rs))), some (.val (.tup (iz (iter (fun y => wordM rs y w) (0 + i + 1) ls)))), some (.val s2.frz), some (.val (.int (0 + (i : Int))))], ?_, _, _, q.frz, rfl⟩
      rw [iter_succ]
      generalize iter (fun y => wordM rs y w) (0 + i) ls = x at e ⊢
      cases s2 with
      | val v => simp only [frz_v] at e; simp [bind_k, kont_s, kont_n, pure_ev, rd_e, cst_e, view_t, view_s, esc_t, esc_s, frz_v, frz_l, up_s, up_n, views_n, views_c, escs_n, escs_c, op2_e, mBin_e, op1_e, mUn_e, aNil_e, aCons_e, opL_e, mFn_e, mkTup_e, mkLst_e, mTup_e, mLst_e, tob_e, tB_e, tAnd_e, tOr_e, tNot_e, tIte_e, mIte_e, mAnd_e, mOr_e, mNot_e, mChain_e, seqM_e, cNext_e, cBrk_e, cCont_e, cRetN_e, cIf_e, cExpr_e, cSet_e, setM_t, setM_s, setD_e, retM_t, retM_s, cRet_e, asgM_e, cAsg_e, gTup_e, gsNil_e, gsCons_e, setAtM_e, cSetAt_e, getAtM_e, cAugAt_e, cAug_e, isL_e, mutM_e, mMut_e, oNone_e, oSome_e, slM_e, mSl_e, seqM'_e, wSeq_e, walkM_e, wFn_e, escW_e, wEsc_e, cFor_e, mComp_e, compM_e, takes_n, takes_t, takes_s, puts_n, puts_t, puts_s, callM_e, mCall_e, mCallK_e, toS_t, toS_s, putS_e, cPar_e, if_ap, wipeM_e, stepC_e, turnL_e, wRev_e, e]
      | lst v => simp only [frz_l] at e; simp [bind_k, kont_s, kont_n, pure_ev, rd_e, cst_e, view_t, view_s, esc_t, esc_s, frz_v, frz_l, up_s, up_n, views_n, views_c, escs_n, escs_c, op2_e, mBin_e, op1_e, mUn_e, aNil_e, aCons_e, opL_e, mFn_e, mkTup_e, mkLst_e, mTup_e, mLst_e, tob_e, tB_e, tAnd_e, tOr_e, tNot_e, tIte_e, mIte_e, mAnd_e, mOr_e, mNot_e, mChain_e, seqM_e, cNext_e, cBrk_e, cCont_e, cRetN_e, cIf_e, cExpr_e, cSet_e, setM_t, setM_s, setD_e, retM_t, retM_s, cRet_e, asgM_e, cAsg_e, gTup_e, gsNil_e, gsCons_e, setAtM_e, cSetAt_e, getAtM_e, cAugAt_e, cAug_e, isL_e, mutM_e, mMut_e, oNone_e, oSome_e, slM_e, mSl_e, seqM'_e, wSeq_e, walkM_e, wFn_e, escW_e, wEsc_e, cFor_e, mComp_e, compM_e, takes_n, takes_t, takes_s, puts_n, puts_t, puts_s, callM_e, mCall_e, mCallK_e, toS_t, toS_s, putS_e, cPar_e, if_ap, wipeM_e, stepC_e, turnL_e, wRev_e, e])
  rw [upto_len, Nat.zero_add] at e
  refine ⟨s2, q, ?_⟩
  have hsm : small (m : Int) = true := decide_eq_true (by omega)
  simp [F_w_end, m_w_end, fnM_e, bind_k, kont_s, kont_n, pure_ev, rd_e, cst_e, view_t, view_s, esc_t, esc_s, frz_v, frz_l, up_s, up_n, views_n, views_c, escs_n, escs_c, op2_e, mBin_e, op1_e, mUn_e, aNil_e, aCons_e, opL_e, mFn_e, mkTup_e, mkLst_e, mTup_e, mLst_e, tob_e, tB_e, tAnd_e, tOr_e, tNot_e, tIte_e, mIte_e, mAnd_e, mOr_e, mNot_e, mChain_e, seqM_e, cNext_e, cBrk_e, cCont_e, cRetN_e, cIf_e, cExpr_e, cSet_e, setM_t, setM_s, setD_e, retM_t, retM_s, cRet_e, asgM_e, cAsg_e, gTup_e, gsNil_e, gsCons_e, setAtM_e, cSetAt_e, getAtM_e, cAugAt_e, cAug_e, isL_e, mutM_e, mMut_e, oNone_e, oSome_e, slM_e, mSl_e, seqM'_e, wSeq_e, walkM_e, wFn_e, escW_e, wEsc_e, cFor_e, mComp_e, compM_e, takes_n, takes_t, takes_s, puts_n, puts_t, puts_s, callM_e, mCall_e, mCallK_e, toS_t, toS_s, putS_e, cPar_e, if_ap, wipeM_e, stepC_e, turnL_e, wRev_e, pSum, dInts_iz, hm, p1_e, hsm, e, outs, pr_w_end]
/-! ### all standings -/
theorem al_snoc {rs ls : List Int} {r l : Int} (h : Lies rs ls) (c : 0 ≤ l ∧ l ≤ r) : Lies (rs ++ [r]) (ls ++ [l]) := by
  induction h with
  | nil => exact .cons c .nil
  | cons a q ih => exact .cons a ih
def Stand (rs : List Int) (d : D) : Prop := ∃ ls, d = .tup (iz ls) ∧ Lies rs ls
def allI : M Fl := cSet 3 (mBin pAdd (rd 3) (mComp (wFn p1 (aCons (mBin pAdd (rd 2) (cst (.int 1))) (aNil))) [5] (setD 5) (pure true) (mBin pAdd (rd 4) (mTup (aCons (rd 5) (aNil))))))
def allB : M Fl := seqM (cSet 3 (mLst (aNil))) (seqM (cFor (wSeq (rd 1)) (setD 4) allI) (cSet 1 (rd 3)))
theorem all_is : F_w_all = fnM 1 6 pr_w_all (seqM (cSet 1 (mLst (aCons (mTup (aNil)) (aNil)))) (seqM (cFor (wSeq (rd 0)) (setD 2) allB) (cRet pr_w_all (rd 1)))) := rfl
theorem all_turn {o0 o1 : Option S} {r : Int} {pre ls : List Int} {M : List D} {o4 o5 : Option S} (h : Lies pre ls) (hl : pre.length ≤ 1000) (hr : 0 ≤ r) (hr' : r ≤ 1000) (hM : M.length ≤ 90000) :
    ∃ M' o4' o5', M'.length ≤ M.length + (r.toNat + 1) ∧ ((∀ d ∈ M, Stand (pre ++ [r]) d) → ∀ d ∈ M', Stand (pre ++ [r]) d) ∧
      turnL (setD 4) allI (.tup (iz ls)) [o0, o1, some (.val (.int r)), some (.lst M), o4, o5] = some (.next, [o0, o1, some (.val (.int r)), some (.lst M'), o4', o5']) := by
  have hll := h.length
  have hc : compL [5] (setD 5) (pure true) (mBin pAdd (rd 4) (mTup (aCons (rd 5) (aNil)))) (upto 0 (r + 1).toNat) [o0, o1, some (.val (.int r)), some (.lst M), some (.val (.tup (iz ls))), none]
      = some ((upto 0 (r + 1).toNat).map fun d => match d with | .int i => .tup (iz (ls ++ [i])) | d => d, [o0, o1, some (.val (.int r)), some (.lst M), some (.val (.tup (iz ls))), none]) := by
    refine compL_map fun d hd => ?_
    obtain ⟨i, hi, rfl⟩ := upto_mem hd
    have l1 : ls.length + 1 ≤ 100000 := by omega
    simp [bind_k, kont_s, kont_n, pure_ev, rd_e, cst_e, view_t, view_s, esc_t, esc_s, frz_v, frz_l, up_s, up_n, views_n, views_c, escs_n, escs_c, op2_e, mBin_e, op1_e, mUn_e, aNil_e, aCons_e, opL_e, mFn_e, mkTup_e, mkLst_e, mTup_e, mLst_e, tob_e, tB_e, tAnd_e, tOr_e, tNot_e, tIte_e, mIte_e, mAnd_e, mOr_e, mNot_e, mChain_e, seqM_e, cNext_e, cBrk_e, cCont_e, cRetN_e, cIf_e, cExpr_e, cSet_e, setM_t, setM_s, setD_e, retM_t, retM_s, cRet_e, asgM_e, cAsg_e, gTup_e, gsNil_e, gsCons_e, setAtM_e, cSetAt_e, getAtM_e, cAugAt_e, cAug_e, isL_e, mutM_e, mMut_e, oNone_e, oSome_e, slM_e, mSl_e, seqM'_e, wSeq_e, walkM_e, wFn_e, escW_e, wEsc_e, cFor_e, mComp_e, compM_e, takes_n, takes_t, takes_s, puts_n, puts_t, puts_s, callM_e, mCall_e, mCallK_e, toS_t, toS_s, putS_e, cPar_e, if_ap, wipeM_e, stepC_e, turnL_e, wRev_e, pAdd, pSub, pMul, pDiv, pMod, pPow, pNeg, pCmp, pLen, pAbs, pMin2, pMax2, pInt, pAll, pAny, pSum, pList, pTuple, pIs, pIsNot, pIx_l, pIx_t, pIx_r, pSl, pRev, pLR1, pLR2, pAppend, pRevL, pIn, pNotIn, pAddI, pMulI, revOf, itemsD, flatD, p1_e, p2_e, pZip, pEnum, pIsT, pIsT2, asB, asI, asV, seqOf, tyD, isTab, isNon, wipeG, backG, outs, List.set, List.getElem?_cons_zero, List.getElem?_cons_succ, iz_len, dInts_iz, pEq_int, pEq_bl, pEq_non, pNe_int, pNe_bl, l1, iz_one, iz_app]
  have hs : small (r + 1) = true := decide_eq_true (by omega)
  have hl1 : (upto 0 (r + 1).toNat).length ≤ 100000 := by rw [upto_len]; omega
  have hl2 : M.length + (upto 0 (r + 1).toNat).length ≤ 100000 := by rw [upto_len]; omega
  refine ⟨M ++ (upto 0 (r + 1).toNat).map fun d => match d with | .int i => .tup (iz (ls ++ [i])) | d => d, some (.val (.tup (iz ls))), o5, by rw [List.length_append, List.length_map, upto_len]; omega, fun hm d hd => ?_, ?_⟩
  · rcases List.mem_append.mp hd with hd | hd
    · exact hm d hd
    · obtain ⟨x, hx, rfl⟩ := List.mem_map.mp hd
      obtain ⟨i, hi, rfl⟩ := upto_mem hx
      exact ⟨ls ++ [0 + (i : Int)], rfl, al_snoc h (by omega)⟩
  · simp [allI, bind_k, kont_s, kont_n, pure_ev, rd_e, cst_e, view_t, view_s, esc_t, esc_s, frz_v, frz_l, up_s, up_n, views_n, views_c, escs_n, escs_c, op2_e, mBin_e, op1_e, mUn_e, aNil_e, aCons_e, opL_e, mFn_e, mkTup_e, mkLst_e, mTup_e, mLst_e, tob_e, tB_e, tAnd_e, tOr_e, tNot_e, tIte_e, mIte_e, mAnd_e, mOr_e, mNot_e, mChain_e, seqM_e, cNext_e, cBrk_e, cCont_e, cRetN_e, cIf_e, cExpr_e, cSet_e, setM_t, setM_s, setD_e, retM_t, retM_s, cRet_e, asgM_e, cAsg_e, gTup_e, gsNil_e, gsCons_e, setAtM_e, cSetAt_e, getAtM_e, cAugAt_e, cAug_e, isL_e, mutM_e, mMut_e, oNone_e, oSome_e, slM_e, mSl_e, seqM'_e, wSeq_e, walkM_e, wFn_e, escW_e, wEsc_e, cFor_e, mComp_e, compM_e, takes_n, takes_t, takes_s, puts_n, puts_t, puts_s, callM_e, mCall_e, mCallK_e, toS_t, toS_s, putS_e, cPar_e, if_ap, wipeM_e, stepC_e, turnL_e, wRev_e, pAdd, p1_e, hs, hl1, hl2, hc, wipeG, backG]
theorem all_in {o0 : Option S} {r : Int} {pre : List Int} (hl : pre.length ≤ 1000) (hr : 0 ≤ r) (hr' : r ≤ 1000) : ∀ {L M : List D} {o1 o4 o5 : Option S}, (∀ d ∈ L, Stand pre d) → M.length + L.length * (r.toNat + 1) ≤ 90000 → ∃ M' o4' o5', M'.length ≤ M.length + L.length * (r.toNat + 1) ∧ ((∀ d ∈ M, Stand (pre ++ [r]) d) → ∀ d ∈ M', Stand (pre ++ [r]) d) ∧
      loopM (setD 4) allI L [o0, o1, some (.val (.int r)), some (.lst M), o4, o5] = some (.next, [o0, o1, some (.val (.int r)), some (.lst M'), o4', o5'])
  | [], M, o1, o4, o5, _, _ => ⟨M, o4, o5, by simp, id, rfl⟩
  | d :: L, M, o1, o4, o5, hL, hM => by
    obtain ⟨ls, rfl, h⟩ := hL d (List.mem_cons_self ..)
    rw [List.length_cons, Nat.add_mul] at hM
    obtain ⟨M1, o4', o5', k1, k2, k3⟩ := all_turn (o0 := o0) (o1 := o1) (o4 := o4) (o5 := o5) (M := M) h hl hr hr' (by omega)
    obtain ⟨M2, o4'', o5'', q1, q2, q3⟩ := all_in (o0 := o0) hl hr hr' (L := L) (M := M1) (o1 := o1) (o4 := o4') (o5 := o5') (fun x hx => hL x (List.mem_cons_of_mem _ hx)) (by omega)
    refine ⟨M2, o4'', o5'', by rw [List.length_cons, Nat.add_mul]; omega, fun hm => q2 (k2 hm), ?_⟩
    rw [loopM_cons, k3]
    exact q3
theorem all_out {o0 : Option S} : ∀ {rs pre : List Int} {s1 : S} {L : List D} {o2 o3 o4 o5 : Option S}, s1.frz = .lst L → pre.length + rs.length ≤ 8 → (∀ r ∈ rs, 0 ≤ r ∧ r ≤ 3) → L.length ≤ 4 ^ pre.length → (∀ d ∈ L, Stand pre d) → ∃ s1' L' o2' o3' o4' o5', s1'.frz = .lst L' ∧ L'.length ≤ 4 ^ (pre.length + rs.length) ∧ (∀ d ∈ L', Stand (pre ++ rs) d) ∧
      loopM (setD 2) allB (iz rs) [o0, some s1, o2, o3, o4, o5] = some (.next, [o0, some s1', o2', o3', o4', o5'])
  | [], pre, s1, L, o2, o3, o4, o5, h1, _, _, hL, hS => ⟨s1, L, o2, o3, o4, o5, h1, by simpa using hL, by simpa using hS, rfl⟩
  | r :: rs, pre, s1, L, o2, o3, o4, o5, h1, hn, hr, hL, hS => by
    have h0 := hr r (List.mem_cons_self ..)
    rw [List.length_cons] at hn
    have hp : 4 ^ pre.length ≤ 4 ^ 7 := Nat.pow_le_pow_right (by decide) (by omega)
    have hp2 : 4 ^ (pre.length + 1) = 4 ^ pre.length * 4 := Nat.pow_succ ..
    have hr3 : r.toNat + 1 ≤ 4 := by omega
    have hmul : L.length * (r.toNat + 1) ≤ 4 ^ pre.length * 4 := Nat.mul_le_mul hL hr3
    have h7 : (4 : Nat) ^ 7 = 16384 := by decide
    obtain ⟨M', o4', o5', k1, k2, k3⟩ := all_in (o0 := o0) (o1 := some (.val (.lst L))) (r := r) (pre := pre) (L := L) (M := []) (o4 := o4) (o5 := o5) (by omega) h0.1 (by omega) hS (by simp; omega)
    obtain ⟨s1', L', o2', o3', o4'', o5'', q1, q2, q3, q4⟩ := all_out (o0 := o0) (rs := rs) (pre := pre ++ [r]) (s1 := .val (.lst M')) (L := M') (o2 := some (.val (.int r))) (o3 := some (.val (.lst M'))) (o4 := o4') (o5 := o5') rfl (by simp; omega) (fun x hx => hr x (List.mem_cons_of_mem _ hx)) (by rw [List.length_append, List.length_singleton, hp2]; simp at k1; omega) (k2 nofun)
    refine ⟨s1', L', o2', o3', o4'', o5'', q1, by rw [List.length_append, List.length_singleton] at q2; rw [List.length_cons, Nat.add_comm rs.length 1, ← Nat.add_assoc]; exact q2, by rw [List.append_assoc] at q3; exact q3, ?_⟩
    have turn : turnL (setD 2) allB (.int r) [o0, some s1, o2, o3, o4, o5] = some (.next, [o0, some (.val (.lst M')), some (.val (.int r)), some (.val (.lst M')), o4', o5']) := by
      cases s1 with
      | val v => cases h1; simp [allB, bind_k, kont_s, kont_n, pure_ev, rd_e, cst_e, view_t, view_s, esc_t, esc_s, frz_v, frz_l, up_s, up_n, views_n, views_c, escs_n, escs_c, op2_e, mBin_e, op1_e, mUn_e, aNil_e, aCons_e, opL_e, mFn_e, mkTup_e, mkLst_e, mTup_e, mLst_e, tob_e, tB_e, tAnd_e, tOr_e, tNot_e, tIte_e, mIte_e, mAnd_e, mOr_e, mNot_e, mChain_e, seqM_e, cNext_e, cBrk_e, cCont_e, cRetN_e, cIf_e, cExpr_e, cSet_e, setM_t, setM_s, setD_e, retM_t, retM_s, cRet_e, asgM_e, cAsg_e, gTup_e, gsNil_e, gsCons_e, setAtM_e, cSetAt_e, getAtM_e, cAugAt_e, cAug_e, isL_e, mutM_e, mMut_e, oNone_e, oSome_e, slM_e, mSl_e, seqM'_e, wSeq_e, walkM_e, wFn_e, escW_e, wEsc_e, cFor_e, mComp_e, compM_e, takes_n, takes_t, takes_s, puts_n, puts_t, puts_s, callM_e, mCall_e, mCallK_e, toS_t, toS_s, putS_e, cPar_e, if_ap, wipeM_e, stepC_e, turnL_e, wRev_e, seqOf, k3]
      | lst v => cases h1; simp [allB, bind_k, kont_s, kont_n, pure_ev, rd_e, cst_e, view_t, view_s, esc_t, esc_s, frz_v, frz_l, up_s, up_n, views_n, views_c, escs_n, escs_c, op2_e, mBin_e, op1_e, mUn_e, aNil_e, aCons_e, opL_e, mFn_e, mkTup_e, mkLst_e, mTup_e, mLst_e, tob_e, tB_e, tAnd_e, tOr_e, tNot_e, tIte_e, mIte_e, mAnd_e, mOr_e, mNot_e, mChain_e, seqM_e, cNext_e, cBrk_e, cCont_e, cRetN_e, cIf_e, cExpr_e, cSet_e, setM_t, setM_s, setD_e, retM_t, retM_s, cRet_e, asgM_e, cAsg_e, gTup_e, gsNil_e, gsCons_e, setAtM_e, cSetAt_e, getAtM_e, cAugAt_e, cAug_e, isL_e, mutM_e, mMut_e, oNone_e, oSome_e, slM_e, mSl_e, seqM'_e, wSeq_e, walkM_e, wFn_e, escW_e, wEsc_e, cFor_e, mComp_e, compM_e, takes_n, takes_t, takes_s, puts_n, puts_t, puts_s, callM_e, mCall_e, mCallK_e, toS_t, toS_s, putS_e, cPar_e, if_ap, wipeM_e, stepC_e, turnL_e, wRev_e, seqOf, k3]
    show loopM _ _ (.int r :: iz rs) _ = _
    rw [loopM_cons, turn]
    exact q4
theorem all_k {rs : List Int} (hn : rs.length ≤ 8) (hr : ∀ r ∈ rs, 0 ≤ r ∧ r ≤ 3) : ∃ s L, s.frz = .lst L ∧ (∀ d ∈ L, Stand rs d) ∧ F_w_all [.val (.tup (iz rs))] = some (s, [.val (.tup (iz rs))]) := by
  obtain ⟨s1', L', o2', o3', o4', o5', q1, q2, q3, q4⟩ := all_out (o0 := some (.val (.tup (iz rs)))) (rs := rs) (pre := []) (s1 := .lst [.tup []]) (L := [.tup []]) (o2 := none) (o3 := none) (o4 := none) (o5 := none) rfl (by simpa using hn) hr (by simp) (fun d hd => by rw [List.mem_singleton.mp hd]; exact ⟨[], rfl, .nil⟩)
  refine ⟨s1', L', q1, q3, ?_⟩
  rw [all_is]
  simp [fnM_e, bind_k, kont_s, kont_n, pure_ev, rd_e, cst_e, view_t, view_s, esc_t, esc_s, frz_v, frz_l, up_s, up_n, views_n, views_c, escs_n, escs_c, op2_e, mBin_e, op1_e, mUn_e, aNil_e, aCons_e, opL_e, mFn_e, mkTup_e, mkLst_e, mTup_e, mLst_e, tob_e, tB_e, tAnd_e, tOr_e, tNot_e, tIte_e, mIte_e, mAnd_e, mOr_e, mNot_e, mChain_e, seqM_e, cNext_e, cBrk_e, cCont_e, cRetN_e, cIf_e, cExpr_e, cSet_e, setM_t, setM_s, setD_e, retM_t, retM_s, cRet_e, asgM_e, cAsg_e, gTup_e, gsNil_e, gsCons_e, setAtM_e, cSetAt_e, getAtM_e, cAugAt_e, cAug_e, isL_e, mutM_e, mMut_e, oNone_e, oSome_e, slM_e, mSl_e, seqM'_e, wSeq_e, walkM_e, wFn_e, escW_e, wEsc_e, cFor_e, mComp_e, compM_e, takes_n, takes_t, takes_s, puts_n, puts_t, puts_s, callM_e, mCall_e, mCallK_e, toS_t, toS_s, putS_e, cPar_e, if_ap, wipeM_e, stepC_e, turnL_e, wRev_e, seqOf, q4, outs, pr_w_all]
/-! ### the least and the greatest that stay -/
theorem lies_bare : ∀ {rs : List Int}, (∀ r ∈ rs, 0 ≤ r) → Lies rs (List.replicate rs.length 0)
  | [], _ => .nil
  | r :: rs, h => .cons ⟨Int.le_refl _, h r (List.mem_cons_self ..)⟩ (lies_bare fun x hx => h x (List.mem_cons_of_mem _ hx))
theorem lies_full : ∀ {rs : List Int}, (∀ r ∈ rs, 0 ≤ r) → Lies rs rs
  | [], _ => .nil
  | r :: rs, h => .cons ⟨h r (List.mem_cons_self ..), Int.le_refl _⟩ (lies_full fun x hx => h x (List.mem_cons_of_mem _ hx))
theorem bare_le : ∀ {rs ls : List Int}, Lies rs ls → Le (List.replicate rs.length 0) ls
  | _, _, .nil => .nil
  | _, _, .cons h r => .cons h.1 (bare_le r)
theorem le_full : ∀ {rs ls : List Int}, Lies rs ls → Le ls rs
  | _, _, .nil => .nil
  | _, _, .cons h r => .cons h.2 (le_full r)
theorem bare_sum : ∀ (n : Nat), (List.replicate n (0 : Int)).sum = 0
  | 0 => rfl
  | n + 1 => by rw [List.replicate_succ, List.sum_cons, bare_sum n]; rfl
structure Ends (rs : List Int) (w : List (Str × Int)) (m : Nat) (low high : List Int) : Prop where
  l1 : iter (fun y => wordM rs y w) m (List.replicate rs.length 0) = low
  l2 : iter (fun y => wordM rs y w) (2 * m) (List.replicate rs.length 0) = low
  h1 : iter (fun y => wordM rs y w) m rs = high
  h2 : iter (fun y => wordM rs y w) (2 * m) rs = high
  fl : wordM rs low w = low
  fh : wordM rs high w = high
  ll : Lies rs low
  lh : Lies rs high
  btw : ∀ x, Lies rs x → wordM rs x w = x → Le low x ∧ Le x high
theorem ends_of {rs : List Int} {w : List (Str × Int)} {m : Nat} (hr : ∀ r ∈ rs, 0 ≤ r) (hw : Hands w) (hm : rs.sum = m) : ∃ low high, Ends rs w m low high := by
  have hf : ∀ x, Lies rs x → Lies rs (wordM rs x w) := fun x h => word_lies hw.ok h
  have mono : ∀ x y, Lies rs x → Lies rs y → Le x y → Le (wordM rs x w) (wordM rs y w) := fun x y h h' c => word_le hw.ok h h' c
  have hb := lies_bare hr
  have hful := lies_full hr
  have fl := iter_up (f := fun y => wordM rs y w) hf mono m hb (bare_le (hf _ hb)) (by rw [bare_sum, hm]; omega)
  have fh := iter_down (f := fun y => wordM rs y w) hf mono m hful (le_full (hf _ hful)) (by rw [hm]; exact Int.le_refl _)
  refine ⟨_, _, rfl, ?_, rfl, ?_, fl, fh, iter_lies hf m hb, iter_lies hf m hful, fun x h e => ⟨?_, ?_⟩⟩
  · rw [show 2 * m = m + m by omega, iter_add, iter_fix fl]
  · rw [show 2 * m = m + m by omega, iter_add, iter_fix fh]
  · have := iter_mono (f := fun y => wordM rs y w) hf mono m hb h (bare_le h)
    rwa [iter_fix (f := fun y => wordM rs y w) (x := x) e m] at this
  · have := iter_mono (f := fun y => wordM rs y w) hf mono m h hful (le_full h)
    rwa [iter_fix (f := fun y => wordM rs y w) (x := x) e m] at this
/-! ### the check, step by step -/
def st2 : M Fl := cPar 4 5 (aCons (mCall F_w_end [] (aCons (rd 2) (aCons (mBin pMul (mTup (aCons (cst (.int 0)) (aNil))) (mFn pLen (aCons (rd 2) (aNil)))) (aCons (rd 3) (aNil))))) (aCons (mCall F_w_end [] (aCons (rd 2) (aCons (rd 2) (aCons (rd 3) (aNil))))) (aNil)))
theorem st2_k {rs : List Int} {w : List (Str × Int)} {m : Nat} {low high : List Int} {s3 : S} {o0 o1 o4 o5 o6 o7 o8 o9 o10 o11 : Option S} (hE : Ends rs w m low high) (hb : rs.length ≤ 1000) (hr : ∀ r ∈ rs, 0 ≤ r) (hw : Hands w) (hs : IsW w s3) (hm : rs.sum = m) (hm' : m ≤ 40000) :
    ∃ s3', IsW w s3' ∧ st2 [o0, o1, some (.val (.tup (iz rs))), some s3, o4, o5, o6, o7, o8, o9, o10, o11] = some (.next, [o0, o1, some (.val (.tup (iz rs))), some s3', some (.val (.tup (iz low))), some (.val (.tup (iz high))), o6, o7, o8, o9, o10, o11]) := by
  obtain ⟨sa, qa, ea⟩ := end_k (rs := rs) (sw := s3) hb (lies_bare hr) hw hs hm hm'
  rw [hE.l1] at ea
  have p1 : -1000000 ≤ (rs.length : Int) := by omega
  have p2 : (rs.length : Int) ≤ 1000 := by omega
  have key : ∀ sb, IsW w sb → ∃ s3', IsW w s3' ∧ mCall F_w_end [] (aCons (rd 2) (aCons (rd 2) (aCons (rd 3) (aNil)))) [o0, o1, some (.val (.tup (iz rs))), some sb, o4, o5, o6, o7, o8, o9, o10, o11] = some (.tmp (.val (.tup (iz high))), [o0, o1, some (.val (.tup (iz rs))), some s3', o4, o5, o6, o7, o8, o9, o10, o11]) := fun sb hsb => by
    obtain ⟨sc, qc, ec⟩ := end_k (rs := rs) (sw := sb) hb (lies_full hr) hw hsb hm hm'
    rw [hE.h1] at ec
    cases sb with
    | val v => exact ⟨.val v, hsb, by simp [bind_k, kont_s, kont_n, pure_ev, rd_e, cst_e, view_t, view_s, esc_t, esc_s, frz_v, frz_l, up_s, up_n, views_n, views_c, escs_n, escs_c, op2_e, mBin_e, op1_e, mUn_e, aNil_e, aCons_e, opL_e, mFn_e, mkTup_e, mkLst_e, mTup_e, mLst_e, tob_e, tB_e, tAnd_e, tOr_e, tNot_e, tIte_e, mIte_e, mAnd_e, mOr_e, mNot_e, mChain_e, seqM_e, cNext_e, cBrk_e, cCont_e, cRetN_e, cIf_e, cExpr_e, cSet_e, setM_t, setM_s, setD_e, retM_t, retM_s, cRet_e, asgM_e, cAsg_e, gTup_e, gsNil_e, gsCons_e, setAtM_e, cSetAt_e, getAtM_e, cAugAt_e, cAug_e, isL_e, mutM_e, mMut_e, oNone_e, oSome_e, slM_e, mSl_e, seqM'_e, wSeq_e, walkM_e, wFn_e, escW_e, wEsc_e, cFor_e, mComp_e, compM_e, takes_n, takes_t, takes_s, puts_n, puts_t, puts_s, callM_e, mCall_e, mCallK_e, toS_t, toS_s, putS_e, cPar_e, if_ap, wipeM_e, stepC_e, turnL_e, wRev_e, ec]⟩
    | lst v => exact ⟨sc, qc, by simp [bind_k, kont_s, kont_n, pure_ev, rd_e, cst_e, view_t, view_s, esc_t, esc_s, frz_v, frz_l, up_s, up_n, views_n, views_c, escs_n, escs_c, op2_e, mBin_e, op1_e, mUn_e, aNil_e, aCons_e, opL_e, mFn_e, mkTup_e, mkLst_e, mTup_e, mLst_e, tob_e, tB_e, tAnd_e, tOr_e, tNot_e, tIte_e, mIte_e, mAnd_e, mOr_e, mNot_e, mChain_e, seqM_e, cNext_e, cBrk_e, cCont_e, cRetN_e, cIf_e, cExpr_e, cSet_e, setM_t, setM_s, setD_e, retM_t, retM_s, cRet_e, asgM_e, cAsg_e, gTup_e, gsNil_e, gsCons_e, setAtM_e, cSetAt_e, getAtM_e, cAugAt_e, cAug_e, isL_e, mutM_e, mMut_e, oNone_e, oSome_e, slM_e, mSl_e, seqM'_e, wSeq_e, walkM_e, wFn_e, escW_e, wEsc_e, cFor_e, mComp_e, compM_e, takes_n, takes_t, takes_s, puts_n, puts_t, puts_s, callM_e, mCall_e, mCallK_e, toS_t, toS_s, putS_e, cPar_e, if_ap, wipeM_e, stepC_e, turnL_e, wRev_e, ec]⟩
  have first : ∃ s3', IsW w s3' ∧ mCall F_w_end [] (aCons (rd 2) (aCons (mBin pMul (mTup (aCons (cst (.int 0)) (aNil))) (mFn pLen (aCons (rd 2) (aNil)))) (aCons (rd 3) (aNil)))) [o0, o1, some (.val (.tup (iz rs))), some s3, o4, o5, o6, o7, o8, o9, o10, o11] = some (.tmp (.val (.tup (iz low))), [o0, o1, some (.val (.tup (iz rs))), some s3', o4, o5, o6, o7, o8, o9, o10, o11]) := by
    cases s3 with
    | val v => exact ⟨.val v, hs, by simp [bind_k, kont_s, kont_n, pure_ev, rd_e, cst_e, view_t, view_s, esc_t, esc_s, frz_v, frz_l, up_s, up_n, views_n, views_c, escs_n, escs_c, op2_e, mBin_e, op1_e, mUn_e, aNil_e, aCons_e, opL_e, mFn_e, mkTup_e, mkLst_e, mTup_e, mLst_e, tob_e, tB_e, tAnd_e, tOr_e, tNot_e, tIte_e, mIte_e, mAnd_e, mOr_e, mNot_e, mChain_e, seqM_e, cNext_e, cBrk_e, cCont_e, cRetN_e, cIf_e, cExpr_e, cSet_e, setM_t, setM_s, setD_e, retM_t, retM_s, cRet_e, asgM_e, cAsg_e, gTup_e, gsNil_e, gsCons_e, setAtM_e, cSetAt_e, getAtM_e, cAugAt_e, cAug_e, isL_e, mutM_e, mMut_e, oNone_e, oSome_e, slM_e, mSl_e, seqM'_e, wSeq_e, walkM_e, wFn_e, escW_e, wEsc_e, cFor_e, mComp_e, compM_e, takes_n, takes_t, takes_s, puts_n, puts_t, puts_s, callM_e, mCall_e, mCallK_e, toS_t, toS_s, putS_e, cPar_e, if_ap, wipeM_e, stepC_e, turnL_e, wRev_e, pMul, pLen, iz_len, hb, p1, p2, iz_rep1, ea]⟩
    | lst v => exact ⟨sa, qa, by simp [bind_k, kont_s, kont_n, pure_ev, rd_e, cst_e, view_t, view_s, esc_t, esc_s, frz_v, frz_l, up_s, up_n, views_n, views_c, escs_n, escs_c, op2_e, mBin_e, op1_e, mUn_e, aNil_e, aCons_e, opL_e, mFn_e, mkTup_e, mkLst_e, mTup_e, mLst_e, tob_e, tB_e, tAnd_e, tOr_e, tNot_e, tIte_e, mIte_e, mAnd_e, mOr_e, mNot_e, mChain_e, seqM_e, cNext_e, cBrk_e, cCont_e, cRetN_e, cIf_e, cExpr_e, cSet_e, setM_t, setM_s, setD_e, retM_t, retM_s, cRet_e, asgM_e, cAsg_e, gTup_e, gsNil_e, gsCons_e, setAtM_e, cSetAt_e, getAtM_e, cAugAt_e, cAug_e, isL_e, mutM_e, mMut_e, oNone_e, oSome_e, slM_e, mSl_e, seqM'_e, wSeq_e, walkM_e, wFn_e, escW_e, wEsc_e, cFor_e, mComp_e, compM_e, takes_n, takes_t, takes_s, puts_n, puts_t, puts_s, callM_e, mCall_e, mCallK_e, toS_t, toS_s, putS_e, cPar_e, if_ap, wipeM_e, stepC_e, turnL_e, wRev_e, pMul, pLen, iz_len, hb, p1, p2, iz_rep1, ea]⟩
  obtain ⟨sb, qb, e1⟩ := first
  obtain ⟨s3', q, e⟩ := key sb qb
  refine ⟨s3', q, ?_⟩
  simp only [st2, cPar_e, aCons_e, bind_k, e1, kont_s, e]
  simp [bind_k, kont_s, kont_n, pure_ev, rd_e, cst_e, view_t, view_s, esc_t, esc_s, frz_v, frz_l, up_s, up_n, views_n, views_c, escs_n, escs_c, op2_e, mBin_e, op1_e, mUn_e, aNil_e, aCons_e, opL_e, mFn_e, mkTup_e, mkLst_e, mTup_e, mLst_e, tob_e, tB_e, tAnd_e, tOr_e, tNot_e, tIte_e, mIte_e, mAnd_e, mOr_e, mNot_e, mChain_e, seqM_e, cNext_e, cBrk_e, cCont_e, cRetN_e, cIf_e, cExpr_e, cSet_e, setM_t, setM_s, setD_e, retM_t, retM_s, cRet_e, asgM_e, cAsg_e, gTup_e, gsNil_e, gsCons_e, setAtM_e, cSetAt_e, getAtM_e, cAugAt_e, cAug_e, isL_e, mutM_e, mMut_e, oNone_e, oSome_e, slM_e, mSl_e, seqM'_e, wSeq_e, walkM_e, wFn_e, escW_e, wEsc_e, cFor_e, mComp_e, compM_e, takes_n, takes_t, takes_s, puts_n, puts_t, puts_s, callM_e, mCall_e, mCallK_e, toS_t, toS_s, putS_e, cPar_e, if_ap, wipeM_e, stepC_e, turnL_e, wRev_e]
theorem sm_iz {n : Nat} {xs : List Int} (h : xs.length ≤ 1000) : sm (n + 2) (.tup (iz xs)) := by
  refine ⟨by rw [iz_len]; omega, fun d hd => ?_⟩
  obtain ⟨i, _, rfl⟩ := mem_iz hd
  trivial
theorem sm_two {xs ys : List Int} (h : xs.length ≤ 1000) (h' : ys.length ≤ 1000) : sm 12 (.lst [.tup (iz xs), .tup (iz ys)]) := by
  refine ⟨by simp, fun d hd => ?_⟩
  rcases List.mem_cons.mp hd with rfl | hd
  · exact sm_iz h
  · rw [List.mem_singleton.mp hd]; exact sm_iz h'
section
variable {rs : List Int} {w : List (Str × Int)} {m : Nat} {low high : List Int} {o0 o1 o4 o5 o6 o7 o8 o9 o10 o11 : Option S}
abbrev stt (o0 o1 : Option S) (rs : List Int) (s3 : S) (low high : List Int) (o6 o7 o8 o9 o10 o11 : Option S) : G := [o0, o1, some (.val (.tup (iz rs))), some s3, some (.val (.tup (iz low))), some (.val (.tup (iz high))), o6, o7, o8, o9, o10, o11]
theorem callL {s3 : S} (hE : Ends rs w m low high) (hb : rs.length ≤ 1000) (hs : IsW w s3) (hm : rs.sum = m) (hm' : m ≤ 40000) : ∃ s3', IsW w s3' ∧ mCall F_least_still [] (aCons (rd 2) (aCons (rd 3) (aNil))) (stt o0 o1 rs s3 low high o6 o7 o8 o9 o10 o11) = some (.tmp (.val (.tup (iz low))), stt o0 o1 rs s3' low high o6 o7 o8 o9 o10 o11) := by
  obtain ⟨sa, qa, ea⟩ := least_k (f := bareF) (d := .tup (iz rs)) (sw := s3) (n := fuel) (bare_k (.inl rfl) hb) (.inl rfl) (by simp) hb hm hm' (by decide) hs
  rw [hE.l2, ← least_is] at ea
  cases s3 with
  | val v => exact ⟨.val v, hs, by simp [bind_k, kont_s, kont_n, pure_ev, rd_e, cst_e, view_t, view_s, esc_t, esc_s, frz_v, frz_l, up_s, up_n, views_n, views_c, escs_n, escs_c, op2_e, mBin_e, op1_e, mUn_e, aNil_e, aCons_e, opL_e, mFn_e, mkTup_e, mkLst_e, mTup_e, mLst_e, tob_e, tB_e, tAnd_e, tOr_e, tNot_e, tIte_e, mIte_e, mAnd_e, mOr_e, mNot_e, mChain_e, seqM_e, cNext_e, cBrk_e, cCont_e, cRetN_e, cIf_e, cExpr_e, cSet_e, setM_t, setM_s, setD_e, retM_t, retM_s, cRet_e, asgM_e, cAsg_e, gTup_e, gsNil_e, gsCons_e, setAtM_e, cSetAt_e, getAtM_e, cAugAt_e, cAug_e, isL_e, mutM_e, mMut_e, oNone_e, oSome_e, slM_e, mSl_e, seqM'_e, wSeq_e, walkM_e, wFn_e, escW_e, wEsc_e, cFor_e, mComp_e, compM_e, takes_n, takes_t, takes_s, puts_n, puts_t, puts_s, callM_e, mCall_e, mCallK_e, toS_t, toS_s, putS_e, cPar_e, if_ap, wipeM_e, stepC_e, turnL_e, wRev_e, ea]⟩
  | lst v => exact ⟨sa, qa, by simp [bind_k, kont_s, kont_n, pure_ev, rd_e, cst_e, view_t, view_s, esc_t, esc_s, frz_v, frz_l, up_s, up_n, views_n, views_c, escs_n, escs_c, op2_e, mBin_e, op1_e, mUn_e, aNil_e, aCons_e, opL_e, mFn_e, mkTup_e, mkLst_e, mTup_e, mLst_e, tob_e, tB_e, tAnd_e, tOr_e, tNot_e, tIte_e, mIte_e, mAnd_e, mOr_e, mNot_e, mChain_e, seqM_e, cNext_e, cBrk_e, cCont_e, cRetN_e, cIf_e, cExpr_e, cSet_e, setM_t, setM_s, setD_e, retM_t, retM_s, cRet_e, asgM_e, cAsg_e, gTup_e, gsNil_e, gsCons_e, setAtM_e, cSetAt_e, getAtM_e, cAugAt_e, cAug_e, isL_e, mutM_e, mMut_e, oNone_e, oSome_e, slM_e, mSl_e, seqM'_e, wSeq_e, walkM_e, wFn_e, escW_e, wEsc_e, cFor_e, mComp_e, compM_e, takes_n, takes_t, takes_s, puts_n, puts_t, puts_s, callM_e, mCall_e, mCallK_e, toS_t, toS_s, putS_e, cPar_e, if_ap, wipeM_e, stepC_e, turnL_e, wRev_e, ea]⟩
theorem callG {s3 : S} (hE : Ends rs w m low high) (hb : rs.length ≤ 1000) (hs : IsW w s3) (hm : rs.sum = m) (hm' : m ≤ 40000) : ∃ s3', IsW w s3' ∧ mCall F_greatest_still [] (aCons (rd 2) (aCons (rd 3) (aNil))) (stt o0 o1 rs s3 low high o6 o7 o8 o9 o10 o11) = some (.tmp (.val (.tup (iz high))), stt o0 o1 rs s3' low high o6 o7 o8 o9 o10 o11) := by
  obtain ⟨sa, qa, ea⟩ := least_k (f := fullF) (d := .tup (iz rs)) (sw := s3) (n := fuel) (full_k (.inl rfl)) (.inl rfl) rfl hb hm hm' (by decide) hs
  rw [hE.h2, ← great_is] at ea
  cases s3 with
  | val v => exact ⟨.val v, hs, by simp [bind_k, kont_s, kont_n, pure_ev, rd_e, cst_e, view_t, view_s, esc_t, esc_s, frz_v, frz_l, up_s, up_n, views_n, views_c, escs_n, escs_c, op2_e, mBin_e, op1_e, mUn_e, aNil_e, aCons_e, opL_e, mFn_e, mkTup_e, mkLst_e, mTup_e, mLst_e, tob_e, tB_e, tAnd_e, tOr_e, tNot_e, tIte_e, mIte_e, mAnd_e, mOr_e, mNot_e, mChain_e, seqM_e, cNext_e, cBrk_e, cCont_e, cRetN_e, cIf_e, cExpr_e, cSet_e, setM_t, setM_s, setD_e, retM_t, retM_s, cRet_e, asgM_e, cAsg_e, gTup_e, gsNil_e, gsCons_e, setAtM_e, cSetAt_e, getAtM_e, cAugAt_e, cAug_e, isL_e, mutM_e, mMut_e, oNone_e, oSome_e, slM_e, mSl_e, seqM'_e, wSeq_e, walkM_e, wFn_e, escW_e, wEsc_e, cFor_e, mComp_e, compM_e, takes_n, takes_t, takes_s, puts_n, puts_t, puts_s, callM_e, mCall_e, mCallK_e, toS_t, toS_s, putS_e, cPar_e, if_ap, wipeM_e, stepC_e, turnL_e, wRev_e, ea]⟩
  | lst v => exact ⟨sa, qa, by simp [bind_k, kont_s, kont_n, pure_ev, rd_e, cst_e, view_t, view_s, esc_t, esc_s, frz_v, frz_l, up_s, up_n, views_n, views_c, escs_n, escs_c, op2_e, mBin_e, op1_e, mUn_e, aNil_e, aCons_e, opL_e, mFn_e, mkTup_e, mkLst_e, mTup_e, mLst_e, tob_e, tB_e, tAnd_e, tOr_e, tNot_e, tIte_e, mIte_e, mAnd_e, mOr_e, mNot_e, mChain_e, seqM_e, cNext_e, cBrk_e, cCont_e, cRetN_e, cIf_e, cExpr_e, cSet_e, setM_t, setM_s, setD_e, retM_t, retM_s, cRet_e, asgM_e, cAsg_e, gTup_e, gsNil_e, gsCons_e, setAtM_e, cSetAt_e, getAtM_e, cAugAt_e, cAug_e, isL_e, mutM_e, mMut_e, oNone_e, oSome_e, slM_e, mSl_e, seqM'_e, wSeq_e, walkM_e, wFn_e, escW_e, wEsc_e, cFor_e, mComp_e, compM_e, takes_n, takes_t, takes_s, puts_n, puts_t, puts_s, callM_e, mCall_e, mCallK_e, toS_t, toS_s, putS_e, cPar_e, if_ap, wipeM_e, stepC_e, turnL_e, wRev_e, ea]⟩
def st3 : M Fl := cIf (tNot' (tB' (mCall (F_w_same 12) [] (aCons (mLst (aCons (mCall F_least_still [] (aCons (rd 2) (aCons (rd 3) (aNil)))) (aCons (mCall F_greatest_still [] (aCons (rd 2) (aCons (rd 3) (aNil)))) (aNil)))) (aCons (mLst (aCons (rd 4) (aCons (rd 5) (aNil)))) (aNil)))))) (cRet pr_w_right (cst (.bl false))) (cNext)
theorem st3_k {s3 : S} (hE : Ends rs w m low high) (hb : rs.length ≤ 1000) (hs : IsW w s3) (hm : rs.sum = m) (hm' : m ≤ 40000) :
    ∃ s3', IsW w s3' ∧ st3 (stt o0 o1 rs s3 low high o6 o7 o8 o9 o10 o11) = some (.next, stt o0 o1 rs s3' low high o6 o7 o8 o9 o10 o11) := by
  obtain ⟨sb, qb, e1⟩ := callL (o0 := o0) (o1 := o1) (o6 := o6) (o7 := o7) (o8 := o8) (o9 := o9) (o10 := o10) (o11 := o11) hE hb hs hm hm'
  obtain ⟨sc, qc, e2⟩ := callG (o0 := o0) (o1 := o1) (o6 := o6) (o7 := o7) (o8 := o8) (o9 := o9) (o10 := o10) (o11 := o11) hE hb qb hm hm'
  obtain ⟨s', t', e3, _, _⟩ := same_ok (sm_two (xs := low) (ys := high) (by rw [← hE.ll.length]; exact hb) (by rw [← hE.lh.length]; exact hb)) (.lst _) (.lst _) rfl rfl
  refine ⟨sc, qc, ?_⟩
  have h1 : mLst (aCons (mCall F_least_still [] (aCons (rd 2) (aCons (rd 3) (aNil)))) (aCons (mCall F_greatest_still [] (aCons (rd 2) (aCons (rd 3) (aNil)))) (aNil))) (stt o0 o1 rs s3 low high o6 o7 o8 o9 o10 o11) = some (.tmp (.lst [.tup (iz low), .tup (iz high)]), stt o0 o1 rs sc low high o6 o7 o8 o9 o10 o11) := by
    simp only [mLst_e, aCons_e, bind_k, e1, kont_s, e2, aNil_e, pure_ev]
    simp [bind_k, kont_s, kont_n, pure_ev, rd_e, cst_e, view_t, view_s, esc_t, esc_s, frz_v, frz_l, up_s, up_n, views_n, views_c, escs_n, escs_c, op2_e, mBin_e, op1_e, mUn_e, aNil_e, aCons_e, opL_e, mFn_e, mkTup_e, mkLst_e, mTup_e, mLst_e, tob_e, tB_e, tAnd_e, tOr_e, tNot_e, tIte_e, mIte_e, mAnd_e, mOr_e, mNot_e, mChain_e, seqM_e, cNext_e, cBrk_e, cCont_e, cRetN_e, cIf_e, cExpr_e, cSet_e, setM_t, setM_s, setD_e, retM_t, retM_s, cRet_e, asgM_e, cAsg_e, gTup_e, gsNil_e, gsCons_e, setAtM_e, cSetAt_e, getAtM_e, cAugAt_e, cAug_e, isL_e, mutM_e, mMut_e, oNone_e, oSome_e, slM_e, mSl_e, seqM'_e, wSeq_e, walkM_e, wFn_e, escW_e, wEsc_e, cFor_e, mComp_e, compM_e, takes_n, takes_t, takes_s, puts_n, puts_t, puts_s, callM_e, mCall_e, mCallK_e, toS_t, toS_s, putS_e, cPar_e, if_ap, wipeM_e, stepC_e, turnL_e, wRev_e]
  have h2 : mLst (aCons (rd 4) (aCons (rd 5) (aNil))) (stt o0 o1 rs sc low high o6 o7 o8 o9 o10 o11) = some (.tmp (.lst [.tup (iz low), .tup (iz high)]), stt o0 o1 rs sc low high o6 o7 o8 o9 o10 o11) := by
    simp [bind_k, kont_s, kont_n, pure_ev, rd_e, cst_e, view_t, view_s, esc_t, esc_s, frz_v, frz_l, up_s, up_n, views_n, views_c, escs_n, escs_c, op2_e, mBin_e, op1_e, mUn_e, aNil_e, aCons_e, opL_e, mFn_e, mkTup_e, mkLst_e, mTup_e, mLst_e, tob_e, tB_e, tAnd_e, tOr_e, tNot_e, tIte_e, mIte_e, mAnd_e, mOr_e, mNot_e, mChain_e, seqM_e, cNext_e, cBrk_e, cCont_e, cRetN_e, cIf_e, cExpr_e, cSet_e, setM_t, setM_s, setD_e, retM_t, retM_s, cRet_e, asgM_e, cAsg_e, gTup_e, gsNil_e, gsCons_e, setAtM_e, cSetAt_e, getAtM_e, cAugAt_e, cAug_e, isL_e, mutM_e, mMut_e, oNone_e, oSome_e, slM_e, mSl_e, seqM'_e, wSeq_e, walkM_e, wFn_e, escW_e, wEsc_e, cFor_e, mComp_e, compM_e, takes_n, takes_t, takes_s, puts_n, puts_t, puts_s, callM_e, mCall_e, mCallK_e, toS_t, toS_s, putS_e, cPar_e, if_ap, wipeM_e, stepC_e, turnL_e, wRev_e]
  unfold st3
  simp only [cIf_e, tNot_e, tB_e, mCall_e (fm := F_w_same 12), aCons_e (a := mLst _), bind_k, h1, kont_s, h2, aNil_e, pure_ev]
  simp [bind_k, kont_s, kont_n, pure_ev, rd_e, cst_e, view_t, view_s, esc_t, esc_s, frz_v, frz_l, up_s, up_n, views_n, views_c, escs_n, escs_c, op2_e, mBin_e, op1_e, mUn_e, aNil_e, aCons_e, opL_e, mFn_e, mkTup_e, mkLst_e, mTup_e, mLst_e, tob_e, tB_e, tAnd_e, tOr_e, tNot_e, tIte_e, mIte_e, mAnd_e, mOr_e, mNot_e, mChain_e, seqM_e, cNext_e, cBrk_e, cCont_e, cRetN_e, cIf_e, cExpr_e, cSet_e, setM_t, setM_s, setD_e, retM_t, retM_s, cRet_e, asgM_e, cAsg_e, gTup_e, gsNil_e, gsCons_e, setAtM_e, cSetAt_e, getAtM_e, cAugAt_e, cAug_e, isL_e, mutM_e, mMut_e, oNone_e, oSome_e, slM_e, mSl_e, seqM'_e, wSeq_e, walkM_e, wFn_e, escW_e, wEsc_e, cFor_e, mComp_e, compM_e, takes_n, takes_t, takes_s, puts_n, puts_t, puts_s, callM_e, mCall_e, mCallK_e, toS_t, toS_s, putS_e, cPar_e, if_ap, wipeM_e, stepC_e, turnL_e, wRev_e, e3, asB]
def st4 : M Fl := cSet 6 (mLst (aCons (mCallK F_least_still 0 2 [1, 0] (aNil) (aCons (rd 3) (aCons (mFn pList (aCons (rd 2) (aNil))) (aNil)))) (aCons (mCallK F_greatest_still 0 2 [1, 0] (aNil) (aCons (rd 3) (aCons (rd 2) (aNil)))) (aNil))))
theorem st4_k {s3 : S} (hE : Ends rs w m low high) (hb : rs.length ≤ 1000) (hs : IsW w s3) (hm : rs.sum = m) (hm' : m ≤ 40000) :
    st4 (stt o0 o1 rs s3 low high o6 o7 o8 o9 o10 o11) = some (.next, stt o0 o1 rs (.val s3.frz) low high (some (.lst [.tup (iz low), .tup (iz high)])) o7 o8 o9 o10 o11) := by
  obtain ⟨sa, qa, ea⟩ := least_k (f := bareF) (d := .lst (iz rs)) (sw := .val s3.frz) (n := fuel) (bare_k (.inr rfl) hb) (.inr rfl) (by simp) hb hm hm' (by decide) hs.frz
  obtain ⟨sb, qb, eb⟩ := least_k (f := fullF) (d := .tup (iz rs)) (sw := .val s3.frz) (n := fuel) (full_k (.inl rfl)) (.inl rfl) rfl hb hm hm' (by decide) hs.frz
  rw [hE.l2, ← least_is] at ea
  rw [hE.h2, ← great_is] at eb
  simp [st4, bind_k, kont_s, kont_n, pure_ev, rd_e, cst_e, view_t, view_s, esc_t, esc_s, frz_v, frz_l, up_s, up_n, views_n, views_c, escs_n, escs_c, op2_e, mBin_e, op1_e, mUn_e, aNil_e, aCons_e, opL_e, mFn_e, mkTup_e, mkLst_e, mTup_e, mLst_e, tob_e, tB_e, tAnd_e, tOr_e, tNot_e, tIte_e, mIte_e, mAnd_e, mOr_e, mNot_e, mChain_e, seqM_e, cNext_e, cBrk_e, cCont_e, cRetN_e, cIf_e, cExpr_e, cSet_e, setM_t, setM_s, setD_e, retM_t, retM_s, cRet_e, asgM_e, cAsg_e, gTup_e, gsNil_e, gsCons_e, setAtM_e, cSetAt_e, getAtM_e, cAugAt_e, cAug_e, isL_e, mutM_e, mMut_e, oNone_e, oSome_e, slM_e, mSl_e, seqM'_e, wSeq_e, walkM_e, wFn_e, escW_e, wEsc_e, cFor_e, mComp_e, compM_e, takes_n, takes_t, takes_s, puts_n, puts_t, puts_s, callM_e, mCall_e, mCallK_e, toS_t, toS_s, putS_e, cPar_e, if_ap, wipeM_e, stepC_e, turnL_e, wRev_e, pList, kgI, ea, eb]
def st5 : M Fl := cIf (tNot' (tB' (mCall (F_w_same 12) [] (aCons (rd 6) (aCons (mLst (aCons (rd 4) (aCons (rd 5) (aNil)))) (aNil)))))) (cRet pr_w_right (cst (.bl false))) (cNext)
theorem st5_k {s3 : S} (hE : Ends rs w m low high) (hb : rs.length ≤ 1000) :
    ∃ o6', st5 (stt o0 o1 rs s3 low high (some (.lst [.tup (iz low), .tup (iz high)])) o7 o8 o9 o10 o11) = some (.next, stt o0 o1 rs s3 low high o6' o7 o8 o9 o10 o11) := by
  obtain ⟨s', t', e3, _, _⟩ := same_ok (sm_two (xs := low) (ys := high) (by rw [← hE.ll.length]; exact hb) (by rw [← hE.lh.length]; exact hb)) (.lst _) (.lst _) rfl rfl
  exact ⟨some s', by simp [st5, bind_k, kont_s, kont_n, pure_ev, rd_e, cst_e, view_t, view_s, esc_t, esc_s, frz_v, frz_l, up_s, up_n, views_n, views_c, escs_n, escs_c, op2_e, mBin_e, op1_e, mUn_e, aNil_e, aCons_e, opL_e, mFn_e, mkTup_e, mkLst_e, mTup_e, mLst_e, tob_e, tB_e, tAnd_e, tOr_e, tNot_e, tIte_e, mIte_e, mAnd_e, mOr_e, mNot_e, mChain_e, seqM_e, cNext_e, cBrk_e, cCont_e, cRetN_e, cIf_e, cExpr_e, cSet_e, setM_t, setM_s, setD_e, retM_t, retM_s, cRet_e, asgM_e, cAsg_e, gTup_e, gsNil_e, gsCons_e, setAtM_e, cSetAt_e, getAtM_e, cAugAt_e, cAug_e, isL_e, mutM_e, mMut_e, oNone_e, oSome_e, slM_e, mSl_e, seqM'_e, wSeq_e, walkM_e, wFn_e, escW_e, wEsc_e, cFor_e, mComp_e, compM_e, takes_n, takes_t, takes_s, puts_n, puts_t, puts_s, callM_e, mCall_e, mCallK_e, toS_t, toS_s, putS_e, cPar_e, if_ap, wipeM_e, stepC_e, turnL_e, wRev_e, e3, asB]⟩
def st6 : M Fl := cIf (tOr' (tB' (mBin pNe (mCall F_w_gone [] (aCons (rd 2) (aCons (rd 4) (aCons (rd 3) (aNil))))) (rd 4))) (tB' (mBin pNe (mCall F_w_gone [] (aCons (rd 2) (aCons (rd 5) (aCons (rd 3) (aNil))))) (rd 5)))) (cRet pr_w_right (cst (.bl false))) (cNext)
theorem st6_k {d3 : D} (hE : Ends rs w m low high) (hb : rs.length ≤ 1000) (hw : Hands w) (hs : IsW w (.val d3)) :
    st6 (stt o0 o1 rs (.val d3) low high o6 o7 o8 o9 o10 o11) = some (.next, stt o0 o1 rs (.val d3) low high o6 o7 o8 o9 o10 o11) := by
  have e1 := gone_k (sw := .val d3) hb hE.ll hw hs
  have e2 := gone_k (sw := .val d3) hb hE.lh hw hs
  rw [← gone_is, hE.fl] at e1
  rw [← gone_is, hE.fh] at e2
  simp only [frz_v] at e1 e2
  simp [st6, bind_k, kont_s, kont_n, pure_ev, rd_e, cst_e, view_t, view_s, esc_t, esc_s, frz_v, frz_l, up_s, up_n, views_n, views_c, escs_n, escs_c, op2_e, mBin_e, op1_e, mUn_e, aNil_e, aCons_e, opL_e, mFn_e, mkTup_e, mkLst_e, mTup_e, mLst_e, tob_e, tB_e, tAnd_e, tOr_e, tNot_e, tIte_e, mIte_e, mAnd_e, mOr_e, mNot_e, mChain_e, seqM_e, cNext_e, cBrk_e, cCont_e, cRetN_e, cIf_e, cExpr_e, cSet_e, setM_t, setM_s, setD_e, retM_t, retM_s, cRet_e, asgM_e, cAsg_e, gTup_e, gsNil_e, gsCons_e, setAtM_e, cSetAt_e, getAtM_e, cAugAt_e, cAug_e, isL_e, mutM_e, mMut_e, oNone_e, oSome_e, slM_e, mSl_e, seqM'_e, wSeq_e, walkM_e, wFn_e, escW_e, wEsc_e, cFor_e, mComp_e, compM_e, takes_n, takes_t, takes_s, puts_n, puts_t, puts_s, callM_e, mCall_e, mCallK_e, toS_t, toS_s, putS_e, cPar_e, if_ap, wipeM_e, stepC_e, turnL_e, wRev_e, asB, e1, e2, pNe_iz]
def st7 : M Fl := cAsg (gTupM (gsCons (setD 7) (gsCons (setD 8) (gsNil)))) (mTup (aCons (mCall F_w_sums [] (aCons (rd 4) (aNil))) (aCons (mCall F_w_sums [] (aCons (rd 5) (aNil))) (aNil))))
theorem st7_k {s3 : S} (hE : Ends rs w m low high) (hb : rs.length ≤ 1000) :
    st7 (stt o0 o1 rs s3 low high o6 o7 o8 o9 o10 o11) = some (.next, stt o0 o1 rs s3 low high o6 (some (.val (.lst (iz (sums 0 low))))) (some (.val (.lst (iz (sums 0 high))))) o9 o10 o11) := by
  have e1 := sums_k (xs := low) (by rw [← hE.ll.length]; omega)
  have e2 := sums_k (xs := high) (by rw [← hE.lh.length]; omega)
  rw [← sums_is] at e1 e2
  simp [st7, bind_k, kont_s, kont_n, pure_ev, rd_e, cst_e, view_t, view_s, esc_t, esc_s, frz_v, frz_l, up_s, up_n, views_n, views_c, escs_n, escs_c, op2_e, mBin_e, op1_e, mUn_e, aNil_e, aCons_e, opL_e, mFn_e, mkTup_e, mkLst_e, mTup_e, mLst_e, tob_e, tB_e, tAnd_e, tOr_e, tNot_e, tIte_e, mIte_e, mAnd_e, mOr_e, mNot_e, mChain_e, seqM_e, cNext_e, cBrk_e, cCont_e, cRetN_e, cIf_e, cExpr_e, cSet_e, setM_t, setM_s, setD_e, retM_t, retM_s, cRet_e, asgM_e, cAsg_e, gTup_e, gsNil_e, gsCons_e, setAtM_e, cSetAt_e, getAtM_e, cAugAt_e, cAug_e, isL_e, mutM_e, mMut_e, oNone_e, oSome_e, slM_e, mSl_e, seqM'_e, wSeq_e, walkM_e, wFn_e, escW_e, wEsc_e, cFor_e, mComp_e, compM_e, takes_n, takes_t, takes_s, puts_n, puts_t, puts_s, callM_e, mCall_e, mCallK_e, toS_t, toS_s, putS_e, cPar_e, if_ap, wipeM_e, stepC_e, turnL_e, wRev_e, e1, e2]
def cmpE : M DL.Arg := mChain pLe pLe (mBin pIx (rd 7) (rd 11)) (mBin pIx (rd 10) (rd 11)) (mBin pIx (rd 8) (rd 11))
def st8B : M Fl := cIf (tB' (mBin pEq (mCall F_w_gone [] (aCons (rd 2) (aCons (rd 9) (aCons (rd 3) (aNil))))) (rd 9))) (seqM (cSet 10 (mCall F_w_sums [] (aCons (rd 9) (aNil))))
    (cIf (tNot' (tB' (mFn pAll (aCons (mComp (wFn p1 (aCons (mFn pLen (aCons (rd 10) (aNil))) (aNil))) [11] (setD 11) (pure true) cmpE) (aNil))))) (cRet pr_w_right (cst (.bl false))) (cNext))) (cNext)
theorem st8_turn {d3 : D} {x : List Int} (hE : Ends rs w m low high) (hb : rs.length ≤ 1000) (hw : Hands w) (hs : IsW w (.val d3)) (hx : Lies rs x) :
    ∃ o9' o10' o11', turnL (setD 9) st8B (.tup (iz x)) (stt o0 o1 rs (.val d3) low high o6 (some (.val (.lst (iz (sums 0 low))))) (some (.val (.lst (iz (sums 0 high))))) o9 o10 o11) = some (.next, stt o0 o1 rs (.val d3) low high o6 (some (.val (.lst (iz (sums 0 low))))) (some (.val (.lst (iz (sums 0 high))))) o9' o10' o11') := by
  have e1 := gone_k (sw := .val d3) hb hx hw hs
  rw [← gone_is] at e1
  simp only [frz_v] at e1
  have e2 := pEq_iz (wordM rs x w) x
  by_cases hf : wordM rs x w = x
  · obtain ⟨b1, b2⟩ := hE.btw x hx hf
    have s1 := sums_le b1 (Int.le_refl 0)
    have s2 := sums_le b2 (Int.le_refl 0)
    have e3 := sums_k (xs := x) (by rw [← hx.length]; omega)
    rw [← sums_is] at e3
    have hlen : (sums 0 x).length = rs.length + 1 := by rw [sums_len, hx.length]
    have hc : compL [11] (setD 11) (pure true) cmpE (upto 0 (sums 0 x).length) [o0, o1, some (.val (.tup (iz rs))), some (.val d3), some (.val (.tup (iz low))), some (.val (.tup (iz high))), o6, some (.val (.lst (iz (sums 0 low)))), some (.val (.lst (iz (sums 0 high)))), some (.val (.tup (iz x))), some (.lst (iz (sums 0 x))), none]
        = some ((upto 0 (sums 0 x).length).map fun _ => .bl true, [o0, o1, some (.val (.tup (iz rs))), some (.val d3), some (.val (.tup (iz low))), some (.val (.tup (iz high))), o6, some (.val (.lst (iz (sums 0 low)))), some (.val (.lst (iz (sums 0 high)))), some (.val (.tup (iz x))), some (.lst (iz (sums 0 x))), none]) := by
      refine compL_map fun d hd => ?_
      obtain ⟨i, hi, rfl⟩ := upto_mem hd
      have i1 : i < (sums 0 low).length := by rw [s1.length]; exact hi
      have i2 : i < (sums 0 high).length := by rw [← s2.length]; exact hi
      have a1 := iz_at i1
      have a2 := iz_at hi
      have a3 := iz_at i2
      have c1 := s1.at i1 hi
      have c2 := s2.at hi i2
      rw [Int.zero_add]
      simp [cmpE, bind_k, kont_s, kont_n, pure_ev, rd_e, cst_e, view_t, view_s, esc_t, esc_s, frz_v, frz_l, up_s, up_n, views_n, views_c, escs_n, escs_c, op2_e, mBin_e, op1_e, mUn_e, aNil_e, aCons_e, opL_e, mFn_e, mkTup_e, mkLst_e, mTup_e, mLst_e, tob_e, tB_e, tAnd_e, tOr_e, tNot_e, tIte_e, mIte_e, mAnd_e, mOr_e, mNot_e, mChain_e, seqM_e, cNext_e, cBrk_e, cCont_e, cRetN_e, cIf_e, cExpr_e, cSet_e, setM_t, setM_s, setD_e, retM_t, retM_s, cRet_e, asgM_e, cAsg_e, gTup_e, gsNil_e, gsCons_e, setAtM_e, cSetAt_e, getAtM_e, cAugAt_e, cAug_e, isL_e, mutM_e, mMut_e, oNone_e, oSome_e, slM_e, mSl_e, seqM'_e, wSeq_e, walkM_e, wFn_e, escW_e, wEsc_e, cFor_e, mComp_e, compM_e, takes_n, takes_t, takes_s, puts_n, puts_t, puts_s, callM_e, mCall_e, mCallK_e, toS_t, toS_s, putS_e, cPar_e, if_ap, wipeM_e, stepC_e, turnL_e, wRev_e, pIx_l, pCmp, asB, a1, a2, a3, c1, c2, wipeG]
    have hsm : small ((sums 0 x).length : Int) = true := decide_eq_true (by omega)
    have hl1 : (upto 0 (sums 0 x).length).length ≤ 100000 := by rw [upto_len]; omega
    refine ⟨some (.val (.tup (iz x))), some (.lst (iz (sums 0 x))), o11, ?_⟩
    rw [hf] at e1 e2
    simp [st8B, stt, bind_k, kont_s, kont_n, pure_ev, rd_e, cst_e, view_t, view_s, esc_t, esc_s, frz_v, frz_l, up_s, up_n, views_n, views_c, escs_n, escs_c, op2_e, mBin_e, op1_e, mUn_e, aNil_e, aCons_e, opL_e, mFn_e, mkTup_e, mkLst_e, mTup_e, mLst_e, tob_e, tB_e, tAnd_e, tOr_e, tNot_e, tIte_e, mIte_e, mAnd_e, mOr_e, mNot_e, mChain_e, seqM_e, cNext_e, cBrk_e, cCont_e, cRetN_e, cIf_e, cExpr_e, cSet_e, setM_t, setM_s, setD_e, retM_t, retM_s, cRet_e, asgM_e, cAsg_e, gTup_e, gsNil_e, gsCons_e, setAtM_e, cSetAt_e, getAtM_e, cAugAt_e, cAug_e, isL_e, mutM_e, mMut_e, oNone_e, oSome_e, slM_e, mSl_e, seqM'_e, wSeq_e, walkM_e, wFn_e, escW_e, wEsc_e, cFor_e, mComp_e, compM_e, takes_n, takes_t, takes_s, puts_n, puts_t, puts_s, callM_e, mCall_e, mCallK_e, toS_t, toS_s, putS_e, cPar_e, if_ap, wipeM_e, stepC_e, turnL_e, wRev_e, asB, e1, e2, e3, pLen, iz_len, p1_e, hsm, hl1, hc, wipeG, backG, pAll, all_true]
  · refine ⟨some (.val (.tup (iz x))), o10, o11, ?_⟩
    simp [st8B, stt, bind_k, kont_s, kont_n, pure_ev, rd_e, cst_e, view_t, view_s, esc_t, esc_s, frz_v, frz_l, up_s, up_n, views_n, views_c, escs_n, escs_c, op2_e, mBin_e, op1_e, mUn_e, aNil_e, aCons_e, opL_e, mFn_e, mkTup_e, mkLst_e, mTup_e, mLst_e, tob_e, tB_e, tAnd_e, tOr_e, tNot_e, tIte_e, mIte_e, mAnd_e, mOr_e, mNot_e, mChain_e, seqM_e, cNext_e, cBrk_e, cCont_e, cRetN_e, cIf_e, cExpr_e, cSet_e, setM_t, setM_s, setD_e, retM_t, retM_s, cRet_e, asgM_e, cAsg_e, gTup_e, gsNil_e, gsCons_e, setAtM_e, cSetAt_e, getAtM_e, cAugAt_e, cAug_e, isL_e, mutM_e, mMut_e, oNone_e, oSome_e, slM_e, mSl_e, seqM'_e, wSeq_e, walkM_e, wFn_e, escW_e, wEsc_e, cFor_e, mComp_e, compM_e, takes_n, takes_t, takes_s, puts_n, puts_t, puts_s, callM_e, mCall_e, mCallK_e, toS_t, toS_s, putS_e, cPar_e, if_ap, wipeM_e, stepC_e, turnL_e, wRev_e, asB, e1, e2, hf]
def st8 : M Fl := cFor (wSeq (mCall F_w_all [] (aCons (rd 2) (aNil)))) (setD 9) st8B
theorem st8_k {d3 : D} (hE : Ends rs w m low high) (hb : rs.length ≤ 8) (hr : ∀ r ∈ rs, 0 ≤ r ∧ r ≤ 3) (hw : Hands w) (hs : IsW w (.val d3)) :
    ∃ o9' o10' o11', st8 (stt o0 o1 rs (.val d3) low high o6 (some (.val (.lst (iz (sums 0 low))))) (some (.val (.lst (iz (sums 0 high))))) o9 o10 o11) = some (.next, stt o0 o1 rs (.val d3) low high o6 (some (.val (.lst (iz (sums 0 low))))) (some (.val (.lst (iz (sums 0 high))))) o9' o10' o11') := by
  obtain ⟨s, L, q1, q2, q3⟩ := all_k hb hr
  obtain ⟨g', e, o9', o10', o11', rfl⟩ := loopM_all (mt := setD 9) (mb := st8B) (fun _ g => ∃ o9 o10 o11, g = stt o0 o1 rs (.val d3) low high o6 (some (.val (.lst (iz (sums 0 low))))) (some (.val (.lst (iz (sums 0 high))))) o9 o10 o11) (ds := L) (n := 0)
    (g := stt o0 o1 rs (.val d3) low high o6 (some (.val (.lst (iz (sums 0 low))))) (some (.val (.lst (iz (sums 0 high))))) o9 o10 o11) ⟨_, _, _, rfl⟩ (by
      rintro i d hd _ ⟨o9, o10, o11, rfl⟩
      obtain ⟨x, rfl, hx⟩ := q2 d (List.mem_of_getElem? hd)
      obtain ⟨a, b, c, e⟩ := st8_turn (o0 := o0) (o1 := o1) (o6 := o6) (o9 := o9) (o10 := o10) (o11 := o11) hE (by omega) hw hs hx
      exact ⟨_, e, a, b, c, rfl⟩)
  refine ⟨o9', o10', o11', cFor_of (ds := L) (g1 := stt o0 o1 rs (.val d3) low high o6 (some (.val (.lst (iz (sums 0 low))))) (some (.val (.lst (iz (sums 0 high))))) o9 o10 o11) ?_ e⟩
  simp [bind_k, kont_s, kont_n, pure_ev, rd_e, cst_e, view_t, view_s, esc_t, esc_s, frz_v, frz_l, up_s, up_n, views_n, views_c, escs_n, escs_c, op2_e, mBin_e, op1_e, mUn_e, aNil_e, aCons_e, opL_e, mFn_e, mkTup_e, mkLst_e, mTup_e, mLst_e, tob_e, tB_e, tAnd_e, tOr_e, tNot_e, tIte_e, mIte_e, mAnd_e, mOr_e, mNot_e, mChain_e, seqM_e, cNext_e, cBrk_e, cCont_e, cRetN_e, cIf_e, cExpr_e, cSet_e, setM_t, setM_s, setD_e, retM_t, retM_s, cRet_e, asgM_e, cAsg_e, gTup_e, gsNil_e, gsCons_e, setAtM_e, cSetAt_e, getAtM_e, cAugAt_e, cAug_e, isL_e, mutM_e, mMut_e, oNone_e, oSome_e, slM_e, mSl_e, seqM'_e, wSeq_e, walkM_e, wFn_e, escW_e, wEsc_e, cFor_e, mComp_e, compM_e, takes_n, takes_t, takes_s, puts_n, puts_t, puts_s, callM_e, mCall_e, mCallK_e, toS_t, toS_s, putS_e, cPar_e, if_ap, wipeM_e, stepC_e, turnL_e, wRev_e, q3, q1, seqOf]
end
def st1 : M Fl := cPar 2 3 (aCons (mCall F_w_sizes [] (aCons (rd 0) (aCons (cst (.int 4)) (aCons (cst (.int 3)) (aNil))))) (aCons (mCall F_w_runs [] (aCons (rd 0) (aCons (cst (.int 4)) (aCons (cst (.int 3)) (aNil))))) (aNil)))
def bodyR : M Fl := seqM st1 (seqM st2 (seqM st3 (seqM st4 (seqM st5 (seqM st6 (seqM st7 st8))))))
theorem right_is : m_w_right = seqM (cFor (wFn p1 (aCons (cst (.int 4)) (aNil))) (setD 1) bodyR) (cRet pr_w_right (cst (.bl true))) := rfl
theorem turn_k {s : S} {n i : Nat} {o1 o2 o3 o4 o5 o6 o7 o8 o9 o10 o11 : Option S} (hs : BoxOk n s) (hn : n ≤ 100000) :
    ∃ s' o1' o2' o3' o4' o5' o6' o7' o8' o9' o10' o11', BoxOk (n + 5000) s' ∧ turnL (setD 1) bodyR (.int i) [some s, o1, o2, o3, o4, o5, o6, o7, o8, o9, o10, o11] = some (.next, [some s', o1', o2', o3', o4', o5', o6', o7', o8', o9', o10', o11']) := by
  obtain ⟨rs, s1, h1, l1, l2, hrs, e1⟩ := sizes_k hs (m := 4) (k := 3) (by omega) (by omega) (by omega) (by omega) (by omega)
  obtain ⟨w, s2, h2, hw, e2⟩ := runs_k h1 (m := 4) (k := 3) (by omega) (by omega) (by omega) (by omega) (by omega)
  have hr : ∀ r ∈ rs, 0 ≤ r := fun r q => by have := hrs r q; omega
  have hr3 : ∀ r ∈ rs, 0 ≤ r ∧ r ≤ 3 := fun r q => by have := hrs r q; omega
  have hb : rs.length ≤ 8 := by omega
  have hsum := lies_sum (lies_full hr)
  have hbound : rs.sum ≤ rs.length * 3 := by
    have : ∀ {xs : List Int}, (∀ r ∈ xs, 0 ≤ r ∧ r ≤ 3) → xs.sum ≤ xs.length * 3 := by
      intro xs
      induction xs with
      | nil => intro _; simp
      | cons x xs ih =>
        intro h
        have h0 := h x (List.mem_cons_self ..)
        have := ih fun y hy => h y (List.mem_cons_of_mem _ hy)
        simp only [List.sum_cons, List.length_cons, Int.natCast_add]; omega
    exact this hr3
  have hm : rs.sum = (rs.sum.toNat : Nat) := by omega
  have hm' : rs.sum.toNat ≤ 40000 := by omega
  obtain ⟨low, high, hE⟩ := ends_of hr hw hm
  have hb' : rs.length ≤ 1000 := by omega
  obtain ⟨s3, q3, e3⟩ := st2_k (s3 := .lst (wd w)) (o0 := some s2) (o1 := some (.val (.int i))) (o4 := o4) (o5 := o5) (o6 := o6) (o7 := o7) (o8 := o8) (o9 := o9) (o10 := o10) (o11 := o11) hE hb' hr hw (.inl rfl) hm hm'
  obtain ⟨s4, q4, e4⟩ := st3_k (o0 := some s2) (o1 := some (.val (.int i))) (o6 := o6) (o7 := o7) (o8 := o8) (o9 := o9) (o10 := o10) (o11 := o11) hE hb' q3 hm hm'
  have e5 := st4_k (o0 := some s2) (o1 := some (.val (.int i))) (o6 := o6) (o7 := o7) (o8 := o8) (o9 := o9) (o10 := o10) (o11 := o11) hE hb' q4 hm hm'
  obtain ⟨o6', e6⟩ := st5_k (s3 := .val s4.frz) (o0 := some s2) (o1 := some (.val (.int i))) (o7 := o7) (o8 := o8) (o9 := o9) (o10 := o10) (o11 := o11) hE hb'
  have e7 := st6_k (o0 := some s2) (o1 := some (.val (.int i))) (o6 := o6') (o7 := o7) (o8 := o8) (o9 := o9) (o10 := o10) (o11 := o11) hE hb' hw q4.frz
  have e8 := st7_k (s3 := .val s4.frz) (o0 := some s2) (o1 := some (.val (.int i))) (o6 := o6') (o7 := o7) (o8 := o8) (o9 := o9) (o10 := o10) (o11 := o11) hE hb'
  obtain ⟨o9', o10', o11', e9⟩ := st8_k (o0 := some s2) (o1 := some (.val (.int i))) (o6 := o6') (o9 := o9) (o10 := o10) (o11 := o11) hE hb hr3 hw q4.frz
  have e0 : st1 [some s, some (.val (.int i)), o2, o3, o4, o5, o6, o7, o8, o9, o10, o11] = some (.next, [some s2, some (.val (.int i)), some (.val (.tup (iz rs))), some (.lst (wd w)), o4, o5, o6, o7, o8, o9, o10, o11]) := by
    obtain ⟨a, b, c, rfl, _⟩ := id hs
    obtain ⟨a1, b1, c1, rfl, _⟩ := id h1
    obtain ⟨a2, b2, c2, rfl, _⟩ := id h2
    simp [st1, bind_k, kont_s, kont_n, pure_ev, rd_e, cst_e, view_t, view_s, esc_t, esc_s, frz_v, frz_l, up_s, up_n, views_n, views_c, escs_n, escs_c, op2_e, mBin_e, op1_e, mUn_e, aNil_e, aCons_e, opL_e, mFn_e, mkTup_e, mkLst_e, mTup_e, mLst_e, tob_e, tB_e, tAnd_e, tOr_e, tNot_e, tIte_e, mIte_e, mAnd_e, mOr_e, mNot_e, mChain_e, seqM_e, cNext_e, cBrk_e, cCont_e, cRetN_e, cIf_e, cExpr_e, cSet_e, setM_t, setM_s, setD_e, retM_t, retM_s, cRet_e, asgM_e, cAsg_e, gTup_e, gsNil_e, gsCons_e, setAtM_e, cSetAt_e, getAtM_e, cAugAt_e, cAug_e, isL_e, mutM_e, mMut_e, oNone_e, oSome_e, slM_e, mSl_e, seqM'_e, wSeq_e, walkM_e, wFn_e, escW_e, wEsc_e, cFor_e, mComp_e, compM_e, takes_n, takes_t, takes_s, puts_n, puts_t, puts_s, callM_e, mCall_e, mCallK_e, toS_t, toS_s, putS_e, cPar_e, if_ap, wipeM_e, stepC_e, turnL_e, wRev_e, e1, e2]
  refine ⟨s2, some (.val (.int i)), some (.val (.tup (iz rs))), some (.val s4.frz), some (.val (.tup (iz low))), some (.val (.tup (iz high))), o6', some (.val (.lst (iz (sums 0 low)))), some (.val (.lst (iz (sums 0 high)))), o9', o10', o11', h2.up (by omega), turnL_of (g1 := [some s, some (.val (.int i)), o2, o3, o4, o5, o6, o7, o8, o9, o10, o11]) (by simp [bind_k, kont_s, kont_n, pure_ev, rd_e, cst_e, view_t, view_s, esc_t, esc_s, frz_v, frz_l, up_s, up_n, views_n, views_c, escs_n, escs_c, op2_e, mBin_e, op1_e, mUn_e, aNil_e, aCons_e, opL_e, mFn_e, mkTup_e, mkLst_e, mTup_e, mLst_e, tob_e, tB_e, tAnd_e, tOr_e, tNot_e, tIte_e, mIte_e, mAnd_e, mOr_e, mNot_e, mChain_e, seqM_e, cNext_e, cBrk_e, cCont_e, cRetN_e, cIf_e, cExpr_e, cSet_e, setM_t, setM_s, setD_e, retM_t, retM_s, cRet_e, asgM_e, cAsg_e, gTup_e, gsNil_e, gsCons_e, setAtM_e, cSetAt_e, getAtM_e, cAugAt_e, cAug_e, isL_e, mutM_e, mMut_e, oNone_e, oSome_e, slM_e, mSl_e, seqM'_e, wSeq_e, walkM_e, wFn_e, escW_e, wEsc_e, cFor_e, mComp_e, compM_e, takes_n, takes_t, takes_s, puts_n, puts_t, puts_s, callM_e, mCall_e, mCallK_e, toS_t, toS_s, putS_e, cPar_e, if_ap, wipeM_e, stepC_e, turnL_e, wRev_e]) ?_⟩
  exact (seqM_next e0).trans ((seqM_next e3).trans ((seqM_next e4).trans ((seqM_next e5).trans ((seqM_next e6).trans ((seqM_next e7).trans ((seqM_next e8).trans e9))))))
theorem right_k {s : S} (h : BoxOk 0 s) : ∃ s', F_w_right [s] = some (.val (.bl true), [s']) := by
  obtain ⟨g', e, s', o1, o2, o3, o4, o5, o6, o7, o8, o9, o10, o11, _, rfl⟩ := loopM_all (mt := setD 1) (mb := bodyR)
    (fun m g => ∃ s o1 o2 o3 o4 o5 o6 o7 o8 o9 o10 o11, BoxOk (m * 5000) s ∧ g = [some s, o1, o2, o3, o4, o5, o6, o7, o8, o9, o10, o11]) (ds := upto 0 4) (n := 0) (g := [some s, none, none, none, none, none, none, none, none, none, none, none]) ⟨s, _, _, _, _, _, _, _, _, _, _, _, h.up (by omega), rfl⟩ (by
      rintro i d hd _ ⟨s, o1, o2, o3, o4, o5, o6, o7, o8, o9, o10, o11, hs, rfl⟩
      obtain ⟨rfl, hi⟩ := upto_get hd
      obtain ⟨s', o1', o2', o3', o4', o5', o6', o7', o8', o9', o10', o11', h', e⟩ := turn_k (i := i) (o1 := o1) (o2 := o2) (o3 := o3) (o4 := o4) (o5 := o5) (o6 := o6) (o7 := o7) (o8 := o8) (o9 := o9) (o10 := o10) (o11 := o11) hs (by omega)
      rw [Int.zero_add]
      exact ⟨_, e, s', _, _, _, _, _, _, _, _, _, _, _, h'.up (by omega), rfl⟩)
  refine ⟨s', ?_⟩
  simp [F_w_right, right_is, fnM_e, bind_k, kont_s, kont_n, pure_ev, rd_e, cst_e, view_t, view_s, esc_t, esc_s, frz_v, frz_l, up_s, up_n, views_n, views_c, escs_n, escs_c, op2_e, mBin_e, op1_e, mUn_e, aNil_e, aCons_e, opL_e, mFn_e, mkTup_e, mkLst_e, mTup_e, mLst_e, tob_e, tB_e, tAnd_e, tOr_e, tNot_e, tIte_e, mIte_e, mAnd_e, mOr_e, mNot_e, mChain_e, seqM_e, cNext_e, cBrk_e, cCont_e, cRetN_e, cIf_e, cExpr_e, cSet_e, setM_t, setM_s, setD_e, retM_t, retM_s, cRet_e, asgM_e, cAsg_e, gTup_e, gsNil_e, gsCons_e, setAtM_e, cSetAt_e, getAtM_e, cAugAt_e, cAug_e, isL_e, mutM_e, mMut_e, oNone_e, oSome_e, slM_e, mSl_e, seqM'_e, wSeq_e, walkM_e, wFn_e, escW_e, wEsc_e, cFor_e, mComp_e, compM_e, takes_n, takes_t, takes_s, puts_n, puts_t, puts_s, callM_e, mCall_e, mCallK_e, toS_t, toS_s, putS_e, cPar_e, if_ap, wipeM_e, stepC_e, turnL_e, wRev_e, p1_e, show small 4 = true from rfl, e, outs, pr_w_right]
theorem law_true (ns : List Int) (hl : ns.length ≤ 63) : ∃ ss', F_law [S.val (.scr ns)] = some (.val (.bl true), ss') := by
  rw [law_is]
  obtain ⟨N, hN, hw⟩ := topW_ok (K := 3) (by decide) (by decide) hl
  exact ⟨_, topF_ok hw hN (fun k hk => by rw [box_is]; exact boxF_ok (by decide) (by decide) hk) fun s h => right_k h⟩
end LW

open PySem PySem.W PyProof.Rows
set_option maxHeartbeats 0 in
theorem PySem.Challenge.cw_breathrows_k30_the_least_and_the_greates_holds : PySem.Challenge.rw_breathrows_k30_the_least_and_the_greates.Holds := by
  w_on; o_law; k_head; (case hw => w_witness2)
  k_fill
  refine L2.walk_of (l := PySem.Challenge.rw_breathrows_k30_the_least_and_the_greates) (n := 63) (k := 14) (x := "_law_script") (CX := fun _ => L2.CX0) (sp := fun w => DL.spF _ LW.F_law) rfl (by decide) rfl ⟨rfl, by decide, by decide⟩ (fun w h Y => PySem.W.kIn_of Y) ?F (fun _ _ a ns hl _ hS => DL.sp_law (LW.law_true ns hl) hS) (fun _ _ _ _ _ h => h)
  case F =>
    intro w mg fa h KX G hmg
    refine' LW.all_mk KX G hmg ?a_w_all ?l_w_all ?c_w_all ?k_w_all ?a_w_take ?l_w_take ?c_w_take ?k_w_take ?a_w_sizes ?l_w_sizes ?c_w_sizes ?k_w_sizes ?a_w_runs ?l_w_runs ?c_w_runs ?k_w_runs ?a_w_spot ?l_w_spot ?c_w_spot ?k_w_spot ?a_w_breathed ?l_w_breathed ?c_w_breathed ?k_w_breathed ?a_w_gone ?l_w_gone ?c_w_gone ?k_w_gone ?a_w_end ?l_w_end ?c_w_end ?k_w_end ?a_w_same ?l_w_same ?c_w_same ?k_w_same ?a_from_its_hand ?l_from_its_hand ?c_from_its_hand ?k_from_its_hand ?a_run_done ?l_run_done ?c_run_done ?k_run_done ?a_breathed ?l_breathed ?c_breathed ?k_breathed ?a_behind_each ?l_behind_each ?c_behind_each ?k_behind_each ?a_stands ?l_stands ?c_stands ?k_stands ?a_bare ?l_bare ?c_bare ?k_bare ?a_least_still ?l_least_still ?c_least_still ?k_least_still ?a_full ?l_full ?c_full ?k_full ?a_greatest_still ?l_greatest_still ?c_greatest_still ?k_greatest_still ?a_w_sums ?l_w_sums ?c_w_sums ?k_w_sums ?a_w_right ?l_w_right ?c_w_right ?k_w_right ?a_w_box ?l_w_box ?c_w_box ?k_w_box ?a_law ?l_law ?c_law ?k_law ?z_abs ?z_all ?z_bool ?z_enumerate ?z_int ?z_isinstance ?z_len ?z_list ?z_min ?z_range ?z_reversed ?z_str ?z_sum ?z_tuple ?z_zip ?g_LEFT_IN ?g_LEFT_OUT ?g_RIGHT_IN
    (case a_w_all => k_is); (case l_w_all => k_is); (case c_w_all => k_is); (case k_w_all => k_is)
    (case a_w_take => k_is); (case l_w_take => k_is); (case c_w_take => k_is); (case k_w_take => k_is)
    (case a_w_sizes => k_is); (case l_w_sizes => k_is); (case c_w_sizes => k_is); (case k_w_sizes => k_is)
    (case a_w_runs => k_is); (case l_w_runs => k_is); (case c_w_runs => k_is); (case k_w_runs => k_is)
    (case a_w_spot => k_is); (case l_w_spot => k_is); (case c_w_spot => k_is); (case k_w_spot => k_is)
    (case a_w_breathed => k_is); (case l_w_breathed => k_is); (case c_w_breathed => k_is); (case k_w_breathed => k_is)
    (case a_w_gone => k_is); (case l_w_gone => k_is); (case c_w_gone => k_is); (case k_w_gone => k_is)
    (case a_w_end => k_is); (case l_w_end => k_is); (case c_w_end => k_is); (case k_w_end => k_is)
    (case a_w_same => k_is); (case l_w_same => k_is); (case c_w_same => k_is); (case k_w_same => k_is)
    (case a_from_its_hand => k_is); (case l_from_its_hand => k_is); (case c_from_its_hand => k_is); (case k_from_its_hand => k_is)
    (case a_run_done => k_is); (case l_run_done => k_is); (case c_run_done => k_is); (case k_run_done => k_is)
    (case a_breathed => k_is); (case l_breathed => k_is); (case c_breathed => k_is); (case k_breathed => k_is)
    (case a_behind_each => k_is); (case l_behind_each => k_is); (case c_behind_each => k_is); (case k_behind_each => k_is)
    (case a_stands => k_is); (case l_stands => k_is); (case c_stands => k_is); (case k_stands => k_is)
    (case a_bare => k_is); (case l_bare => k_is); (case c_bare => k_is); (case k_bare => k_is)
    (case a_least_still => k_is); (case l_least_still => k_is); (case c_least_still => k_is); (case k_least_still => k_is)
    (case a_full => k_is); (case l_full => k_is); (case c_full => k_is); (case k_full => k_is)
    (case a_greatest_still => k_is); (case l_greatest_still => k_is); (case c_greatest_still => k_is); (case k_greatest_still => k_is)
    (case a_w_sums => k_is); (case l_w_sums => k_is); (case c_w_sums => k_is); (case k_w_sums => k_is)
    (case a_w_right => k_is); (case l_w_right => k_is); (case c_w_right => k_is); (case k_w_right => k_is)
    (case a_w_box => k_is); (case l_w_box => k_is); (case c_w_box => k_is); (case k_w_box => k_is)
    (case a_law => k_is); (case l_law => k_is); (case c_law => k_is); (case k_law => k_is)
    (case z_abs => k_is); (case z_all => k_is); (case z_bool => k_is); (case z_enumerate => k_is)
    (case z_int => k_is); (case z_isinstance => k_is); (case z_len => k_is); (case z_list => k_is)
    (case z_min => k_is); (case z_range => k_is); (case z_reversed => k_is); (case z_str => k_is)
    (case z_sum => k_is); (case z_tuple => k_is); (case z_zip => k_is); (case g_LEFT_IN => k_is)
    (case g_LEFT_OUT => k_is); (case g_RIGHT_IN => k_is)

