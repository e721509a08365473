import PyProof.Rows.All
import Wide.All
import OpenK.AllK
import Wide.FinOn
import KE.KStateDown
import HandS.ForMost
import HandS.Exc
import HandS.ExcOwn
import HandS.WordsExc
import HandS.Defaults
import HandS.Wide
import HandS.WideBits
import HandS.IsInst
import HandS.Style
import HandS.More
import HandS.EndBits
import HandS.HeadEnd
import HandS.TryOnly
import HandS.HeadHook1
import KE.KTryMore
import HandS.ExcIs
import PySem.Challenge.RW_bouncewise_k85_out_of_the_box
import HandS.Ends
import HandS.Head0
import HandS.Head1
import HandS.Head2
import HandS.HeadHook2
import HandS.HeadHook4
set_option Elab.async false
set_option linter.all false
set_option maxRecDepth 100000
set_option maxHeartbeats 4000000
set_option autoImplicit false
/-! B1: data, slots, the state's word, judgements with what they come to. -/
namespace Bw
open PySem PySem.Spec PyProof.Rows L2

/-- data that does not change -/
inductive D where
  | non | bl (b : Bool) | int (i : Int) | str (x : Str) | tup (ds : List D) | lst (ds : List D) | scr (ds : List D) | ins (C : Addr) (fs : List Str) (ds : List D) | adr (a : Addr)

mutual
/-- v is the data d, within the region I -/
inductive Is (K : PySem.W.Frag) (I : Hp) : V → D → Prop
  | non : Is K I .non .non
  | bl (b : Bool) : Is K I (.bl b) (.bl b)
  | int (i : Int) : Is K I (.int i) (.int i)
  | str (x : Str) : Is K I (.str x) (.str x)
  | tup {a : Addr} {vs : List V} {ds : List D} : SqT K I a vs → IsL K I vs ds → Is K I (.ref a) (.tup ds)
  | lst {a : Addr} {vs : List V} {ds : List D} : Rd I a (.lst vs) → IsL K I vs ds → Is K I (.ref a) (.lst ds)
  | scr {a : Addr} {vs : List V} {ds : List D} : SqL K I a vs → IsL K I vs ds → Is K I (.ref a) (.scr ds)
  | ins {a C dx : Addr} {fs : List Str} {vs : List V} {ds : List D} : I a = some (.ins C dx (fs.zip vs)) → fs.length = vs.length → IsL K I vs ds → Is K I (.ref a) (.ins C fs ds)
  | adr (a : Addr) : Is K I (.ref a) (.adr a)
inductive IsL (K : PySem.W.Frag) (I : Hp) : List V → List D → Prop
  | nil : IsL K I [] []
  | cons {v : V} {vs : List V} {d : D} {ds : List D} : Is K I v d → IsL K I vs ds → IsL K I (v :: vs) (d :: ds)
end
theorem rd_same {I J : Hp} {a : Addr} {u : HO} (e : Same I J) (h : Rd I a u) : Rd J a u := by
  rcases h with h | ⟨o, h⟩
  · exact .inl (e _ _ h)
  · exact .inr ⟨o, e _ _ h⟩
theorem sqt_same {K : PySem.W.Frag} {I J : Hp} {a : Addr} {xs : List V} (e : Same I J) (h : SqT K I a xs) : SqT K J a xs := by
  rcases h with (h | ⟨o, h⟩) | h
  · exact .inl (.inl (e _ _ h))
  · exact .inl (.inr ⟨o, e _ _ h⟩)
  · exact .inr h
section
variable {K : PySem.W.Frag} {I J : Hp}
mutual
theorem Is.mono (e : Same I J) : ∀ {d : D} {v : V}, Is K I v d → Is K J v d
  | .non, _, h => by cases h; exact .non
  | .bl b, _, h => by cases h; exact .bl b
  | .int i, _, h => by cases h; exact .int i
  | .str x, _, h => by cases h; exact .str x
  | .tup ds, _, h => by
    cases h with
    | tup h1 h2 => exact .tup (sqt_same e h1) (IsL.mono e h2)
  | .lst ds, _, h => by
    cases h with
    | lst h1 h2 => exact .lst (rd_same e h1) (IsL.mono e h2)
  | .scr ds, _, h => by
    cases h with
    | scr h1 h2 => exact .scr (e.seq h1) (IsL.mono e h2)
  | .ins C fs ds, _, h => by
    cases h with
    | ins h1 h2 h3 => exact .ins (e _ _ h1) h2 (IsL.mono e h3)
  | .adr a, _, h => by cases h; exact .adr a
theorem IsL.mono (e : Same I J) : ∀ {ds : List D} {vs : List V}, IsL K I vs ds → IsL K J vs ds
  | [], _, h => by cases h; exact .nil
  | d :: ds, _, h => by
    cases h with
    | cons h1 h2 => exact .cons (Is.mono e h1) (IsL.mono e h2)
end
theorem IsL.length : ∀ {ds : List D} {vs : List V}, IsL K I vs ds → vs.length = ds.length
  | [], _, h => by cases h; rfl
  | d :: ds, _, h => by
    cases h with
    | cons h1 h2 => exact congrArg (· + 1) h2.length
theorem IsL.get : ∀ {ds : List D} {vs : List V} {i : Nat} {d : D}, IsL K I vs ds → ds[i]? = some d → ∃ v, vs[i]? = some v ∧ Is K I v d
  | [], _, _, _, _, e => by simp at e
  | x :: ds, _, 0, d, h, e => by
    cases h with
    | cons h1 h2 =>
      have e' : x = d := by simpa using e
      subst e'
      exact ⟨_, rfl, h1⟩
  | x :: ds, _, i + 1, d, h, e => by
    cases h with
    | cons h1 h2 =>
      obtain ⟨v, e1, e2⟩ := h2.get (i := i) (d := d) (by simpa using e)
      exact ⟨v, by simpa using e1, e2⟩
theorem IsL.append {ds es : List D} {vs ws : List V} (h : IsL K I vs ds) (h' : IsL K I ws es) : IsL K I (vs ++ ws) (ds ++ es) := by
  induction ds generalizing vs with
  | nil => cases h; exact h'
  | cons d ds ih =>
    cases h with
    | cons h1 h2 => exact .cons h1 (ih h2)
theorem IsL.take {ds : List D} {vs : List V} (n : Nat) (h : IsL K I vs ds) : IsL K I (vs.take n) (ds.take n) := by
  induction n generalizing ds vs with
  | zero => simp only [List.take_zero]; exact .nil
  | succ n ih =>
    cases h with
    | nil => simp only [List.take_nil]; exact .nil
    | cons h1 h2 => exact .cons h1 (ih h2)
theorem IsL.drop {ds : List D} {vs : List V} (n : Nat) (h : IsL K I vs ds) : IsL K I (vs.drop n) (ds.drop n) := by
  induction n generalizing ds vs with
  | zero => exact h
  | succ n ih =>
    cases h with
    | nil => exact .nil
    | cons h1 h2 => exact ih h2
theorem IsL.ints : ∀ (ns : List Int), IsL K I (ns.map V.int) (ns.map D.int)
  | [] => .nil
  | n :: ns => .cons (.int n) (IsL.ints ns)
theorem Is.int_inv {v : V} {i : Int} (h : Is K I v (.int i)) : v = .int i := by cases h; rfl
theorem Is.bl_inv {v : V} {b : Bool} (h : Is K I v (.bl b)) : v = .bl b := by cases h; rfl
theorem Is.str_inv {v : V} {x : Str} (h : Is K I v (.str x)) : v = .str x := by cases h; rfl
theorem Is.non_inv {v : V} (h : Is K I v .non) : v = .non := by cases h; rfl
end

/-- a slot: unknown; data; an own list (of data), which may change -/
inductive Sl where
  | un | im (d : D) | ml (ds : List D)
def Sl.own : Sl → Bool
  | .ml _ => true
  | _ => false
def ownAt (K : PySem.W.Frag) (I H : Hp) (a : Addr) : Sl → Prop
  | .ml ds => ∃ vs, H a = some (.lst vs) ∧ IsL K I vs ds
  | _ => False
/-- from the entry's region I0 and heap H0 to I and H -/
structure Grow (I0 H0 I H : Hp) : Prop where
  same : Same I H
  h0 : Same H0 H
  i0 : Same I0 I
  nc : ∀ a o, I a = some o → I0 a = some o ∨ H0 a = none
theorem Grow.refl {I H : Hp} (h : Same I H) : Grow I H I H := ⟨h, Same.refl _, Same.refl _, fun _ _ e => .inl e⟩
theorem Grow.trans {I0 H0 I1 H1 I2 H2 : Hp} (a : Grow I0 H0 I1 H1) (b : Grow I1 H1 I2 H2) : Grow I0 H0 I2 H2 :=
  ⟨b.same, a.h0.trans b.h0, a.i0.trans b.i0, fun x o e => by
    rcases b.nc x o e with q | q
    · exact a.nc x o q
    · exact .inr (a.h0.free q)⟩
/-- the state's word: Γ tells the slots -/
structure Ok (K : PySem.W.Frag) (I0 H0 : Hp) (Γ : List Sl) (I : Hp) (σ : L2.St) (H : Hp) : Prop where
  g : Grow I0 H0 I H
  len : σ.length = Γ.length
  sl : ∀ (i : Nat) (d : D), Γ[i]? = some (.im d) → ∃ v, σ[i]? = some (some v) ∧ Is K I v d
  ow : ∀ (i : Nat) (s : Sl), Γ[i]? = some s → s.own = true → ∃ a, σ[i]? = some (some (.ref a)) ∧ ownAt K I H a s ∧ I a = none ∧ H0 a = none
  inj : ∀ (i j : Nat) (s t : Sl) (a : Addr), i ≠ j → Γ[i]? = some s → Γ[j]? = some t → s.own = true → t.own = true → σ[i]? = some (some (.ref a)) → σ[j]? ≠ some (some (.ref a))
section
variable {K : PySem.W.Frag} {I0 H0 I H I' H' : Hp} {Γ : List Sl} {σ : L2.St}
theorem ownAt.step {a : Addr} {s : Sl} (g : Grow I H I' H') (h : ownAt K I H a s) : ownAt K I' H' a s := by
  cases s with
  | ml ds =>
    obtain ⟨vs, e, q⟩ := h
    exact ⟨vs, g.h0 _ _ e, q.mono g.i0⟩
  | _ => exact h.elim
theorem ownAt.some {a : Addr} {s : Sl} (h : ownAt K I H a s) : ∃ o, H a = some o := by
  cases s with
  | ml ds =>
    obtain ⟨vs, e, q⟩ := h
    exact ⟨_, e⟩
  | _ => exact h.elim
/-- all that was goes on -/
theorem Ok.step (o : Ok K I0 H0 Γ I σ H) (g : Grow I H I' H') : Ok K I0 H0 Γ I' σ H' := by
  refine ⟨o.g.trans g, o.len, fun i d e => ?_, fun i s e e2 => ?_, o.inj⟩
  · obtain ⟨v, e1, e2⟩ := o.sl i d e
    exact ⟨v, e1, e2.mono g.i0⟩
  · obtain ⟨a, e1, q, n, n0⟩ := o.ow i s e e2
    refine ⟨a, e1, q.step g, ?_, n0⟩
    cases z : I' a with
    | none => rfl
    | some u =>
      obtain ⟨w, hw⟩ := q.some
      rcases g.nc a u z with y | y
      · rw [n] at y; cases y
      · rw [hw] at y; cases y
theorem Ok.same (o : Ok K I0 H0 Γ I σ H) : Same I H := o.g.same
/-- a new object at p, part of the region -/
theorem Ok.new {p : Addr} {u : HO} (o : Ok K I0 H0 Γ I σ H) (hp : H p = none) : Ok K I0 H0 Γ (upd I p u) σ (upd H p u) := by
  have ip : I p = none := o.same.free hp
  refine o.step ⟨fun b w e => ?_, fun b w e => ?_, fun b w e => ?_, fun b w e => ?_⟩
  · by_cases h : b = p
    · subst h; rw [upd_same] at e ⊢; exact e
    · rw [upd_ne h] at e ⊢; exact o.same b w e
  · rw [upd_ne (ne_of_none e hp)]; exact e
  · rw [upd_ne (ne_of_none e ip)]; exact e
  · by_cases h : b = p
    · subst h; exact .inr hp
    · rw [upd_ne h] at e; exact .inl e
/-- a new object at p, not of the region -/
theorem Ok.newO {p : Addr} {u : HO} (o : Ok K I0 H0 Γ I σ H) (hp : H p = none) : Ok K I0 H0 Γ I σ (upd H p u) :=
  o.step ⟨fun b w e => by rw [upd_ne (ne_of_none (o.same b w e) hp)]; exact o.same b w e, fun b w e => by rw [upd_ne (ne_of_none e hp)]; exact e, Same.refl _, fun _ _ e => .inl e⟩
theorem set_get {α : Type} {l : List α} {i j : Nat} {x y : α} (h : (l.set i x)[j]? = some y) : (j = i ∧ y = x) ∨ (j ≠ i ∧ l[j]? = some y) := by
  by_cases e : j = i
  · subst e
    by_cases hl : j < l.length
    · rw [List.getElem?_set_self hl] at h
      exact .inl ⟨rfl, (Option.some.inj h).symm⟩
    · rw [List.getElem?_eq_none (by simpa using hl)] at h
      cases h
  · rw [List.getElem?_set_ne (Ne.symm e)] at h
    exact .inr ⟨e, h⟩
/-- a slot is given data -/
theorem Ok.setIm {i : Nat} {v : V} {d : D} (o : Ok K I0 H0 Γ I σ H) (h : Is K I v d) : Ok K I0 H0 (Γ.set i (.im d)) I (σ.set i (some v)) H := by
  refine ⟨o.g, by rw [List.length_set, List.length_set]; exact o.len, fun j e q => ?_, fun j s q w => ?_, fun j k s t a ne q r w1 w2 e => ?_⟩
  · rcases set_get q with ⟨rfl, zz⟩ | ⟨ne, q⟩
    · cases zz
      have hl : j < σ.length := by
        rw [o.len]
        have := List.getElem?_eq_some_iff.mp q
        simpa using this.1
      exact ⟨v, by rw [List.getElem?_set_self hl], h⟩
    · obtain ⟨u, e1, e2⟩ := o.sl j e q
      exact ⟨u, by rw [List.getElem?_set_ne (Ne.symm ne)]; exact e1, e2⟩
  · rcases set_get q with ⟨rfl, zz⟩ | ⟨ne, q⟩
    · subst zz; cases w
    · obtain ⟨a, e1, e2⟩ := o.ow j s q w
      exact ⟨a, by rw [List.getElem?_set_ne (Ne.symm ne)]; exact e1, e2⟩
  · rcases set_get q with ⟨rfl, zz⟩ | ⟨n1, q⟩
    · subst zz; cases w1
    · rcases set_get r with ⟨rfl, yy⟩ | ⟨n2, r⟩
      · subst yy; cases w2
      · rw [List.getElem?_set_ne (Ne.symm n1)] at e
        rw [List.getElem?_set_ne (Ne.symm n2)]
        exact o.inj j k s t a ne q r w1 w2 e
/-- a slot is forgotten -/
theorem Ok.setUn {i : Nat} {u : Option V} (o : Ok K I0 H0 Γ I σ H) : Ok K I0 H0 (Γ.set i .un) I (σ.set i u) H := by
  refine ⟨o.g, by rw [List.length_set, List.length_set]; exact o.len, fun j e q => ?_, fun j s q w => ?_, fun j k s t a ne q r w1 w2 e => ?_⟩
  · rcases set_get q with ⟨rfl, zz⟩ | ⟨ne, q⟩
    · cases zz
    · obtain ⟨u, e1, e2⟩ := o.sl j e q
      exact ⟨u, by rw [List.getElem?_set_ne (Ne.symm ne)]; exact e1, e2⟩
  · rcases set_get q with ⟨rfl, zz⟩ | ⟨ne, q⟩
    · subst zz; cases w
    · obtain ⟨a, e1, e2⟩ := o.ow j s q w
      exact ⟨a, by rw [List.getElem?_set_ne (Ne.symm ne)]; exact e1, e2⟩
  · rcases set_get q with ⟨rfl, zz⟩ | ⟨n1, q⟩
    · subst zz; cases w1
    · rcases set_get r with ⟨rfl, yy⟩ | ⟨n2, r⟩
      · subst yy; cases w2
      · rw [List.getElem?_set_ne (Ne.symm n1)] at e
        rw [List.getElem?_set_ne (Ne.symm n2)]
        exact o.inj j k s t a ne q r w1 w2 e
/-- fewer words: any slot may be forgotten -/
theorem Ok.weak {Δ : List Sl} (o : Ok K I0 H0 Γ I σ H) (hl : Γ.length = Δ.length) (h : ∀ (i : Nat) (s : Sl), Δ[i]? = some s → s = .un ∨ Γ[i]? = some s) : Ok K I0 H0 Δ I σ H := by
  refine ⟨o.g, o.len.trans hl, fun j e q => ?_, fun j s q w => ?_, fun j k s t a ne q r w1 w2 e => ?_⟩
  · rcases h j _ q with z | z
    · cases z
    · exact o.sl j e z
  · rcases h j _ q with z | z
    · subst z; cases w
    · exact o.ow j s z w
  · rcases h j _ q with z | z
    · subst z; cases w1
    · rcases h k _ r with y | y
      · subst y; cases w2
      · exact o.inj j k s t a ne z y w1 w2 e
/-- an own list at a, new: at slot i -/
structure Fresh (K : PySem.W.Frag) (H0 : Hp) (Γ : List Sl) (I : Hp) (σ : L2.St) (H : Hp) (a : Addr) : Prop where
  i : I a = none
  h0 : H0 a = none
  ne : ∀ (j : Nat) (s : Sl), Γ[j]? = some s → s.own = true → σ[j]? ≠ some (some (.ref a))
theorem Ok.fresh {p : Addr} (o : Ok K I0 H0 Γ I σ H) (hp : H p = none) : Fresh K H0 Γ I σ H p :=
  ⟨o.same.free hp, o.g.h0.free hp, fun j s e w q => by
    obtain ⟨a, e1, e2, _⟩ := o.ow j s e w
    rw [e1] at q
    cases q
    obtain ⟨u, hu⟩ := e2.some
    rw [hp] at hu
    cases hu⟩
theorem Fresh.step {p : Addr} {u : HO} (f : Fresh K H0 Γ I σ H p) (hu : H p = some u) (g : Grow I H I' H') : Fresh K H0 Γ I' σ H' p := by
  refine ⟨?_, f.h0, f.ne⟩
  cases z : I' p with
  | none => rfl
  | some w =>
    rcases g.nc p w z with y | y
    · rw [f.i] at y; cases y
    · rw [hu] at y; cases y
theorem Ok.setOwn {i : Nat} {a : Addr} {s : Sl} (o : Ok K I0 H0 Γ I σ H) (f : Fresh K H0 Γ I σ H a) (w : ownAt K I H a s) (hs : s.own = true) : Ok K I0 H0 (Γ.set i s) I (σ.set i (some (.ref a))) H := by
  refine ⟨o.g, by rw [List.length_set, List.length_set]; exact o.len, fun j e q => ?_, fun j t q w' => ?_, fun j k t t' b ne q r w1 w2 e => ?_⟩
  · rcases set_get q with ⟨rfl, zz⟩ | ⟨ne, q⟩
    · subst zz; cases hs
    · obtain ⟨u, e1, e2⟩ := o.sl j e q
      exact ⟨u, by rw [List.getElem?_set_ne (Ne.symm ne)]; exact e1, e2⟩
  · rcases set_get q with ⟨rfl, zz⟩ | ⟨ne, q'⟩
    · subst zz
      have hl : j < σ.length := by
        rw [o.len]
        have := List.getElem?_eq_some_iff.mp (show (Γ.set j t)[j]? = some _ by assumption)
        simpa using this.1
      exact ⟨a, by rw [List.getElem?_set_self hl], w, f.i, f.h0⟩
    · obtain ⟨b, e1, e2⟩ := o.ow j t q' w'
      exact ⟨b, by rw [List.getElem?_set_ne (Ne.symm ne)]; exact e1, e2⟩
  · rcases set_get q with ⟨rfl, zz⟩ | ⟨n1, q'⟩
    · rcases set_get r with ⟨rfl, yy⟩ | ⟨n2, r'⟩
      · exact absurd rfl ne
      · have hl : j < σ.length := by
          rw [o.len]
          have := List.getElem?_eq_some_iff.mp q
          simpa using this.1
        rw [List.getElem?_set_self hl] at e
        cases e
        rw [List.getElem?_set_ne (Ne.symm n2)]
        exact f.ne k t' r' w2
    · rw [List.getElem?_set_ne (Ne.symm n1)] at e
      rcases set_get r with ⟨rfl, yy⟩ | ⟨n2, r'⟩
      · intro z
        have hl : k < σ.length := by
          rw [o.len]
          have := List.getElem?_eq_some_iff.mp r
          simpa using this.1
        rw [List.getElem?_set_self hl] at z
        cases z
        exact f.ne j t q' w1 e
      · rw [List.getElem?_set_ne (Ne.symm n2)]
        exact o.inj j k t t' b ne q' r' w1 w2 e
/-- an own list is put into the region -/
theorem Ok.freeze {a : Addr} {u : HO} (o : Ok K I0 H0 Γ I σ H) (f : Fresh K H0 Γ I σ H a) (hu : H a = some u) : Ok K I0 H0 Γ (upd I a u) σ H := by
  refine ⟨⟨fun b w e => ?_, o.g.h0, fun b w e => ?_, fun b w e => ?_⟩, o.len, fun i d e => ?_, fun i s e w => ?_, o.inj⟩
  · by_cases h : b = a
    · subst h; rw [upd_same] at e; cases e; exact hu
    · rw [upd_ne h] at e; exact o.same b w e
  · have := o.g.i0 b w e
    rw [upd_ne (ne_of_none this f.i)]; exact this
  · by_cases h : b = a
    · subst h; exact .inr f.h0
    · rw [upd_ne h] at e; exact o.g.nc b w e
  · obtain ⟨v, e1, e2⟩ := o.sl i d e
    exact ⟨v, e1, e2.mono fun b w e => by rw [upd_ne (ne_of_none e f.i)]; exact e⟩
  · obtain ⟨b, e1, e2, e3, e4⟩ := o.ow i s e w
    have nb : b ≠ a := fun z => f.ne i s e w (z ▸ e1)
    refine ⟨b, e1, ?_, by rw [upd_ne nb]; exact e3, e4⟩
    cases s with
    | ml ds =>
      obtain ⟨vs, q1, q2⟩ := e2
      exact ⟨vs, q1, q2.mono fun b w e => by rw [upd_ne (ne_of_none e f.i)]; exact e⟩
    | _ => exact e2
end
end Bw
/-! B2: judgements with what they come to; expressions. -/
namespace Bw
open PySem PySem.Spec PyProof.Rows L2

theorem PEweak {X : Cx} {e : Expr} {t t' : TE} (h : PE X e t) (w : ∀ σ H Q, t' σ H Q → t σ H Q) : PE X e t' := ⟨fun pins s σ H Q I q => h.run pins s σ H Q I (w _ _ _ q)⟩
theorem PTweak {X : Cx} {e : Expr} {t t' : TT} (h : PT X e t) (w : ∀ σ H Q, t' σ H Q → t σ H Q) : PT X e t' := ⟨fun pins s σ H Q I q => h.run pins s σ H Q I (w _ _ _ q)⟩
theorem PWweak {X : Cx} {e : Expr} {t t' : TT} (h : PW X e t) (w : ∀ σ H Q, t' σ H Q → t σ H Q) : PW X e t' := ⟨fun wh pins s σ H Q I q => h.run wh pins s σ H Q I (w _ _ _ q)⟩
theorem PAweak {X : Cx} {es : List Expr} {t t' : TA} (h : PA X es t) (w : ∀ σ H Q, t' σ H Q → t σ H Q) : PA X es t' := ⟨fun pos pins s σ H Q I q => h.run pos pins s σ H Q I (w _ _ _ q)⟩
theorem PSweak {X : Cx} {st : Stmt} {t t' : TS} (h : PS X st t) (w : ∀ D σ H, t' D σ H → t D σ H) : PS X st t' := ⟨fun pins s σ H D I q => h.run pins s σ H D I (w _ _ _ q)⟩
theorem PSsweak {X : Cx} {st : List Stmt} {t t' : TS} (h : PSs X st t) (w : ∀ D σ H, t' D σ H → t D σ H) : PSs X st t' := ⟨fun pins s σ H D I q => h.run pins s σ H D I (w _ _ _ q)⟩

def tE (K : PySem.W.Frag) (Γ : List Sl) (d : D) : TE := fun σ H Q => ∃ I0 H0 I, Ok K I0 H0 Γ I σ H ∧ ∀ I' v H', Grow I H I' H' → Is K I' v d → Q v H'
/-- a new own list -/
def tLn (K : PySem.W.Frag) (Γ : List Sl) (ds : List D) : TE := fun σ H Q => ∃ I0 H0 I, Ok K I0 H0 Γ I σ H ∧ ∀ I' a vs H', Grow I H I' H' → H a = none → I' a = none → H' a = some (.lst vs) → IsL K I' vs ds → Q (.ref a) H'
def tT (K : PySem.W.Frag) (Γ : List Sl) (p : Prop) : TT := fun σ H Q => ∃ I0 H0 I, Ok K I0 H0 Γ I σ H ∧ ∀ I' H' b, Grow I H I' H' → (b = true ↔ p) → Q b H'
def tAs (K : PySem.W.Frag) (Γ : List Sl) (ds : List D) : TA := fun σ H Q => ∃ I0 H0 I, Ok K I0 H0 Γ I σ H ∧ ∀ I' vs H', Grow I H I' H' → IsL K I' vs ds → Q vs H'
structure JE (X : Cx) (Γ : List Sl) (e : Expr) (d : D) : Prop where
  pe : PE X e (tE X.K Γ d)
structure JL (X : Cx) (Γ : List Sl) (e : Expr) (ds : List D) : Prop where
  pe : PE X e (tLn X.K Γ ds)
structure JT (X : Cx) (Γ : List Sl) (e : Expr) (p : Prop) : Prop where
  pt : PT X e (tT X.K Γ p)
structure JW (X : Cx) (Γ : List Sl) (e : Expr) (p : Prop) : Prop where
  pw : PW X e (tT X.K Γ p)
structure JA (X : Cx) (Γ : List Sl) (es : List Expr) (ds : List D) : Prop where
  pa : PA X es (tAs X.K Γ ds)
section
variable {X : Cx} {Γ : List Sl} {a b c e : Expr} {es : List Expr} {d dx dy : D} {ds : List D} {pos : Pos} {p q : Prop}

theorem JE.eq {d' : D} (h : JE X Γ e d) (q : d = d') : JE X Γ e d' := q ▸ h
theorem JT.iff (h : JT X Γ e p) (w : p ↔ q) : JT X Γ e q := ⟨PTweak h.pt fun σ H Q ⟨I0, H0, I, o, k⟩ => ⟨I0, H0, I, o, fun I' H' b g e => k I' H' b g (e.trans w)⟩⟩
theorem je_var (i : Nat) {x : Str} (hΓ : Γ[i]? = some (.im d)) (hN : X.N[i]? = some x := by rfl) (hv : Vis X.env.scope x := by first | exact Or.inl rfl | exact Or.inr (Or.inl rfl) | exact Or.inr (Or.inr rfl)) (hd : (x == ("__debug__" : Str)) = false := by decide)
    (hcd : (x == ("__classdict__" : Str)) = false := by decide) : JE X Γ (.Name x pos) d :=
  ⟨PEweak (pe_var hN hv hd hcd) fun σ H Q ⟨I0, H0, I, o, k⟩ => by
    obtain ⟨v, e1, e2⟩ := o.sl i d hΓ
    exact ⟨v, e1, k I v H (Grow.refl o.same) e2⟩⟩
theorem je_int {i : Int} {j : Nat} : JE X Γ (.Constant (.int i) j pos) (.int i) := ⟨PEweak pe_int fun σ H Q ⟨I0, H0, I, o, k⟩ => k I _ H (Grow.refl o.same) (.int i)⟩
theorem je_bl {i : Bool} {j : Nat} : JE X Γ (.Constant (.bool i) j pos) (.bl i) := ⟨PEweak pe_bl fun σ H Q ⟨I0, H0, I, o, k⟩ => k I _ H (Grow.refl o.same) (.bl i)⟩
theorem je_non {j : Nat} : JE X Γ (.Constant .none j pos) .non := ⟨PEweak pe_non fun σ H Q ⟨I0, H0, I, o, k⟩ => k I _ H (Grow.refl o.same) .non⟩
theorem je_str {x : Str} {j : Nat} : JE X Γ (.Constant (.str x) j pos) (.str x) := ⟨PEweak pe_str fun σ H Q ⟨I0, H0, I, o, k⟩ => k I _ H (Grow.refl o.same) (.str x)⟩
/-- a module's constant, scalar -/
theorem je_glob {x : Str} {v : V} {u : Value} (hm : X.mg x = some u) (r : RelV v u) (h : ∀ I, Is X.K I v d) (hg : Gl X x := by rfl) (hd : (x == ("__debug__" : Str)) = false := by decide) : JE X Γ (.Name x pos) d :=
  ⟨PEweak (pe_glob hg hm r hd) fun σ H Q ⟨I0, H0, I, o, k⟩ => k I _ H (Grow.refl o.same) (h I)⟩

/-! ### two-place operations -/
def RD (K : PySem.W.Frag) (r : R2) (dx dy d : D) : Prop := ∀ (I H : Hp) (v w : V) (Q : VK), Same I H → Is K I v dx → Is K I w dy → (∀ I' z H', Grow I H I' H' → Is K I' z d → Q z H') → r v w H Q
def RP (K : PySem.W.Frag) (r : R2) (dx dy : D) (p : Prop) : Prop := ∀ (I H : Hp) (v w : V) (Q : VK), Same I H → Is K I v dx → Is K I w dy → (∀ I' H' b, Grow I H I' H' → (b = true ↔ p) → Q (.bl b) H') → r v w H Q
theorem two {ta tb : TE} {r : R2} {σ : L2.St} {H : Hp} {Q : VK} {K : PySem.W.Frag} {R : Hp → Hp → V → V → Prop} (ha : ∀ σ H Q, tE K Γ dx σ H Q → ta σ H Q) (hb : ∀ σ H Q, tE K Γ dy σ H Q → tb σ H Q)
    (h : ∃ I0 H0 I, Ok K I0 H0 Γ I σ H ∧ ∀ I' v w H', Grow I H I' H' → Is K I' v dx → Is K I' w dy → r v w H' Q) : tOp r ta tb σ H Q := by
  obtain ⟨I0, H0, I, o, k⟩ := h
  refine ha _ _ _ ⟨I0, H0, I, o, fun I1 v H1 g1 h1 => ?_⟩
  refine hb _ _ _ ⟨I0, H0, I1, o.step g1, fun I2 w H2 g2 h2 => ?_⟩
  exact k I2 v w H2 (g1.trans g2) (h1.mono g2.i0) h2
theorem je_bin {op : Operator} {r : R2} (ho : OpR X (binaryOp op) r) (ha : JE X Γ a dx) (hb : JE X Γ b dy) (hr : RD X.K r dx dy d) : JE X Γ (.BinOp a op b pos) d :=
  ⟨PEweak (pe_op ho ha.pe hb.pe) fun σ H Q ⟨I0, H0, I, o, k⟩ => two (R := fun _ _ _ _ => True) (fun _ _ _ z => z) (fun _ _ _ z => z) ⟨I0, H0, I, o, fun I' v w H' g hv hw => hr I' H' v w Q g.same hv hw fun I2 z H2 g2 hz => k I2 z H2 (g.trans g2) hz⟩⟩
theorem jt_cmp {op : CmpOp} {r : R2} (ho : OpR X (compareOp op) r) (ha : JE X Γ a dx) (hb : JE X Γ b dy) (hm : behindInMarks op b = false) (hr : RP X.K r dx dy p) : JT X Γ (.Compare a [op] [b] pos) p :=
  ⟨PTweak (pt_cmpR ho ha.pe hb.pe hm) fun σ H Q ⟨I0, H0, I, o, k⟩ => two (R := fun _ _ _ _ => True) (fun _ _ _ z => z) (fun _ _ _ z => z) ⟨I0, H0, I, o, fun I' v w H' g hv hw => hr I' H' v w _ g.same hv hw fun I2 H2 b g2 hb => ⟨b, rfl, k I2 H2 b (g.trans g2) hb⟩⟩⟩
theorem je_cmp {op : CmpOp} {r : R2} [Decidable p] (ho : OpR X (compareOp op) r) (ha : JE X Γ a dx) (hb : JE X Γ b dy) (hm : behindInMarks op b = false) (hr : RP X.K r dx dy p) : JE X Γ (.Compare a [op] [b] pos) (.bl (decide p)) :=
  ⟨PEweak (pe_cmpR ho ha.pe hb.pe hm) fun σ H Q ⟨I0, H0, I, o, k⟩ => two (R := fun _ _ _ _ => True) (fun _ _ _ z => z) (fun _ _ _ z => z) ⟨I0, H0, I, o, fun I' v w H' g hv hw => hr I' H' v w _ g.same hv hw fun I2 H2 b g2 hb => k I2 _ H2 (g.trans g2) (by
    have e : b = decide p := by
      cases b with
      | true => exact (decide_eq_true (hb.mp rfl)).symm
      | false => exact (decide_eq_false fun z => Bool.noConfusion (hb.mpr z)).symm
    rw [e]; exact .bl _)⟩⟩
variable {K : PySem.W.Frag} {i j : Int}
theorem rd_I0 {g : Int → Int → Int} : RD K (rI0 fun i j => .int (g i j)) (.int i) (.int j) (.int (g i j)) := fun I H v w Q s hv hw k => ⟨i, j, hv.int_inv, hw.int_inv, k I _ H (Grow.refl s) (.int _)⟩
theorem rd_I {C : Int → Int → Prop} {g : Int → Int → Int} (h : C i j) : RD K (rI C fun i j => .int (g i j)) (.int i) (.int j) (.int (g i j)) := fun I H v w Q s hv hw k => ⟨i, j, hv.int_inv, hw.int_inv, h, k I _ H (Grow.refl s) (.int _)⟩
theorem rp_I0 {g : Int → Int → Bool} (h : g i j = true ↔ p) : RP K (rI0 fun i j => .bl (g i j)) (.int i) (.int j) p := fun I H v w Q s hv hw k => ⟨i, j, hv.int_inv, hw.int_inv, k I H _ (Grow.refl s) h⟩
theorem je_add (ha : JE X Γ a (.int i)) (hb : JE X Γ b (.int j)) : JE X Γ (.BinOp a .Add b pos) (.int (i + j)) := je_bin op_add ha hb rd_I0
theorem je_sub (ha : JE X Γ a (.int i)) (hb : JE X Γ b (.int j)) : JE X Γ (.BinOp a .Sub b pos) (.int (i - j)) := je_bin op_sub ha hb rd_I0
/-- two factors of together at most 2 ^ 27 bits -/
theorem je_mul (ha : JE X Γ a (.int i)) (hb : JE X Γ b (.int j)) (h : CMulX i j) : JE X Γ (.BinOp a .Mult b pos) (.int (i * j)) := je_bin op_mulX ha hb (rd_I h)
theorem je_div (ha : JE X Γ a (.int i)) (hb : JE X Γ b (.int j)) (h : CDivW i j) : JE X Γ (.BinOp a .FloorDiv b pos) (.int (i / j)) := je_bin op_fdivW ha hb (rd_I h)
theorem je_mod (ha : JE X Γ a (.int i)) (hb : JE X Γ b (.int j)) (h : 0 < j) : JE X Γ (.BinOp a .Mod b pos) (.int (i % j)) := je_bin op_mod ha hb (rd_I (C := fun _ j => 0 < j) h)
theorem je_fmod (ha : JE X Γ a (.int i)) (hb : JE X Γ b (.int j)) (h : j ≠ 0) : JE X Γ (.BinOp a .Mod b pos) (.int (i.fmod j)) := je_bin op_modN ha hb (rd_I (C := fun _ j => j ≠ 0) h)
theorem je_pow (ha : JE X Γ a (.int i)) (hb : JE X Γ b (.int j)) (h : CPow i j) : JE X Γ (.BinOp a .Pow b pos) (.int (i ^ j.toNat)) := je_bin op_pow ha hb (rd_I h)
theorem je_neg (ha : JE X Γ a (.int i)) : JE X Γ (.UnaryOp .USub a pos) (.int (-i)) :=
  ⟨PEweak (pe_un un_neg ha.pe) fun σ H Q ⟨I0, H0, I, o, k⟩ => ⟨I0, H0, I, o, fun I' v H' g h => ⟨i, h.int_inv, k I' _ H' g (.int _)⟩⟩⟩
theorem jt_lt (ha : JE X Γ a (.int i)) (hb : JE X Γ b (.int j)) : JT X Γ (.Compare a [.Lt] [b] pos) (i < j) := jt_cmp op_lt ha hb (nomark _) (rp_I0 decide_eq_true_iff)
theorem jt_le (ha : JE X Γ a (.int i)) (hb : JE X Γ b (.int j)) : JT X Γ (.Compare a [.LtE] [b] pos) (i ≤ j) := jt_cmp op_le ha hb (nomark _) (rp_I0 decide_eq_true_iff)
theorem jt_gt (ha : JE X Γ a (.int i)) (hb : JE X Γ b (.int j)) : JT X Γ (.Compare a [.Gt] [b] pos) (i > j) := jt_cmp op_gt ha hb (nomark _) (rp_I0 decide_eq_true_iff)
theorem jt_ge (ha : JE X Γ a (.int i)) (hb : JE X Γ b (.int j)) : JT X Γ (.Compare a [.GtE] [b] pos) (i ≥ j) := jt_cmp op_ge ha hb (nomark _) (rp_I0 decide_eq_true_iff)
/-- scalars compared -/
def D.sc : D → Option V
  | .non => some .non
  | .bl b => some (.bl b)
  | .int i => some (.int i)
  | .str x => some (.str x)
  | _ => none
theorem Is.sc {I : Hp} {v w : V} (h : Is K I v d) (e : d.sc = some w) : v = w := by
  cases h <;> first | (exact Option.some.inj e) | cases e
theorem rp_eq {v w : V} (h1 : dx.sc = some v) (h2 : dy.sc = some w) (h3 : scal v w = true) (h : v = w ↔ p) : RP K rEq dx dy p := fun I H v' w' Q s hv hw k => by
  rw [hv.sc h1, hw.sc h2]
  exact ⟨h3, k I H _ (Grow.refl s) (decide_eq_true_iff.trans h)⟩
theorem rp_ne {v w : V} (h1 : dx.sc = some v) (h2 : dy.sc = some w) (h3 : scal v w = true) (h : ¬ v = w ↔ p) : RP K rNe dx dy p := fun I H v' w' Q s hv hw k => by
  rw [hv.sc h1, hw.sc h2]
  refine ⟨h3, k I H _ (Grow.refl s) ?_⟩
  rw [Bool.not_eq_true', decide_eq_false_iff_not]
  exact h
theorem int_eq : (V.int i = V.int j) ↔ i = j := ⟨fun e => V.int.inj e, fun e => e ▸ rfl⟩
theorem bl_eq {i j : Bool} : (V.bl i = V.bl j) ↔ i = j := ⟨fun e => V.bl.inj e, fun e => e ▸ rfl⟩
theorem str_eq {i j : Str} : (V.str i = V.str j) ↔ i = j := ⟨fun e => V.str.inj e, fun e => e ▸ rfl⟩
theorem jt_eqI (ha : JE X Γ a (.int i)) (hb : JE X Γ b (.int j)) : JT X Γ (.Compare a [.Eq] [b] pos) (i = j) := jt_cmp op_eq ha hb (nomark _) (rp_eq rfl rfl rfl int_eq)
theorem jt_neI (ha : JE X Γ a (.int i)) (hb : JE X Γ b (.int j)) : JT X Γ (.Compare a [.NotEq] [b] pos) (i ≠ j) := jt_cmp op_ne ha hb (nomark _) (rp_ne rfl rfl rfl (not_congr int_eq))
theorem jt_eqS {i j : Str} (ha : JE X Γ a (.str i)) (hb : JE X Γ b (.str j)) : JT X Γ (.Compare a [.Eq] [b] pos) (i = j) := jt_cmp op_eq ha hb (nomark _) (rp_eq rfl rfl rfl str_eq)
theorem jt_neS {i j : Str} (ha : JE X Γ a (.str i)) (hb : JE X Γ b (.str j)) : JT X Γ (.Compare a [.NotEq] [b] pos) (i ≠ j) := jt_cmp op_ne ha hb (nomark _) (rp_ne rfl rfl rfl (not_congr str_eq))
/-- x is None -/
theorem is_non {I : Hp} {v : V} (h : Is K I v d) : (decide (v = .non) = true) ↔ d = .non := by
  rw [decide_eq_true_iff]
  constructor
  · intro e; subst e; cases h; rfl
  · intro e; subst e; cases h; rfl
theorem jt_isN {j : Nat} {p2 : Pos} (ha : JE X Γ a d) (h : d = .non ↔ p) : JT X Γ (.Compare a [.Is] [.Constant .none j p2] pos) p :=
  jt_cmp op_isN ha je_non (nomark _) fun I H v w Q s hv hw k => ⟨hw.non_inv, k I H _ (Grow.refl s) ((is_non hv).trans h)⟩
theorem jt_notN {j : Nat} {p2 : Pos} (ha : JE X Γ a d) (h : ¬ d = .non ↔ p) : JT X Γ (.Compare a [.IsNot] [.Constant .none j p2] pos) p :=
  jt_cmp op_notN ha je_non (nomark _) fun I H v w Q s hv hw k => ⟨hw.non_inv, k I H _ (Grow.refl s) (by
    rw [Bool.not_eq_true', ← Bool.not_eq_true]
    exact (not_congr (is_non hv)).trans h)⟩
/-- a bool as a test -/
theorem jt_val {b : Bool} (h : JE X Γ e (.bl b)) (he : ∀ whole, isTrue e X.env whole = (do let v ← whole; standAt e.pos; holding [v] (truthy v)) := by intro _; rfl) : JT X Γ e (b = true) :=
  ⟨PTweak (pt_val h.pe he) fun σ H Q ⟨I0, H0, I, o, k⟩ => ⟨I0, H0, I, o, fun I' v H' g h => ⟨b, h.bl_inv, k I' H' b g Iff.rfl⟩⟩⟩
theorem jt_int (h : JE X Γ e (.int i)) (he : ∀ whole, isTrue e X.env whole = (do let v ← whole; standAt e.pos; holding [v] (truthy v)) := by intro _; rfl) : JT X Γ e (i ≠ 0) :=
  ⟨PTweak (pt_truth h.pe he) fun σ H Q ⟨I0, H0, I, o, k⟩ => ⟨I0, H0, I, o, fun I' v H' g h => ⟨i != 0, by rw [h.int_inv] <;> rfl, k I' H' _ g bne_iff_ne⟩⟩⟩

/-! ### and, or, not -/
theorem jw_and1 (ha : JT X Γ a p) : JW X Γ (.BoolOp .And [a] pos) p := ⟨pw_and1 ha.pt⟩
theorem jw_or1 (ha : JT X Γ a p) : JW X Γ (.BoolOp .Or [a] pos) p := ⟨pw_or1 ha.pt⟩
theorem jw_and (ha : JT X Γ a p) (hb : p → JW X Γ (.BoolOp .And (b :: es) pos) q) : JW X Γ (.BoolOp .And (a :: b :: es) pos) (p ∧ q) := by
  by_cases hp : p
  · exact ⟨PWweak (pw_and ha.pt (hb hp).pw) fun σ H Q ⟨I0, H0, I, o, k⟩ => ⟨I0, H0, I, o, fun I' H' c g e => by
      dsimp only
      rw [if_pos (e.mpr hp)]
      exact ⟨I0, H0, I', o.step g, fun I2 H2 c2 g2 e2 => k I2 H2 c2 (g.trans g2) (e2.trans ⟨fun z => ⟨hp, z⟩, fun z => z.2⟩)⟩⟩⟩
  · exact ⟨PWweak (pw_and (tB' := fun _ _ _ => False) ha.pt ⟨fun _ _ _ _ _ _ _ z => z.elim⟩) fun σ H Q ⟨I0, H0, I, o, k⟩ => ⟨I0, H0, I, o, fun I' H' c g e => by
      dsimp only
      rw [if_neg fun z => hp (e.mp z)]
      exact k I' H' false g ⟨fun z => Bool.noConfusion z, fun z => absurd z.1 hp⟩⟩⟩
theorem jw_or (ha : JT X Γ a p) (hb : ¬ p → JW X Γ (.BoolOp .Or (b :: es) pos) q) : JW X Γ (.BoolOp .Or (a :: b :: es) pos) (p ∨ q) := by
  by_cases hp : p
  · exact ⟨PWweak (pw_or (tB' := fun _ _ _ => False) ha.pt ⟨fun _ _ _ _ _ _ _ z => z.elim⟩) fun σ H Q ⟨I0, H0, I, o, k⟩ => ⟨I0, H0, I, o, fun I' H' c g e => by
      dsimp only
      rw [if_pos (e.mpr hp)]
      exact k I' H' true g ⟨fun _ => .inl hp, fun _ => rfl⟩⟩⟩
  · exact ⟨PWweak (pw_or ha.pt (hb hp).pw) fun σ H Q ⟨I0, H0, I, o, k⟩ => ⟨I0, H0, I, o, fun I' H' c g e => by
      dsimp only
      rw [if_neg fun z => hp (e.mp z)]
      exact ⟨I0, H0, I', o.step g, fun I2 H2 c2 g2 e2 => k I2 H2 c2 (g.trans g2) (e2.trans ⟨fun z => .inr z, fun z => z.resolve_left hp⟩)⟩⟩⟩
theorem JW.t (h : JW X Γ e p) : JT X Γ e p := ⟨h.pw.pt⟩
theorem jt_not (ha : JT X Γ a p) : JT X Γ (.UnaryOp .Not a pos) (¬ p) :=
  ⟨PTweak (pt_not ha.pt) fun σ H Q ⟨I0, H0, I, o, k⟩ => ⟨I0, H0, I, o, fun I' H' c g e => k I' H' _ g (by rw [Bool.not_eq_true', ← Bool.not_eq_true]; exact not_congr e)⟩⟩
/-- as values: bools -/
theorem je_one {op : BoolOp} (h : JE X Γ a d) : JE X Γ (.BoolOp op [a] pos) d := ⟨pe_one h.pe⟩
theorem je_and {b1 b2 : Bool} (ha : JE X Γ a (.bl b1)) (hb : b1 = true → JE X Γ (.BoolOp .And (b :: es) pos) (.bl b2)) : JE X Γ (.BoolOp .And (a :: b :: es) pos) (.bl (b1 && b2)) := by
  cases b1 with
  | true => exact ⟨PEweak (pe_and ha.pe (hb rfl).pe) fun σ H Q ⟨I0, H0, I, o, k⟩ => ⟨I0, H0, I, o, fun I' v H' g h => ⟨true, h.bl_inv, by
      rw [if_pos rfl]
      exact ⟨I0, H0, I', o.step g, fun I2 v2 H2 g2 h2 => k I2 v2 H2 (g.trans g2) h2⟩⟩⟩⟩
  | false => exact ⟨PEweak (pe_and (tb := fun _ _ _ => False) ha.pe ⟨fun _ _ _ _ _ _ z => z.elim⟩) fun σ H Q ⟨I0, H0, I, o, k⟩ => ⟨I0, H0, I, o, fun I' v H' g h => ⟨false, h.bl_inv, by
      rw [if_neg Bool.false_ne_true]
      exact k I' _ H' g (.bl _)⟩⟩⟩
theorem je_or {b1 b2 : Bool} (ha : JE X Γ a (.bl b1)) (hb : b1 = false → JE X Γ (.BoolOp .Or (b :: es) pos) (.bl b2)) : JE X Γ (.BoolOp .Or (a :: b :: es) pos) (.bl (b1 || b2)) := by
  cases b1 with
  | false => exact ⟨PEweak (pe_or ha.pe (hb rfl).pe) fun σ H Q ⟨I0, H0, I, o, k⟩ => ⟨I0, H0, I, o, fun I' v H' g h => ⟨false, h.bl_inv, by
      rw [if_neg Bool.false_ne_true]
      exact ⟨I0, H0, I', o.step g, fun I2 v2 H2 g2 h2 => k I2 v2 H2 (g.trans g2) h2⟩⟩⟩⟩
  | true => exact ⟨PEweak (pe_or (tb := fun _ _ _ => False) ha.pe ⟨fun _ _ _ _ _ _ z => z.elim⟩) fun σ H Q ⟨I0, H0, I, o, k⟩ => ⟨I0, H0, I, o, fun I' v H' g h => ⟨true, h.bl_inv, by
      rw [if_pos rfl]
      exact k I' _ H' g (.bl _)⟩⟩⟩
theorem je_not {b1 : Bool} (ha : JE X Γ a (.bl b1)) : JE X Γ (.UnaryOp .Not a pos) (.bl (!b1)) :=
  ⟨PEweak (pe_not ha.pe) fun σ H Q ⟨I0, H0, I, o, k⟩ => ⟨I0, H0, I, o, fun I' v H' g h => ⟨b1, h.bl_inv, k I' _ H' g (.bl _)⟩⟩⟩
/-- a if t else b -/
theorem je_if {α : Type} {enc : α → D} [Decidable p] {x y : α} (hc : JT X Γ c p) (ha : p → JE X Γ a (enc x)) (hb : ¬ p → JE X Γ b (enc y)) : JE X Γ (.IfExp c a b pos) (enc (if p then x else y)) := by
  by_cases hp : p
  · rw [if_pos hp]
    exact ⟨PEweak (pe_ifExp (tb := fun _ _ _ => False) hc.pt (ha hp).pe ⟨fun _ _ _ _ _ _ z => z.elim⟩) fun σ H Q ⟨I0, H0, I, o, k⟩ => ⟨I0, H0, I, o, fun I' H' c g e => by
      dsimp only
      rw [if_pos (e.mpr hp)]
      exact ⟨I0, H0, I', o.step g, fun I2 v2 H2 g2 h2 => k I2 v2 H2 (g.trans g2) h2⟩⟩⟩
  · rw [if_neg hp]
    exact ⟨PEweak (pe_ifExp (ta := fun _ _ _ => False) hc.pt ⟨fun _ _ _ _ _ _ z => z.elim⟩ (hb hp).pe) fun σ H Q ⟨I0, H0, I, o, k⟩ => ⟨I0, H0, I, o, fun I' H' c g e => by
      dsimp only
      rw [if_neg fun z => hp (e.mp z)]
      exact ⟨I0, H0, I', o.step g, fun I2 v2 H2 g2 h2 => k I2 v2 H2 (g.trans g2) h2⟩⟩⟩

/-! ### arguments, tuples, lists -/
theorem ja_nil : JA X Γ [] [] := ⟨PAweak pa_nil fun σ H Q ⟨I0, H0, I, o, k⟩ => k I [] H (Grow.refl o.same) .nil⟩
theorem ja_cons (ha : JE X Γ e d) (hr : JA X Γ es ds) (hs : starEach (e :: es) X.env = (false, eval e X.env) :: starEach es X.env := by rfl) : JA X Γ (e :: es) (d :: ds) :=
  ⟨PAweak (pa_cons ha.pe hr.pa hs) fun σ H Q ⟨I0, H0, I, o, k⟩ => ⟨I0, H0, I, o, fun I' v H' g h => ⟨I0, H0, I', o.step g, fun I2 vs H2 g2 h2 => k I2 _ H2 (g.trans g2) (.cons (h.mono g2.i0) h2)⟩⟩⟩
theorem grow_new {I H : Hp} {p : Addr} {u : HO} (s : Same I H) (hp : H p = none) : Grow I H (upd I p u) (upd H p u) := by
  have ip : I p = none := s.free hp
  refine ⟨fun b w e => ?_, fun b w e => ?_, fun b w e => ?_, fun b w e => ?_⟩
  · by_cases h : b = p
    · subst h; rw [upd_same] at e ⊢; exact e
    · rw [upd_ne h] at e ⊢; exact s b w e
  · rw [upd_ne (ne_of_none e hp)]; exact e
  · rw [upd_ne (ne_of_none e ip)]; exact e
  · by_cases h : b = p
    · subst h; exact .inr hp
    · rw [upd_ne h] at e; exact .inl e
theorem same_upd {I : Hp} {a : Addr} {u : HO} (i : I a = none) : Same I (upd I a u) := fun b w e => by rw [upd_ne (ne_of_none e i)]; exact e
theorem je_tup {x1 : Nat} (h : JA X Γ es ds) (hl : ds.length ≤ 1000 := by exact Nat.le_of_ble_eq_true rfl) : JE X Γ (.Tuple es x1 pos) (.tup ds) :=
  ⟨PEweak (pe_tup h.pa) fun σ H Q ⟨I0, H0, I, o, k⟩ => ⟨I0, H0, I, o, fun I' vs H' g h => ⟨by rw [h.length]; exact Nat.le_trans hl (by decide), fun p hp =>
    k (upd I' p (.tup vs)) (.ref p) (upd H' p (.tup vs)) (g.trans (grow_new g.same hp)) (.tup (SqT.of upd_same) (h.mono (same_upd (g.same.free hp))))⟩⟩⟩
theorem grow_newO {I H : Hp} {p : Addr} {u : HO} (s : Same I H) (hp : H p = none) : Grow I H I (upd H p u) :=
  ⟨fun b w e => by rw [upd_ne (ne_of_none (s b w e) hp)]; exact s b w e, fun b w e => by rw [upd_ne (ne_of_none e hp)]; exact e, Same.refl _, fun _ _ e => .inl e⟩
theorem grow_freeze {I H I' H' : Hp} {a : Addr} {u : HO} (g : Grow I H I' H') (n : H a = none) (i : I' a = none) (h : H' a = some u) : Grow I H (upd I' a u) H' := by
  refine ⟨fun b w e => ?_, g.h0, fun b w e => ?_, fun b w e => ?_⟩
  · by_cases z : b = a
    · subst z; rw [upd_same] at e; cases e; exact h
    · rw [upd_ne z] at e; exact g.same b w e
  · have := g.i0 b w e
    rw [upd_ne (ne_of_none this i)]; exact this
  · by_cases z : b = a
    · subst z; exact .inr n
    · rw [upd_ne z] at e; exact g.nc b w e
theorem jl_lst (h : JA X Γ es ds) (hl : ds.length ≤ 1000 := by exact Nat.le_of_ble_eq_true rfl) : JL X Γ (.List es pos) ds :=
  ⟨PEweak (pe_lst h.pa) fun σ H Q ⟨I0, H0, I, o, k⟩ => ⟨I0, H0, I, o, fun I' vs H' g h => ⟨by rw [h.length]; exact Nat.le_trans hl (by decide), fun p hp => by
    exact k I' p vs _ (g.trans (grow_newO g.same hp)) (g.h0.free hp) (g.same.free hp) upd_same h⟩⟩⟩
/-- a new list, as data -/
theorem JL.imm (h : JL X Γ e ds) : JE X Γ e (.lst ds) :=
  ⟨PEweak h.pe fun σ H Q ⟨I0, H0, I, o, k⟩ => ⟨I0, H0, I, o, fun I' a vs H' g n i h l => k _ _ _ (grow_freeze g n i h) (.lst (Rd.of upd_same) (l.mono (same_upd i)))⟩⟩
theorem JL.eq {ds' : List D} (h : JL X Γ e ds) (q : ds = ds') : JL X Γ e ds' := q ▸ h

/-! ### items -/
theorem at_is {K : PySem.W.Frag} {I : Hp} {vs : List V} {ds : List D} {i : Int} {d : D} (h : IsL K I vs ds) (e : atI ds i = some d) : ∃ v, atI vs i = some v ∧ Is K I v d := by
  unfold atI at e ⊢
  rw [h.length]
  cases z : ixN ds.length i with
  | none => rw [z] at e; cases e
  | some j =>
    rw [z] at e
    exact h.get (show ds[j]? = some d from e)
theorem je_ixT (ha : JE X Γ a (.tup ds)) (hb : JE X Γ b (.int i)) (h : atI ds i = some d) (hs : PlainIx b := by intro _ _; rfl) : JE X Γ (.Subscript a b pos) d :=
  ⟨PEweak (pe_ix ix_tup ha.pe hb.pe hs) fun σ H Q ⟨I0, H0, I, o, k⟩ => two (R := fun _ _ _ _ => True) (fun _ _ _ z => z) (fun _ _ _ z => z) ⟨I0, H0, I, o, fun I' v w H' g hv hw => by
    cases hv with
    | tup h1 h2 =>
      obtain ⟨z, e1, e2⟩ := at_is h2 h
      exact ⟨_, _, i, z, rfl, hw.int_inv, sqt_same g.same h1, e1, k I' z H' g e2⟩⟩⟩
theorem je_ixL (ha : JE X Γ a (.lst ds)) (hb : JE X Γ b (.int i)) (h : atI ds i = some d) (hs : PlainIx b := by intro _ _; rfl) : JE X Γ (.Subscript a b pos) d :=
  ⟨PEweak (pe_ix ix_list ha.pe hb.pe hs) fun σ H Q ⟨I0, H0, I, o, k⟩ => two (R := fun _ _ _ _ => True) (fun _ _ _ z => z) (fun _ _ _ z => z) ⟨I0, H0, I, o, fun I' v w H' g hv hw => by
    cases hv with
    | lst h1 h2 =>
      obtain ⟨z, e1, e2⟩ := at_is h2 h
      exact ⟨_, _, i, z, rfl, hw.int_inv, .inl (rd_same g.same h1), e1, k I' z H' g e2⟩⟩⟩
theorem je_ixS (ha : JE X Γ a (.scr ds)) (hb : JE X Γ b (.int i)) (h : atI ds i = some d) (hs : PlainIx b := by intro _ _; rfl) : JE X Γ (.Subscript a b pos) d :=
  ⟨PEweak (pe_ix ix_list ha.pe hb.pe hs) fun σ H Q ⟨I0, H0, I, o, k⟩ => two (R := fun _ _ _ _ => True) (fun _ _ _ z => z) (fun _ _ _ z => z) ⟨I0, H0, I, o, fun I' v w H' g hv hw => by
    cases hv with
    | scr h1 h2 =>
      obtain ⟨z, e1, e2⟩ := at_is h2 h
      exact ⟨_, _, i, z, rfl, hw.int_inv, g.same.seq h1, e1, k I' z H' g e2⟩⟩⟩

/-! ### calls of built-ins -/
def RC (K : PySem.W.Frag) (r : List V → Hp → VK → Prop) (ds : List D) (d : D) : Prop := ∀ (I H : Hp) (vs : List V) (Q : VK), Same I H → IsL K I vs ds → (∀ I' z H', Grow I H I' H' → Is K I' z d → Q z H') → r vs H Q
theorem je_callB {id : String} {x : Str} {r : List V → Hp → VK → Prop} {p : Pos} (hc : CallR X (.builtin id) r) (hm : X.mg x = none) (ha : JA X Γ (e :: es) ds) (hr : RC X.K r ds d) (hg : Gl X x := by rfl) (hv : bootBuiltins x = some (.builtin id) := by decide +kernel) (hn : x ≠ "__name__" := by decide) (hdb : (x == ("__debug__" : Str)) = false := by decide)
    (he : starEach (e :: es) X.env = (false, eval e X.env) :: starEach es X.env := by rfl) (hpl : (backTo pos (starEach es X.env)).any (·.1) = false := by rfl) : JE X Γ (.Call (.Name x p) (e :: es) [] pos) d :=
  ⟨PEweak (pe_callB hc hg hm hv ha.pa hn hdb he hpl) fun σ H Q ⟨I0, H0, I, o, k⟩ => ⟨I0, H0, I, o, fun I' vs H' g h => hr I' H' vs Q g.same h fun I2 z H2 g2 hz => k I2 z H2 (g.trans g2) hz⟩⟩
theorem je_callT {id : String} {x : Str} {r : List V → Hp → VK → Prop} {p : Pos} (hc : CallR X (.type id) r) (hm : X.mg x = none) (ha : JA X Γ (e :: es) ds) (hr : RC X.K r ds d) (hg : Gl X x := by rfl) (hv : bootBuiltins x = some (.type id) := by decide +kernel) (hn : x ≠ "__name__" := by decide) (hdb : (x == ("__debug__" : Str)) = false := by decide)
    (he : starEach (e :: es) X.env = (false, eval e X.env) :: starEach es X.env := by rfl) (hpl : (backTo pos (starEach es X.env)).any (·.1) = false := by rfl) : JE X Γ (.Call (.Name x p) (e :: es) [] pos) d :=
  ⟨PEweak (pe_callTy hc hg hm hv ha.pa hn hdb he hpl) fun σ H Q ⟨I0, H0, I, o, k⟩ => ⟨I0, H0, I, o, fun I' vs H' g h => hr I' H' vs Q g.same h fun I2 z H2 g2 hz => k I2 z H2 (g.trans g2) hz⟩⟩
theorem isl1 {I : Hp} {vs : List V} (h : IsL K I vs [d]) : ∃ v, vs = [v] ∧ Is K I v d := by
  cases h with
  | cons h1 h2 => cases h2; exact ⟨_, rfl, h1⟩
theorem isl2 {I : Hp} {vs : List V} (h : IsL K I vs [dx, dy]) : ∃ v w, vs = [v, w] ∧ Is K I v dx ∧ Is K I w dy := by
  cases h with
  | cons h1 h2 =>
    obtain ⟨w, rfl, h3⟩ := isl1 h2
    exact ⟨_, w, rfl, h1, h3⟩
def iabs (i : Int) : Int := if i < 0 then -i else i
theorem je_abs {p : Pos} (ha : JA X Γ (e :: es) [.int i]) (hm : X.mg "abs" = none) (hg : Gl X "abs" := by rfl)
    (he : starEach (e :: es) X.env = (false, eval e X.env) :: starEach es X.env := by rfl) (hpl : (backTo pos (starEach es X.env)).any (·.1) = false := by rfl) : JE X Γ (.Call (.Name "abs" p) (e :: es) [] pos) (.int (iabs i)) :=
  je_callB (he := he) (hpl := hpl) call_abs hm ha (fun I H vs Q s h k => by
    obtain ⟨v, rfl, hv⟩ := isl1 h
    exact ⟨i, by rw [hv.int_inv], k I _ H (Grow.refl s) (.int _)⟩) hg
def imax (i j : Int) : Int := if j > i then j else i
def imin (i j : Int) : Int := if j < i then j else i
end
end Bw
/-! B3: outcomes, statements, defs, loops. -/
namespace Bw
open PySem PySem.Spec PyProof.Rows L2

inductive O where
  | nx (Γ : List Sl) | rt (d : D) | bk (Γ : List Sl) | ct (Γ : List Sl) | ex (C : Addr) (fs : List Str) (ds : List D)
def Pay (K : PySem.W.Frag) (I H : Hp) (d : Option Addr) (fs : List Str) (ds : List D) : Prop :=
  (fs = [] ∧ d = none) ∨ fs ≠ [] ∧ ∃ dd vs, d = some dd ∧ H dd = some (.xd (fs.zip vs)) ∧ fs.length = vs.length ∧ IsL K I vs ds
def Fin (K : PySem.W.Frag) (W : WX) (I0 H0 : Hp) (D : Ends) : O → Prop
  | .nx Γ => ∀ I σ H, Ok K I0 H0 Γ I σ H → D.nx σ H
  | .rt d => ∀ I v H, Grow I0 H0 I H → Is K I v d → D.rt v H
  | .bk Γ => ∀ I σ H, Ok K I0 H0 Γ I σ H → D.bk σ H
  | .ct Γ => ∀ I σ H, Ok K I0 H0 Γ I σ H → D.ct σ H
  | .ex C fs ds => ∀ I σ H d, Grow I0 H0 I H → Pay K I H d fs ds → W (.ref C) d σ H
/-- D' is D with what comes next told by u -/
structure Bel (u : TS) (D D' : Ends) : Prop where
  nx : ∀ σ H, u D σ H → D'.nx σ H
  rt : ∀ v H, D.rt v H → D'.rt v H
  bk : ∀ σ H, D.bk σ H → D'.bk σ H
  ct : ∀ σ H, D.ct σ H → D'.ct σ H
def tJ (K : PySem.W.Frag) (W : WX) (u : TS) (Γ : List Sl) (o : O) : TS := fun D' σ H => ∃ D I0 H0 I, Bel u D D' ∧ Ok K I0 H0 Γ I σ H ∧ Fin K W I0 H0 D o
structure JS (X : Cx) (W : WX) (sts : List Stmt) (u : TS) (Γ : List Sl) (o : O) : Prop where
  ps : PSs X sts (tJ X.K W u Γ o)
/-- what comes behind a block: rest, then u -/
def after (X : Cx) (W : WX) (rest : List Stmt) (u : TS) : TS := fun D σ H => ∃ Γ o I0 H0 I, JS X W rest u Γ o ∧ Ok X.K I0 H0 Γ I σ H ∧ Fin X.K W I0 H0 D o
def uOff : TS := fun D _ H => D.rt .non H
section
variable {X : Cx} {W : WX} {Γ Γ' : List Sl} {e tg c : Expr} {st : Stmt} {sts rest A B : List Stmt} {u : TS} {o : O} {d : D} {ds : List D} {pos : Pos} {p : Prop}
theorem JS.eq {o' : O} (h : JS X W sts u Γ o) (q : o = o') : JS X W sts u Γ o' := q ▸ h
theorem JS.slots (h : JS X W sts u Γ' o) (q : Γ = Γ') : JS X W sts u Γ o := q ▸ h
/-- slots may be forgotten -/
theorem JS.weak (h : JS X W sts u Γ' o) (hl : Γ.length = Γ'.length) (q : ∀ (i : Nat) (s : Sl), Γ'[i]? = some s → s = .un ∨ Γ[i]? = some s) : JS X W sts u Γ o :=
  ⟨PSsweak h.ps fun D' σ H ⟨D, I0, H0, I, b, k, f⟩ => ⟨D, I0, H0, I, b, k.weak hl q, f⟩⟩
theorem pss_rest : PSs X rest (fun D' σ H => ∃ D, Bel u D D' ∧ after X W rest u D σ H) :=
  ⟨fun pins s σ H D' I ⟨D, b, Γ, o, I0, H0, R, h, k, f⟩ => h.ps.run pins s σ H D' I ⟨D, I0, H0, R, b, k, f⟩⟩
/-- one statement that goes on -/
theorem js_cons {t : TS} (h1 : PS X st t) (h2 : JS X W rest u Γ' o) (hh : ∀ (D' : Ends) (σ : L2.St) (H I0 H0 I : Hp), Ok X.K I0 H0 Γ I σ H → (∀ I' σ' H', Ok X.K I0 H0 Γ' I' σ' H' → D'.nx σ' H') → t D' σ H) : JS X W (st :: rest) u Γ o :=
  ⟨PSsweak (pss_cons h1 h2.ps) fun D' σ H ⟨D, I0, H0, I, b, k, f⟩ => hh _ σ H I0 H0 I k fun I' σ' H' k' => ⟨D, I0, H0, I', ⟨b.nx, b.rt, b.bk, b.ct⟩, k', f⟩⟩
theorem js_end : JS X W [] tNext Γ (.nx Γ) := ⟨PSsweak pss_nil fun D' σ H ⟨D, I0, H0, I, b, k, f⟩ => b.nx σ H (f I σ H k)⟩
theorem js_off : JS X W [] uOff Γ (.rt .non) := ⟨PSsweak pss_nil fun D' σ H ⟨D, I0, H0, I, b, k, f⟩ => b.nx σ H (f I _ H k.g .non)⟩
theorem js_fall (h : JS X W rest u Γ o) : JS X W [] (after X W rest u) Γ o := ⟨PSsweak pss_nil fun D' σ H ⟨D, I0, H0, I, b, k, f⟩ => b.nx σ H ⟨Γ, o, I0, H0, I, h, k, f⟩⟩
/-- .. as a block's end -/
theorem js_next (h : ∀ (D : Ends) (I0 H0 I : Hp) (σ : L2.St) (H : Hp), Ok X.K I0 H0 Γ I σ H → Fin X.K W I0 H0 D o → u D σ H) : JS X W [] u Γ o := ⟨PSsweak pss_nil fun D' σ H ⟨D, I0, H0, I, b, k, f⟩ => b.nx σ H (h D I0 H0 I σ H k f)⟩

/-! ### targets -/
structure JG (X : Cx) (Γ : List Sl) (tg : Expr) (d : D) (Γ' : List Sl) : Prop where
  pg : PG X tg (fun v σ H Q => ∃ I0 H0 I, Ok X.K I0 H0 Γ I σ H ∧ Is X.K I v d ∧ ∀ σ', Ok X.K I0 H0 Γ' I σ' H → Q σ' H)
structure JGs (X : Cx) (Γ : List Sl) (tgs : List Expr) (ds : List D) (Γ' : List Sl) : Prop where
  pgs : PGs X tgs (fun vs σ H Q => ∃ I0 H0 I, Ok X.K I0 H0 Γ I σ H ∧ IsL X.K I vs ds ∧ ∀ σ', Ok X.K I0 H0 Γ' I σ' H → Q σ' H)
theorem PGweak {t t' : TG} (h : PG X tg t) (w : ∀ v σ H Q, t' v σ H Q → t v σ H Q) : PG X tg t' := ⟨fun pins s σ H v u Q I r q => h.run pins s σ H v u Q I r (w _ _ _ _ q)⟩
theorem PGsweak {tgs : List Expr} {t t' : TGs} (h : PGs X tgs t) (w : ∀ v σ H Q, t' v σ H Q → t v σ H Q) : PGs X tgs t' := ⟨fun pins s σ H v u Q I r q => h.run pins s σ H v u Q I r (w _ _ _ _ q)⟩
theorem jg_name (i : Nat) {x : Str} (hN : X.N.Nodup) (hi : X.N[i]? = some x := by rfl) (hx : Loc X.env.scope x := by first | exact Or.inl rfl | exact Or.inr rfl) (hf : X.fn x = true ∨ X.env.scope.names.lookup x = some .local := by first | exact .inl rfl | exact .inr rfl) : JG X Γ (.Name x pos) d (Γ.set i (.im d)) :=
  ⟨PGweak (pg_name hN hi hx hf) fun v σ H Q ⟨I0, H0, I, k, h, q⟩ => q _ (k.setIm h)⟩
theorem jgs_nil : JGs X Γ [] [] Γ := ⟨PGsweak pgs_nil fun v σ H Q ⟨I0, H0, I, k, h, q⟩ => by cases h; exact ⟨rfl, q σ k⟩⟩
theorem jgs_cons {es : List Expr} {Γ1 : List Sl} (h1 : JG X Γ e d Γ1) (h2 : JGs X Γ1 es ds Γ')
    (hs : (assignEach (e :: es) X.env).map (·.2) = assign e X.env :: (assignEach es X.env).map (·.2) := by rfl) : JGs X Γ (e :: es) (d :: ds) Γ' :=
  ⟨PGsweak (pgs_cons h1.pg h2.pgs hs) fun v σ H Q ⟨I0, H0, I, k, h, q⟩ => by
    cases h with
    | cons a b => exact ⟨_, _, rfl, I0, H0, I, k, a, fun σ' k' => ⟨I0, H0, I, k', b, q⟩⟩⟩
theorem jg_tup {es : List Expr} {n : Nat} (h : JGs X Γ es ds Γ') (hl : ds.length = n := by rfl) (hc : X.calm = true := by rfl)
    (hn : (assignEach es X.env).length = n := by rfl) (hst : (assignEach es X.env).findIdx? (·.1) = none := by rfl) {k : Nat} : JG X Γ (.Tuple es k pos) (.tup ds) Γ' :=
  ⟨PGweak (pg_tup hc h.pgs hn hst) fun v σ H Q ⟨I0, H0, I, k, h, q⟩ => by
    cases h with
    | tup a b => exact ⟨_, _, rfl, sqt_same k.same a, b.length.trans hl, I0, H0, I, k, b, q⟩⟩
/-- target = e -/
theorem js_asg (he : JE X Γ e d) (hg : JG X Γ tg d Γ') (hr : JS X W rest u Γ' o) (hs : swapsWithSole [tg] e pos.line X.env = pure false := by rfl) (hw : swappedStores [tg] e X.env = pure none := by rfl)
    (h1 : (assignEach [tg] X.env).map (·.2) = [assign tg X.env] := by rfl) : JS X W (.Assign [tg] e pos :: rest) u Γ o :=
  js_cons (ps_asg he.pe hg.pg hs hw h1) hr fun D' σ H I0 H0 I k q => ⟨I0, H0, I, k, fun I' v H' g h => ⟨I0, H0, I', k.step g, h, fun σ' k' => q I' σ' H' k'⟩⟩
/-- x = e, x in slot i -/
theorem js_set (i : Nat) {x : Str} {p1 : Pos} (hN : X.N.Nodup) (he : JE X Γ e d) (hr : JS X W rest u (Γ.set i (.im d)) o) (hi : X.N[i]? = some x := by rfl) (hx : Loc X.env.scope x := by first | exact Or.inl rfl | exact Or.inr rfl) (hs : swapsWith e (some (.Name x p1)) pos.line X.env = pure false := by rfl)
    (hf : X.fn x = true ∨ X.env.scope.names.lookup x = some .local := by first | exact .inl rfl | exact .inr rfl) : JS X W (.Assign [.Name x p1] e pos :: rest) u Γ o :=
  js_cons (ps_set hN hi hx he.pe hs hf) hr fun D' σ H I0 H0 I k q => ⟨I0, H0, I, k, fun I' v H' g h => q I' _ H' ((k.step g).setIm h)⟩
/-- x = [..], an own list -/
theorem js_setL (i : Nat) {x : Str} {p1 : Pos} (hN : X.N.Nodup) (he : JL X Γ e ds) (hr : JS X W rest u (Γ.set i (.ml ds)) o) (hi : X.N[i]? = some x := by rfl) (hx : Loc X.env.scope x := by first | exact Or.inl rfl | exact Or.inr rfl) (hs : swapsWith e (some (.Name x p1)) pos.line X.env = pure false := by rfl)
    (hf : X.fn x = true ∨ X.env.scope.names.lookup x = some .local := by first | exact .inl rfl | exact .inr rfl) : JS X W (.Assign [.Name x p1] e pos :: rest) u Γ o :=
  js_cons (ps_set hN hi hx he.pe hs hf) hr fun D' σ H I0 H0 I k q => ⟨I0, H0, I, k, fun I' a vs H' g n i h l => q I' _ H' ((k.step g).setOwn ⟨i, k.g.h0.free n, fun j s e w z => by
    obtain ⟨b, e1, e2, _⟩ := k.ow j s e w
    rw [e1] at z
    cases z
    obtain ⟨y, hy⟩ := e2.some
    rw [n] at hy
    cases hy⟩ ⟨vs, h, l⟩ rfl)⟩
theorem js_drop (he : JE X Γ e d) (hr : JS X W rest u Γ o) (hs : swapsWith e none pos.line X.env = pure false := by rfl) : JS X W (.Expr e pos :: rest) u Γ o :=
  js_cons (ps_expr he.pe hs) hr fun D' σ H I0 H0 I k q => ⟨I0, H0, I, k, fun I' v H' g h => q I' _ H' (k.step g)⟩
theorem js_doc {x : Str} {j : Nat} {p2 : Pos} (hr : JS X W rest u Γ o) : JS X W (.Expr (.Constant (.str x) j p2) pos :: rest) u Γ o := js_cons ps_doc hr fun D' σ H I0 H0 I k q => q I _ H k
theorem js_pass (hr : JS X W rest u Γ o) : JS X W (.Pass pos :: rest) u Γ o := js_cons ps_pass hr fun D' σ H I0 H0 I k q => q I _ H k
/-- one statement that ends the block -/
theorem js_last {t : TS} (h1 : PS X st t) (hh : ∀ (D' D : Ends) (σ : L2.St) (H I0 H0 I : Hp), Ok X.K I0 H0 Γ I σ H → Fin X.K W I0 H0 D o → (∀ v H, D.rt v H → D'.rt v H) → (∀ σ H, D.bk σ H → D'.bk σ H) → (∀ σ H, D.ct σ H → D'.ct σ H) → t D' σ H) : JS X W (st :: rest) u Γ o :=
  ⟨PSsweak (pss_cons h1 (u := tNever) pss_never) fun D' σ H ⟨D, I0, H0, I, b, k, f⟩ => hh _ D σ H I0 H0 I k f b.rt b.bk b.ct⟩
theorem js_ret (he : JE X Γ e d) : JS X W (.Return (some e) pos :: rest) u Γ (.rt d) :=
  js_last (ps_ret he.pe) fun D' D σ H I0 H0 I k f r _ _ => ⟨I0, H0, I, k, fun I' v H' g h => r v H' (f I' v H' (k.g.trans g) h)⟩
theorem js_retN : JS X W (.Return none pos :: rest) u Γ (.rt .non) := js_last ps_retN fun D' D σ H I0 H0 I k f r _ _ => r _ H (f I _ H k.g .non)
theorem js_break : JS X W (.Break pos :: rest) u Γ (.bk Γ) := js_last ps_break fun D' D σ H I0 H0 I k f _ r _ => r σ H (f I σ H k)
theorem js_cont : JS X W (.Continue pos :: rest) u Γ (.ct Γ) := js_last ps_continue fun D' D σ H I0 H0 I k f _ _ r => r σ H (f I σ H k)
/-- return xs, xs an own list in slot i -/
theorem js_retO (i : Nat) {x : Str} {p1 : Pos} (hΓ : Γ[i]? = some (.ml ds)) (hN : X.N[i]? = some x := by rfl) (hv : Vis X.env.scope x := by first | exact Or.inl rfl | exact Or.inr (Or.inl rfl)) (hd : (x == ("__debug__" : Str)) = false := by decide)
    (hcd : (x == ("__classdict__" : Str)) = false := by decide) : JS X W (.Return (some (.Name x p1)) pos :: rest) u Γ (.rt (.lst ds)) :=
  js_last (ps_ret (pe_var hN hv hd hcd)) fun D' D σ H I0 H0 I k f r _ _ => by
    obtain ⟨a, e1, ⟨vs, e2, e3⟩, e4, e5⟩ := k.ow i _ hΓ rfl
    refine ⟨_, e1, r _ H (f (upd I a (.lst vs)) _ H ⟨fun b w e => ?_, k.g.h0, fun b w e => ?_, fun b w e => ?_⟩ (.lst (Rd.of upd_same) (e3.mono (same_upd e4))))⟩
    · by_cases z : b = a
      · subst z; rw [upd_same] at e; cases e; exact e2
      · rw [upd_ne z] at e; exact k.same b w e
    · have := k.g.i0 b w e
      rw [upd_ne (ne_of_none this e4)]; exact this
    · by_cases z : b = a
      · subst z; exact .inr e5
      · rw [upd_ne z] at e; exact k.g.nc b w e
/-- an own list becomes data -/
theorem js_freeze (i : Nat) (hΓ : Γ[i]? = some (.ml ds)) (hr : JS X W sts u (Γ.set i (.im (.lst ds))) o) : JS X W sts u Γ o :=
  ⟨PSsweak hr.ps fun D' σ H ⟨D, I0, H0, I, b, k, f⟩ => by
    obtain ⟨a, e1, ⟨vs, e2, e3⟩, e4, e5⟩ := k.ow i _ hΓ rfl
    have hi : i < σ.length := (List.getElem?_eq_some_iff.mp e1).1
    have e : σ.set i (some (.ref a)) = σ := by
      apply List.ext_getElem?
      intro j
      by_cases z : j = i
      · subst z; rw [List.getElem?_set_self hi, e1]
      · rw [List.getElem?_set_ne (Ne.symm z)]
    have k1 : Ok X.K I0 H0 (Γ.set i .un) I σ H := by
      have := k.setUn (i := i) (u := some (.ref a))
      rwa [e] at this
    have fr : Fresh X.K H0 (Γ.set i .un) I σ H a := ⟨e4, e5, fun j s q w z => by
      rcases set_get q with ⟨rfl, y⟩ | ⟨ne, y⟩
      · subst y; cases w
      · exact k.inj i j _ s a (Ne.symm ne) hΓ y rfl w e1 z⟩
    have k2 := (k1.freeze fr e2).setIm (i := i) (v := .ref a) (d := .lst ds) (.lst (Rd.of upd_same) (e3.mono (same_upd e4)))
    rw [e, List.set_set] at k2
    exact ⟨D, I0, H0, _, b, k2, f⟩⟩

/-! ### if -/
theorem js_if {α : Type} (R : α → O) [Decidable p] {x y : α} (hc : JT X Γ c p) (ha : p → JS X W A (after X W rest u) Γ (R x)) (hb : ¬ p → JS X W B (after X W rest u) Γ (R y)) : JS X W (.If c A B pos :: rest) u Γ (R (if p then x else y)) := by
  by_cases hp : p
  · rw [if_pos hp]
    exact ⟨PSsweak (pss_cons (ps_if hc.pt (ha hp).ps pss_never) (pss_rest (W := W) (u := u))) fun D' σ H ⟨D, I0, H0, I, b, k, f⟩ => ⟨I0, H0, I, k, fun I' H' c g e => by
      dsimp only
      rw [if_pos (e.mpr hp)]
      exact ⟨D, I0, H0, I', ⟨fun σ H z => ⟨D, b, z⟩, b.rt, b.bk, b.ct⟩, k.step g, f⟩⟩⟩
  · rw [if_neg hp]
    exact ⟨PSsweak (pss_cons (ps_if hc.pt pss_never (hb hp).ps) (pss_rest (W := W) (u := u))) fun D' σ H ⟨D, I0, H0, I, b, k, f⟩ => ⟨I0, H0, I, k, fun I' H' c g e => by
      dsimp only
      rw [if_neg fun z => hp (e.mp z)]
      exact ⟨D, I0, H0, I', ⟨fun σ H z => ⟨D, b, z⟩, b.rt, b.bk, b.ct⟩, k.step g, f⟩⟩⟩
/-- a way that is not taken -/
theorem js_ifN (hc : JT X Γ c p) (hp : ¬ p) (hb : JS X W B (after X W rest u) Γ o) : JS X W (.If c A B pos :: rest) u Γ o :=
  ⟨PSsweak (pss_cons (ps_if hc.pt pss_never hb.ps) (pss_rest (W := W) (u := u))) fun D' σ H ⟨D, I0, H0, I, b, k, f⟩ => ⟨I0, H0, I, k, fun I' H' c g e => by
      dsimp only
      rw [if_neg fun z => hp (e.mp z)]
      exact ⟨D, I0, H0, I', ⟨fun σ H z => ⟨D, b, z⟩, b.rt, b.bk, b.ct⟩, k.step g, f⟩⟩⟩
/-- both ways go on, joined: Γ' by cases -/
theorem js_ifJ [Decidable p] {Γa Γb : List Sl} (hc : JT X Γ c p) (ha : p → JS X W A tNext Γ (.nx Γa)) (hb : ¬ p → JS X W B tNext Γ (.nx Γb)) (ea : p → Γa = Γ') (eb : ¬ p → Γb = Γ') (hr : JS X W rest u Γ' o) : JS X W (.If c A B pos :: rest) u Γ o := by
  by_cases hp : p
  · exact js_cons (ps_if hc.pt (ha hp).ps pss_never) hr fun D' σ H I0 H0 I k q => ⟨I0, H0, I, k, fun I' H' c g e => by
      dsimp only
      rw [if_pos (e.mpr hp)]
      exact ⟨D', I0, H0, I', ⟨fun _ _ z => z, fun _ _ z => z, fun _ _ z => z, fun _ _ z => z⟩, k.step g, fun I2 σ2 H2 k2 => q I2 σ2 H2 (ea hp ▸ k2)⟩⟩
  · exact js_cons (ps_if hc.pt pss_never (hb hp).ps) hr fun D' σ H I0 H0 I k q => ⟨I0, H0, I, k, fun I' H' c g e => by
      dsimp only
      rw [if_neg fun z => hp (e.mp z)]
      exact ⟨D', I0, H0, I', ⟨fun _ _ z => z, fun _ _ z => z, fun _ _ z => z, fun _ _ z => z⟩, k.step g, fun I2 σ2 H2 k2 => q I2 σ2 H2 (eb hp ▸ k2)⟩⟩
end

/-! ### defs -/
def FinF (K : PySem.W.Frag) (I0 H0 : Hp) (Q : VK) (E : XK) : O → Prop
  | .rt d => ∀ I v H, Grow I0 H0 I H → Is K I v d → Q v H
  | .ex C fs ds => ∀ I H d, Grow I0 H0 I H → Pay K I H d fs ds → E (.ref C) d H
  | _ => False
/-- the promise of a def: of arguments ds the outcome o -/
def spOf (K : PySem.W.Frag) (P : List D → O → Prop) : Sp := fun vs H Q E => ∃ I ds o, Same I H ∧ IsL K I vs ds ∧ P ds o ∧ FinF K I H Q E o
def Γ0 (N : List Str) (ds : List D) : List Sl := ds.map Sl.im ++ List.replicate (N.length - ds.length) Sl.un
structure DefOk (P : Program) (w : World) (K : PySem.W.Frag) (mg : Str → Option Value) (base : Heap) (k : Nat) (x : Str) (ps : List Str) (S : List D → O → Prop) : Prop where
  ex : ∃ f fd, mg x = some (.ref f) ∧ PySem.W.keepIn K (.ref f) = true ∧ Binds K fd ps [] ∧ FnOk P w K mg base (L2.CX P w) k f fd ps (spOf K S)
theorem ok_start {K : PySem.W.Frag} {I H : Hp} {N : List Str} {vs : List V} {ds : List D} (s : Same I H) (h : IsL K I vs ds) : Ok K I H (Γ0 N ds) I (start N vs) H := by
  have hl := h.length
  refine ⟨Grow.refl s, ?_, fun i d e => ?_, fun i t e w => ?_, fun i j t t' a ne e e' w w' => ?_⟩
  · simp only [L2.start, Γ0, List.length_append, List.length_map, List.length_replicate, hl]
  · unfold Γ0 at e
    by_cases hi : i < ds.length
    · rw [List.getElem?_append_left (by simpa using hi), List.getElem?_map] at e
      cases q : ds[i]? with
      | none => rw [q] at e; cases e
      | some d' =>
        rw [q] at e
        have e' : d' = d := by simpa using e
        subst e'
        obtain ⟨v, h1, h2⟩ := h.get q
        have e3 : (L2.start N vs)[i]? = some (some v) := by
          unfold L2.start
          rw [List.getElem?_append_left (by simpa [hl] using hi), List.getElem?_map, h1] <;> rfl
        exact ⟨v, e3, h2⟩
    · rw [List.getElem?_append_right (by simpa using hi), List.getElem?_replicate] at e
      split at e <;> cases e
  all_goals
    exfalso
    unfold Γ0 at e
    by_cases hi : i < ds.length
    · rw [List.getElem?_append_left (by simpa using hi), List.getElem?_map] at e
      cases q : ds[i]? with
      | none => rw [q] at e; cases e
      | some d' =>
        rw [q] at e
        have e2 : Sl.im d' = t := by simpa using e
        subst e2
        cases w
    · rw [List.getElem?_append_right (by simpa using hi), List.getElem?_replicate] at e
      split at e
      · have e2 : Sl.un = t := by simpa using e
        subst e2
        cases w
      · cases e
section
variable {P : Program} {w : World} {K : PySem.W.Frag} {mg : Str → Option Value} {base : Heap}
/-- THE RULE for a def -/
theorem def_ok {x qual : Str} {params : Arguments} {body : List Stmt} {scope : Scope} {dvs : List V} {kws : List (Str × V)} {f : Addr} {fd : FuncData} {N ps : List Str} {k : Nat} {S : List D → O → Prop} (F : FunD K x qual params body scope dvs kws f fd) (Sc : FnScope N ps scope) (hl : ∀ ds o, S ds o → ds.length = ps.length)
    (hb : ∀ (cdv : Value) (A : Around) (outer : List Env) (s : Shared) (H : Hp) (E : XK), Room k (A.deeper (envOfC qual scope s.heap.objs.size f cdv)) → ∀ ds o, S ds o →
      JS (cxOf (L2.CX P w) P w K mg base N qual scope f cdv A outer s H E) (fun cls d _ H => E cls d H) body uOff (Γ0 N ds) o) : FnOk P w K mg base (L2.CX P w) (k + 1) f fd ps (spOf K S) := by
  refine F.ok Sc (fun vs H Q E ⟨I, ds, o, h1, h2, h3, h4⟩ => h2.length.trans (hl ds o h3)) (fun cdv A outer s H vs Q E hr ⟨I, ds, o, h1, h2, h3, h4⟩ => ⟨_, (hb cdv A outer s H E hr ds o h3).ps, ?_⟩)
  refine ⟨{ nx := fun _ _ => True, rt := Q, bk := fun _ _ => False, ct := fun _ _ => False }, I, H, I, ⟨fun σ H z => z, fun _ _ z => z, fun _ _ z => z, fun _ _ z => z⟩, ok_start h1 h2, ?_⟩
  cases o with
  | rt d => exact h4
  | ex C fs es => exact fun I' σ H' d g p => h4 I' H' d g p
  | nx _ => exact h4.elim
  | bk _ => exact h4.elim
  | ct _ => exact h4.elim
end
section
variable {X : Cx} {W : WX} {Γ Γ' : List Sl} {e tg c : Expr} {es : List Expr} {st : Stmt} {sts rest A B : List Stmt} {u : TS} {o : O} {d : D} {ds : List D} {pos : Pos} {p : Prop} {k : Nat} {x : Str} {ps : List Str} {S : List D → O → Prop}
/-- a call of a def -/
theorem je_call {p1 : Pos} (F : DefOk X.prog X.w X.K X.mg X.base k x ps S) (hr : Room k X.A) (ha : JA X Γ (e :: es) ds) (hs : S ds (.rt d)) (hg : Gl X x := by rfl) (hdb : (x == ("__debug__" : Str)) = false := by decide)
    (he : starEach (e :: es) X.env = (false, eval e X.env) :: starEach es X.env := by rfl) (hpl : (backTo pos (starEach es X.env)).any (·.1) = false := by rfl) : JE X Γ (.Call (.Name x p1) (e :: es) [] pos) d := by
  obtain ⟨f, fd, hm, hk, hb, hf⟩ := F.ex
  exact ⟨PEweak (pe_call hf hr hg hm hk hb .nil passL ha.pa hdb he hpl) fun σ H Q ⟨I0, H0, I, o, q⟩ => ⟨I0, H0, I, o, fun I' vs H' g h => ⟨I', ds, .rt d, g.same, by rw [List.append_nil]; exact h, hs, fun I2 v H2 g2 h2 => q I2 v H2 (g.trans g2) h2⟩⟩⟩
end
end Bw
/-! B4: loops and comprehensions. -/
namespace Bw
open PySem PySem.Spec PyProof.Rows L2

/-- let, as a function: v is named -/
def bindL {α : Type} {β : Sort _} (v : α) (b : α → β) : β := b v
theorem js_gen {X : Cx} {W : WX} {sts : List Stmt} {u : TS} {α β : Type} {R : β → O} {v : α} {b : α → β} {S : α → Prop} (Γf : α → List Sl) (hs : bindL v S) (h : ∀ x, S x → JS X W sts u (Γf x) (R (b x))) : JS X W sts u (Γf v) (R (bindL v b)) := h v hs
/-- what a turn comes to -/
inductive Stp (τ ρ : Type) where
  | nx (s : τ) | ct (s : τ) | bk (s : τ) | rt (r : ρ)
def Stp.o {τ ρ : Type} (Γf : τ → List Sl) (enc : ρ → D) : Stp τ ρ → O
  | .nx s => .nx (Γf s)
  | .ct s => .ct (Γf s)
  | .bk s => .bk (Γf s)
  | .rt r => .rt (enc r)
/-- a loop's end, and what follows it -/
def Stp.out {τ ρ β : Type} (k : τ → β) (fr : ρ → β) : Stp τ ρ → β
  | .nx s => k s
  | .ct s => k s
  | .bk s => k s
  | .rt r => fr r
/-- the loop went on to what follows it, with s -/
def Stp.fin {τ ρ : Type} (s : τ) : Stp τ ρ → Prop
  | .nx t => t = s
  | .ct t => t = s
  | .bk t => t = s
  | .rt _ => False
def forS {α τ ρ : Type} (B : α → τ → Stp τ ρ) : List α → τ → Stp τ ρ
  | [], s => .nx s
  | x :: xs, s => match B x s with
    | .nx t => forS B xs t
    | .ct t => forS B xs t
    | o => o
def forOk {α τ ρ : Type} (B : α → τ → Stp τ ρ) (S : α → τ → Prop) : List α → τ → Prop
  | [], _ => True
  | x :: xs, s => S x s ∧ match B x s with
    | .nx t => forOk B S xs t
    | .ct t => forOk B S xs t
    | _ => True
def whileS {τ ρ : Type} (p : τ → Prop) [∀ s, Decidable (p s)] (B : τ → Stp τ ρ) : Nat → τ → Stp τ ρ
  | 0, s => .nx s
  | n + 1, s => if p s then (match B s with
    | .nx t => whileS p B n t
    | .ct t => whileS p B n t
    | o => o) else .nx s
def whileOk {τ ρ : Type} (p : τ → Prop) [∀ s, Decidable (p s)] (B : τ → Stp τ ρ) (Sc Sb : τ → Prop) : Nat → τ → Prop
  | 0, _ => False
  | n + 1, s => Sc s ∧ (p s → Sb s ∧ match B s with
    | .nx t => whileOk p B Sc Sb n t
    | .ct t => whileOk p B Sc Sb n t
    | _ => True)

theorem forS_cons {α τ ρ : Type} (B : α → τ → Stp τ ρ) (x : α) (xs : List α) (s : τ) : forS B (x :: xs) s = match B x s with
    | .nx t => forS B xs t
    | .ct t => forS B xs t
    | o => o := rfl
theorem whileS_succ {τ ρ : Type} (p : τ → Prop) [∀ s, Decidable (p s)] (B : τ → Stp τ ρ) (n : Nat) (s : τ) : whileS p B (n + 1) s = if p s then (match B s with
    | .nx t => whileS p B n t
    | .ct t => whileS p B n t
    | o => o) else .nx s := rfl
/-- from I1, H1 on the iterator J yields the data ds -/
structure Gv (K : PySem.W.Frag) (J : It) (I1 H1 : Hp) (ds : List D) : Prop where
  go : ∀ i I H, i < ds.length → Same I1 I → Same I H → Same H1 H → J.go i H
  yld : ∀ i d I H x H', ds[i]? = some d → Same I1 I → Same I H → Same H1 H → J.yld i H x H' → ∃ I2, Grow I H I2 H' ∧ Is K I2 x d
  stop : ∀ I H, Same I1 I → Same I H → Same H1 H → J.stop ds.length H
theorem PIweak {X : Cx} {tg iter : Expr} {t t' : TI} (h : PI X tg iter t) (w : ∀ σ H R, t' σ H R → t σ H R) : PI X tg iter t' := ⟨fun pins s σ H R I q => h.run pins s σ H R I (w _ _ _ q)⟩
def tI (K : PySem.W.Frag) (Γ : List Sl) (ds : List D) : TI := fun σ H R => ∃ I0 H0 I, Ok K I0 H0 Γ I σ H ∧ ∀ J I' H', Grow I H I' H' → Gv K J I' I' ds → R J H'
def tIh (K : PySem.W.Frag) (Γ : List Sl) (ds : List D) : TI := fun σ H R => ∃ I0 H0 I, Ok K I0 H0 Γ I σ H ∧ ∀ J I' H', Grow I H I' H' → Gv K J I' H' ds → R J H'
structure JI (X : Cx) (Γ : List Sl) (tg iter : Expr) (ds : List D) : Prop where
  pi : PI X tg iter (tI X.K Γ ds)
structure JIh (X : Cx) (Γ : List Sl) (tg iter : Expr) (ds : List D) : Prop where
  pi : PI X tg iter (tIh X.K Γ ds)
section
variable {X : Cx} {W : WX} {Γ Γ' : List Sl} {e tg c iter : Expr} {st : Stmt} {sts rest body : List Stmt} {u : TS} {o : O} {d : D} {ds : List D} {pos : Pos} {p : Prop}
theorem JI.h (h : JI X Γ tg iter ds) : JIh X Γ tg iter ds := ⟨PIweak h.pi fun σ H R ⟨I0, H0, I, o, k⟩ => ⟨I0, H0, I, o, fun J I' H' g v => k J I' H' g
  ⟨fun i I2 H2 hi s1 s2 _ => v.go i I2 H2 hi s1 s2 (s1.trans s2), fun i d I2 H2 x H3 e s1 s2 _ y => v.yld i d I2 H2 x H3 e s1 s2 (s1.trans s2) y, fun I2 H2 s1 s2 _ => v.stop I2 H2 s1 s2 (s1.trans s2)⟩⟩⟩
theorem JI.eq {ds' : List D} (h : JI X Γ tg iter ds) (e : ds = ds') : JI X Γ tg iter ds' := e ▸ h
theorem JIh.eq {ds' : List D} (h : JIh X Γ tg iter ds) (e : ds = ds') : JIh X Γ tg iter ds' := e ▸ h
theorem gv_list {K : PySem.W.Frag} {I1 H1 : Hp} {a : Addr} {vs : List V} (h : SqL K H1 a vs) (hl : IsL K I1 vs ds) : Gv K (Itl K a) I1 H1 ds := by
  refine ⟨fun i I H hi s1 s2 s3 => ?_, fun i d I H x H' e s1 s2 s3 y => ?_, fun I H s1 s2 s3 => ?_⟩
  · rw [← hl.length] at hi
    exact ⟨vs, vs[i], s3.seq h, by simp [hi]⟩
  · obtain ⟨v, e1, e2⟩ := hl.get e
    obtain ⟨rfl, y⟩ := y
    have := y vs (s3.seq h)
    rw [e1] at this
    cases this
    exact ⟨I, Grow.refl s2, e2.mono s1⟩
  · exact ⟨vs, s3.seq h, Nat.le_of_eq hl.length⟩
theorem gv_tup {K : PySem.W.Frag} {I1 H1 : Hp} {a : Addr} {vs : List V} (h : SqT K H1 a vs) (hl : IsL K I1 vs ds) : Gv K (Itt K a) I1 H1 ds := by
  refine ⟨fun i I H hi s1 s2 s3 => ?_, fun i d I H x H' e s1 s2 s3 y => ?_, fun I H s1 s2 s3 => ?_⟩
  · rw [← hl.length] at hi
    exact ⟨vs, vs[i], sqt_same s3 h, by simp [hi]⟩
  · obtain ⟨v, e1, e2⟩ := hl.get e
    obtain ⟨rfl, y⟩ := y
    have := y vs (sqt_same s3 h)
    rw [e1] at this
    cases this
    exact ⟨I, Grow.refl s2, e2.mono s1⟩
  · exact ⟨vs, sqt_same s3 h, Nat.le_of_eq hl.length⟩
theorem ji_list (h : JE X Γ iter (.lst ds)) : JI X Γ tg iter ds :=
  ⟨PIweak (pi_list h.pe) fun σ H R ⟨I0, H0, I, o, k⟩ => ⟨I0, H0, I, o, fun I' v H' g h => by
    cases h with
    | lst h1 h2 => exact ⟨_, rfl, ⟨_, .inl (rd_same g.same h1)⟩, k _ I' H' g (gv_list (.inl h1) h2)⟩⟩⟩
theorem ji_scr (h : JE X Γ iter (.scr ds)) : JI X Γ tg iter ds :=
  ⟨PIweak (pi_list h.pe) fun σ H R ⟨I0, H0, I, o, k⟩ => ⟨I0, H0, I, o, fun I' v H' g h => by
    cases h with
    | scr h1 h2 => exact ⟨_, rfl, ⟨_, g.same.seq h1⟩, k _ I' H' g (gv_list h1 h2)⟩⟩⟩
theorem ji_tup (h : JE X Γ iter (.tup ds)) : JI X Γ tg iter ds :=
  ⟨PIweak (pi_tup h.pe) fun σ H R ⟨I0, H0, I, o, k⟩ => ⟨I0, H0, I, o, fun I' v H' g h => by
    cases h with
    | tup h1 h2 => exact ⟨_, rfl, ⟨_, sqt_same g.same h1⟩, k _ I' H' g (gv_tup h1 h2)⟩⟩⟩
/-- an own list, read -/
theorem jih_own (i : Nat) {x : Str} (hΓ : Γ[i]? = some (.ml ds)) (hN : X.N[i]? = some x := by rfl) (hv : Vis X.env.scope x := by first | exact Or.inl rfl | exact Or.inr (Or.inl rfl) | exact Or.inr (Or.inr rfl)) (hd : (x == ("__debug__" : Str)) = false := by decide)
    (hcd : (x == ("__classdict__" : Str)) = false := by decide) : JIh X Γ tg (.Name x pos) ds :=
  ⟨PIweak (pi_list (pe_var hN hv hd hcd)) fun σ H R ⟨I0, H0, I, o, k⟩ => by
    obtain ⟨a, e1, ⟨vs, e2, e3⟩, e4, e5⟩ := o.ow i _ hΓ rfl
    exact ⟨_, e1, a, rfl, ⟨vs, SqL.of e2⟩, k _ I H (Grow.refl o.same) (gv_list (SqL.of e2) e3)⟩⟩
/-- a new list, walked -/
theorem ji_new (h : JL X Γ iter ds) : JI X Γ tg iter ds := ji_list h.imm
def rangeI (lo hi : Int) : List Int := (List.range (hi - lo).toNat).map fun k => lo + (k : Nat)
theorem gv_range {K : PySem.W.Frag} {I1 H1 : Hp} {lo : Int} {n : Nat} : Gv K (Itr lo n) I1 H1 (((List.range n).map fun k => lo + ((k : Nat) : Int)).map D.int) := by
  refine ⟨fun i I H hi s1 s2 s3 => ?_, fun i d I H x H' e s1 s2 s3 y => ?_, fun I H s1 s2 s3 => ?_⟩
  · show i < n
    simpa using hi
  · obtain ⟨rfl, rfl⟩ := y
    have e2 : D.int (lo + (i : Nat)) = d := by
      rw [List.map_map, List.getElem?_map] at e
      cases q : (List.range n)[i]? with
      | none => rw [q] at e; cases e
      | some j =>
        rw [q] at e
        have : j = i := by
          rw [List.getElem?_range] at q
          · exact (Option.some.inj q).symm
          · by_cases z : i < n
            · exact z
            · rw [List.getElem?_eq_none (by simpa using Nat.le_of_not_lt z)] at q
              cases q
        subst this
        exact Option.some.inj e
    subst e2
    exact ⟨I, Grow.refl s2, .int _⟩
  · simp only [List.length_map, List.length_range]
    exact Nat.le_refl _
theorem ji_range1 {a : Expr} {n : Int} {p1 : Pos} (ha : JA X Γ [a] [.int n]) (hm : X.mg "range" = none) (h1 : -(2 ^ 62) ≤ n) (h2 : n < 2 ^ 62) (hg : Gl X "range" := by rfl) (hs : starEach [a] X.env = [(false, eval a X.env)] := by rfl) :
    JI X Γ tg (.Call (.Name "range" p1) [a] [] pos) ((rangeI 0 n).map D.int) :=
  ⟨PIweak (pi_range1 hg hm ha.pa hs) fun σ H R ⟨I0, H0, I, o, k⟩ => ⟨I0, H0, I, o, fun I' vs H' g h => by
    obtain ⟨v, rfl, hv⟩ := isl1 h
    refine ⟨n, by rw [hv.int_inv], h1, h2, k _ I' H' g ?_⟩
    have := gv_range (K := X.K) (I1 := I') (H1 := I') (lo := 0) (n := n.toNat)
    unfold rangeI
    rw [Int.sub_zero]
    exact this⟩⟩
theorem ji_range2 {a b : Expr} {m n : Int} {p1 : Pos} (ha : JA X Γ [a, b] [.int m, .int n]) (hm : X.mg "range" = none) (h1 : -(2 ^ 62) ≤ m ∧ m < 2 ^ 62 ∧ -(2 ^ 62) ≤ n ∧ n < 2 ^ 62) (hg : Gl X "range" := by rfl)
    (hs : starEach [a, b] X.env = [(false, eval a X.env), (false, eval b X.env)] := by rfl) (hs2 : starEach [b] X.env = [(false, eval b X.env)] := by rfl) :
    JI X Γ tg (.Call (.Name "range" p1) [a, b] [] pos) ((rangeI m n).map D.int) :=
  ⟨PIweak (pi_range2 hg hm ha.pa hs hs2) fun σ H R ⟨I0, H0, I, o, k⟩ => ⟨I0, H0, I, o, fun I' vs H' g h => by
    obtain ⟨v, w, rfl, hv, hw⟩ := isl2 h
    exact ⟨m, n, by rw [hv.int_inv, hw.int_inv], h1, k _ I' H' g gv_range⟩⟩⟩

/-! ### for -/
theorem Ok.rebase {K : PySem.W.Frag} {I0 H0 I : Hp} {σ : L2.St} {H : Hp} (k : Ok K I0 H0 Γ I σ H) : Ok K I H0 Γ I σ H := ⟨⟨k.same, k.g.h0, Same.refl _, fun _ _ e => .inl e⟩, k.len, k.sl, k.ow, k.inj⟩
theorem Grow.back {I0 H0 I H I2 H2 : Hp} (g : Grow I0 H0 I H) (g2 : Grow I H0 I2 H2) : Grow I0 H0 I2 H2 := ⟨g2.same, g2.h0, g.i0.trans g2.i0, fun a o e => by
  rcases g2.nc a o e with q | q
  · exact g.nc a o q
  · exact .inr q⟩
theorem Ok.back {K : PySem.W.Frag} {I0 H0 I I2 : Hp} {σ σ2 : L2.St} {H H2 : Hp} {Δ : List Sl} (k : Ok K I0 H0 Γ I σ H) (k2 : Ok K I H0 Δ I2 σ2 H2) : Ok K I0 H0 Δ I2 σ2 H2 := ⟨k.g.back k2.g, k2.len, k2.sl, k2.ow, k2.inj⟩
theorem Fin.rebase {K : PySem.W.Frag} {I0 H0 I : Hp} {σ : L2.St} {H : Hp} {D : Ends} (k : Ok K I0 H0 Γ I σ H) (f : Fin K W I0 H0 D o) : Fin K W I H0 D o := by
  cases o with
  | nx Δ => exact fun I2 σ2 H2 k2 => f I2 σ2 H2 (k.back k2)
  | bk Δ => exact fun I2 σ2 H2 k2 => f I2 σ2 H2 (k.back k2)
  | ct Δ => exact fun I2 σ2 H2 k2 => f I2 σ2 H2 (k.back k2)
  | rt d => exact fun I2 v H2 g => f I2 v H2 (k.g.back g)
  | ex C fs ds => exact fun I2 σ2 H2 d g => f I2 σ2 H2 d (k.g.back g)
/-- any target, any block: what they do where a judgement is known -/
def gU (X : Cx) (tg : Expr) : TG := fun v σ H Q => ∃ Γ d Γ' I0 H0 I, JG X Γ tg d Γ' ∧ Ok X.K I0 H0 Γ I σ H ∧ Is X.K I v d ∧ ∀ σ', Ok X.K I0 H0 Γ' I σ' H → Q σ' H
theorem pg_U : PG X tg (gU X tg) := ⟨fun pins s σ H v u Q I r ⟨Γ, d, Γ', I0, H0, R, g, k, h, q⟩ => g.pg.run pins s σ H v u Q I r ⟨I0, H0, R, k, h, q⟩⟩
def tU (X : Cx) (W : WX) (sts : List Stmt) : TS := fun D σ H => ∃ u Γ o, JS X W sts u Γ o ∧ tJ X.K W u Γ o D σ H
theorem pss_U : PSs X sts (tU X W sts) := ⟨fun pins s σ H D I ⟨u, Γ, o, j, t⟩ => j.ps.run pins s σ H D I t⟩
def ttU (X : Cx) (c : Expr) : TT := fun σ H Q => ∃ Γ p, JT X Γ c p ∧ tT X.K Γ p σ H Q
theorem pt_U : PT X c (ttU X c) := ⟨fun pins s σ H Q I ⟨Γ, p, j, t⟩ => j.pt.run pins s σ H Q I t⟩
theorem js_for {α τ ρ β : Type} (R : β → O) (encα : α → D) (encρ : ρ → D) (xs : List α) (Γf : τ → List Sl) (Γb : α → τ → List Sl) (B : α → τ → Stp τ ρ) (Sf : α → τ → Prop) (s0 : τ) (kk : τ → β) (fr : ρ → β)
    (hp : PassesOwn (model X.prog X.w) X.A X.env X.xe) (hc : X.calm = true) (hi : JI X (Γf s0) tg iter (xs.map encα)) (hg : ∀ x s, JG X (Γf s) tg (encα x) (Γb x s)) (hb : ∀ x s, x ∈ xs → Sf x s → JS X W body tNext (Γb x s) (Stp.o Γf encρ (B x s)))
    (hs : forOk B Sf xs s0) (hr : ∀ s, (forS B xs s0).fin s → JS X W rest u (Γf s) (R (kk s))) (hret : ∀ r, R (fr r) = .rt (encρ r)) (hf : ∀ x, foldedSetIterable iter X.env x = pure x := by intro _; rfl) :
    JS X W (.For tg iter body [] pos :: rest) u (Γf s0) (R ((forS B xs s0).out kk fr)) := by
  generalize hz : forS B xs s0 = z at hr ⊢
  refine ⟨PSsweak (pss_cons (ps_for hp hc hi.pi (pg_U (tg := tg)) (pss_U (W := W)) hf) (pss_rest (W := W) (u := u))) fun D' σ H ⟨D, I0, H0, I, b, k, f⟩ => ⟨I0, H0, I, k, fun J I' H' g gv => ?_⟩⟩
  have k1 := k.step g
  have k2 := k1.rebase
  refine ⟨fun i m σ H => i ≤ xs.length ∧ m = xs.length - i ∧ ∃ s R2, forOk B Sf (xs.drop i) s ∧ z = forS B (xs.drop i) s ∧ Ok X.K I' H0 (Γf s) R2 σ H, ⟨xs.length, Nat.zero_le _, by simp, s0, I', by simpa using hs, by simpa using hz.symm, k2⟩, ?_⟩
  rintro i m σ2 H2 ⟨hi2, rfl, s, R2, ok, eq, k3⟩
  by_cases hlt : i < xs.length
  · refine .inr ⟨gv.go i R2 H2 (by simpa using hlt) k3.g.i0 k3.same (k3.g.i0.trans k3.same), ?_⟩
    have ed : xs.drop i = xs[i] :: xs.drop (i + 1) := List.drop_eq_getElem_cons hlt
    rw [ed] at ok eq
    obtain ⟨sx, ok⟩ := ok
    refine ⟨fun σ H => ∃ s' R3, forOk B Sf (xs.drop (i + 1)) s' ∧ z = forS B (xs.drop (i + 1)) s' ∧ Ok X.K I' H0 (Γf s') R3 σ H, fun σ' H' ⟨s', R3, a1, a2, a3⟩ => ⟨xs.length - (i + 1), by omega, hlt, rfl, s', R3, a1, a2, a3⟩, fun x H3 y => ?_⟩
    obtain ⟨R3, g3, hx⟩ := gv.yld i (encα xs[i]) R2 H2 x H3 (by simp [hlt]) k3.g.i0 k3.same (k3.g.i0.trans k3.same) y
    refine ⟨_, _, _, I', H0, R3, hg xs[i] s, k3.step g3, hx, fun σ' k4 => ⟨tNext, _, _, hb xs[i] s (List.getElem_mem hlt) sx, _, I', H0, R3, ⟨fun _ _ z => z, fun _ _ z => z, fun _ _ z => z, fun _ _ z => z⟩, k4, ?_⟩⟩
    rw [forS_cons] at eq
    cases hB : B xs[i] s with
    | nx t =>
      rw [hB] at ok eq
      exact fun R4 σ4 H4 k5 => ⟨t, R4, ok, eq, k5⟩
    | ct t =>
      rw [hB] at ok eq
      exact fun R4 σ4 H4 k5 => ⟨t, R4, ok, eq, k5⟩
    | bk t =>
      rw [hB] at eq
      rw [eq] at f hr
      exact fun R4 σ4 H4 k5 => ⟨D, b, _, _, I', H0, R4, hr t rfl, k5, Fin.rebase k1 f⟩
    | rt r =>
      rw [hB] at eq
      have f2 := Fin.rebase k1 f
      rw [eq] at f2
      have e3 : R ((Stp.rt r : Stp τ ρ).out kk fr) = .rt (encρ r) := hret r
      rw [e3] at f2
      exact fun R4 v H4 g4 h4 => b.rt v H4 (f2 R4 v H4 g4 h4)
  · have e : i = xs.length := by omega
    subst e
    refine .inl ⟨?_, ?_⟩
    · have := gv.stop R2 H2 k3.g.i0 k3.same (k3.g.i0.trans k3.same)
      simpa using this
    · rw [List.drop_length] at eq
      have e2 : z = .nx s := eq
      rw [e2] at f hr
      exact ⟨D, b, _, _, I', H0, R2, hr s rfl, k3, Fin.rebase k1 f⟩
/-! ### while -/
theorem js_while {τ ρ β : Type} (R : β → O) (encρ : ρ → D) (Γf : τ → List Sl) (pc : τ → Prop) [∀ s, Decidable (pc s)] (B : τ → Stp τ ρ) (Sc Sb : τ → Prop) (n : Nat) (s0 : τ) (kk : τ → β) (fr : ρ → β)
    (hp : PassesOwn (model X.prog X.w) X.A X.env X.xe) (hc : ∀ s, Sc s → JT X (Γf s) c (pc s)) (hb : ∀ s, Sb s → pc s → JS X W body tNext (Γf s) (Stp.o Γf encρ (B s)))
    (hs : whileOk pc B Sc Sb n s0) (hr : ∀ s, (whileS pc B n s0).fin s → JS X W rest u (Γf s) (R (kk s))) (hret : ∀ r, R (fr r) = .rt (encρ r)) :
    JS X W (.While c body [] pos :: rest) u (Γf s0) (R ((whileS pc B n s0).out kk fr)) := by
  generalize hz : whileS pc B n s0 = z at hr ⊢
  refine ⟨PSsweak (pss_cons (ps_while hp (pt_U (c := c)) (pss_U (W := W))) (pss_rest (W := W) (u := u))) fun D' σ H ⟨D, I0, H0, I, b, k, f⟩ => ?_⟩
  refine ⟨fun m σ H => ∃ s R2, whileOk pc B Sc Sb m s ∧ z = whileS pc B m s ∧ Ok X.K I0 H0 (Γf s) R2 σ H, ⟨n, s0, I, hs, hz.symm, k⟩, ?_⟩
  rintro m σ2 H2 ⟨s, R2, ok, eq, k3⟩
  cases m with
  | zero => exact ok.elim
  | succ m =>
    obtain ⟨sc, ok⟩ := ok
    refine ⟨Γf s, pc s, hc s sc, I0, H0, R2, k3, fun I' H' c g e => ?_⟩
    rw [whileS_succ] at eq
    by_cases hpc : pc s
    · rw [if_pos (e.mpr hpc)]
      rw [if_pos hpc] at eq
      obtain ⟨sb, ok⟩ := ok hpc
      refine ⟨fun σ H => ∃ s' R3, whileOk pc B Sc Sb m s' ∧ z = whileS pc B m s' ∧ Ok X.K I0 H0 (Γf s') R3 σ H, fun σ' H' ⟨s', R3, a1, a2, a3⟩ => ⟨m, Nat.lt_succ_self _, s', R3, a1, a2, a3⟩, ?_⟩
      refine ⟨tNext, _, _, hb s sb hpc, _, I0, H0, I', ⟨fun _ _ z => z, fun _ _ z => z, fun _ _ z => z, fun _ _ z => z⟩, k3.step g, ?_⟩
      cases hB : B s with
      | nx t =>
        rw [hB] at ok eq
        exact fun R4 σ4 H4 k5 => ⟨t, R4, ok, eq, k5⟩
      | ct t =>
        rw [hB] at ok eq
        exact fun R4 σ4 H4 k5 => ⟨t, R4, ok, eq, k5⟩
      | bk t =>
        rw [hB] at eq
        rw [eq] at f hr
        exact fun R4 σ4 H4 k5 => ⟨D, b, _, _, I0, H0, R4, hr t rfl, k5, f⟩
      | rt r =>
        rw [hB] at eq
        rw [eq] at f
        have e3 : R ((Stp.rt r : Stp τ ρ).out kk fr) = .rt (encρ r) := hret r
        rw [e3] at f
        exact fun R4 v H4 g4 h4 => b.rt v H4 (f R4 v H4 g4 h4)
    · rw [if_neg fun z => hpc (e.mp z)]
      rw [if_neg hpc] at eq
      rw [eq] at f hr
      exact ⟨D, b, _, _, I0, H0, I', hr s rfl, k3.step g, f⟩
end
/-- fewer words about the slots -/
inductive Wk : List Sl → List Sl → Prop where
  | nil : Wk [] []
  | un {s : Sl} {Γ Δ : List Sl} : Wk Γ Δ → Wk (s :: Γ) (.un :: Δ)
  | same {s : Sl} {Γ Δ : List Sl} : Wk Γ Δ → Wk (s :: Γ) (s :: Δ)
theorem Wk.len {Γ Δ : List Sl} (h : Wk Γ Δ) : Γ.length = Δ.length := by
  induction h with
  | nil => rfl
  | un _ ih => exact congrArg (· + 1) ih
  | same _ ih => exact congrArg (· + 1) ih
theorem Wk.get {Γ Δ : List Sl} (h : Wk Γ Δ) : ∀ (i : Nat) (s : Sl), Δ[i]? = some s → s = .un ∨ Γ[i]? = some s := by
  induction h with
  | nil => exact fun i s e => by simp at e
  | un _ ih =>
    intro i s e
    cases i with
    | zero => exact .inl (by simpa using e.symm)
    | succ i => simpa using ih i s (by simpa using e)
  | same _ ih =>
    intro i s e
    cases i with
    | zero => exact .inr e
    | succ i => simpa using ih i s (by simpa using e)
section
variable {X : Cx} {W : WX} {Γ Γ' : List Sl} {sts : List Stmt} {u : TS} {o : O}
theorem js_wk (h : JS X W sts u Γ' o) (w : Wk Γ Γ') : JS X W sts u Γ o := h.weak w.len w.get
theorem js_endW (w : Wk Γ Γ') : JS X W [] tNext Γ (.nx Γ') := js_wk js_end w
theorem js_contW {pos : Pos} {rest : List Stmt} (w : Wk Γ Γ') : JS X W (.Continue pos :: rest) u Γ (.ct Γ') := js_wk js_cont w
theorem js_breakW {pos : Pos} {rest : List Stmt} (w : Wk Γ Γ') : JS X W (.Break pos :: rest) u Γ (.bk Γ') := js_wk js_break w
end
end Bw
/-! B5: comprehensions. -/
namespace Bw
open PySem PySem.Spec PyProof.Rows L2
/-- the context of a comprehension's block -/
abbrev Blk (X : Cx) (scope : Scope) (s : Shared) (H : Hp) (C : Addr) (cl : List (Str × Addr)) (fp : List Addr) : Cx := X.blk s H scope (compEnvC scope cl C X.env) fp
def wipeΓ (Γ : List Sl) : List Nat → List Sl
  | [] => Γ
  | v :: vs => (wipeΓ Γ vs).set v .un
theorem ok_wipe {K : PySem.W.Frag} {I0 H0 I : Hp} {Γ : List Sl} {σ : L2.St} {H : Hp} (k : Ok K I0 H0 Γ I σ H) : ∀ vs : List Nat, Ok K I0 H0 (wipeΓ Γ vs) I (wipe σ vs) H
  | [] => k
  | v :: vs => by
    unfold wipeΓ wipe
    exact (ok_wipe k vs).setUn
theorem wipe_set_mem {i : Nat} {x : Option V} : ∀ {σ : L2.St} {vs : List Nat}, i ∈ vs → wipe (σ.set i x) vs = wipe σ vs
  | σ, [], h => by cases h
  | σ, v :: vs, h => by
    unfold wipe
    by_cases hi : i ∈ vs
    · rw [wipe_set_mem hi]
    · have e : i = v := by
        rcases List.mem_cons.mp h with e | e
        · exact e
        · exact absurd e hi
      subst e
      have ne : ∀ (σ : L2.St) (vs : List Nat), i ∉ vs → wipe (σ.set i x) vs = (wipe σ vs).set i x := by
        intro σ vs
        induction vs with
        | nil => intro _; rfl
        | cons w ws ih =>
          intro hw
          unfold wipe
          rw [ih fun z => hw (List.mem_cons_of_mem _ z), List.set_comm]
          intro z
          exact hw (z ▸ List.mem_cons_self)
      rw [ne σ vs hi, List.set_set]
/-- a comprehension's target: a slot, or a tuple of slots -/
structure JGc (X : Cx) (tg : Expr) (vs : List Nat) (g : TG) : Prop where
  pg : PG X tg g
def gcOk (K : PySem.W.Frag) (g : TG) (vs : List Nat) (Γ : List Sl) (d : D) (Γ' : List Sl) : Prop :=
  ∀ (I0 H0 I : Hp) (σ : L2.St) (H : Hp) (v : V) (Q : L2.St → Hp → Prop), Ok K I0 H0 Γ I σ H → Is K I v d → (∀ σ', wipe σ' vs = wipe σ vs → Ok K I0 H0 Γ' I σ' H → Q σ' H) → g v σ H Q
theorem gc_name {K : PySem.W.Frag} {i : Nat} {vs : List Nat} {Γ : List Sl} {d : D} (h : i ∈ vs) : gcOk K (gName i) vs Γ d (Γ.set i (.im d)) := fun I0 H0 I σ H v Q k hv q => q _ (wipe_set_mem h) (k.setIm hv)
def gcsOk (K : PySem.W.Frag) (g : TGs) (vs : List Nat) (Γ : List Sl) (ds : List D) (Γ' : List Sl) : Prop :=
  ∀ (I0 H0 I : Hp) (σ : L2.St) (H : Hp) (ws : List V) (Q : L2.St → Hp → Prop), Ok K I0 H0 Γ I σ H → IsL K I ws ds → (∀ σ', wipe σ' vs = wipe σ vs → Ok K I0 H0 Γ' I σ' H → Q σ' H) → g ws σ H Q
theorem gcs_nil {K : PySem.W.Frag} {vs : List Nat} {Γ : List Sl} : gcsOk K gNil vs Γ [] Γ := fun I0 H0 I σ H ws Q k h q => by
  cases h
  exact ⟨rfl, q σ rfl k⟩
theorem gcs_cons {K : PySem.W.Frag} {vs : List Nat} {g : TG} {gs : TGs} {Γ Γ1 Γ2 : List Sl} {d : D} {ds : List D} (h1 : gcOk K g vs Γ d Γ1) (h2 : gcsOk K gs vs Γ1 ds Γ2) : gcsOk K (gCons g gs) vs Γ (d :: ds) Γ2 := fun I0 H0 I σ H ws Q k h q => by
  cases h with
  | cons a b => exact ⟨_, _, rfl, h1 I0 H0 I σ H _ _ k a fun σ' e k' => h2 I0 H0 I σ' H _ Q k' b fun σ2 e2 k2 => q σ2 (e2.trans e) k2⟩
theorem gc_tup {K : PySem.W.Frag} {vs : List Nat} {gs : TGs} {Γ Γ' : List Sl} {ds : List D} {n : Nat} (h : gcsOk K gs vs Γ ds Γ') (hl : ds.length = n := by rfl) : gcOk K (gTup K n gs) vs Γ (.tup ds) Γ' := fun I0 H0 I σ H v Q k hv q => by
  cases hv with
  | tup a b => exact ⟨_, _, rfl, sqt_same k.same a, b.length.trans hl, h I0 H0 I σ H _ Q k b q⟩
/-- what the block does, where it is known of every block -/
def teB (X : Cx) (scope : Scope) (e : Expr) : TE := fun σ H Q => ∃ Γ d, (∀ s H C cl fp, JE (Blk X scope s H C cl fp) Γ e d) ∧ tE X.K Γ d σ H Q
theorem pe_B {X : Cx} {scope : Scope} {e : Expr} (s : Shared) (H : Hp) (C : Addr) (cl : List (Str × Addr)) (fp : List Addr) : PE (Blk X scope s H C cl fp) e (teB X scope e) := ⟨fun pins s' σ H' Q I ⟨Γ, d, j, t⟩ => (j s H C cl fp).pe.run pins s' σ H' Q I t⟩
def ttB (X : Cx) (scope : Scope) (e : Expr) : TT := fun σ H Q => ∃ Γ p, (∀ s H C cl fp, JT (Blk X scope s H C cl fp) Γ e p) ∧ tT X.K Γ p σ H Q
theorem pt_B {X : Cx} {scope : Scope} {e : Expr} (s : Shared) (H : Hp) (C : Addr) (cl : List (Str × Addr)) (fp : List Addr) : PT (Blk X scope s H C cl fp) e (ttB X scope e) := ⟨fun pins s' σ H' Q I ⟨Γ, d, j, t⟩ => (j s H C cl fp).pt.run pins s' σ H' Q I t⟩
section
variable {X : Cx} {W : WX} {Γ : List Sl} {elt tg iter : Expr} {ifs : List Expr} {scope : Scope} {own : List (Str × Nat)} {g : TG}
/-- a new list that grows beside the state -/
structure Acc (K : PySem.W.Frag) (Γ : List Sl) (I1 H1 : Hp) (σ : L2.St) (D : Addr) (ds : List Bw.D) (I : Hp) (H : Hp) : Prop where
  ok : ∃ J0 G0, Ok K J0 G0 Γ I σ H
  i1 : Same I1 I
  h1 : Same H1 H
  nc : ∀ a o, I a = some o → I1 a = some o ∨ H1 a = none
  d : ∃ vs, H D = some (.lst vs) ∧ IsL K I vs ds
  di : I D = none
  d1 : H1 D = none
theorem Acc.step {K : PySem.W.Frag} {I1 H1 I H I' H' : Hp} {σ : L2.St} {D : Addr} {ds : List Bw.D} (a : Acc K Γ I1 H1 σ D ds I H) (g : Grow I H I' H') : Acc K Γ I1 H1 σ D ds I' H' := by
  obtain ⟨J0, G0, k⟩ := a.ok
  obtain ⟨vs, e, l⟩ := a.d
  refine ⟨⟨J0, G0, k.step g⟩, a.i1.trans g.i0, a.h1.trans g.h0, fun b o q => ?_, ⟨vs, g.h0 _ _ e, l.mono g.i0⟩, ?_, a.d1⟩
  · rcases g.nc b o q with z | z
    · exact a.nc b o z
    · exact .inr (a.h1.free z)
  · cases z : I' D with
    | none => rfl
    | some w =>
      rcases g.nc D w z with y | y
      · rw [a.di] at y; cases y
      · rw [e] at y; cases y
theorem Acc.push {K : PySem.W.Frag} {I1 H1 I H : Hp} {σ : L2.St} {D : Addr} {ds : List Bw.D} {vs : List V} {v : V} {d : Bw.D} (a : Acc K Γ I1 H1 σ D ds I H) (e : H D = some (.lst vs)) (l : IsL K I vs ds) (h : Is K I v d)
    (fr : ∀ (j : Nat) (s : Sl), Γ[j]? = some s → s.own = true → σ[j]? ≠ some (some (.ref D))) : Acc K Γ I1 H1 σ D (ds ++ [d]) I (upd H D (.lst (vs ++ [v]))) := by
  obtain ⟨J0, G0, k⟩ := a.ok
  have sI : Same I (upd H D (.lst (vs ++ [v]))) := fun b o q => by
    rw [upd_ne (ne_of_none q a.di)]
    exact k.same b o q
  have k0 : Ok K I (fun _ => none) Γ I σ H := ⟨⟨k.same, fun _ _ z => (nomatch z), Same.refl _, fun _ _ q => .inl q⟩, k.len, k.sl, fun i s q w => by
    obtain ⟨b, e1, e2, e3, _⟩ := k.ow i s q w
    exact ⟨b, e1, e2, e3, rfl⟩, k.inj⟩
  refine ⟨⟨I, fun _ => none, ⟨⟨sI, fun _ _ z => (nomatch z), Same.refl _, fun _ _ q => .inl q⟩, k.len, k.sl, fun i s q w => ?_, k.inj⟩⟩, a.i1, fun b o q => ?_, a.nc, ⟨_, upd_same, l.append (.cons h .nil)⟩, a.di, a.d1⟩
  · obtain ⟨b, e1, e2, e3, e4⟩ := k0.ow i s q w
    have nb : b ≠ D := fun z => fr i s q w (z ▸ e1)
    refine ⟨b, e1, ?_, e3, e4⟩
    cases s with
    | ml es =>
      obtain ⟨us, q1, q2⟩ := e2
      exact ⟨us, by rw [upd_ne nb]; exact q1, q2⟩
    | _ => exact e2
  · rw [upd_ne (ne_of_none q a.d1)]
    exact a.h1 b o q
theorem filterMap_take {α β : Type} {f : α → Option β} {xs : List α} {i : Nat} {x : α} (h : xs[i]? = some x) : (xs.take (i + 1)).filterMap f = (xs.take i).filterMap f ++ (match f x with | some y => [y] | none => []) := by
  rw [List.take_add_one, h, List.filterMap_append]
  congr 1
  simp only [Option.toList_some, List.filterMap_cons, List.filterMap_nil]
  cases f x <;> rfl
theorem fm_some {α β : Type} (f : α → β) : ∀ xs : List α, xs.filterMap (fun x => some (f x)) = xs.map f
  | [] => rfl
  | x :: xs => by rw [List.filterMap_cons, List.map_cons, fm_some f xs]
theorem fm_if {α β : Type} (p : α → Prop) [DecidablePred p] (f : α → β) : ∀ xs : List α, xs.filterMap (fun x => if p x then some (f x) else none) = (xs.filter fun x => decide (p x)).map f
  | [] => rfl
  | x :: xs => by
    rw [List.filterMap_cons, List.filter_cons, fm_if p f xs]
    by_cases h : p x
    · rw [if_pos h, decide_eq_true h] <;> rfl
    · rw [if_neg h, decide_eq_false h] <;> rfl
/-- THE READING of a comprehension: f tells of each item whether it is kept, and what is put in -/
theorem lc_reads {α : Type} (encα : α → D) (xs : List α) (f : α → Option D) (Γx : α → List Sl) (hn : xs.length ≤ 100000) (wi : TI) (hwi : ∀ σ H R, tIh X.K Γ (xs.map encα) σ H R → wi σ H R)
    (hg : ∀ x ∈ xs, gcOk X.K g (own.map (·.2)) (wipeΓ Γ (own.map (·.2))) (encα x) (Γx x)) (tt : TT) (te : TE)
    (hy : ∀ x ∈ xs, ∀ d, f x = some d → (∀ (σ : L2.St) (H : Hp) (Q : Bool → Hp → Prop) (I0 H0 I : Hp), Ok X.K I0 H0 (Γx x) I σ H → (∀ I' H', Grow I H I' H' → Q true H') → tt σ H Q) ∧ ∀ (σ : L2.St) (H : Hp) (Q : VK) (I0 H0 I : Hp), Ok X.K I0 H0 (Γx x) I σ H → (∀ I' v H', Grow I H I' H' → Is X.K I' v d → Q v H') → te σ H Q)
    (hn' : ∀ x ∈ xs, f x = none → ∀ (σ : L2.St) (H : Hp) (Q : Bool → Hp → Prop) (I0 H0 I : Hp), Ok X.K I0 H0 (Γx x) I σ H → (∀ I' H', Grow I H I' H' → Q false H') → tt σ H Q)
    (σ : L2.St) (H : Hp) (Q : VK) (h : tLn X.K Γ (xs.filterMap f) σ H Q) : tLc wi g tt te (own.map (·.2)) σ H Q := by
  obtain ⟨I0, H0, I, k, q⟩ := h
  refine hwi σ H _ ⟨I0, H0, I, k, fun J I1 H1 g1 gv A hA => ?_⟩
  have k1 := k.step g1
  have kw := ok_wipe k1 (own.map (·.2))
  have frA : ∀ (j : Nat) (s : Sl), (wipeΓ Γ (own.map (·.2)))[j]? = some s → s.own = true → (wipe σ (own.map (·.2)))[j]? ≠ some (some (.ref A)) := fun j s e w z => by
    obtain ⟨b, e1, e2, _⟩ := kw.ow j s e w
    rw [e1] at z
    cases z
    obtain ⟨y, hy⟩ := e2.some
    rw [hA] at hy
    cases hy
  have base : Acc X.K (wipeΓ Γ (own.map (·.2))) I1 H1 (wipe σ (own.map (·.2))) A [] I1 (upd H1 A (.lst [])) :=
    ⟨⟨I0, H0, kw.newO hA⟩, Same.refl _, fun b o e => by rw [upd_ne (ne_of_none e hA)]; exact e, fun _ _ e => .inl e, ⟨[], upd_same, .nil⟩, k1.same.free hA, hA⟩
  refine ⟨fun i m H => i ≤ xs.length ∧ m = xs.length - i ∧ ∃ R, Acc X.K (wipeΓ Γ (own.map (·.2))) I1 H1 (wipe σ (own.map (·.2))) A ((xs.take i).filterMap f) R H, ⟨xs.length, Nat.zero_le _, by simp, I1, by simpa using base⟩, ?_⟩
  rintro i m H2 ⟨hi, rfl, R, a⟩
  obtain ⟨J0, G0, k2⟩ := a.ok
  by_cases hlt : i < xs.length
  · refine .inr ⟨gv.go i R H2 (by simpa using hlt) a.i1 k2.same a.h1, ?_⟩
    have hx : xs[i]? = some xs[i] := by simp [hlt]
    have hm : xs[i] ∈ xs := List.getElem_mem hlt
    refine ⟨fun H => ∃ R, Acc X.K (wipeΓ Γ (own.map (·.2))) I1 H1 (wipe σ (own.map (·.2))) A ((xs.take (i + 1)).filterMap f) R H, fun H' ⟨R', a'⟩ => ⟨xs.length - (i + 1), by omega, hlt, rfl, R', a'⟩, fun x H3 y => ?_⟩
    obtain ⟨R3, g3, hxi⟩ := gv.yld i (encα xs[i]) R H2 x H3 (by simp [hlt]) a.i1 k2.same a.h1 y
    have a3 := a.step g3
    obtain ⟨J3, G3, k3⟩ := a3.ok
    refine hg xs[i] hm J3 G3 R3 _ H3 x _ k3 hxi fun σ' ew k4 => ⟨ew.trans (by
      have : ∀ (σ : L2.St) (vs : List Nat), wipe (wipe σ vs) vs = wipe σ vs := by
        intro σ vs
        have key : ∀ (us : List Nat) (σ : L2.St), (∀ j ∈ us, ∀ z, σ[j]? = some z → z = none) → wipe σ us = σ := by
          intro us
          induction us with
          | nil => intro σ _; rfl
          | cons w ws ih =>
            intro σ hz
            unfold wipe
            rw [ih σ fun j hj => hz j (List.mem_cons_of_mem _ hj)]
            apply List.ext_getElem?
            intro j
            by_cases e : j = w
            · subst e
              by_cases hl : j < σ.length
              · rw [List.getElem?_set_self hl]
                have := hz j List.mem_cons_self σ[j] (by simp [hl])
                simp [hl, this]
              · rw [List.getElem?_eq_none (by simpa using hl), List.getElem?_eq_none (by simpa using hl)]
            · rw [List.getElem?_set_ne (Ne.symm e)]
        refine key vs _ fun j hj z hz => ?_
        cases z with
        | none => rfl
        | some v => exact absurd hj (wipe_some hz).2
      exact this σ _), ?_⟩
    cases hf : f xs[i] with
    | none =>
      refine hn' xs[i] hm hf σ' H3 _ J3 G3 R3 k4 fun R4 H4 g4 => ?_
      rw [if_neg Bool.false_ne_true]
      have e : (xs.take (i + 1)).filterMap f = (xs.take i).filterMap f := by rw [filterMap_take hx, hf, List.append_nil]
      rw [e]
      exact ⟨R4, a3.step g4⟩
    | some d =>
      obtain ⟨h1, h2⟩ := hy xs[i] hm d hf
      refine h1 σ' H3 _ J3 G3 R3 k4 fun R4 H4 g4 => ?_
      rw [if_pos rfl]
      refine h2 σ' H4 _ J3 G3 R4 (k4.step g4) fun R5 v H5 g5 hv => ?_
      have a5 := (a3.step g4).step g5
      obtain ⟨vs, e5, l5⟩ := a5.d
      have e : (xs.take (i + 1)).filterMap f = (xs.take i).filterMap f ++ [d] := by rw [filterMap_take hx, hf]
      rw [e]
      refine ⟨vs, e5, ?_, R5, a5.push e5 l5 hv frA⟩
      have e6 := l5.length
      have e7 : ((xs.take i).filterMap f).length ≤ (xs.take i).length := List.length_filterMap_le _ _
      have e8 : (xs.take i).length ≤ xs.length := by rw [List.length_take]; exact Nat.min_le_right _ _
      have e9 : sizeLine = 16777216 := sizeLine_eq
      omega
  · have e : i = xs.length := by omega
    subst e
    rw [List.take_length] at a
    obtain ⟨vs, e5, l5⟩ := a.d
    refine .inl ⟨?_, q R A vs H2 ?_ (g1.h0.free hA) a.di e5 l5⟩
    · have := gv.stop R H2 a.i1 k2.same a.h1
      simpa using this
    · exact g1.trans ⟨k2.same, a.h1, a.i1, a.nc⟩
/-- a comprehension that comes to the new list ds -/
structure JC (X : Cx) (Γ : List Sl) (elt tg iter : Expr) (ifs : List Expr) (scope : Scope) (ds : List D) : Prop where
  ex : ∃ (own : List (Str × Nat)) (wi : TI) (g : TG) (tt : TT) (te : TE), X.calm = true ∧ X.N.Nodup ∧ PI X tg iter wi ∧ BlkOk X.N X.env.scope scope own ∧ (∀ s H C cl fp, PG (Blk X scope s H C cl fp) tg g) ∧ (∀ s H C cl fp, PTs (Blk X scope s H C cl fp) ifs tt) ∧ (∀ s H C cl fp, PE (Blk X scope s H C cl fp) elt te) ∧ (∀ x, foldedSetIterable iter X.env x = pure x) ∧
    ∀ σ H Q, tLn X.K Γ ds σ H Q → tLc wi g tt te (own.map (·.2)) σ H Q
theorem JC.l {ds : List D} {pos : Pos} (h : JC X Γ elt tg iter ifs scope ds) : JL X Γ (.ListComp elt [⟨tg, iter, ifs, 0⟩] scope pos) ds := by
  obtain ⟨own, wi, g, tt, te, hc, hN, hi, ok, hg, ht, he, hs, k⟩ := h.ex
  exact ⟨PEweak (pe_lc hc hN hi ok hg ht he hs) k⟩
theorem JC.eq {ds ds' : List D} (h : JC X Γ elt tg iter ifs scope ds) (e : ds = ds') : JC X Γ elt tg iter ifs scope ds' := e ▸ h
/-- [e for tg in iter] -/
theorem jc_comp {α β : Type} (encα : α → D) (encβ : β → D) (xs : List α) (f : α → β) (Γx : α → List Sl) (hN : X.N.Nodup) (hi : JIh X Γ tg iter (xs.map encα)) (ok : BlkOk X.N X.env.scope scope own) (hn : xs.length ≤ 100000)
    (hg : ∀ s H C cl fp, PG (Blk X scope s H C cl fp) tg g) (hgc : ∀ x ∈ xs, gcOk X.K g (own.map (·.2)) (wipeΓ Γ (own.map (·.2))) (encα x) (Γx x))
    (he : ∀ x ∈ xs, ∀ s H C cl fp, JE (Blk X scope s H C cl fp) (Γx x) elt (encβ (f x))) (hc : X.calm = true := by rfl) (hs : ∀ x, foldedSetIterable iter X.env x = pure x := by intro _; rfl) :
    JC X Γ elt tg iter [] scope ((xs.map f).map encβ) := by
  refine ⟨own, _, g, _, teB X scope elt, hc, hN, hi.pi, ok, hg, fun _ _ _ _ _ => pts_nil, fun s H C cl fp => pe_B s H C cl fp, hs, fun σ H Q h => ?_⟩
  rw [List.map_map, ← fm_some] at h
  exact lc_reads encα xs (fun x => some ((encβ ∘ f) x)) Γx hn _ (fun _ _ _ z => z) hgc _ _ (fun x hx d e => ⟨fun σ H Q I0 H0 I k q => q I H (Grow.refl k.same), fun σ H Q I0 H0 I k q => ⟨Γx x, d, by cases e; exact he x hx, I0, H0, I, k, q⟩⟩) (fun x hx e => by cases e) σ H Q h
/-- [e for tg in iter if c] -/
theorem jc_compIf {α β : Type} {c : Expr} (encα : α → D) (encβ : β → D) (xs : List α) (p : α → Prop) [DecidablePred p] (f : α → β) (Γx : α → List Sl) (hN : X.N.Nodup) (hi : JIh X Γ tg iter (xs.map encα)) (ok : BlkOk X.N X.env.scope scope own) (hn : xs.length ≤ 100000)
    (hg : ∀ s H C cl fp, PG (Blk X scope s H C cl fp) tg g) (hgc : ∀ x ∈ xs, gcOk X.K g (own.map (·.2)) (wipeΓ Γ (own.map (·.2))) (encα x) (Γx x))
    (ht : ∀ x ∈ xs, ∀ s H C cl fp, JT (Blk X scope s H C cl fp) (Γx x) c (p x)) (he : ∀ x ∈ xs, p x → ∀ s H C cl fp, JE (Blk X scope s H C cl fp) (Γx x) elt (encβ (f x))) (hc : X.calm = true := by rfl) (hs : ∀ x, foldedSetIterable iter X.env x = pure x := by intro _; rfl) :
    JC X Γ elt tg iter [c] scope (((xs.filter fun x => decide (p x)).map f).map encβ) := by
  refine ⟨own, _, g, _, teB X scope elt, hc, hN, hi.pi, ok, hg, fun s H C cl fp => pts_one (pt_B s H C cl fp), fun s H C cl fp => pe_B s H C cl fp, hs, fun σ H Q h => ?_⟩
  refine lc_reads encα xs (fun x => if p x then some (encβ (f x)) else none) Γx hn _ (fun _ _ _ z => z) hgc _ _ (fun x hx d e => ?_) (fun x hx e => ?_) σ H Q ?_
  · by_cases hp : p x
    · rw [if_pos hp] at e
      cases e
      exact ⟨fun σ H Q I0 H0 I k q => ⟨Γx x, p x, ht x hx, I0, H0, I, k, fun I' H' b g e => by rw [e.mpr hp]; exact q I' H' g⟩, fun σ H Q I0 H0 I k q => ⟨Γx x, _, he x hx hp, I0, H0, I, k, q⟩⟩
    · rw [if_neg hp] at e; cases e
  · by_cases hp : p x
    · rw [if_pos hp] at e; cases e
    · exact fun σ H Q I0 H0 I k q => ⟨Γx x, p x, ht x hx, I0, H0, I, k, fun I' H' b g e => by
        have : b = false := by
          cases b with
          | false => rfl
          | true => exact absurd (e.mp rfl) hp
        rw [this]; exact q I' H' g⟩
  · rw [List.map_map, ← fm_if] at h
    exact h
/-- y = [..], y a local: as data; as an own list -/
theorem js_setC (i : Nat) {y : Str} {py : Pos} {ds : List D} {rest : List Stmt} {u : TS} {o : O} {pos spos : Pos} (hc : JC X Γ elt tg iter ifs scope ds) (hr : JS X W rest u (Γ.set i (.im (.lst ds))) o) (hy : X.N[i]? = some y := by rfl) (hyl : X.env.scope.names.lookup y = some .local := by rfl)
    (hsw : swapsWith (.ListComp elt [⟨tg, iter, ifs, 0⟩] scope pos) (some (.Name y py)) spos.line X.env = pure true := by exact sw_true rfl rfl rfl (by decide +kernel)) : JS X W (.Assign [.Name y py] (.ListComp elt [⟨tg, iter, ifs, 0⟩] scope pos) spos :: rest) u Γ o := by
  obtain ⟨own, wi, g, tt, te, hc, hN, hi, ok, hg, ht, he, hs, k⟩ := hc.ex
  refine js_cons (ps_setLc hc hN hy hyl hsw hi ok hg ht he hs) hr fun D' σ H I0 H0 I o q => k σ H _ ⟨I0, H0, I, o, fun I' a vs H' g n i h l => ?_⟩
  exact q _ _ H' ((o.step (grow_freeze g n i h)).setIm (.lst (Rd.of upd_same) (l.mono (same_upd i))))
theorem js_setCL (i : Nat) {y : Str} {py : Pos} {ds : List D} {rest : List Stmt} {u : TS} {o : O} {pos spos : Pos} (hc : JC X Γ elt tg iter ifs scope ds) (hr : JS X W rest u (Γ.set i (.ml ds)) o) (hy : X.N[i]? = some y := by rfl) (hyl : X.env.scope.names.lookup y = some .local := by rfl)
    (hsw : swapsWith (.ListComp elt [⟨tg, iter, ifs, 0⟩] scope pos) (some (.Name y py)) spos.line X.env = pure true := by exact sw_true rfl rfl rfl (by decide +kernel)) : JS X W (.Assign [.Name y py] (.ListComp elt [⟨tg, iter, ifs, 0⟩] scope pos) spos :: rest) u Γ o := by
  obtain ⟨own, wi, g, tt, te, hc, hN, hi, ok, hg, ht, he, hs, k⟩ := hc.ex
  refine js_cons (ps_setLc hc hN hy hyl hsw hi ok hg ht he hs) hr fun D' σ H I0 H0 I o q => k σ H _ ⟨I0, H0, I, o, fun I' a vs H' g n i h l => ?_⟩
  exact q I' _ H' ((o.step g).setOwn ⟨i, o.g.h0.free n, fun j s e w z => by
    obtain ⟨b, e1, e2, _⟩ := o.ow j s e w
    rw [e1] at z
    cases z
    obtain ⟨y, hy⟩ := e2.some
    rw [n] at hy
    cases hy⟩ ⟨vs, h, l⟩ rfl)
end
end Bw
/-! B6: more words: numbers, ==, lists by their items, isinstance. -/
namespace Bw
open PySem PySem.Spec PyProof.Rows L2
abbrev e_n : Unit → D := fun _ => .non
abbrev e_v : Empty → D := fun _ => .non
/-! ### == of data -/
mutual
def D.py : D → PyData
  | .non => .none
  | .bl b => .bool b
  | .int i => .int i
  | .str x => .str x
  | .tup ds => .tuple (D.pys ds)
  | .lst ds => .list (D.pys ds)
  | .scr ds => .list (D.pys ds)
  | .ins _ _ _ => .none
  | .adr _ => .none
def D.pys : List D → List PyData
  | [] => []
  | d :: ds => D.py d :: D.pys ds
end
mutual
/-- data without objects and texts, of depth n at most -/
def D.lay : Nat → D → Bool
  | _, .non => true
  | _, .bl _ => true
  | _, .int _ => true
  | _, .str x => PyData.strOk x
  | 0, _ => false
  | n + 1, .tup ds => D.lays n ds
  | n + 1, .lst ds => D.lays n ds
  | _, .scr _ => false
  | _, .ins _ _ _ => false
  | _, .adr _ => false
def D.lays : Nat → List D → Bool
  | _, [] => true
  | n, d :: ds => D.lay n d && D.lays n ds
end
mutual
def D.eqb : D → D → Bool
  | .non, .non => true
  | .bl a, .bl b => a == b
  | .bl a, .int j => (if a then 1 else 0) == j
  | .int i, .bl b => i == (if b then 1 else 0)
  | .int i, .int j => i == j
  | .str x, .str y => x == y
  | .tup xs, .tup ys => D.eqbs xs ys
  | .lst xs, .lst ys => D.eqbs xs ys
  | _, _ => false
def D.eqbs : List D → List D → Bool
  | [], [] => true
  | x :: xs, y :: ys => D.eqb x y && D.eqbs xs ys
  | _, _ => false
end
section
variable {K : PySem.W.Frag} {I : Hp}
mutual
theorem Is.dp {n : Nat} : ∀ {d : D} {v : V}, Is K I v d → d.lay n = true → Dp K I v d.py
  | .non, _, h, _ => by cases h; exact .non
  | .bl b, _, h, _ => by cases h; exact .bl b
  | .int i, _, h, _ => by cases h; exact .int i
  | .str x, _, h, _ => by cases h; exact .str x
  | .tup ds, _, h, l => by
    cases n with
    | zero => simp [D.lay] at l
    | succ n =>
      cases h with
      | tup h1 h2 => rw [D.py]; exact .tup h1 (IsL.dp (n := n) h2 (by simpa [D.lay] using l))
  | .lst ds, _, h, l => by
    cases n with
    | zero => simp [D.lay] at l
    | succ n =>
      cases h with
      | lst h1 h2 => rw [D.py]; exact .lst (.inl h1) (IsL.dp (n := n) h2 (by simpa [D.lay] using l))
  | .scr ds, _, h, l => by cases n <;> simp [D.lay] at l
  | .ins C fs ds, _, h, l => by cases n <;> simp [D.lay] at l
  | .adr C, _, h, l => by cases n <;> simp [D.lay] at l
theorem IsL.dp {n : Nat} : ∀ {ds : List D} {vs : List V}, IsL K I vs ds → D.lays n ds = true → DpAll K I vs (D.pys ds)
  | [], _, h, _ => by cases h; exact .nil
  | d :: ds, _, h, l => by
    cases h with
    | cons h1 h2 =>
      have l' : d.lay n = true ∧ D.lays n ds = true := by simpa [D.lays] using l
      rw [D.pys]
      exact .cons (Is.dp (n := n) h1 l'.1) (IsL.dp (n := n) h2 l'.2)
end
end
mutual
theorem lay_shaped {n : Nat} : ∀ {d : D}, d.lay n = true → d.py.canLay0 = true ∧ d.py.depth ≤ n
  | .non, _ => by simp [D.py, PyData.canLay0, PyData.depth]
  | .bl b, _ => by simp [D.py, PyData.canLay0, PyData.depth]
  | .int i, _ => by simp [D.py, PyData.canLay0, PyData.depth]
  | .str x, l => by
    have : PyData.strOk x = true := by cases n <;> simpa [D.lay] using l
    simp [D.py, PyData.canLay0, PyData.depth, this]
  | .tup ds, l => by
    cases n with
    | zero => simp [D.lay] at l
    | succ n =>
      obtain ⟨h1, h2⟩ := lays_shaped (n := n) (ds := ds) (by simpa [D.lay] using l)
      exact ⟨by simpa [D.py, PyData.canLay0] using h1, by simpa [D.py, PyData.depth] using h2⟩
  | .lst ds, l => by
    cases n with
    | zero => simp [D.lay] at l
    | succ n =>
      obtain ⟨h1, h2⟩ := lays_shaped (n := n) (ds := ds) (by simpa [D.lay] using l)
      exact ⟨by simpa [D.py, PyData.canLay0] using h1, by simpa [D.py, PyData.depth] using h2⟩
  | .scr ds, l => by cases n <;> simp [D.lay] at l
  | .ins C fs ds, l => by cases n <;> simp [D.lay] at l
  | .adr C, l => by cases n <;> simp [D.lay] at l
theorem lays_shaped {n : Nat} : ∀ {ds : List D}, D.lays n ds = true → PyData.canLayAll0 (D.pys ds) = true ∧ PyData.depthAll (D.pys ds) ≤ n
  | [], _ => by simp [D.pys, PyData.canLayAll0, PyData.depthAll]
  | d :: ds, l => by
    have l' : d.lay n = true ∧ D.lays n ds = true := by simpa [D.lays] using l
    obtain ⟨h1, h2⟩ := lay_shaped l'.1
    obtain ⟨h3, h4⟩ := lays_shaped l'.2
    refine ⟨by simp [D.pys, PyData.canLayAll0, h1, h3], ?_⟩
    simp only [D.pys, PyData.depthAll]
    omega
end
mutual
theorem eqv_py {n m : Nat} : ∀ (d e : D), d.lay n = true → e.lay m = true → PyData.eqv d.py e.py = D.eqb d e
  | .tup xs, .tup ys, l, r => by
    cases n with
    | zero => simp [D.lay] at l
    | succ n =>
      cases m with
      | zero => simp [D.lay] at r
      | succ m =>
        have := eqvs_py (n := n) (m := m) xs ys (by simpa [D.lay] using l) (by simpa [D.lay] using r)
        simpa [D.py, PyData.eqv, D.eqb] using this
  | .lst xs, .lst ys, l, r => by
    cases n with
    | zero => simp [D.lay] at l
    | succ n =>
      cases m with
      | zero => simp [D.lay] at r
      | succ m =>
        have := eqvs_py (n := n) (m := m) xs ys (by simpa [D.lay] using l) (by simpa [D.lay] using r)
        simpa [D.py, PyData.eqv, D.eqb] using this
  | .non, e, l, r => by cases e <;> first | (simp [D.py, PyData.eqv, D.eqb]; done) | (cases m <;> simp [D.lay] at r)
  | .bl b, e, l, r => by cases e <;> first | (simp [D.py, PyData.eqv, D.eqb]; done) | (cases m <;> simp [D.lay] at r)
  | .int b, e, l, r => by cases e <;> first | (simp [D.py, PyData.eqv, D.eqb]; done) | (cases m <;> simp [D.lay] at r)
  | .str b, e, l, r => by cases e <;> first | (simp [D.py, PyData.eqv, D.eqb]; done) | (cases m <;> simp [D.lay] at r)
  | .scr ds, _, l, _ => by cases n <;> simp [D.lay] at l
  | .ins C fs ds, _, l, _ => by cases n <;> simp [D.lay] at l
  | .adr C, _, l, _ => by cases n <;> simp [D.lay] at l
  | .tup xs, .non, l, r => by simp [D.py, PyData.eqv, D.eqb]
  | .tup xs, .bl _, l, r => by simp [D.py, PyData.eqv, D.eqb]
  | .tup xs, .int _, l, r => by simp [D.py, PyData.eqv, D.eqb]
  | .tup xs, .str _, l, r => by simp [D.py, PyData.eqv, D.eqb]
  | .tup xs, .lst _, l, r => by simp [D.py, PyData.eqv, D.eqb]
  | .tup xs, .scr _, l, r => by cases m <;> simp [D.lay] at r
  | .tup xs, .ins _ _ _, l, r => by cases m <;> simp [D.lay] at r
  | .tup xs, .adr _, l, r => by cases m <;> simp [D.lay] at r
  | .lst xs, .non, l, r => by simp [D.py, PyData.eqv, D.eqb]
  | .lst xs, .bl _, l, r => by simp [D.py, PyData.eqv, D.eqb]
  | .lst xs, .int _, l, r => by simp [D.py, PyData.eqv, D.eqb]
  | .lst xs, .str _, l, r => by simp [D.py, PyData.eqv, D.eqb]
  | .lst xs, .tup _, l, r => by simp [D.py, PyData.eqv, D.eqb]
  | .lst xs, .scr _, l, r => by cases m <;> simp [D.lay] at r
  | .lst xs, .ins _ _ _, l, r => by cases m <;> simp [D.lay] at r
  | .lst xs, .adr _, l, r => by cases m <;> simp [D.lay] at r
theorem eqvs_py {n m : Nat} : ∀ (ds es : List D), D.lays n ds = true → D.lays m es = true → PyData.eqvAll (D.pys ds) (D.pys es) = D.eqbs ds es
  | [], [], _, _ => by simp [D.pys, PyData.eqvAll, D.eqbs]
  | [], _ :: _, _, _ => by simp [D.pys, PyData.eqvAll, D.eqbs]
  | _ :: _, [], _, _ => by simp [D.pys, PyData.eqvAll, D.eqbs]
  | d :: ds, e :: es, l, r => by
    have l' : d.lay n = true ∧ D.lays n ds = true := by simpa [D.lays] using l
    have r' : e.lay m = true ∧ D.lays m es = true := by simpa [D.lays] using r
    simp only [D.pys, PyData.eqvAll, D.eqbs, eqv_py d e l'.1 r'.1, eqvs_py ds es l'.2 r'.2]
end
theorem eqb_list {α : Type} {enc : α → D} (h : ∀ x y, D.eqb (enc x) (enc y) = true ↔ x = y) : ∀ xs ys : List α, D.eqb (.lst (xs.map enc)) (.lst (ys.map enc)) = true ↔ xs = ys := by
  have key : ∀ xs ys : List α, D.eqbs (xs.map enc) (ys.map enc) = true ↔ xs = ys := by
    intro xs
    induction xs with
    | nil => intro ys; cases ys <;> simp [D.eqbs]
    | cons x xs ih => intro ys; cases ys <;> simp [D.eqbs, h, ih]
  intro xs ys
  rw [D.eqb]
  exact key xs ys
mutual
theorem lay_mono {n m : Nat} (hm : n ≤ m) : ∀ (d : D), d.lay n = true → d.lay m = true
  | .non, _ => by cases m <;> simp [D.lay]
  | .bl _, _ => by cases m <;> simp [D.lay]
  | .int _, _ => by cases m <;> simp [D.lay]
  | .str x, l => by cases n <;> cases m <;> simpa [D.lay] using l
  | .tup ds, l => by
    cases n with
    | zero => simp [D.lay] at l
    | succ n =>
      cases m with
      | zero => omega
      | succ m =>
        rw [D.lay]
        exact lays_mono (n := n) (m := m) (by omega) ds (by simpa [D.lay] using l)
  | .lst ds, l => by
    cases n with
    | zero => simp [D.lay] at l
    | succ n =>
      cases m with
      | zero => omega
      | succ m =>
        rw [D.lay]
        exact lays_mono (n := n) (m := m) (by omega) ds (by simpa [D.lay] using l)
  | .scr ds, l => by cases n <;> simp [D.lay] at l
  | .ins C fs ds, l => by cases n <;> simp [D.lay] at l
  | .adr C, l => by cases n <;> simp [D.lay] at l
theorem lays_mono {n m : Nat} (hm : n ≤ m) : ∀ (ds : List D), D.lays n ds = true → D.lays m ds = true
  | [], _ => by simp [D.lays]
  | d :: ds, l => by
    have l' : d.lay n = true ∧ D.lays n ds = true := by simpa [D.lays] using l
    rw [D.lays, lay_mono hm d l'.1, lays_mono hm ds l'.2] <;> rfl
end
theorem lay_list {α : Type} {enc : α → D} {n : Nat} (h : ∀ x, (enc x).lay n = true) (xs : List α) : (D.lst (xs.map enc)).lay (n + 1) = true := by
  rw [D.lay]
  induction xs with
  | nil => simp [D.lays]
  | cons x xs ih => simp [D.lays, h, ih]
theorem lay_nil {n : Nat} : D.lays n [] = true := by simp [D.lays]
theorem lay_cons {n m : Nat} {d : D} {ds : List D} (h : d.lay m = true) (hm : m ≤ n) (h2 : D.lays n ds = true) : D.lays n (d :: ds) = true := by
  rw [D.lays, lay_mono hm d h, h2] <;> rfl
theorem lay_tup {n : Nat} {ds : List D} (h : D.lays n ds = true) : (D.tup ds).lay (n + 1) = true := by rw [D.lay, h]
theorem lay_int (i : Int) : (D.int i).lay 0 = true := by simp [D.lay]
theorem lay_bl (i : Bool) : (D.bl i).lay 0 = true := by simp [D.lay]
theorem lay_non : D.non.lay 0 = true := by simp [D.lay]
section
variable {X : Cx} {Γ : List Sl} {a b c e : Expr} {es : List Expr} {d dx dy : D} {ds : List D} {pos : Pos} {p q : Prop} {i j : Int}
theorem rp_eqD {K : PySem.W.Frag} {n m : Nat} (h1 : dx.lay n = true) (h2 : dy.lay m = true) (h : D.eqb dx dy = true ↔ p) (hn : n ≤ 60 := by decide) (hm : m ≤ 60 := by decide) : RP K (rEqD K) dx dy p := fun I H v w Q s hv hw k => by
  obtain ⟨a1, a2⟩ := lay_shaped h1
  obtain ⟨b1, b2⟩ := lay_shaped h2
  exact ⟨dx.py, dy.py, (hv.mono s).dp h1, (hw.mono s).dp h2, by unfold SeqAt.shaped; rw [a1, decide_eq_true (by omega)] <;> rfl, by unfold SeqAt.shaped; rw [b1, decide_eq_true (by omega)] <;> rfl, k I H _ (Grow.refl s) (by rw [eqv_py dx dy h1 h2]; exact h)⟩
theorem rp_neD {K : PySem.W.Frag} {n m : Nat} (h1 : dx.lay n = true) (h2 : dy.lay m = true) (h : D.eqb dx dy = true ↔ p) (hn : n ≤ 60 := by decide) (hm : m ≤ 60 := by decide) : RP K (rNeD K) dx dy (¬ p) := fun I H v w Q s hv hw k => by
  obtain ⟨a1, a2⟩ := lay_shaped h1
  obtain ⟨b1, b2⟩ := lay_shaped h2
  exact ⟨dx.py, dy.py, (hv.mono s).dp h1, (hw.mono s).dp h2, by unfold SeqAt.shaped; rw [a1, decide_eq_true (by omega)] <;> rfl, by unfold SeqAt.shaped; rw [b1, decide_eq_true (by omega)] <;> rfl, k I H _ (Grow.refl s) (by rw [eqv_py dx dy h1 h2, Bool.not_eq_true', ← Bool.not_eq_true]; exact not_congr h)⟩
theorem jt_eqD {n m : Nat} (hu : X.A.units + 64 < cLine) (ha : JE X Γ a dx) (hb : JE X Γ b dy) (h1 : dx.lay n = true) (h2 : dy.lay m = true) (h : D.eqb dx dy = true ↔ p) (hn : n ≤ 60 := by decide) (hm : m ≤ 60 := by decide) : JT X Γ (.Compare a [.Eq] [b] pos) p := jt_cmp (op_eqD hu) ha hb (nomark _) (rp_eqD h1 h2 h hn hm)
theorem jt_neD {n m : Nat} (hu : X.A.units + 64 < cLine) (ha : JE X Γ a dx) (hb : JE X Γ b dy) (h1 : dx.lay n = true) (h2 : dy.lay m = true) (h : D.eqb dx dy = true ↔ p) (hn : n ≤ 60 := by decide) (hm : m ≤ 60 := by decide) : JT X Γ (.Compare a [.NotEq] [b] pos) (¬ p) := jt_cmp (op_neD hu) ha hb (nomark _) (rp_neD h1 h2 h hn hm)
theorem je_eqD [Decidable p] {n m : Nat} (hu : X.A.units + 64 < cLine) (ha : JE X Γ a dx) (hb : JE X Γ b dy) (h1 : dx.lay n = true) (h2 : dy.lay m = true) (h : D.eqb dx dy = true ↔ p) (hn : n ≤ 60 := by decide) (hm : m ≤ 60 := by decide) : JE X Γ (.Compare a [.Eq] [b] pos) (.bl (decide p)) := je_cmp (op_eqD hu) ha hb (nomark _) (rp_eqD h1 h2 h hn hm)
theorem je_neD [Decidable p] {n m : Nat} (hu : X.A.units + 64 < cLine) (ha : JE X Γ a dx) (hb : JE X Γ b dy) (h1 : dx.lay n = true) (h2 : dy.lay m = true) (h : D.eqb dx dy = true ↔ p) (hn : n ≤ 60 := by decide) (hm : m ≤ 60 := by decide) : JE X Γ (.Compare a [.NotEq] [b] pos) (.bl (decide (¬ p))) := je_cmp (op_neD hu) ha hb (nomark _) (rp_neD h1 h2 h hn hm)
theorem je_lt (ha : JE X Γ a (.int i)) (hb : JE X Γ b (.int j)) : JE X Γ (.Compare a [.Lt] [b] pos) (.bl (decide (i < j))) := je_cmp op_lt ha hb (nomark _) (rp_I0 decide_eq_true_iff)
theorem je_le (ha : JE X Γ a (.int i)) (hb : JE X Γ b (.int j)) : JE X Γ (.Compare a [.LtE] [b] pos) (.bl (decide (i ≤ j))) := je_cmp op_le ha hb (nomark _) (rp_I0 decide_eq_true_iff)
theorem je_gt (ha : JE X Γ a (.int i)) (hb : JE X Γ b (.int j)) : JE X Γ (.Compare a [.Gt] [b] pos) (.bl (decide (i > j))) := je_cmp op_gt ha hb (nomark _) (rp_I0 decide_eq_true_iff)
theorem je_ge (ha : JE X Γ a (.int i)) (hb : JE X Γ b (.int j)) : JE X Γ (.Compare a [.GtE] [b] pos) (.bl (decide (i ≥ j))) := je_cmp op_ge ha hb (nomark _) (rp_I0 decide_eq_true_iff)
theorem je_eqI (ha : JE X Γ a (.int i)) (hb : JE X Γ b (.int j)) : JE X Γ (.Compare a [.Eq] [b] pos) (.bl (decide (i = j))) := je_cmp op_eq ha hb (nomark _) (rp_eq rfl rfl rfl int_eq)
theorem je_neI (ha : JE X Γ a (.int i)) (hb : JE X Γ b (.int j)) : JE X Γ (.Compare a [.NotEq] [b] pos) (.bl (decide (i ≠ j))) := je_cmp op_ne ha hb (nomark _) (rp_ne rfl rfl rfl (not_congr int_eq))
theorem je_eqS {i j : Str} (ha : JE X Γ a (.str i)) (hb : JE X Γ b (.str j)) : JE X Γ (.Compare a [.Eq] [b] pos) (.bl (decide (i = j))) := je_cmp op_eq ha hb (nomark _) (rp_eq rfl rfl rfl str_eq)
theorem je_neS {i j : Str} (ha : JE X Γ a (.str i)) (hb : JE X Γ b (.str j)) : JE X Γ (.Compare a [.NotEq] [b] pos) (.bl (decide (i ≠ j))) := je_cmp op_ne ha hb (nomark _) (rp_ne rfl rfl rfl (not_congr str_eq))
/-! ### numbers -/
theorem op_mulK : OpR X (binaryOp .Mult) (rI IntMulOk fun i j => .int (i * j)) := opI fun _ _ _ _ _ _ _ hc q => mul_int q hc
theorem je_mulK (ha : JE X Γ a (.int i)) (hb : JE X Γ b (.int j)) (h : IntMulOk i j) : JE X Γ (.BinOp a .Mult b pos) (.int (i * j)) := je_bin op_mulK ha hb (rd_I h)
theorem mul_small_r (h : -(2 ^ 64) < j ∧ j < 2 ^ 64) : IntMulOk i j := CMul.ok (.inr h)
theorem mul_small_l (h : -(2 ^ 64) < i ∧ i < 2 ^ 64) : IntMulOk i j := CMul.ok (.inl h)
theorem mul_ok {x y : Nat} (ha : i.natAbs < 2 ^ x) (hb : j.natAbs < 2 ^ y) (h : x + y ≤ 134217728) : IntMulOk i j := (mulx_ok ha hb h).ok
theorem div_const (h : 0 < j) (hb : j.natAbs < 2 ^ 255) : CDivW i j := wide_div h hb (by decide) (by decide)
theorem je_powC {k : Nat} (ha : JE X Γ a (.int i)) (hb : JE X Γ b (.int j)) (h : CPow i j) (e : j.toNat = k) : JE X Γ (.BinOp a .Pow b pos) (.int (i ^ k)) := e ▸ je_pow ha hb h
theorem je_divmod {p1 : Pos} (ha : JA X Γ (e :: es) [.int i, .int j]) (hm : X.mg "divmod" = none) (h : CDivW i j) (hg : Gl X "divmod" := by rfl)
    (he : starEach (e :: es) X.env = (false, eval e X.env) :: starEach es X.env := by rfl) (hpl : (backTo pos (starEach es X.env)).any (·.1) = false := by rfl) : JE X Γ (.Call (.Name "divmod" p1) (e :: es) [] pos) (.tup [.int (i / j), .int (i % j)]) :=
  je_callB (he := he) (hpl := hpl) call_divmodW hm ha (fun I H vs Q s hh k => by
    obtain ⟨v, w, rfl, hv, hw⟩ := isl2 hh
    have np := PyProof.noPylong_of_log2 (x := i) h.2
    exact ⟨i, j, by rw [hv.int_inv, hw.int_inv], ⟨h.1, np⟩, fun p hp => k _ _ _ (grow_new s hp) (.tup (SqT.of upd_same) (.cons (.int _) (.cons (.int _) .nil)))⟩) hg
theorem je_max2 {p1 : Pos} (ha : JA X Γ (e :: es) [.int i, .int j]) (hm : X.mg "max" = none) (hc : X.calm = true := by rfl) (hg : Gl X "max" := by rfl)
    (he : starEach (e :: es) X.env = (false, eval e X.env) :: starEach es X.env := by rfl) (hpl : (backTo pos (starEach es X.env)).any (·.1) = false := by rfl) : JE X Γ (.Call (.Name "max" p1) (e :: es) [] pos) (.int (imax i j)) :=
  je_callB (he := he) (hpl := hpl) (call_max2 hc) hm ha (fun I H vs Q s hh k => by
    obtain ⟨v, w, rfl, hv, hw⟩ := isl2 hh
    exact ⟨i, j, by rw [hv.int_inv, hw.int_inv], k _ _ _ (Grow.refl s) (.int _)⟩) hg
theorem je_min2 {p1 : Pos} (ha : JA X Γ (e :: es) [.int i, .int j]) (hm : X.mg "min" = none) (hc : X.calm = true := by rfl) (hg : Gl X "min" := by rfl)
    (he : starEach (e :: es) X.env = (false, eval e X.env) :: starEach es X.env := by rfl) (hpl : (backTo pos (starEach es X.env)).any (·.1) = false := by rfl) : JE X Γ (.Call (.Name "min" p1) (e :: es) [] pos) (.int (imin i j)) :=
  je_callB (he := he) (hpl := hpl) (call_min2 hc) hm ha (fun I H vs Q s hh k => by
    obtain ⟨v, w, rfl, hv, hw⟩ := isl2 hh
    exact ⟨i, j, by rw [hv.int_inv, hw.int_inv], k _ _ _ (Grow.refl s) (.int _)⟩) hg
theorem je_intB {p1 : Pos} {b : Bool} (ha : JA X Γ (e :: es) [.bl b]) (hm : X.mg "int" = none) (hg : Gl X "int" := by rfl)
    (he : starEach (e :: es) X.env = (false, eval e X.env) :: starEach es X.env := by rfl) (hpl : (backTo pos (starEach es X.env)).any (·.1) = false := by rfl) : JE X Γ (.Call (.Name "int" p1) (e :: es) [] pos) (.int (if b then 1 else 0)) :=
  je_callT (he := he) (hpl := hpl) call_int1 hm ha (fun I H vs Q s hh k => by
    obtain ⟨v, rfl, hv⟩ := isl1 hh
    exact .inr ⟨b, by rw [hv.bl_inv], k _ _ _ (Grow.refl s) (.int _)⟩) hg
theorem je_intI {p1 : Pos} (ha : JA X Γ (e :: es) [.int i]) (hm : X.mg "int" = none) (hg : Gl X "int" := by rfl)
    (he : starEach (e :: es) X.env = (false, eval e X.env) :: starEach es X.env := by rfl) (hpl : (backTo pos (starEach es X.env)).any (·.1) = false := by rfl) : JE X Γ (.Call (.Name "int" p1) (e :: es) [] pos) (.int i) :=
  je_callT (he := he) (hpl := hpl) call_int1 hm ha (fun I H vs Q s hh k => by
    obtain ⟨v, rfl, hv⟩ := isl1 hh
    exact .inl ⟨i, by rw [hv.int_inv], k _ _ _ (Grow.refl s) (.int _)⟩) hg

/-! ### lists by their items -/
def ixL {α : Type} [Inhabited α] (xs : List α) (i : Int) : α := (atI xs i).getD default
def InB (n : Nat) (i : Int) : Prop := -(n : Int) ≤ i ∧ i < n
theorem at_map {α : Type} [Inhabited α] {enc : α → D} {xs : List α} (h : InB xs.length i) : atI (xs.map enc) i = some (enc (ixL xs i)) := by
  obtain ⟨h1, h2⟩ := h
  have key : ∃ j, ixN xs.length i = some j ∧ j < xs.length := by
    unfold ixN
    by_cases h0 : 0 ≤ i
    · exact ⟨i.toNat, by rw [if_pos h0, if_pos h2], by omega⟩
    · exact ⟨(i + xs.length).toNat, by rw [if_neg h0, if_pos h1], by omega⟩
  obtain ⟨j, e, hj⟩ := key
  unfold ixL atI
  rw [List.length_map, e]
  simp [hj]
theorem je_ixLL {α : Type} [Inhabited α] {enc : α → D} {xs : List α} (ha : JE X Γ a (.lst (xs.map enc))) (hb : JE X Γ b (.int i)) (h : InB xs.length i) (hs : PlainIx b := by intro _ _; rfl) : JE X Γ (.Subscript a b pos) (enc (ixL xs i)) := je_ixL ha hb (at_map h) hs
theorem je_ixSL {α : Type} [Inhabited α] {enc : α → D} {xs : List α} (ha : JE X Γ a (.scr (xs.map enc))) (hb : JE X Γ b (.int i)) (h : InB xs.length i) (hs : PlainIx b := by intro _ _; rfl) : JE X Γ (.Subscript a b pos) (enc (ixL xs i)) := je_ixS ha hb (at_map h) hs
theorem je_ixO {α : Type} [Inhabited α] {enc : α → D} {xs : List α} (k : Nat) {x : Str} {p1 : Pos} (hΓ : Γ[k]? = some (.ml (xs.map enc))) (hb : JE X Γ b (.int i)) (h : InB xs.length i) (hs : PlainIx b := by intro _ _; rfl) (hN : X.N[k]? = some x := by rfl)
    (hv : Vis X.env.scope x := by first | exact Or.inl rfl | exact Or.inr (Or.inl rfl) | exact Or.inr (Or.inr rfl)) (hd : (x == ("__debug__" : Str)) = false := by decide) (hcd : (x == ("__classdict__" : Str)) = false := by decide) : JE X Γ (.Subscript (.Name x p1) b pos) (enc (ixL xs i)) :=
  ⟨PEweak (pe_ix ix_list (pe_var hN hv hd hcd) hb.pe hs) fun σ H Q ⟨I0, H0, I, o, q⟩ => by
    obtain ⟨a, e1, ⟨vs, e2, e3⟩, e4, e5⟩ := o.ow k _ hΓ rfl
    refine ⟨_, e1, I0, H0, I, o, fun I' w H' g hw => ?_⟩
    obtain ⟨z, z1, z2⟩ := at_is (e3.mono g.i0) (at_map h)
    exact ⟨a, vs, i, z, rfl, hw.int_inv, SqL.of (g.h0 _ _ e2), z1, q I' z H' g z2⟩⟩
theorem je_lenL {α : Type} {enc : α → D} {xs : List α} {p1 : Pos} (ha : JA X Γ (e :: es) [.lst (xs.map enc)]) (hm : X.mg "len" = none) (hg : Gl X "len" := by rfl)
    (he : starEach (e :: es) X.env = (false, eval e X.env) :: starEach es X.env := by rfl) (hpl : (backTo pos (starEach es X.env)).any (·.1) = false := by rfl) : JE X Γ (.Call (.Name "len" p1) (e :: es) [] pos) (.int (xs.length : Int)) :=
  je_callB (he := he) (hpl := hpl) call_len_seq hm ha (fun I H vs Q s hh k => by
    obtain ⟨v, rfl, hv⟩ := isl1 hh
    cases hv with
    | lst h1 h2 =>
      refine ⟨_, _, rfl, .inl (.inl (rd_same s h1)), ?_⟩
      rw [h2.length, List.length_map]
      exact k _ _ _ (Grow.refl s) (.int _)) hg
theorem je_lenS {α : Type} {enc : α → D} {xs : List α} {p1 : Pos} (ha : JA X Γ (e :: es) [.scr (xs.map enc)]) (hm : X.mg "len" = none) (hg : Gl X "len" := by rfl)
    (he : starEach (e :: es) X.env = (false, eval e X.env) :: starEach es X.env := by rfl) (hpl : (backTo pos (starEach es X.env)).any (·.1) = false := by rfl) : JE X Γ (.Call (.Name "len" p1) (e :: es) [] pos) (.int (xs.length : Int)) :=
  je_callB (he := he) (hpl := hpl) call_len_seq hm ha (fun I H vs Q s hh k => by
    obtain ⟨v, rfl, hv⟩ := isl1 hh
    cases hv with
    | scr h1 h2 =>
      refine ⟨_, _, rfl, .inl (s.seq h1), ?_⟩
      rw [h2.length, List.length_map]
      exact k _ _ _ (Grow.refl s) (.int _)) hg
theorem je_lenT {p1 : Pos} {n : Nat} (ha : JA X Γ (e :: es) [.tup ds]) (hm : X.mg "len" = none) (hl : ds.length = n := by rfl) (hg : Gl X "len" := by rfl)
    (he : starEach (e :: es) X.env = (false, eval e X.env) :: starEach es X.env := by rfl) (hpl : (backTo pos (starEach es X.env)).any (·.1) = false := by rfl) : JE X Γ (.Call (.Name "len" p1) (e :: es) [] pos) (.int (n : Int)) :=
  je_callB (he := he) (hpl := hpl) call_len_seq hm ha (fun I H vs Q s hh k => by
    obtain ⟨v, rfl, hv⟩ := isl1 hh
    cases hv with
    | tup h1 h2 =>
      refine ⟨_, _, rfl, .inr (sqt_same s h1), ?_⟩
      rw [h2.length, hl]
      exact k _ _ _ (Grow.refl s) (.int _)) hg
theorem je_lenO {α : Type} {enc : α → D} {xs : List α} (k : Nat) {x : Str} {p1 p2 : Pos} (hΓ : Γ[k]? = some (.ml (xs.map enc))) (hm : X.mg "len" = none) (hg : Gl X "len" := by rfl) (hN : X.N[k]? = some x := by rfl)
    (hv : Vis X.env.scope x := by first | exact Or.inl rfl | exact Or.inr (Or.inl rfl) | exact Or.inr (Or.inr rfl)) (hd : (x == ("__debug__" : Str)) = false := by decide) (hcd : (x == ("__classdict__" : Str)) = false := by decide)
    (hs : starEach [.Name x p2] X.env = (false, eval (.Name x p2) X.env) :: starEach [] X.env := by rfl) : JE X Γ (.Call (.Name "len" p1) [.Name x p2] [] pos) (.int (xs.length : Int)) :=
  ⟨PEweak (pe_callB call_len_seq hg hm boot_len (pa_cons (pe_var hN hv hd hcd) pa_nil hs) (by decide) (by decide) hs (by rfl)) fun σ H Q ⟨I0, H0, I, o, q⟩ => by
    obtain ⟨a, e1, ⟨vs, e2, e3⟩, e4, e5⟩ := o.ow k _ hΓ rfl
    refine ⟨_, e1, a, vs, rfl, .inl (SqL.of e2), ?_⟩
    rw [e3.length, List.length_map]
    exact q _ _ _ (Grow.refl o.same) (.int _)⟩
/-! ### slices -/
structure JO (X : Cx) (Γ : List Sl) (e : Option Expr) (o : Option Int) : Prop where
  po : PO X e (fun σ H Q => ∃ I0 H0 I, Ok X.K I0 H0 Γ I σ H ∧ ∀ I' H', Grow I H I' H' → Q o H')
theorem POweak {e : Option Expr} {t t' : TO} (h : PO X e t) (w : ∀ σ H Q, t' σ H Q → t σ H Q) : PO X e t' := ⟨fun pins s σ H Q I q => h.run pins s σ H Q I (w _ _ _ q)⟩
theorem jo_none : JO X Γ none none := ⟨POweak po_none fun σ H Q ⟨I0, H0, I, o, k⟩ => k I H (Grow.refl o.same)⟩
theorem jo_some (h : JE X Γ e (.int i)) : JO X Γ (some e) (some i) := ⟨POweak (po_some h.pe) fun σ H Q ⟨I0, H0, I, o, k⟩ => ⟨I0, H0, I, o, fun I' v H' g hv => ⟨i, hv.int_inv, k I' H' g⟩⟩⟩
def cutL {α : Type} (xs : List α) (lo hi : Option Int) : List α := (xs.drop (HT.sIx xs.length 0 lo)).take (HT.sIx xs.length xs.length hi - HT.sIx xs.length 0 lo)
theorem cutL_map {α : Type} {enc : α → D} {xs : List α} {lo hi : Option Int} : (cutL xs lo hi).map enc = cutL (xs.map enc) lo hi := by
  unfold cutL
  rw [List.map_take, List.map_drop, List.length_map]
theorem isl_cut {K : PySem.W.Frag} {I : Hp} {vs : List V} {lo hi : Option Int} (h : IsL K I vs ds) : IsL K I (cutV vs lo hi) (cutL ds lo hi) := by
  unfold cutV cutL
  rw [h.length]
  exact (h.drop _).take _
theorem jl_slice0 {l u : Option Expr} {lo hi : Option Int} {p2 : Pos} (ha : JE X Γ a (.lst ds)) (hl : JO X Γ l lo) (hu : JO X Γ u hi) : JL X Γ (.Subscript a (.Slice l u none p2) pos) (cutL ds lo hi) :=
  ⟨PEweak (pe_slice sl_list ha.pe hl.po hu.po) fun σ H Q ⟨I0, H0, I, o, k⟩ => ⟨I0, H0, I, o, fun I1 v H1 g1 hv => ⟨I0, H0, I1, o.step g1, fun I2 H2 g2 => ⟨I0, H0, I2, (o.step g1).step g2, fun I3 H3 g3 => by
    cases hv with
    | lst h1 h2 => exact ⟨_, _, rfl, .inl (rd_same (((g2.trans g3).i0).trans g3.same) h1), fun p hp => k I3 p _ _ (((g1.trans g2).trans g3).trans (grow_newO g3.same hp)) (((g1.trans g2).trans g3).h0.free hp) (g3.same.free hp) upd_same (isl_cut (h2.mono (g2.trans g3).i0))⟩⟩⟩⟩⟩
theorem jl_sliceS0 {l u : Option Expr} {lo hi : Option Int} {p2 : Pos} (ha : JE X Γ a (.scr ds)) (hl : JO X Γ l lo) (hu : JO X Γ u hi) : JL X Γ (.Subscript a (.Slice l u none p2) pos) (cutL ds lo hi) :=
  ⟨PEweak (pe_slice sl_list ha.pe hl.po hu.po) fun σ H Q ⟨I0, H0, I, o, k⟩ => ⟨I0, H0, I, o, fun I1 v H1 g1 hv => ⟨I0, H0, I1, o.step g1, fun I2 H2 g2 => ⟨I0, H0, I2, (o.step g1).step g2, fun I3 H3 g3 => by
    cases hv with
    | scr h1 h2 => exact ⟨_, _, rfl, (((g2.trans g3).i0).trans g3.same).seq h1, fun p hp => k I3 p _ _ (((g1.trans g2).trans g3).trans (grow_newO g3.same hp)) (((g1.trans g2).trans g3).h0.free hp) (g3.same.free hp) upd_same (isl_cut (h2.mono (g2.trans g3).i0))⟩⟩⟩⟩⟩
theorem jl_slice {α : Type} {enc : α → D} {xs : List α} {l u : Option Expr} {lo hi : Option Int} {p2 : Pos} (ha : JE X Γ a (.lst (xs.map enc))) (hl : JO X Γ l lo) (hu : JO X Γ u hi) : JL X Γ (.Subscript a (.Slice l u none p2) pos) ((cutL xs lo hi).map enc) := (jl_slice0 ha hl hu).eq cutL_map.symm
theorem jl_sliceS {α : Type} {enc : α → D} {xs : List α} {l u : Option Expr} {lo hi : Option Int} {p2 : Pos} (ha : JE X Γ a (.scr (xs.map enc))) (hl : JO X Γ l lo) (hu : JO X Γ u hi) : JL X Γ (.Subscript a (.Slice l u none p2) pos) ((cutL xs lo hi).map enc) := (jl_sliceS0 ha hl hu).eq cutL_map.symm
/-! ### lists put together -/
theorem Inv.lstR {pins : List (Addr × Obj)} {σ : L2.St} {H : Hp} {s : Shared} {l : Addr} {xs : List V} (I : Inv X pins σ H s) (h : Rd H l (.lst xs)) : xs.length ≤ sizeLine ∧ ∃ (its : List Value) (n : Nat), Vals xs its ∧ xs.length = its.length ∧ s.heap.get? l = some { cls := .type "list", data := .seq its.toArray n } := by
  obtain ⟨z, its, n, r, e⟩ := h.ok I.hok
  exact ⟨z, its, n, r, r.length, e⟩
def rCatR : R2 := fun x y H Q => ∃ l b xs zs, x = .ref l ∧ y = .ref b ∧ Rd H l (.lst xs) ∧ Rd H b (.lst zs) ∧ xs.length + zs.length ≤ sizeLine ∧ ∀ p, H p = none → Q (.ref p) (upd H p (.lst (xs ++ zs)))
theorem op_catR : OpR X (binaryOp .Add) rCatR := by
  intro pins s σ H x y v u Q I rx ry h
  obtain ⟨l, b, xs, zs, rfl, rfl, hH, hB, hz, q⟩ := h
  cases rx
  cases ry
  obtain ⟨z, its, n, r, hl, e⟩ := Inv.lstR I hH
  obtain ⟨z2, its2, n2, r2, hl2, e2⟩ := Inv.lstR I hB
  refine PySem.P.add_list e e2 ?_ (by rw [List.size_toArray, List.size_toArray]; omega)
  have ea : its.toArray ++ its2.toArray = (its ++ its2).toArray := by simp
  rw [ea]
  exact ⟨.ref _, _, I.lnew (t' := s.toks) (r.append r2) (by rw [List.length_append]; omega), rfl, q _ I.fresh⟩
theorem jl_cat {α : Type} {enc : α → D} {xs ys : List α} (ha : JE X Γ a (.lst (xs.map enc))) (hb : JE X Γ b (.lst (ys.map enc))) (h : xs.length + ys.length ≤ 100000) : JL X Γ (.BinOp a .Add b pos) ((xs ++ ys).map enc) :=
  ⟨PEweak (pe_op op_catR ha.pe hb.pe) fun σ H Q ⟨I0, H0, I, o, k⟩ => two (R := fun _ _ _ _ => True) (fun _ _ _ z => z) (fun _ _ _ z => z) ⟨I0, H0, I, o, fun I' v w H' g hv hw => by
    cases hv with
    | lst h1 h2 =>
      cases hw with
      | lst h3 h4 =>
        have e1 := h2.length
        have e2 := h4.length
        rw [List.length_map] at e1 e2
        refine ⟨_, _, _, _, rfl, rfl, rd_same g.same h1, rd_same g.same h3, by rw [sizeLine_eq]; omega, fun p hp => ?_⟩
        rw [List.map_append] at k
        exact k I' p _ _ (g.trans (grow_newO g.same hp)) (g.h0.free hp) (g.same.free hp) upd_same (h2.append h4)⟩⟩
theorem je_catT {es' : List D} (ha : JE X Γ a (.tup (d :: ds))) (hb : JE X Γ b (.tup (dx :: es'))) (hl : (d :: ds).length + (dx :: es').length ≤ 1000 := by exact Nat.le_of_ble_eq_true rfl) : JE X Γ (.BinOp a .Add b pos) (.tup ((d :: ds) ++ (dx :: es'))) :=
  ⟨PEweak (pe_op op_catT ha.pe hb.pe) fun σ H Q ⟨I0, H0, I, o, k⟩ => two (R := fun _ _ _ _ => True) (fun _ _ _ z => z) (fun _ _ _ z => z) ⟨I0, H0, I, o, fun I' v w H' g hv hw => by
    cases hv with
    | tup h1 h2 =>
      cases hw with
      | tup h3 h4 =>
        have e1 := h2.length
        have e2 := h4.length
        refine ⟨_, _, _, _, rfl, rfl, sqt_same g.same h1, sqt_same g.same h3, (fun z => by rw [z] at e1; simp at e1), by rw [sizeLine_eq, e1, e2]; omega, (fun z => by rw [z] at e2; simp at e2), fun _ p hp => ?_⟩
        exact k _ _ _ (g.trans (grow_new g.same hp)) (.tup (SqT.of upd_same) ((h2.append h4).mono (same_upd (g.same.free hp))))⟩⟩
def sortI (xs : List Int) : List Int := xs.mergeSort fun a b => decide (a ≤ b)
theorem sortI_uniq {xs ys : List Int} (hp : ys.Perm xs) (hs : ys.Pairwise (· ≤ ·)) : ys = sortI xs := by
  have h1 : (sortI xs).Pairwise (fun a b => decide (a ≤ b) = true) := List.pairwise_mergeSort (le := fun a b : Int => decide (a ≤ b)) (by intro a b c; simp; omega) (by intro a b; simp; omega) xs
  have h2 : (sortI xs).Perm xs := List.mergeSort_perm xs _
  exact (hp.trans h2.symm).eq_of_pairwise (le := fun a b : Int => a ≤ b) (by intro a b _ _; omega) hs (h1.imp (by simp))
theorem jl_sortI {xs : List Int} {p1 : Pos} (ha : JA X Γ (e :: es) [.lst (xs.map D.int)]) (hm : X.mg "sorted" = none) (h : xs.length < 64) (hg : Gl X "sorted" := by rfl)
    (he : starEach (e :: es) X.env = (false, eval e X.env) :: starEach es X.env := by rfl) (hpl : (backTo pos (starEach es X.env)).any (·.1) = false := by rfl) : JL X Γ (.Call (.Name "sorted" p1) (e :: es) [] pos) ((sortI xs).map D.int) :=
  ⟨PEweak (pe_callB cr_sorted hg hm (by decide +kernel) ha.pa (by decide) (by decide) he hpl) fun σ H Q ⟨I0, H0, I, o, k⟩ => ⟨I0, H0, I, o, fun I' vs H' g hh => by
    obtain ⟨v, rfl, hv⟩ := isl1 hh
    cases hv with
    | lst h1 h2 =>
      have isint : ∀ (ns : List Int) (vs : List V), IsL X.K I' vs (ns.map D.int) → vs = ns.map V.int := by
        intro ns
        induction ns with
        | nil => intro vs h; cases h; rfl
        | cons n ns ih =>
          intro vs h
          cases h with
          | cons a b => rw [a.int_inv, ih _ b] <;> rfl
      have e1 := isint xs _ h2
      subst e1
      refine ⟨_, xs, rfl, .inl (rd_same g.same h1), h, fun ns' p hp hs hn => ?_⟩
      rw [sortI_uniq hp hs]
      exact k I' p _ _ (g.trans (grow_newO g.same hn)) (g.h0.free hn) (g.same.free hn) upd_same (IsL.ints _)⟩⟩
/-- tuple(a list) -/
theorem je_tupL {p1 : Pos} (ha : JA X Γ (e :: es) [.lst ds]) (hm : X.mg "tuple" = none) (hg : Gl X "tuple" := by rfl)
    (he : starEach (e :: es) X.env = (false, eval e X.env) :: starEach es X.env := by rfl) (hpl : (backTo pos (starEach es X.env)).any (·.1) = false := by rfl) : JE X Γ (.Call (.Name "tuple" p1) (e :: es) [] pos) (.tup ds) :=
  je_callT (he := he) (hpl := hpl) call_tuple_of hm ha (fun I H vs Q s hh k => by
    obtain ⟨v, rfl, hv⟩ := isl1 hh
    cases hv with
    | lst h1 h2 => exact ⟨_, _, rfl, .inl ⟨.inl (rd_same s h1), fun p hp => k _ _ _ (grow_new s hp) (.tup (SqT.of upd_same) (h2.mono (same_upd (s.free hp))))⟩⟩) hg
end
end Bw
/-! B7: append, op=, two targets, ranges by steps, isinstance, None or not. -/
namespace Bw
open PySem PySem.Spec PyProof.Rows L2
section
variable {X : Cx} {W : WX} {Γ Γ' : List Sl} {a b e c tg iter : Expr} {es : List Expr} {st : Stmt} {sts rest body : List Stmt} {u : TS} {o : O} {d dx dy : D} {ds : List D} {pos : Pos} {p : Prop} {i j : Int}
/-- an own list grows -/
theorem Ok.grows {K : PySem.W.Frag} {I0 H0 I : Hp} {σ : L2.St} {H : Hp} {k : Nat} {a : Addr} {vs vs' : List V} {es : List D} (o : Ok K I0 H0 Γ I σ H) (hΓ : ∃ ds, Γ[k]? = some (.ml ds)) (ha : σ[k]? = some (some (.ref a))) (e2 : I a = none) (e3 : H0 a = none) (h : IsL K I vs' es) : Ok K I0 H0 (Γ.set k (.ml es)) I σ (upd H a (.lst vs')) := by
  obtain ⟨ds, hΓ⟩ := hΓ
  have hk : k < Γ.length := (List.getElem?_eq_some_iff.mp hΓ).1
  refine ⟨⟨fun b w e => ?_, fun b w e => ?_, o.g.i0, o.g.nc⟩, by rw [List.length_set]; exact o.len, fun j d e => ?_, fun j s e w => ?_, fun j l s t b ne q r w1 w2 e => ?_⟩
  · rw [upd_ne (ne_of_none e e2)]; exact o.same b w e
  · rw [upd_ne (ne_of_none e e3)]; exact o.g.h0 b w e
  · rcases set_get e with ⟨rfl, z⟩ | ⟨ne, z⟩
    · cases z
    · exact o.sl j d z
  · rcases set_get e with ⟨rfl, z⟩ | ⟨ne, z⟩
    · subst z
      exact ⟨a, ha, ⟨vs', upd_same, h⟩, e2, e3⟩
    · obtain ⟨b, f1, f2, f3, f4⟩ := o.ow j s z w
      have nb : b ≠ a := fun y => o.inj j k s _ a ne z hΓ w rfl (y ▸ f1) ha
      refine ⟨b, f1, ?_, f3, f4⟩
      cases s with
      | ml gs =>
        obtain ⟨us, q1, q2⟩ := f2
        exact ⟨us, by rw [upd_ne nb]; exact q1, q2⟩
      | _ => exact f2
  · have key : ∀ (j : Nat) (s : Sl), (Γ.set k (.ml es))[j]? = some s → s.own = true → ∃ s', Γ[j]? = some s' ∧ s'.own = true := fun j s e w => by
      rcases set_get e with ⟨rfl, z⟩ | ⟨ne, z⟩
      · exact ⟨_, hΓ, rfl⟩
      · exact ⟨s, z, w⟩
    obtain ⟨s', k1, k2⟩ := key j s q w1
    obtain ⟨t', k3, k4⟩ := key l t r w2
    exact o.inj j l s' t' b ne k1 k3 k2 k4 e
/-- xs.append(e) -/
theorem js_append {α : Type} {enc : α → D} {xs : List α} {y : α} (k : Nat) {x : Str} {p1 p2 : Pos} (hΓ : Γ[k]? = some (.ml (xs.map enc))) (he : JE X Γ e (enc y)) (hl : xs.length < 100000) (hr : JS X W rest u (Γ.set k (.ml ((xs ++ [y]).map enc))) o) (hN : X.N[k]? = some x := by rfl)
    (hv : Vis X.env.scope x := by first | exact Or.inl rfl | exact Or.inr (Or.inl rfl)) (hd : (x == ("__debug__" : Str)) = false := by decide) (hcd : (x == ("__classdict__" : Str)) = false := by decide)
    (hb : attributeBase (.Name x p1) "append" X.env (eval (.Name x p1) X.env) = eval (.Name x p1) X.env := by rfl) (hfew : ((backTo pos (starEach [e] X.env)).all (fun x => !x.1) && (backToKw pos (keywordEach [] X.env)).all (fun x => x.1.isSome) && decide (([e] : List Expr).length + ([] : List Keyword).length + (if ([] : List Keyword).isEmpty then 0 else 1) < 30)) = true := by rfl)
    (hline : (p2.endLine == pos.line) = true := by rfl) (hs : starEach [e] X.env = (false, eval e X.env) :: starEach [] X.env := by rfl) (hpl : (backTo pos (starEach [] X.env)).any (·.1) = false := by rfl) {p3 : Pos}
    (hsw : swapsWith (.Call (.Attribute (.Name x p1) "append" p2) [e] [] pos) none p3.line X.env = pure false := by rfl) :
    JS X W (.Expr (.Call (.Attribute (.Name x p1) "append" p2) [e] [] pos) p3 :: rest) u Γ o :=
  js_cons (ps_expr (pe_bm PySem.F.plainAttrs_list PySem.F.slot_list_append PySem.F.type_list_append mt_append (pe_var hN hv hd hcd) (pa_cons he.pe pa_nil hs) hb hfew hline hs hpl) hsw) hr fun D' σ H I0 H0 I o q => by
    obtain ⟨a, e1, ⟨vs, e2, e3⟩, e4, e5⟩ := o.ow k _ hΓ rfl
    refine ⟨_, e1, .inl ⟨rfl, _, SqL.of e2⟩, I0, H0, I, o, fun I' v H' g hv => ?_⟩
    have o' := o.step g
    obtain ⟨a', f1, ⟨vs', f2, f3⟩, f4, f5⟩ := o'.ow k _ hΓ rfl
    rw [e1] at f1
    cases f1
    have hlen := f3.length
    rw [List.length_map] at hlen
    refine ⟨a, vs', v, rfl, rfl, f2, by rw [sizeLine_eq]; omega, q I' σ _ ?_⟩
    rw [List.map_append]
    exact o'.grows (vs := vs') ⟨_, hΓ⟩ e1 f4 f5 (f3.append (.cons hv .nil))
/-- x += e -/
theorem js_augI {op : Operator} {f : Int → Int → Int} (k : Nat) {x : Str} {p1 : Pos} (hN : X.N.Nodup) (ho : PIp X op (ipI f)) (hΓ : Γ[k]? = some (.im (.int i))) (he : JE X Γ e (.int j)) (hr : JS X W rest u (Γ.set k (.im (.int (f i j)))) o) (hi : X.N[k]? = some x) (hx : Loc X.env.scope x)
    (hf : X.fn x = true ∨ X.env.scope.names.lookup x = some .local) : JS X W (.AugAssign (.Name x p1) op e pos :: rest) u Γ o :=
  js_cons (ps_aug hN hi hx he.pe ho hf) hr fun D' σ H I0 H0 I o q => by
    obtain ⟨v, e1, e2⟩ := o.sl k _ hΓ
    exact ⟨v, e1, I0, H0, I, o, fun I' w H' g hw => ⟨i, j, e2.int_inv, hw.int_inv, q I' _ H' ((o.step g).setIm (.int _))⟩⟩
theorem js_augAdd (k : Nat) {x : Str} {p1 : Pos} (hN : X.N.Nodup) (hΓ : Γ[k]? = some (.im (.int i))) (he : JE X Γ e (.int j)) (hr : JS X W rest u (Γ.set k (.im (.int (i + j)))) o) (hi : X.N[k]? = some x := by rfl) (hx : Loc X.env.scope x := by first | exact Or.inl rfl | exact Or.inr rfl)
    (hf : X.fn x = true ∨ X.env.scope.names.lookup x = some .local := by first | exact .inl rfl | exact .inr rfl) : JS X W (.AugAssign (.Name x p1) .Add e pos :: rest) u Γ o := js_augI k hN ip_add hΓ he hr hi hx hf
theorem js_augSub (k : Nat) {x : Str} {p1 : Pos} (hN : X.N.Nodup) (hΓ : Γ[k]? = some (.im (.int i))) (he : JE X Γ e (.int j)) (hr : JS X W rest u (Γ.set k (.im (.int (i - j)))) o) (hi : X.N[k]? = some x := by rfl) (hx : Loc X.env.scope x := by first | exact Or.inl rfl | exact Or.inr rfl)
    (hf : X.fn x = true ∨ X.env.scope.names.lookup x = some .local := by first | exact .inl rfl | exact .inr rfl) : JS X W (.AugAssign (.Name x p1) .Sub e pos :: rest) u Γ o := js_augI k hN ip_sub hΓ he hr hi hx hf
theorem ip_mulK {i j : Int} (h : IntMulOk i j) : PIp X .Mult (fun x y H Q => x = .int i ∧ y = .int j ∧ Q (.int (i * j)) H) := by
  intro pins s σ H x y v u Q I rx ry hh
  obtain ⟨rfl, rfl, q⟩ := hh
  obtain ⟨t, rfl⟩ := rx
  obtain ⟨t', rfl⟩ := ry
  exact imul_int ⟨.int (i * j), H, I.tok _, ⟨_, rfl⟩, q⟩ h
theorem js_augMul (k : Nat) {x : Str} {p1 : Pos} (hN : X.N.Nodup) (hΓ : Γ[k]? = some (.im (.int i))) (he : JE X Γ e (.int j)) (h : IntMulOk i j) (hr : JS X W rest u (Γ.set k (.im (.int (i * j)))) o) (hi : X.N[k]? = some x := by rfl) (hx : Loc X.env.scope x := by first | exact Or.inl rfl | exact Or.inr rfl)
    (hf : X.fn x = true ∨ X.env.scope.names.lookup x = some .local := by first | exact .inl rfl | exact .inr rfl) : JS X W (.AugAssign (.Name x p1) .Mult e pos :: rest) u Γ o :=
  js_cons (ps_aug hN hi hx he.pe (ip_mulK h) hf) hr fun D' σ H I0 H0 I o q => by
    obtain ⟨v, e1, e2⟩ := o.sl k _ hΓ
    exact ⟨v, e1, I0, H0, I, o, fun I' w H' g hw => ⟨e2.int_inv, hw.int_inv, q I' _ H' ((o.step g).setIm (.int _))⟩⟩
/-- a, b = e1, e2 -/
theorem js_par (k l : Nat) {x y : Str} {px py pt : Pos} {kt k2 : Nat} {pt2 : Pos} (hN : X.N.Nodup) (hi : X.N[k]? = some x) (hj : X.N[l]? = some y) (hij : k ≠ l) (hx : X.env.scope.names.lookup x = some .local) (hy : X.env.scope.names.lookup y = some .local) (ha : JA X Γ [a, b] [dx, dy])
    (hw : swappedStores [.Tuple [.Name x px, .Name y py] kt pt] (.Tuple [a, b] k2 pt2) X.env = pure (some [x, y])) (hr : JS X W rest u ((Γ.set k (.im dx)).set l (.im dy)) o)
    (hc : X.calm = true := by rfl) (hs : swapsWithSole [.Tuple [.Name x px, .Name y py] kt pt] (.Tuple [a, b] k2 pt2) pos.line X.env = pure false := by rfl) :
    JS X W (.Assign [.Tuple [.Name x px, .Name y py] kt pt] (.Tuple [a, b] k2 pt2) pos :: rest) u Γ o :=
  js_cons (ps_par hc hN hi hj hij hx hy ha.pa hw hs) hr fun D' σ H I0 H0 I o q => ⟨I0, H0, I, o, fun I' vs H' g h => by
    obtain ⟨v, w, rfl, hv, hw⟩ := isl2 h
    exact ⟨v, w, rfl, q I' _ H' (((o.step g).setIm hv).setIm hw)⟩⟩
/-! ### None or not -/
theorem opt_non {α : Type} {enc : α → D} (h : ∀ y, enc y ≠ .non) (x : Option α) : (match x with | none => D.non | some y => enc y) = .non ↔ x = none := by
  cases x with
  | none => exact ⟨fun _ => rfl, fun _ => rfl⟩
  | some y => exact ⟨fun z => absurd z (h y), fun z => nomatch z⟩
/-! ### ranges by steps -/
def rangeS (lo hi s : Int) : List Int := (List.range (if lo < hi then (hi - lo - 1) / s + 1 else 0).toNat).map fun k => lo + (k : Nat) * s
theorem gv_rangeC {K : PySem.W.Frag} {I1 H1 : Hp} {lo s : Int} {n : Nat} : Gv K (Itc lo s n) I1 H1 (((List.range n).map fun k => lo + ((k : Nat) : Int) * s).map D.int) := by
  refine ⟨fun i I H hi s1 s2 s3 => ?_, fun i d I H x H' e s1 s2 s3 y => ?_, fun I H s1 s2 s3 => ?_⟩
  · show i < n
    simpa using hi
  · obtain ⟨rfl, rfl⟩ := y
    have e2 : D.int (lo + (i : Nat) * s) = d := by
      rw [List.map_map, List.getElem?_map] at e
      cases q : (List.range n)[i]? with
      | none => rw [q] at e; cases e
      | some j =>
        rw [q] at e
        have : j = i := by
          rw [List.getElem?_range] at q
          · exact (Option.some.inj q).symm
          · by_cases z : i < n
            · exact z
            · rw [List.getElem?_eq_none (by simpa using Nat.le_of_not_lt z)] at q
              cases q
        subst this
        exact Option.some.inj e
    subst e2
    exact ⟨I, Grow.refl s2, .int _⟩
  · simp only [List.length_map, List.length_range]
    exact Nat.le_refl _
theorem small_pos {a b s : Int} (hs : 0 < s) (hs2 : s < 1000) (ha : -(2 ^ 62) ≤ a) (ha' : a < 2 ^ 61) (hb : -(2 ^ 62) ≤ b) (hb' : b < 2 ^ 61) : Builtin.Range.small a b s = true := by
  have h1 : (b - a - 1) / s + 1 ≤ 2 ^ 63 - 1 := by
    by_cases h : 0 ≤ b - a - 1
    · have := Int.ediv_le_self (b := s) (a := b - a - 1) h
      omega
    · have : (b - a - 1) / s < 0 := Int.ediv_neg_of_neg_of_pos (by omega) hs
      omega
  have h2 : a < b → a + ((b - a - 1) / s + 1) * s < 2 ^ 63 := fun hab => by
    have := Int.ediv_mul_le (b - a - 1) (b := s) (by omega)
    rw [Int.add_mul, Int.one_mul]
    omega
  have h3 : a < b → 0 ≤ (b - a - 1) / s := fun hab => Int.ediv_nonneg (by omega) (by omega)
  unfold Builtin.Range.small Builtin.Range.rangeSize
  simp only [Builtin.Range.rangeFitsLong, Bool.and_eq_true, Bool.or_eq_true, decide_eq_true_eq, beq_iff_eq, show s > 0 from hs, if_true]
  split <;> omega
theorem rgC_pos {a b s : Int} (hs : 0 < s) (hs2 : s < 1000) (ha : -(2 ^ 62) ≤ a) (ha' : a < 2 ^ 61) (hb : -(2 ^ 62) ≤ b) (hb' : b < 2 ^ 61) : RgC a b s (if a < b then (b - a - 1) / s + 1 else 0).toNat := by
  refine ⟨by omega, by omega, small_pos hs hs2 ha ha' hb hb', ?_⟩
  unfold Builtin.Range.rangeSize
  rw [if_pos (show s > 0 from hs)]
  split
  · have : 0 ≤ (b - a - 1) / s := Int.ediv_nonneg (by omega) (by omega)
    omega
  · rfl
theorem ji_range3 {a b c : Expr} {m n s : Int} {p1 : Pos} (ha : JA X Γ [a, b, c] [.int m, .int n, .int s]) (hm : X.mg "range" = none) (hs0 : 0 < s) (hs1 : s < 1000) (h1 : -(2 ^ 62) ≤ m ∧ m < 2 ^ 61 ∧ -(2 ^ 62) ≤ n ∧ n < 2 ^ 61) (hg : Gl X "range" := by rfl)
    (hs : starEach [a, b, c] X.env = (false, eval a X.env) :: starEach [b, c] X.env := by rfl) (hpl : (backTo pos (starEach [b, c] X.env)).any (·.1) = false := by rfl) :
    JI X Γ tg (.Call (.Name "range" p1) [a, b, c] [] pos) ((rangeS m n s).map D.int) :=
  ⟨PIweak (pi_range3 hg hm ha.pa hs hpl) fun σ H R ⟨I0, H0, I, o, k⟩ => ⟨I0, H0, I, o, fun I' vs H' g h => by
    cases h with
    | cons h1' h2' =>
      obtain ⟨v, w, rfl, hv, hw⟩ := isl2 h2'
      exact ⟨m, n, s, _, by rw [h1'.int_inv, hv.int_inv, hw.int_inv], rgC_pos hs0 hs1 h1.1 h1.2.1 h1.2.2.1 h1.2.2.2, k _ I' H' g gv_rangeC⟩⟩⟩
/-! ### isinstance -/
theorem opt_nonN {α : Type} {enc : α → D} (h : ∀ y, enc y ≠ .non) (x : Option α) : ¬ (match x with | none => D.non | some y => enc y) = .non ↔ x ≠ none := not_congr (opt_non h x)
/-- the built-in class of data -/
def D.ty : D → Option String
  | .bl _ => some "bool"
  | .int _ => some "int"
  | .str _ => some "str"
  | .tup _ => some "tuple"
  | .lst _ => some "list"
  | .non => some "NoneType"
  | _ => none
theorem Is.tyx {K : PySem.W.Frag} {I H : Hp} {v : V} {T : String} (s : Same I H) (h : Is K I v d) (e : d.ty = some T) : TyX K H v (.type T) := by
  cases h with
  | non => cases e; exact .base .non
  | bl b => cases e; exact .base (.bl b)
  | int b => cases e; exact .base (.int b)
  | str b => cases e; exact .base (.str b)
  | tup h1 h2 =>
    cases e
    rcases h1 with (h1 | ⟨u, h1⟩) | ⟨u, its, n, h1, h3, _⟩
    · exact .base (.tup (s _ _ h1))
    · exact .fTuple (s _ _ h1)
    · exact .kTuple h1 h3
  | lst h1 h2 =>
    cases e
    rcases h1 with h1 | ⟨u, h1⟩
    · exact .base (.lst (s _ _ h1))
    · exact .base (.frz (s _ _ h1))
  | scr h1 h2 => cases e
  | ins h1 h2 h3 => cases e
  | adr _ => cases e
/-- isinstance(x, T), T a built-in class by its name -/
theorem je_isi {T U : String} {y : Str} {p1 p2 : Pos} {b : Bool} (he : JE X Γ e d) (e1 : d.ty = some T) (hm : X.mg "isinstance" = none) (hy : X.mg y = none) (hv : bootBuiltins y = some (.type U) := by decide +kernel) (hk : kitB T U = some b := by decide +kernel) (hg : Gl X "isinstance" := by rfl) (hgy : Gl X y := by rfl) (hn : y ≠ "__name__" := by decide) (hd : (y == ("__debug__" : Str)) = false := by decide)
    (hs : starEach (e :: [.Name y p2]) X.env = (false, eval e X.env) :: starEach [.Name y p2] X.env := by rfl) (hs2 : starEach (.Name y p2 :: []) X.env = (false, eval (.Name y p2) X.env) :: starEach [] X.env := by rfl) (hpl : (backTo pos (starEach [.Name y p2] X.env)).any (·.1) = false := by rfl) : JE X Γ (.Call (.Name "isinstance" p1) [e, .Name y p2] [] pos) (.bl b) :=
  ⟨PEweak (pe_callB call_isi hg hm (by decide +kernel) (pa_cons he.pe (pa_cons (pe_bltn (v := .ty U) hgy hy hv rfl hn hd) pa_nil hs2) hs) (by decide) (by decide) hs hpl) fun σ H Q ⟨I0, H0, I, o, k⟩ => ⟨I0, H0, I, o, fun I' v H' g h =>
    ⟨v, .ty U, .type T, .type U, b, rfl, .ty U, h.tyx g.same e1, kit_ty hk, k I' _ H' g (.bl b)⟩⟩⟩
end
end Bw
/-! B8: the end of a law: the script's bits are told. -/
namespace Bw
open PySem PySem.Spec PyProof.Rows L2
theorem cx_none {P : Program} {w : World} {l : List Env} {H : Hp} {s : Shared} {e : Value} {s' : Shared} (h : L2.CX P w l H s (fun _ _ _ => False) e s') : False := by
  obtain ⟨_, _, _, _, _, _, _, _, _, _, _, _, z⟩ := h
  exact z
theorem fn_false {P : Program} {w : World} {K : PySem.W.Frag} {mg : Str → Option Value} {base : Heap} {k : Nat} {f : Addr} {fd : FuncData} {ps : List Str} {S : List D → O → Prop} (h : ∀ ds o, S ds o → False) : FnOk P w K mg base (L2.CX P w) k f fd ps (spOf K S) :=
  ⟨fun vs H Q E ⟨I, ds, o, _, _, z, _⟩ => (h ds o z).elim, fun A outer s H args us vs Q E _ _ _ _ ⟨I, ds, o, _, _, z, _⟩ => (h ds o z).elim⟩
/-- a law's end: S tells the law's def; of every script within the bounds S says that it comes to True -/
theorem walk_ofEB {l : PySem.W.OpenLaw} {n k : Nat} {q : Program} {loose : List Str} {XP : (Str → Option Value) → Heap → Prop} {YP : World → Heap → Prop} {d : DefRec} {x : Str}
    (hn : l.most = some n) (hn2 : n ≤ sizeLine) (hdf : d.params.defaults = []) (hr : Room k callerA)
    (F : ∀ (w : World) (mg : Str → Option Value) (fa : Addr) (h : Heap), YP w h → h.Ns mainGlobals mg → mg d.name = some (.ref fa) →
      ∃ (K : PySem.W.Frag) (fd : FuncData) (S : List D → O → Prop), K.In h ∧ (∀ (s : Shared) (u : Value), BindsTo s fd ⟨[u], []⟩ [(x, u)]) ∧
        (∀ ns : List Int, ns.length ≤ n → (∀ z ∈ ns, Builtin.Int.intBits z ≤ 1048576) → S [.scr (ns.map D.int)] (.rt (.bl true))) ∧
        ∀ base : Heap, K.In base → base.Ns mainGlobals mg → FnOk l.prog w K mg base (L2.CX l.prog w) k fa fd [x] (spOf K S)) :
    PySem.W.WalkO q loose XP YP l.row.toRowW d [] (fun f vs => PySem.call f vs) := by
  refine Att.attach_callB hn hdf fun w s₀ s₁ mg mb fa o pm cd doc a vs ns G Y ho hd hcd hmg hobj hints hlen hbits hg => ?_
  obtain ⟨K, fd, S, KX, hb, hS, hF⟩ := F w mg fa _ Y G.T.g hmg
  refine law_call KX G.T.g G.T.b G.T.builtins G.T.nolimit hg hobj hints (Nat.le_trans hlen hn2) hr hF hb (fun H hO hs => ?_) fun H e s' => cx_none
  exact ⟨H, _, _, Same.refl _, .cons (.scr hs (IsL.ints ns)) .nil, hS ns hlen hbits, fun I v H' g h => h.bl_inv⟩
end Bw
/-! B9: a test that is known; raise, except. -/
namespace Bw
open PySem PySem.Spec PyProof.Rows L2
/-- // by a divisor of either sign -/
def CDivF (_ j : Int) : Prop := j ≠ 0 ∧ j.natAbs.log2 < 9000
theorem op_fdivF {X : Cx} : OpR X (binaryOp .FloorDiv) (rI CDivF fun i j => .int (i.fdiv j)) := opI fun _ _ _ _ _ _ _ hc q => floordiv_int hc.1 q (.inl (PyProof.noPylong_of_log2 hc.2))
theorem fdiv_ok {i j : Int} {b : Nat} (h : j ≠ 0) (hb : j.natAbs < 2 ^ b) (h0 : 0 < b) (h9 : b ≤ 9000) : CDivF i j := ⟨h, Nat.lt_of_lt_of_le (PySem.Flt.log2_lt_of h0 hb) h9⟩
section
variable {X : Cx} {W : WX} {Γ Γ' : List Sl} {e tg c : Expr} {es : List Expr} {st : Stmt} {sts rest A B : List Stmt} {u : TS} {o : O} {d : D} {ds : List D} {pos : Pos} {p : Prop}
theorem je_fdivF {a b : Expr} {i j : Int} (ha : JE X Γ a (.int i)) (hb : JE X Γ b (.int j)) (h : CDivF i j) : JE X Γ (.BinOp a .FloorDiv b pos) (.int (i.fdiv j)) := je_bin op_fdivF ha hb (rd_I (C := CDivF) h)
theorem js_ifY (hc : JT X Γ c p) (hp : p) (ha : JS X W A (after X W rest u) Γ o) : JS X W (.If c A B pos :: rest) u Γ o :=
  ⟨PSsweak (pss_cons (ps_if hc.pt ha.ps pss_never) (pss_rest (W := W) (u := u))) fun D' σ H ⟨D, I0, H0, I, b, k, f⟩ => ⟨I0, H0, I, k, fun I' H' c g e => by
      dsimp only
      rw [if_pos (e.mpr hp)]
      exact ⟨D, I0, H0, I', ⟨fun σ H z => ⟨D, b, z⟩, b.rt, b.bk, b.ct⟩, k.step g, f⟩⟩⟩
end
section
variable {X : Cx} {W : WX} {Γ Γ' : List Sl} {e tg c : Expr} {es : List Expr} {st : Stmt} {sts rest A B : List Stmt} {u : TS} {o : O} {d : D} {ds xs : List D} {pos : Pos} {p : Prop} {k : Nat} {x : Str} {ps fs : List Str} {S : List D → O → Prop} {C : Addr}
/-! ### raise -/
/-- a class of errors over ValueError, at C, under the name x -/
structure ExcN (K : PySem.W.Frag) (mg : Str → Option Value) (x : Str) (C : Addr) : Prop where
  g : mg x = some (.ref C)
  n : PySem.W.excIn K C He.veBase "ValueError.__new__" = true
  k : PySem.W.keepIn K (.ref C) = true
  b : PySem.W.subIn K (.ref C) (.type "BaseException") = some true
  t : PySem.W.typeIn K (.ref C) = some (.type "type")
theorem js_raise {m : Str} {j : Nat} {p1 p2 p3 : Pos} (F : ExcN X.K X.mg x C) (tk : Takes X W) (hc : X.calm = true := by rfl) (hg : Gl X x := by rfl) (hdb : (x == ("__debug__" : Str)) = false := by decide) :
    JS X W (.Raise (some (.Call (.Name x p1) [.Constant (.str m) j p2] [] p3)) none pos :: rest) u Γ (.ex C [] []) :=
  ⟨PSsweak (pss_cons (ps_raise hc tk (pmk_own PySem.F.excBase_ValueError F.n F.g F.k (raises_own F.b F.t) hg hdb)) pss_never) fun D' σ H ⟨D, I0, H0, I, b, k, f⟩ => f I σ H none k.g (.inl ⟨rfl, rfl⟩)⟩
/-- an expression that raises -/
structure JX (X : Cx) (W : WX) (Γ : List Sl) (e : Expr) (C : Addr) (fs : List Str) (xs : List D) : Prop where
  pe : PE X e (fun σ H _ => ∃ I0 H0 I, Ok X.K I0 H0 Γ I σ H ∧ ∀ I' H' d, Grow I H I' H' → Pay X.K I' H' d fs xs → W (.ref C) d σ H')
theorem jx_call {p1 : Pos} (F : DefOk X.prog X.w X.K X.mg X.base k x ps S) (tk : Takes X W) (hr : Room k X.A) (ha : JA X Γ (e :: es) ds) (hs : S ds (.ex C fs xs)) (hg : Gl X x := by rfl) (hdb : (x == ("__debug__" : Str)) = false := by decide)
    (he : starEach (e :: es) X.env = (false, eval e X.env) :: starEach es X.env := by rfl) (hpl : (backTo pos (starEach es X.env)).any (·.1) = false := by rfl) : JX X W Γ (.Call (.Name x p1) (e :: es) [] pos) C fs xs := by
  obtain ⟨f, fd, hm, hk, hb, hf⟩ := F.ex
  exact ⟨PEweak (pe_callS (E := WE W) hf hr hg hm hk hb (fun σ => passAt tk σ) ha.pa hdb he hpl) fun σ H Q ⟨I0, H0, I, o, q⟩ => ⟨I0, H0, I, o, fun I' vs H' g h => ⟨I', ds, .ex C fs xs, g.same, h, hs, fun I2 H2 d g2 h2 => q I2 H2 d (g.trans g2) h2⟩⟩⟩
theorem js_dropX (h : JX X W Γ e C fs xs) (hs : swapsWith e none pos.line X.env = pure false := by rfl) : JS X W (.Expr e pos :: rest) u Γ (.ex C fs xs) :=
  ⟨PSsweak (pss_cons (ps_expr h.pe hs) pss_never) fun D' σ H ⟨D, I0, H0, I, b, k, f⟩ => ⟨I0, H0, I, k, fun I' H' d g q => f I' σ H' d (k.g.trans g) q⟩⟩
theorem js_retX (h : JX X W Γ e C fs xs) : JS X W (.Return (some e) pos :: rest) u Γ (.ex C fs xs) :=
  ⟨PSsweak (pss_cons (ps_ret h.pe) pss_never) fun D' σ H ⟨D, I0, H0, I, b, k, f⟩ => ⟨I0, H0, I, k, fun I' H' d g q => f I' σ H' d (k.g.trans g) q⟩⟩
/-! ### try -/
/-- try: e raises C; except x: its suite goes on -/
theorem js_try1 {b₀ : Stmt} {suite : List Stmt} {np p1 p2 : Pos} {cv : Value} (hs : X.stack = X.env :: X.outer) (hf : X.env.frame = some X.env.locals) (hc : Names X x cv) (tk : Takes X W)
    (hb : ∀ (W' : WX) (pn : List (Addr × Obj)) (xe : Value → Shared → Prop), Takes (X.tr pn xe) W' → JX (X.tr pn xe) W' Γ e C fs xs) (hm : PySem.W.exmOne X.K (.ref C) cv = some true)
    (hsu : ∀ (a : Addr) (oe : Obj) (pn : List (Addr × Obj)), JS (X.suite a ((a, oe) :: pn)) W (b₀ :: suite) tNext Γ (.nx Γ')) (hr : JS X W rest u Γ' o) (hsw : swapsWith e none pos.line X.env = pure false := by rfl) :
    JS X W (.Try [.Expr e pos] [.ExceptHandler (some (.Name x np)) none (b₀ :: suite) p1] [] [] p2 :: rest) u Γ o := by
  refine js_cons (ps_try_only (tb := fun W' D σ H => ∃ I0 H0 I, Ok X.K I0 H0 Γ I σ H ∧ ∀ I' H' d, Grow I H I' H' → Pay X.K I' H' d fs xs → W' (.ref C) d σ H') (ts := fun a cls d => tJ X.K W tNext Γ (.nx Γ')) (Wout := W) hs hf hc tk (fun W' pn xe t' _ => ?_) (fun a oe cls d pn _ _ => (hsu a oe pn).ps)) hr ?_
  · exact PSsweak (pss_cons (ps_expr (hb W' pn xe t').pe hsw) pss_never) fun D' σ H h => h
  · intro D' σ H I0 H0 I k q
    refine ⟨I0, H0, I, k, fun I' H' d g pay => ⟨true, hm, fun _ a _ => ⟨D', I0, H0, I', ⟨fun _ _ z => z, fun _ _ z => z, fun _ _ z => z, fun _ _ z => z⟩, k.step g, fun I2 σ2 H2 k2 => q I2 σ2 H2 k2⟩, fun z => nomatch z⟩⟩
/-- a def's answer: a value, or an error of the class number c with its fields -/
inductive Rz (α : Type) where
  | ok (a : α) | er (c : Nat) (fs : List Str) (xs : List Int)
instance {α : Type} [Inhabited α] : Inhabited (Rz α) := ⟨.ok default⟩
def Rz.out {α : Type} (EC : Nat → Addr) (enc : α → D) : Rz α → O
  | .ok a => .rt (enc a)
  | .er c fs xs => .ex (EC c) fs (xs.map D.int)
def Rz.Ok {α : Type} : Rz α → Prop
  | .ok _ => True
  | .er _ _ _ => False
def Rz.get {α : Type} [Inhabited α] : Rz α → α
  | .ok a => a
  | .er _ _ _ => default
theorem Rz.out_ok {α : Type} [Inhabited α] {EC : Nat → Addr} {enc : α → D} {r : Rz α} (h : r.Ok) : O.rt (enc r.get) = r.out EC enc := by
  cases r with
  | ok a => rfl
  | er c fs xs => exact h.elim
/-- the body does not raise -/
theorem js_tryOk {h₀ : ExceptHandler} {hds : List ExceptHandler} {p2 : Pos} (he : JE X.nox Γ e d) (hr : JS X W rest u Γ o) (hs : swapsWith e none pos.line X.env = pure false := by rfl) : JS X W (.Try [.Expr e pos] (h₀ :: hds) [] [] p2 :: rest) u Γ o := by
  refine js_cons (ps_try_thru0 (pss_one (ps_expr he.pe hs))) hr fun D' σ H I0 H0 I k q => ⟨I0, H0, I, k, fun I' v H' g h => q I' _ H' (k.step g)⟩
end
end Bw
/-! B10: except clauses of several classes, with and without names. -/
namespace Bw
open PySem PySem.Spec PyProof.Rows L2
section
variable {M : Model} {A : Around} {E : Value → Shared → Prop} {s : Shared} {K : PySem.W.Frag}
theorem wp_forIn_yield {β : Type} {i : β} {f : Value → β → Sem (ForInStep β)} {Q : β → Shared → Prop} : ∀ l : List Value, (∀ c ∈ l, ∀ Q' : ForInStep β → Shared → Prop, Q' (.yield i) s → wpAny M A (f c i) Q' E s) → Q i s → wpAny M A (forIn l i f) Q E s
  | [], _, q => by
    rw [List.forIn_nil]
    exact wpAny_pure q
  | c :: l, h, q => by
    rw [List.forIn_cons]
    exact wpAny_bind (h c (.head _) _ (wp_forIn_yield l (fun c' hc => h c' (.tail _ hc)) q))
theorem wp_forIn_any {β : Type} {i dn : β} {f : Value → β → Sem (ForInStep β)} {Q : β → Shared → Prop} {cls : Value} : ∀ (l : List Value) (b : Bool), PySem.W.exmAny K cls l = some b →
    (∀ c ∈ l, PySem.W.exmOne K cls c = some true → ∀ Q' : ForInStep β → Shared → Prop, Q' (.done dn) s → wpAny M A (f c i) Q' E s) →
    (∀ c ∈ l, PySem.W.exmOne K cls c = some false → ∀ Q' : ForInStep β → Shared → Prop, Q' (.yield i) s → wpAny M A (f c i) Q' E s) → Q (if b then dn else i) s → wpAny M A (forIn l i f) Q E s
  | [], b, e, _, _, q => by
    rw [List.forIn_nil]
    have e' : some false = some b := e
    cases e'
    exact wpAny_pure q
  | c :: l, b, e, h1, h2, q => by
    rw [List.forIn_cons]
    obtain ⟨b1, d1, x1, y1, z1⟩ := PySem.W.exmAny_cons e
    subst z1
    cases b1 with
    | true => exact wpAny_bind (h1 c (.head _) x1 _ (wpAny_pure q))
    | false => exact wpAny_bind (h2 c (.head _) x1 _ (wp_forIn_any l d1 y1 (fun c' hc => h1 c' (.tail _ hc)) (fun c' hc => h2 c' (.tail _ hc)) q))
end
theorem exmAny_mem {K : PySem.W.Frag} {cls : Value} : ∀ (l : List Value) (b : Bool), PySem.W.exmAny K cls l = some b → ∀ c ∈ l, ∃ b', PySem.W.exmOne K cls c = some b'
  | [], _, _, _, h => nomatch h
  | c :: l, b, e, c', h => by
    obtain ⟨b1, d1, x1, y1, z1⟩ := PySem.W.exmAny_cons e
    cases h with
    | head => exact ⟨b1, x1⟩
    | tail _ h => exact exmAny_mem l d1 y1 c' h
theorem exm_tupN {M : Model} {K : PySem.W.Frag} {cs : List Value} {cls : Value} {tp e : Addr} {b : Bool} {h : Heap} (X : K.In h) (LT : PySem.W.Looks M h (typeOf (.ref e)) cls) (hp : h.get? tp = some { cls := .type "tuple", data := .seq cs.toArray }) (hx : PySem.W.exmAny K cls cs = some b) :
    PySem.W.Looks M h (excMatches (.ref e) (.ref tp)) b := by
  intro A Q E s k₀ q
  obtain ⟨hh, g, d, tk, os⟩ := s
  have k : ∀ b o, h.get? b = some o → hh.get? b = some o := k₀
  have LT0 : PySem.W.Looks M h (isInstance (.ref tp) (.type "tuple")) true := ((PySem.W.Looks.ld hp).andThen .now).andThen (PySem.W.Looks.of_pure isSubtype_tuple_tuple)
  have LT := LT.keeps k
  have LT0 := LT0.keeps k
  have hp' := k _ _ hp
  have hm := exmAny_mem cs b hx
  unfold excMatches
  refine wpAny_bind (LT0.at ?_)
  dsimp only
  rw [if_pos rfl]
  first
    | refine wpAny_bind (wpAny_seqItems hp' rfl ?_)
    | refine wpAny_bind (wpAny_bind (wpAny_seqItems hp' rfl (wpAny_pure ?_)))
  dsimp only [Option.getD_some, Option.getD]
  refine wpAny_bind (wpAny_pure ?_)
  refine wpAny_bind (wp_forIn_yield (i := PUnit.unit) cs (fun c hc Q' q' => ?_) ?_)
  · obtain ⟨b', hb⟩ := hm c hc
    have e1 := (PySem.W.exm_cls (M := M) X hb).1.keeps k
    refine wpAny_bind (e1.at ?_)
    rw [if_neg (by decide)]
    exact wpAny_pure q'
  · refine wpAny_bind (LT.at ?_)
    refine wpAny_bind (wp_forIn_any (K := K) (cls := cls) (i := (none, ())) (dn := (some true, ())) cs b hx (fun c hc hb Q' q' => ?_) (fun c hc hb Q' q' => ?_) ?_)
    · have e1 := (PySem.W.exm_cls (M := M) X hb).2.keeps k
      refine wpAny_bind (e1.at ?_)
      rw [if_pos rfl]
      exact wpAny_pure q'
    · have e1 := (PySem.W.exm_cls (M := M) X hb).2.keeps k
      refine wpAny_bind (e1.at ?_)
      rw [if_neg (by decide)]
      exact wpAny_pure q'
    · cases b <;> exact wpAny_pure q
theorem flyZ_keeps {base h h' : Heap} {l : List Env} {e : Addr} {Z : Obj → Prop} (x : HandSPX.FlyingZ base l e Z h) (k : ∀ b o, h.get? b = some o → h'.get? b = some o) : HandSPX.FlyingZ base l e Z h' := by
  obtain ⟨x1, x2, x3, oe, vs, T, oT, ts, he, hz, hd, h1, hn, hne, hT, hdT, h3⟩ := x
  exact ⟨fun b o q => k b o (x1 b o q), x2, x3.of_keeps fun b o q _ => ⟨o, k b o q, rfl⟩, oe, vs, T, oT, ts, k _ _ he, hz, hd, h1, hn, hne, k _ _ hT, hdT, h3⟩
/-- one clause: its classes, its name's slot, its suite's wish -/
structure Cl where
  cs : List Value
  nm : Option Nat
  ts : Addr → Value → Option Addr → TS
def clEnds (D : Ends) : Option Nat → Ends
  | none => D
  | some i => { nx := fun σ' H' => D.nx (σ'.set i none) H', rt := D.rt, bk := fun σ' H' => D.bk (σ'.set i none) H', ct := fun σ' H' => D.ct (σ'.set i none) H' }
def clSet (σ : L2.St) (a : Addr) : Option Nat → L2.St
  | none => σ
  | some i => σ.set i (some (.ref a))
def wGen (K : PySem.W.Frag) (Wout : WX) (D : Ends) : List Cl → WX
  | [] => Wout
  | c :: r => fun cls d σ H => ∃ b, PySem.W.exmAny K cls c.cs = some b ∧ (b = true → ∀ a, H a = none → c.ts a cls d (clEnds D c.nm) (clSet σ a c.nm) H) ∧ (b = false → wGen K Wout D r cls d σ H)
inductive NamesL (X : Cx) : List Expr → List Value → Prop
  | nil : NamesL X [] []
  | cons {x : Str} {c : Value} {np : Pos} {es : List Expr} {cs : List Value} (h : Names X x c) (r : NamesL X es cs) : NamesL X (.Name x np :: es) (c :: cs)
inductive ClT (X : Cx) : Expr → List Value → Prop
  | one {x : Str} {c : Value} {np : Pos} (h : Names X x c) : ClT X (.Name x np) [c]
  | tup {es : List Expr} {cs : List Value} {k : Nat} {tp : Pos} (h : NamesL X es cs) (hl : cs.length ≤ 1000) : ClT X (.Tuple es k tp) cs
inductive HdsG (X : Cx) : List ExceptHandler → List Cl → Prop
  | nil : HdsG X [] []
  | bare {t : Expr} {cs : List Value} {ts : Addr → Value → Option Addr → TS} {b₀ : Stmt} {suite : List Stmt} {pos' : Pos} {hds : List ExceptHandler} {l : List Cl} (ht : ClT X t cs)
      (hsu : ∀ (a : Addr) (oe : Obj) (cls : Value) (d : Option Addr) (pn : List (Addr × Obj)), Zc cls d oe → (∃ vs, oe.data = .fields vs) → PSs (X.suite a ((a, oe) :: pn)) (b₀ :: suite) (ts a cls d)) (r : HdsG X hds l) :
      HdsG X (.ExceptHandler (some t) none (b₀ :: suite) pos' :: hds) (⟨cs, none, ts⟩ :: l)
  | named {t : Expr} {cs : List Value} {ts : Addr → Value → Option Addr → TS} {n : Str} {i : Nat} {b₀ : Stmt} {suite : List Stmt} {pos' : Pos} {hds : List ExceptHandler} {l : List Cl} (ht : ClT X t cs) (hi : X.N[i]? = some n) (hln : X.env.kindOf n = some .local)
      (hsu : ∀ (a : Addr) (oe : Obj) (cls : Value) (d : Option Addr) (pn : List (Addr × Obj)), Zc cls d oe → (∃ vs, oe.data = .fields vs) → PSs (X.suite a ((a, oe) :: pn)) (b₀ :: suite) (ts a cls d)) (r : HdsG X hds l) :
      HdsG X (.ExceptHandler (some t) (some n) (b₀ :: suite) pos' :: hds) (⟨cs, some i, ts⟩ :: l)
section
variable {X : Cx}
theorem nm_ok {x : Str} {c : Value} {np : Pos} {a : Addr} {oe : Obj} {pn : List (Addr × Obj)} {σ : L2.St} {H : Hp} {s : Shared} {Q E : Value → Shared → Prop} (hc : Names X x c) (S : Inv (X.suite a ((a, oe) :: pn)) [] σ H s) (q : Q c s) : wpAny (model X.prog X.w) (X.A.mark (some (.ref a))) (eval (.Name x np) X.env) Q E s := by
  obtain ⟨hg, hdbg, hm | ⟨hm, hv, hnn⟩⟩ := hc
  · exact ld_glob (X := X.suite a ((a, oe) :: pn)) S hg hm q hdbg
  · exact ld_blt (X := X.suite a ((a, oe) :: pn)) S hg hm hv q hnn hdbg
theorem nms_ok {a : Addr} {oe : Obj} {pn : List (Addr × Obj)} {σ : L2.St} {H : Hp} {s : Shared} {pos : Pos} {E : Value → Shared → Prop} (S : Inv (X.suite a ((a, oe) :: pn)) [] σ H s) : ∀ {es : List Expr} {cs : List Value}, NamesL X es cs → ∀ {Q : List Value → Shared → Prop}, Q cs s →
    wpAny (model X.prog X.w) (X.A.mark (some (.ref a))) (spliced (backTo pos (starEach es X.env))) Q E s := by
  intro es cs h
  induction h with
  | nil => intro Q q; exact wpAny_items_nil q
  | cons h r ih => intro Q q; exact wpAny_items_cons (nm_ok h S (ih q))
theorem tst_ok {t : Expr} {cs : List Value} {a : Addr} {oe : Obj} {pn : List (Addr × Obj)} {σ : L2.St} {H : Hp} {s : Shared} {cls : Value} {b : Bool} {Q : Bool → Shared → Prop} {E : Value → Shared → Prop} (ht : ClT X t cs) (S : Inv (X.suite a ((a, oe) :: pn)) [] σ H s) (kin : X.K.In s.heap)
    (LT : PySem.W.Looks (model X.prog X.w) s.heap (typeOf (.ref a)) cls) (hx : PySem.W.exmAny X.K cls cs = some b) (q : ∀ h' : Heap, (∀ b o, s.heap.get? b = some o → h'.get? b = some o) → Q b { s with heap := h' }) :
    wpAny (model X.prog X.w) (X.A.mark (some (.ref a))) (eval t X.env) (fun c s₁ => wpAny (model X.prog X.w) (X.A.mark (some (.ref a))) (excMatches (.ref a) c) Q E s₁) E s := by
  cases ht with
  | one hc =>
    obtain ⟨b1, d1, x1, y1, z1⟩ := PySem.W.exmAny_cons hx
    have y1' : some false = some d1 := y1
    cases y1'
    rw [Bool.or_false] at z1
    subst z1
    exact nm_ok hc S ((PySem.W.exm_one (M := model X.prog X.w) kin LT x1).here (q s.heap fun _ _ z => z))
  | tup h hl =>
    refine wpAny_Tuple (nms_ok S h ⟨by rw [sizeLine_eq]; omega, ?_⟩)
    have kp : ∀ q o, s.heap.get? q = some o → (s.heap.push { cls := .type "tuple", data := .seq cs.toArray }).get? q = some o := fun _ _ z => Heap.get?_push_of_some _ z
    exact (exm_tupN (kin.keeps kp) (LT.keeps kp) (Heap.get?_push_size s.heap rfl) hx).here (q _ kp)
end
/-- a suite's ends, seen from without -/
def Seen (X : Cx) (a : Addr) (oe : Obj) (pins : List (Addr × Obj)) (D : Ends) (f : Flow) (s : Shared) : Prop := SP (X.suite a ((a, oe) :: (X.pn ++ pins))) [] D f s
section
variable {X : Cx} {D : Ends} {pins : List (Addr × Obj)} {σ : L2.St} {H : Hp} {a : Addr} {oe : Obj} {f : Flow} {s sI s' : Shared} {B g : Heap} {cls : Value} {d : Option Addr}
theorem Seen.out (ok : X.Ok) (x : Seen X a oe pins D f s) : SP X pins D f s := by
  unfold Seen at x
  cases f with
  | ret u => obtain ⟨v, σ1, H1, S, r, q⟩ := x; exact ⟨v, σ1, H1, S.unsuite ok, r, q⟩
  | next => obtain ⟨σ1, H1, S, q⟩ := x; exact ⟨σ1, H1, S.unsuite ok, q⟩
  | brk => obtain ⟨σ1, H1, S, q⟩ := x; exact ⟨σ1, H1, S.unsuite ok, q⟩
  | cont => obtain ⟨σ1, H1, S, q⟩ := x; exact ⟨σ1, H1, S.unsuite ok, q⟩
/-- .. the name unbound behind it -/
theorem Seen.gone {n : Str} {i : Nat} {pos : Pos} {E : Value → Shared → Prop} (ok : X.Ok) (hN : X.N.Nodup) (hi : X.N[i]? = some n) (hln : X.env.kindOf n = some .local) (x : Seen X a oe pins (clEnds D (some i)) f s) :
    wpAny (model X.prog X.w) X.A (do bindName X.env n .none; unbindBehindTheSuite X.env n pos) (fun _ t => SP X pins D f t) E s := by
  unfold Seen at x
  cases f with
  | ret u => obtain ⟨v, σ1, H1, S, r, q⟩ := x; exact gone_ok (S.unsuite ok) hN hi hln fun t J => ⟨v, _, H1, J, r, q⟩
  | next => obtain ⟨σ1, H1, S, q⟩ := x; exact gone_ok (S.unsuite ok) hN hi hln fun t J => ⟨_, H1, J, q⟩
  | brk => obtain ⟨σ1, H1, S, q⟩ := x; exact gone_ok (S.unsuite ok) hN hi hln fun t J => ⟨_, H1, J, q⟩
  | cont => obtain ⟨σ1, H1, S, q⟩ := x; exact gone_ok (S.unsuite ok) hN hi hln fun t J => ⟨_, H1, J, q⟩
/-- the error's object does not move: the state within a suite -/
structure Air (X : Cx) (pins : List (Addr × Obj)) (σ : L2.St) (H : Hp) (a : Addr) (cls : Value) (d : Option Addr) (B : Heap) (sI s' : Shared) : Prop where
  inv : Inv X pins σ H sI
  nb : ∀ b o, sI.heap.get? b = some o → b ∉ frs X.stack → B.get? b = some o
  up : sI.heap.UpToSlots s'.heap
  na : H a = none
  os : s'.os = sI.os
  ag : AllBare s'.gens
  hs : X.stack = X.env :: X.outer
  hf : X.env.frame = some X.env.locals
theorem Air.at (x : Air X pins σ H a cls d B sI s') (fl : HandSPX.FlyingZ B (X.env :: X.outer) a (Zc cls d) g) (u : s'.heap.UpToSlots g) :
    Inv X pins σ H { s' with heap := g } ∧ ∃ oe, g.get? a = some oe ∧ Zc cls d oe ∧ (∃ vs, oe.data = .fields vs) ∧ Inv (X.suite a ((a, oe) :: (X.pn ++ pins))) [] σ H { s' with heap := g } := by
  have J := x.inv.landed (s' := { s' with heap := g }) x.nb fl.1 (x.up.trans u) x.os x.ag
  obtain ⟨oe, vs, q1, q2, q3⟩ := fl.there
  have out : a ∉ frs (X.env :: X.outer) := by
    intro m
    obtain ⟨_, o2, e2, no⟩ := (fl.2.2.1).mem m
    cases q1.symm.trans e2
    exact no _ q3
  have out1 : a ≠ X.env.locals := by
    intro z
    apply out
    refine List.mem_filterMap.mpr ⟨X.env, .head _, ?_⟩
    rw [x.hf, z]
  have out2 : a ∉ X.fs := by
    intro m
    obtain ⟨v, hv, q⟩ := List.mem_filterMap.mp m
    exact out (List.mem_filterMap.mpr ⟨v, .tail _ hv, q⟩)
  exact ⟨J, oe, q1, q2, ⟨vs, q3⟩, J.suite q1 q3 x.na out1 out2⟩
theorem Air.looks (fl : HandSPX.FlyingZ B (X.env :: X.outer) a (Zc cls d) g) : PySem.W.Looks (model X.prog X.w) g (typeOf (.ref a)) cls := by
  obtain ⟨oe, vs, q1, q2, _⟩ := fl.there
  intro A Q E s k q
  refine wpAny_typeOf_ref (k _ _ q1) ?_
  rw [q2.1]
  exact q
theorem Air.on {Wout : WX} (x : Air X pins σ H a cls d B sI s') (tk : Takes X Wout) (fl : HandSPX.FlyingZ B (X.env :: X.outer) a (Zc cls d) g) (u : s'.heap.UpToSlots g) (w : Wout cls d σ H) :
    wpAny (model X.prog X.w) X.A (handleBy (.ref a) X.env []) (SP X pins D) X.xe { s' with heap := g } := by
  have last : wpAny (model X.prog X.w) X.A (setFlight (.ref a) X.env.frame) (fun _ t => wpAny (model X.prog X.w) X.A (throw (.ref a) : Sem Flow) (SP X pins D) X.xe t) X.xe { s' with heap := g } := by
    rw [x.hf]
    exact HandSPX.setFlight_upZ fl fun g2 held u2 => wpAny_throw (tk _ _ ⟨a, B, sI, pins, σ, H, cls, d, rfl, x.inv, x.nb, (x.up.trans u).trans u2, Or.inr (Or.inr (by rw [x.hs]; exact held)), x.na, x.os, x.ag, w⟩)
  obtain ⟨_, _, _, oe, vs, T, _, _, q1, _, q3, q4, _⟩ := id fl
  apply wpAny_handleBy_nil
  unfold PySem.passOn
  apply wpAny_bind (wpAny_field q1 q3 q4 _)
  have nn : ¬ ((Value.ref T == Value.none) = true) := by simp
  rw [if_neg nn]
  first
    | exact wpAny_bind (wpAny_pure (wpAny_bind last))
    | exact wpAny_bind last
theorem Air.go {Wout : WX} (x : Air X pins σ H a cls d B sI s') (hN : X.N.Nodup) (tk : Takes X Wout) : ∀ {hds : List ExceptHandler} {l : List Cl}, HdsG X hds l → ∀ g : Heap, HandSPX.FlyingZ B (X.env :: X.outer) a (Zc cls d) g → s'.heap.UpToSlots g → wGen X.K Wout D l cls d σ H →
    wpAny (model X.prog X.w) X.A (handleBy (.ref a) X.env hds) (SP X pins D) X.xe { s' with heap := g } := by
  have ok := x.inv.ok
  intro hds l hk
  induction hk with
  | nil => exact fun g fl u w => x.on tk fl u w
  | bare ht hsu r ih =>
    intro g fl u ⟨b, e, yes, no⟩
    obtain ⟨J, oe, q1, q2, q3, S⟩ := x.at fl u
    apply wpAny_handleBy_cons (codeAny_handlers_test (tst_ok ht S J.kIn (Air.looks fl) e fun g1 kp => _)) (fun z => nomatch z)
    intro g1 kp
    have fl1 := flyZ_keeps fl kp
    have u1 := u.trans (Heap.UpToSlots.of_keeps kp)
    cases b with
    | false => exact ih g1 fl1 u1 (no rfl)
    | true =>
      apply codeAny_handlers_suite (HandSPX.lands_againZ fl1 fun g2 fl2 u2 => _)
      intro g2 fl2 u2
      obtain ⟨J2, o2, r1, r2, r3, S2⟩ := x.at fl2 (u1.trans u2)
      exact wpAny_mono ((hsu a o2 cls d _ r2 r3).run [] _ _ H _ S2 (yes rfl a x.na)) (fun f t z => Seen.out ok z) (fun _ _ z => z.elim)
  | named ht hi hln hsu r ih =>
    intro g fl u ⟨b, e, yes, no⟩
    obtain ⟨J, oe, q1, q2, q3, S⟩ := x.at fl u
    apply wpAny_handleBy_cons (codeAny_handlers_test (tst_ok ht S J.kIn (Air.looks fl) e fun g1 kp => _)) (fun z => nomatch z)
    intro g1 kp
    have fl1 := flyZ_keeps fl kp
    have u1 := u.trans (Heap.UpToSlots.of_keeps kp)
    cases b with
    | false => exact ih g1 fl1 u1 (no rfl)
    | true =>
      apply codeAny_handlers_suite_as (HandSPX.lands_againZ fl1 fun g2 fl2 u2 => _)
      intro g2 fl2 u2
      obtain ⟨J2, o2, r1, r2, r3, S2⟩ := x.at fl2 (u1.trans u2)
      exact store_ok (X := X.suite a ((a, o2) :: (X.pn ++ pins))) (v := .ref a) S2 hN hi (.inl hln) rfl (fun t S3 => wpAny_mono ((hsu a o2 cls d _ r2 r3).run [] t _ H _ S3 (yes rfl a x.na)) (fun f t z => Seen.gone ok hN hi hln z) (fun _ _ z => z.elim)) (.inr hln)
end
section
variable {X : Cx} {body : List Stmt} {h₀ : ExceptHandler} {hds : List ExceptHandler} {l : List Cl} {pos : Pos} {tb : WX → TS} {Wout : WX}
/-- try with clauses of each kind -/
theorem ps_try_gen (hs : X.stack = X.env :: X.outer) (hf : X.env.frame = some X.env.locals) (hN : X.N.Nodup) (tk : Takes X Wout)
    (hb : ∀ (W : WX) (pn : List (Addr × Obj)) (xe : Value → Shared → Prop), Takes (X.tr pn xe) W → PassesOwn (model X.prog X.w) X.A X.env xe → PSs (X.tr pn xe) body (tb W))
    (hh : HdsG X (h₀ :: hds) l) : PS X (.Try body (h₀ :: hds) [] [] pos) (fun D σ H => tb (wGen X.K Wout D l) D σ H) := by
  constructor
  intro pins s σ H D I h
  have ok := I.ok
  have fr : X.A.frames = some (X.env :: X.outer) := ok.frames.trans (congrArg some hs)
  let catch_ : Value → Shared → Prop := fun e t => wpAny (model X.prog X.w) X.A (noteFrame e X.env) (fun _ t => wpAny (model X.prog X.w) X.A (setFlight e none) (fun _ t => wpAny (model X.prog X.w) X.A (handleBy e X.env (h₀ :: hds)) (SP X pins D) X.xe t) X.xe t) X.xe t
  have takes : Takes (X.tr (X.pn ++ pins) catch_) (wGen X.K Wout D l) := by
    intro u s' ⟨a, B, sI, pins', σ', H', cls, d, eu, J', nb, up, sky, na, os, ag, w⟩
    subst eu
    have x : Air X pins σ' H' a cls d B sI s' := ⟨J'.ofTry ok, nb, up, na, os, ag, hs, hf⟩
    have sky' : Sky B (X.env :: X.outer) a (Zc cls d) X.env.locals s'.heap := hs ▸ sky
    exact Sky.land Zc.steady fr hf sky' fun g fl u => x.go hN tk hh g fl u w
  apply wpAny_Try_except
  refine wpAny_mono ((hb _ (X.pn ++ pins) catch_ takes PassesOwn.looking).run [] s σ H D (I.toTry _) h) (fun f t z => ?_) (fun _ _ z => z)
  cases f with
  | ret u => obtain ⟨v, σ1, H1, S, r, q⟩ := z; exact ⟨v, σ1, H1, S.ofTry ok, r, q⟩
  | next => obtain ⟨σ1, H1, S, q⟩ := z; exact wpAny_execs_nil ⟨σ1, H1, S.ofTry ok, q⟩
  | brk => obtain ⟨σ1, H1, S, q⟩ := z; exact ⟨σ1, H1, S.ofTry ok, q⟩
  | cont => obtain ⟨σ1, H1, S, q⟩ := z; exact ⟨σ1, H1, S.ofTry ok, q⟩
end
end Bw
/-! B11: try and its clauses over the judgements. -/
namespace Bw
open PySem PySem.Spec PyProof.Rows L2
instance : Inhabited D := ⟨.non⟩
abbrev e_any : D → D := fun d => d
theorem any_nil {K : PySem.W.Frag} {cls : Value} : PySem.W.exmAny K cls [] = some false := rfl
theorem any_cons {K : PySem.W.Frag} {cls c : Value} {r : List Value} {b d : Bool} (h1 : PySem.W.exmOne K cls c = some b) (h2 : PySem.W.exmAny K cls r = some d) : PySem.W.exmAny K cls (c :: r) = some (b || d) := by
  unfold PySem.W.exmAny
  rw [h1, h2]
section
variable {X : Cx} {W : WX} {Γ Γ' : List Sl} {e : Expr} {rest : List Stmt} {u : TS} {o : O} {pos : Pos} {C : Addr}
/-- clauses that are not reached -/
def HdT (X : Cx) (hds : List ExceptHandler) : Prop := ∃ l, HdsG X hds l
theorem hdt_nil : HdT X [] := ⟨[], .nil⟩
theorem hdt_bare {t : Expr} {cs : List Value} {b₀ : Stmt} {suite : List Stmt} {p1 : Pos} {hds : List ExceptHandler} (ht : ClT X t cs) (r : HdT X hds) : HdT X (.ExceptHandler (some t) none (b₀ :: suite) p1 :: hds) := by
  obtain ⟨l, h⟩ := r
  exact ⟨_, .bare (ts := fun _ _ _ => tNever) ht (fun _ _ _ _ _ _ _ => pss_never) h⟩
theorem hdt_named {t : Expr} {cs : List Value} {n : Str} {b₀ : Stmt} {suite : List Stmt} {p1 : Pos} {hds : List ExceptHandler} (i : Nat) (ht : ClT X t cs) (r : HdT X hds) (hi : X.N[i]? = some n := by rfl) (hln : X.env.kindOf n = some .local := by rfl) : HdT X (.ExceptHandler (some t) (some n) (b₀ :: suite) p1 :: hds) := by
  obtain ⟨l, h⟩ := r
  exact ⟨_, .named (ts := fun _ _ _ => tNever) ht hi hln (fun _ _ _ _ _ _ _ => pss_never) h⟩
/-- what the clauses do with an error of the class C -/
def HW (X : Cx) (W : WX) (C : Addr) (Γ Γ' : List Sl) (hds : List ExceptHandler) : Prop := ∃ l, HdsG X hds l ∧ ∀ (D : Ends) (I0 H0 I : Hp) (σ : L2.St) (H : Hp), Ok X.K I0 H0 Γ I σ H → (∀ I' σ' H', Ok X.K I0 H0 Γ' I' σ' H' → D.nx σ' H') → wGen X.K W D l (.ref C) none σ H
theorem hw_skip {t : Expr} {cs : List Value} {b₀ : Stmt} {suite : List Stmt} {p1 : Pos} {hds : List ExceptHandler} (ht : ClT X t cs) (hm : PySem.W.exmAny X.K (.ref C) cs = some false) (r : HW X W C Γ Γ' hds) : HW X W C Γ Γ' (.ExceptHandler (some t) none (b₀ :: suite) p1 :: hds) := by
  obtain ⟨l, h, w⟩ := r
  exact ⟨_, .bare (ts := fun _ _ _ => tNever) ht (fun _ _ _ _ _ _ _ => pss_never) h, fun D I0 H0 I σ H k q => ⟨false, hm, (fun z => nomatch z), fun _ => w D I0 H0 I σ H k q⟩⟩
theorem hw_skipN {t : Expr} {cs : List Value} {n : Str} {b₀ : Stmt} {suite : List Stmt} {p1 : Pos} {hds : List ExceptHandler} (i : Nat) (ht : ClT X t cs) (hm : PySem.W.exmAny X.K (.ref C) cs = some false) (r : HW X W C Γ Γ' hds) (hi : X.N[i]? = some n := by rfl) (hln : X.env.kindOf n = some .local := by rfl) :
    HW X W C Γ Γ' (.ExceptHandler (some t) (some n) (b₀ :: suite) p1 :: hds) := by
  obtain ⟨l, h, w⟩ := r
  exact ⟨_, .named (ts := fun _ _ _ => tNever) ht hi hln (fun _ _ _ _ _ _ _ => pss_never) h, fun D I0 H0 I σ H k q => ⟨false, hm, (fun z => nomatch z), fun _ => w D I0 H0 I σ H k q⟩⟩
theorem hw_hit {t : Expr} {cs : List Value} {b₀ : Stmt} {suite : List Stmt} {p1 : Pos} {hds : List ExceptHandler} (ht : ClT X t cs) (hm : PySem.W.exmAny X.K (.ref C) cs = some true) (r : HdT X hds)
    (hsu : ∀ (a : Addr) (oe : Obj) (pn : List (Addr × Obj)), Zc (.ref C) none oe → (∃ vs, oe.data = .fields vs) → JS (X.suite a ((a, oe) :: pn)) W (b₀ :: suite) tNext Γ (.nx Γ')) : HW X W C Γ Γ' (.ExceptHandler (some t) none (b₀ :: suite) p1 :: hds) := by
  obtain ⟨l, h⟩ := r
  refine ⟨_, .bare (ts := fun a cls d D σ H => (cls = .ref C ∧ d = none) ∧ tJ X.K W tNext Γ (.nx Γ') D σ H) ht (fun a oe cls d pn hz hd => ⟨fun pins s σ H D I w => ?_⟩) h, fun D I0 H0 I σ H k q => ⟨true, hm, fun _ a _ => ⟨⟨rfl, rfl⟩, D, I0, H0, I, ⟨fun _ _ z => z, fun _ _ z => z, fun _ _ z => z, fun _ _ z => z⟩, k, q⟩, fun z => nomatch z⟩⟩
  obtain ⟨⟨rfl, rfl⟩, w⟩ := w
  exact (hsu a oe pn hz hd).ps.run pins s σ H D I w
theorem hw_hitN {t : Expr} {cs : List Value} {n : Str} {b₀ : Stmt} {suite : List Stmt} {p1 : Pos} {hds : List ExceptHandler} {Γs : List Sl} (i : Nat) (ht : ClT X t cs) (hm : PySem.W.exmAny X.K (.ref C) cs = some true) (r : HdT X hds)
    (hsu : ∀ (a : Addr) (oe : Obj) (pn : List (Addr × Obj)), Zc (.ref C) none oe → (∃ vs, oe.data = .fields vs) → JS (X.suite a ((a, oe) :: pn)) W (b₀ :: suite) tNext (Γ.set i (.im (.adr a))) (.nx Γs)) (eΓ : Γs.set i .un = Γ' := by rfl)
    (hi : X.N[i]? = some n := by rfl) (hln : X.env.kindOf n = some .local := by rfl) : HW X W C Γ Γ' (.ExceptHandler (some t) (some n) (b₀ :: suite) p1 :: hds) := by
  obtain ⟨l, h⟩ := r
  subst eΓ
  refine ⟨_, .named (ts := fun a cls d D σ H => (cls = .ref C ∧ d = none) ∧ tJ X.K W tNext (Γ.set i (.im (.adr a))) (.nx Γs) D σ H) ht hi hln (fun a oe cls d pn hz hd => ⟨fun pins s σ H D I w => ?_⟩) h,
    fun D I0 H0 I σ H k q => ⟨true, hm, fun _ a _ => ⟨⟨rfl, rfl⟩, clEnds D (some i), I0, H0, I, ⟨fun _ _ z => z, fun _ _ z => z, fun _ _ z => z, fun _ _ z => z⟩, k.setIm (.adr a), fun I2 σ2 H2 k2 => q I2 _ H2 k2.setUn⟩, fun z => nomatch z⟩⟩
  obtain ⟨⟨rfl, rfl⟩, w⟩ := w
  exact (hsu a oe pn hz hd).ps.run pins s σ H D I w
/-- try: e raises C, and a clause takes it -/
theorem js_tryG {h₀ : ExceptHandler} {hds : List ExceptHandler} {p2 : Pos} (hN : X.N.Nodup) (hs : X.stack = X.env :: X.outer) (hf : X.env.frame = some X.env.locals) (tk : Takes X W)
    (hb : ∀ (W' : WX) (pn : List (Addr × Obj)) (xe : Value → Shared → Prop), Takes (X.tr pn xe) W' → JX (X.tr pn xe) W' Γ e C [] []) (hw : HW X W C Γ Γ' (h₀ :: hds)) (hr : JS X W rest u Γ' o) (hsw : swapsWith e none pos.line X.env = pure false := by rfl) :
    JS X W (.Try [.Expr e pos] (h₀ :: hds) [] [] p2 :: rest) u Γ o := by
  obtain ⟨l, hd, w⟩ := hw
  refine js_cons (ps_try_gen (tb := fun W' D σ H => ∃ I0 H0 I, Ok X.K I0 H0 Γ I σ H ∧ ∀ I' H' d, Grow I H I' H' → Pay X.K I' H' d [] [] → W' (.ref C) d σ H') (Wout := W) hs hf hN tk (fun W' pn xe t' _ => ?_) hd) hr ?_
  · exact PSsweak (pss_cons (ps_expr (hb W' pn xe t').pe hsw) pss_never) fun D' σ H h => h
  · intro D' σ H I0 H0 I k q
    refine ⟨I0, H0, I, k, fun I' H' d g pay => ?_⟩
    rcases pay with ⟨_, rfl⟩ | ⟨nz, _⟩
    · exact w D' I0 H0 I' σ H' (k.step g) q
    · exact absurd rfl nz
/-- isinstance(e, c), e the error that the suite holds -/
theorem je_isiE {Y : Cx} {a C : Addr} {oe : Obj} {pn : List (Addr × Obj)} {y : Str} {p1 p2 : Pos} {v : V} {cv : Value} {b : Bool} (hc : ExcC Y.K C) (hz : Zc (.ref C) none oe) (hf : ∃ vs, oe.data = .fields vs) (he : JE (Y.suite a ((a, oe) :: pn)) Γ e (.adr a))
    (hp : PE (Y.suite a ((a, oe) :: pn)) (.Name y p2) (tC v)) (hcv : ∀ u, RelV v u → u = cv) (hk : PySem.W.kitOne Y.K (.ref C) cv = some b) (hm : Y.mg "isinstance" = none) (hg : Gl (Y.suite a ((a, oe) :: pn)) "isinstance" := by rfl)
    (hs : starEach (e :: [.Name y p2]) Y.env = (false, eval e Y.env) :: starEach [.Name y p2] Y.env := by rfl) (hs2 : starEach (.Name y p2 :: []) Y.env = (false, eval (.Name y p2) Y.env) :: starEach [] Y.env := by rfl) (hpl : (backTo pos (starEach [.Name y p2] Y.env)).any (·.1) = false := by rfl) :
    JE (Y.suite a ((a, oe) :: pn)) Γ (.Call (.Name "isinstance" p1) [e, .Name y p2] [] pos) (.bl b) :=
  ⟨PEweak (pe_callB (call_isE hc hz hf) hg hm (by decide +kernel) (pa_cons he.pe (pa_cons hp pa_nil hs2) hs) (by decide) (by decide) hs hpl) fun σ H Q ⟨I0, H0, I, o, k⟩ => ⟨I0, H0, I, o, fun I' v' H' g h => by
    cases h
    exact ⟨v, cv, b, rfl, hcv, hk, k I' _ H' g (.bl b)⟩⟩⟩
theorem relv_ref {a : Addr} : ∀ u, RelV (.ref a) u → u = .ref a := fun u h => by cases h; rfl
theorem relv_ty {n : String} : ∀ u, RelV (.ty n) u → u = .type n := fun u h => by cases h; rfl
theorem kit_exm {K : PySem.W.Frag} {t c : Value} (h : PySem.W.exmOne K t c = some true) : PySem.W.kitOne K t c = some true := by
  unfold PySem.W.exmOne at h
  unfold PySem.W.kitOne
  split
  · rfl
  · split at h
    · exact h
    · cases h
end
/-- what is asked of a class of errors, so that isinstance asks its errors rightly -/
def exB (K : PySem.W.Frag) (x : Str) : Bool :=
  decide (PySem.W.findIn K (.ref (He.ga K x)) "__getattribute__" = some (some (.builtin "BaseException.__getattribute__"))) && (decide (PySem.W.findIn K (.ref (He.ga K x)) "__getattr__" = some none) && (decide (PySem.W.subIn K (.ref (He.ga K x)) (.type "BaseException") = some true) && (PySem.W.hasDictIn K (He.ga K x) &&
    (decide (PySem.W.findIn K (.ref (He.ga K x)) "__class__" = some (some (.builtin "object.__class__"))) && (decide (PySem.W.specialIn K (.builtin "object.__class__") "__get__" = some (some (.builtin "getset_descriptor.__get__"))) && (decide (PySem.W.takesIn K (.builtin "object.__class__") = some true) &&
      (decide (PySem.W.mroIn K (He.ga K x) (.type "object") = some true) && decide (PySem.W.kitOne K (.ref (He.ga K x)) (.type "ValueError") = some true))))))))
theorem exOk_of {K : PySem.W.Frag} {x : Str} (h : exB K x = true) : ExcC K (He.ga K x) ∧ PySem.W.kitOne K (.ref (He.ga K x)) (.type "ValueError") = some true := by
  obtain ⟨a1, h⟩ := He.ba h
  obtain ⟨a2, h⟩ := He.ba h
  obtain ⟨a3, h⟩ := He.ba h
  obtain ⟨a4, h⟩ := He.ba h
  obtain ⟨a5, h⟩ := He.ba h
  obtain ⟨a6, h⟩ := He.ba h
  obtain ⟨a7, h⟩ := He.ba h
  obtain ⟨a8, a9⟩ := He.ba h
  exact ⟨⟨of_decide_eq_true a1, of_decide_eq_true a2, of_decide_eq_true a3, a4, of_decide_eq_true a5, of_decide_eq_true a6, of_decide_eq_true a7, of_decide_eq_true a8⟩, of_decide_eq_true a9⟩
end Bw
namespace Bw
open PySem PySem.Spec PyProof.Rows L2
def f_divisor_b1  (s_1 : (Int × Int)) : Stp (Int × Int) Empty :=
  let rest_2 : Int := (s_1.1.fmod s_1.2)
  .nx (s_1.2, rest_2)
def g_divisor_b1  (s_1 : (Int × Int)) : Prop :=
  (s_1.2 ≠ 0) ∧ (let rest_2 : Int := (s_1.1.fmod s_1.2)
  True)
def f_divisor (one : Int) (other : Int) : Int :=
  (whileS (fun s_1 : (Int × Int) => s_1.2 ≠ 0) (f_divisor_b1) ((other.natAbs + 1)) (one, other)).out (fun s_4 =>
    (iabs s_4.1)) (fun r => nomatch r)
def g_divisor (one : Int) (other : Int) : Prop :=
  (whileOk (fun s_1 : (Int × Int) => s_1.2 ≠ 0) (f_divisor_b1) (fun s_1 : (Int × Int) => True) (g_divisor_b1) ((other.natAbs + 1)) (one, other)) ∧ (∀ s_4, (whileS (fun s_1 : (Int × Int) => s_1.2 ≠ 0) (f_divisor_b1) ((other.natAbs + 1)) (one, other)).fin s_4 →
    True)
def S_divisor (ds : List D) (o : O) : Prop := ∃ (one : Int) (other : Int), ds = [(.int one), (.int other)] ∧ g_divisor one other ∧ o = .rt (.int (f_divisor one other))
abbrev e_Tiiiz : (Int × Int × Int) → D := fun p => .tup [(.int p.1), (.int p.2.1), (.int p.2.2)]
def f_point_of (x : Int) (y : Int) (w : Int) : (Int × Int × Int) :=
  let share_1 : Int := (f_divisor (f_divisor x y) w)
  let share_3 : Int := (if w < 0 then (-share_1) else share_1)
  ((x / share_3), (y / share_3), (w / share_3))
def g_point_of (x : Int) (y : Int) (w : Int) : Prop :=
  (¬ (w = 0)) ∧ (g_divisor x y) ∧ (g_divisor (f_divisor x y) w) ∧ (let share_1 : Int := (f_divisor (f_divisor x y) w)
  (let share_3 : Int := (if w < 0 then (-share_1) else share_1)
  (CDivW x share_3) ∧ (CDivW y share_3) ∧ (CDivW w share_3) ∧ True))
def S_point_of (ds : List D) (o : O) : Prop := ∃ (x : Int) (y : Int) (w : Int), ds = [(.int x), (.int y), (.int w)] ∧ g_point_of x y w ∧ o = .rt (e_Tiiiz (f_point_of x y w))
abbrev e_Tiiz : (Int × Int) → D := fun p => .tup [(.int p.1), (.int p.2)]
def f_time_of (top : Int) (bottom : Int) : (Int × Int) :=
  let share_1 : Int := (f_divisor top bottom)
  let share_3 : Int := (if bottom < 0 then (-share_1) else share_1)
  ((top.fdiv share_3), (bottom.fdiv share_3))
def g_time_of (top : Int) (bottom : Int) : Prop :=
  (¬ (bottom = 0)) ∧ (g_divisor top bottom) ∧ (let share_1 : Int := (f_divisor top bottom)
  (let share_3 : Int := (if bottom < 0 then (-share_1) else share_1)
  (CDivF top share_3) ∧ (CDivF bottom share_3) ∧ True))
def S_time_of (ds : List D) (o : O) : Prop := ∃ (top : Int) (bottom : Int), ds = [(.int top), (.int bottom)] ∧ g_time_of top bottom ∧ o = .rt (e_Tiiz (f_time_of top bottom))
def f_look_inside (wide : Int) (high : Int) (P : (Int × Int × Int)) : (Rz Unit) :=
  if (wide < 1) ∨ (high < 1) then
    .er 0 [] []
  else
    if (P.1 ≤ 0) ∨ ((P.2.1 ≤ 0) ∨ ((P.1 ≥ (wide * P.2.2)) ∨ (P.2.1 ≥ (high * P.2.2)))) then
      .er 0 [] []
    else
      .ok ()
def g_look_inside (wide : Int) (high : Int) (P : (Int × Int × Int)) : Prop :=
  (((wide < 1) ∨ (high < 1)) →   True) ∧ (¬ ((wide < 1) ∨ (high < 1)) →   (¬ (P.1 ≤ 0) → (¬ (P.2.1 ≤ 0) → IntMulOk wide P.2.2 ∧ (¬ (P.1 ≥ (wide * P.2.2)) → IntMulOk high P.2.2))) ∧ (((P.1 ≤ 0) ∨ ((P.2.1 ≤ 0) ∨ ((P.1 ≥ (wide * P.2.2)) ∨ (P.2.1 ≥ (high * P.2.2))))) →   True) ∧ (¬ ((P.1 ≤ 0) ∨ ((P.2.1 ≤ 0) ∨ ((P.1 ≥ (wide * P.2.2)) ∨ (P.2.1 ≥ (high * P.2.2))))) →   True))
def S_look_inside (EC : Nat → Addr) (ds : List D) (o : O) : Prop := ∃ (wide : Int) (high : Int) (P : (Int × Int × Int)), ds = [(.int wide), (.int high), (e_Tiiiz P)] ∧ g_look_inside wide high P ∧ o = Rz.out EC e_n (f_look_inside wide high P)
def f_swung_0 (_ : Int) (_ : Int) (_ : Int) : (Int × Int) := default
def g_swung_0 (_ : Int) (_ : Int) (_ : Int) : Prop := False
def S_swung_0 (ds : List D) (o : O) : Prop := ∃ (far : Int) (span : Int) (step : Int), ds = [(.int far), (.int span), (.int step)] ∧ g_swung_0 far span step ∧ o = .rt (e_Tiiz (f_swung_0 far span step))
def f_swung_1 (far : Int) (span : Int) (step : Int) : (Int × Int) :=
  if step < 0 then
    let p_2 : (Int × Int) := (f_swung_0 (span - far) span (-step))
  ((span - p_2.1), (-p_2.2))
  else
    let p_4 : (Int × Int) := (far / span, far % span)
  if (p_4.1 % 2) = 0 then
      (p_4.2, step)
    else
      ((span - p_4.2), (-step))
def g_swung_1 (far : Int) (span : Int) (step : Int) : Prop :=
  ((step < 0) →   (g_swung_0 (span - far) span (-step)) ∧ (let p_2 : (Int × Int) := (f_swung_0 (span - far) span (-step))
  True)) ∧ (¬ (step < 0) →   (CDivW far span) ∧ (let p_4 : (Int × Int) := (far / span, far % span)
  (((p_4.1 % 2) = 0) →   True) ∧ (¬ ((p_4.1 % 2) = 0) →   True)))
def S_swung_1 (ds : List D) (o : O) : Prop := ∃ (far : Int) (span : Int) (step : Int), ds = [(.int far), (.int span), (.int step)] ∧ g_swung_1 far span step ∧ o = .rt (e_Tiiz (f_swung_1 far span step))
def f_swung (far : Int) (span : Int) (step : Int) : (Int × Int) :=
  if step < 0 then
    let p_2 : (Int × Int) := (f_swung_1 (span - far) span (-step))
  ((span - p_2.1), (-p_2.2))
  else
    let p_4 : (Int × Int) := (far / span, far % span)
  if (p_4.1 % 2) = 0 then
      (p_4.2, step)
    else
      ((span - p_4.2), (-step))
def g_swung (far : Int) (span : Int) (step : Int) : Prop :=
  ((step < 0) →   (g_swung_1 (span - far) span (-step)) ∧ (let p_2 : (Int × Int) := (f_swung_1 (span - far) span (-step))
  True)) ∧ (¬ (step < 0) →   (CDivW far span) ∧ (let p_4 : (Int × Int) := (far / span, far % span)
  (((p_4.1 % 2) = 0) →   True) ∧ (¬ ((p_4.1 % 2) = 0) →   True)))
def S_swung (ds : List D) (o : O) : Prop := ∃ (far : Int) (span : Int) (step : Int), ds = [(.int far), (.int span), (.int step)] ∧ g_swung far span step ∧ o = .rt (e_Tiiz (f_swung far span step))
abbrev e_TTiiizTiizz : ((Int × Int × Int) × (Int × Int)) → D := fun p => .tup [(e_Tiiiz p.1), (e_Tiiz p.2)]
def f_box_at (wide : Int) (high : Int) (P : (Int × Int × Int)) (heading : (Int × Int)) (t : (Int × Int)) : (Rz ((Int × Int × Int) × (Int × Int))) :=
  (match f_look_inside wide high P with
    | .ok v_1 =>
      let many_2 : Int := (P.2.2 * t.2)
  let p_3 : (Int × Int) := (f_swung ((P.1 * t.2) + ((heading.1 * t.1) * P.2.2)) (wide * many_2) heading.1)
  let p_4 : (Int × Int) := (f_swung ((P.2.1 * t.2) + ((heading.2 * t.1) * P.2.2)) (high * many_2) heading.2)
  .ok ((f_point_of p_3.1 p_4.1 many_2), (p_3.2, p_4.2))
    | .er c_ fs_ xs_ => .er c_ fs_ xs_)
def g_box_at (wide : Int) (high : Int) (P : (Int × Int × Int)) (heading : (Int × Int)) (t : (Int × Int)) : Prop :=
  (g_look_inside wide high P) ∧ (match f_look_inside wide high P with
    | .ok v_1 =>
      (IntMulOk P.2.2 t.2) ∧ (let many_2 : Int := (P.2.2 * t.2)
  (IntMulOk P.1 t.2) ∧ (IntMulOk heading.1 t.1) ∧ (IntMulOk (heading.1 * t.1) P.2.2) ∧ (IntMulOk wide many_2) ∧ (g_swung ((P.1 * t.2) + ((heading.1 * t.1) * P.2.2)) (wide * many_2) heading.1) ∧ (let p_3 : (Int × Int) := (f_swung ((P.1 * t.2) + ((heading.1 * t.1) * P.2.2)) (wide * many_2) heading.1)
  (IntMulOk P.2.1 t.2) ∧ (IntMulOk heading.2 t.1) ∧ (IntMulOk (heading.2 * t.1) P.2.2) ∧ (IntMulOk high many_2) ∧ (g_swung ((P.2.1 * t.2) + ((heading.2 * t.1) * P.2.2)) (high * many_2) heading.2) ∧ (let p_4 : (Int × Int) := (f_swung ((P.2.1 * t.2) + ((heading.2 * t.1) * P.2.2)) (high * many_2) heading.2)
  (g_point_of p_3.1 p_4.1 many_2) ∧ True)))
    | .er c_ fs_ xs_ => True)
def S_box_at (EC : Nat → Addr) (ds : List D) (o : O) : Prop := ∃ (wide : Int) (high : Int) (P : (Int × Int × Int)) (heading : (Int × Int)) (t : (Int × Int)), ds = [(.int wide), (.int high), (e_Tiiiz P), (e_Tiiz heading), (e_Tiiz t)] ∧ g_box_at wide high P heading t ∧ o = Rz.out EC e_TTiiizTiizz (f_box_at wide high P heading t)
def f_undone_b1  (s_3 : ((Int × Int) × (Int × Int))) : Stp ((Int × Int) × (Int × Int)) Empty :=
  let many_4 : Int := (s_3.1.1 / s_3.2.1)
  let then_5 : (Int × Int) := ((s_3.1.1 - (many_4 * s_3.2.1)), (s_3.1.2 - (many_4 * s_3.2.2)))
  .nx (s_3.2, then_5)
def g_undone_b1  (s_3 : ((Int × Int) × (Int × Int))) : Prop :=
  (CDivW s_3.1.1 s_3.2.1) ∧ (let many_4 : Int := (s_3.1.1 / s_3.2.1)
  (IntMulOk many_4 s_3.2.1) ∧ (IntMulOk many_4 s_3.2.2) ∧ (let then_5 : (Int × Int) := ((s_3.1.1 - (many_4 * s_3.2.1)), (s_3.1.2 - (many_4 * s_3.2.2)))
  True))
def f_undone (one : Int) (other : Int) : Int :=
  let ahead_1 : (Int × Int) := (other, 0)
  let now_2 : (Int × Int) := ((one % other), 1)
  (whileS (fun s_3 : ((Int × Int) × (Int × Int)) => s_3.2.1 > 0) (f_undone_b1) ((now_2.1.natAbs + 1)) (ahead_1, now_2)).out (fun s_9 =>
    (s_9.1.2 % other)) (fun r => nomatch r)
def g_undone (one : Int) (other : Int) : Prop :=
  (let ahead_1 : (Int × Int) := (other, 0)
  (0 < other) ∧ (let now_2 : (Int × Int) := ((one % other), 1)
  (whileOk (fun s_3 : ((Int × Int) × (Int × Int)) => s_3.2.1 > 0) (f_undone_b1) (fun s_3 : ((Int × Int) × (Int × Int)) => True) (g_undone_b1) ((now_2.1.natAbs + 1)) (ahead_1, now_2)) ∧ (∀ s_9, (whileS (fun s_3 : ((Int × Int) × (Int × Int)) => s_3.2.1 > 0) (f_undone_b1) ((now_2.1.natAbs + 1)) (ahead_1, now_2)).fin s_9 →
    (0 < other) ∧ True)))
def S_undone (ds : List D) (o : O) : Prop := ∃ (one : Int) (other : Int), ds = [(.int one), (.int other)] ∧ g_undone one other ∧ o = .rt (.int (f_undone one other))
abbrev e_OTiiz : (Option (Int × Int)) → D := fun x => match x with | none => .non | some y => (e_Tiiz y)
def f_box_corner (wide : Int) (high : Int) (P : (Int × Int × Int)) (heading : (Int × Int)) : (Rz (Option (Int × Int))) :=
  (match f_look_inside wide high P with
    | .ok v_1 =>
      let share_2 : Int := (f_divisor (wide * heading.2) (high * heading.1))
  let off_3 : Int := ((heading.2 * P.1) - (heading.1 * P.2.1))
  if (off_3 % (share_2 * P.2.2)) ≠ 0 then
        .ok none
      else
        let cycle_5 : Int := ((high * (iabs heading.1)) / share_2)
  let turns_6 : Int := (((off_3 / (share_2 * P.2.2)) * (f_undone ((wide * heading.2) / share_2) cycle_5)) % cycle_5)
  let early_7 : (Int × Int) := (f_time_of (((turns_6 * wide) * P.2.2) - P.1) (heading.1 * P.2.2))
  .ok (some (f_time_of (early_7.1 % (((wide * high) / share_2) * early_7.2)) early_7.2))
    | .er c_ fs_ xs_ => .er c_ fs_ xs_)
def g_box_corner (wide : Int) (high : Int) (P : (Int × Int × Int)) (heading : (Int × Int)) : Prop :=
  (g_look_inside wide high P) ∧ (match f_look_inside wide high P with
    | .ok v_1 =>
      (IntMulOk wide heading.2) ∧ (IntMulOk high heading.1) ∧ (g_divisor (wide * heading.2) (high * heading.1)) ∧ (let share_2 : Int := (f_divisor (wide * heading.2) (high * heading.1))
  (IntMulOk heading.2 P.1) ∧ (IntMulOk heading.1 P.2.1) ∧ (let off_3 : Int := ((heading.2 * P.1) - (heading.1 * P.2.1))
  (IntMulOk share_2 P.2.2) ∧ (0 < (share_2 * P.2.2)) ∧ (((off_3 % (share_2 * P.2.2)) ≠ 0) →   True) ∧ (¬ ((off_3 % (share_2 * P.2.2)) ≠ 0) →   (IntMulOk high (iabs heading.1)) ∧ (CDivW (high * (iabs heading.1)) share_2) ∧ (let cycle_5 : Int := ((high * (iabs heading.1)) / share_2)
  (IntMulOk share_2 P.2.2) ∧ (CDivW off_3 (share_2 * P.2.2)) ∧ (IntMulOk wide heading.2) ∧ (CDivW (wide * heading.2) share_2) ∧ (g_undone ((wide * heading.2) / share_2) cycle_5) ∧ (IntMulOk (off_3 / (share_2 * P.2.2)) (f_undone ((wide * heading.2) / share_2) cycle_5)) ∧ (0 < cycle_5) ∧ (let turns_6 : Int := (((off_3 / (share_2 * P.2.2)) * (f_undone ((wide * heading.2) / share_2) cycle_5)) % cycle_5)
  (IntMulOk turns_6 wide) ∧ (IntMulOk (turns_6 * wide) P.2.2) ∧ (IntMulOk heading.1 P.2.2) ∧ (g_time_of (((turns_6 * wide) * P.2.2) - P.1) (heading.1 * P.2.2)) ∧ (let early_7 : (Int × Int) := (f_time_of (((turns_6 * wide) * P.2.2) - P.1) (heading.1 * P.2.2))
  (IntMulOk wide high) ∧ (CDivW (wide * high) share_2) ∧ (IntMulOk ((wide * high) / share_2) early_7.2) ∧ (0 < (((wide * high) / share_2) * early_7.2)) ∧ (g_time_of (early_7.1 % (((wide * high) / share_2) * early_7.2)) early_7.2) ∧ True))))))
    | .er c_ fs_ xs_ => True)
def S_box_corner (EC : Nat → Addr) (ds : List D) (o : O) : Prop := ∃ (wide : Int) (high : Int) (P : (Int × Int × Int)) (heading : (Int × Int)), ds = [(.int wide), (.int high), (e_Tiiiz P), (e_Tiiz heading)] ∧ g_box_corner wide high P heading ∧ o = Rz.out EC e_OTiiz (f_box_corner wide high P heading)
def f_box_round (wide : Int) (high : Int) (P : (Int × Int × Int)) (heading : (Int × Int)) : (Rz (Int × Int)) :=
  (match f_look_inside wide high P with
    | .ok v_1 =>
      let share_2 : Int := (f_divisor (wide * heading.2) (high * heading.1))
  .ok ((((2 * wide) * high) / share_2), ((2 * ((high * (iabs heading.1)) + (wide * (iabs heading.2)))) / share_2))
    | .er c_ fs_ xs_ => .er c_ fs_ xs_)
def g_box_round (wide : Int) (high : Int) (P : (Int × Int × Int)) (heading : (Int × Int)) : Prop :=
  (g_look_inside wide high P) ∧ (match f_look_inside wide high P with
    | .ok v_1 =>
      (IntMulOk wide heading.2) ∧ (IntMulOk high heading.1) ∧ (g_divisor (wide * heading.2) (high * heading.1)) ∧ (let share_2 : Int := (f_divisor (wide * heading.2) (high * heading.1))
  (IntMulOk (2 * wide) high) ∧ (CDivW ((2 * wide) * high) share_2) ∧ (IntMulOk high (iabs heading.1)) ∧ (IntMulOk wide (iabs heading.2)) ∧ (CDivW (2 * ((high * (iabs heading.1)) + (wide * (iabs heading.2)))) share_2) ∧ True)
    | .er c_ fs_ xs_ => True)
def S_box_round (EC : Nat → Addr) (ds : List D) (o : O) : Prop := ∃ (wide : Int) (high : Int) (P : (Int × Int × Int)) (heading : (Int × Int)), ds = [(.int wide), (.int high), (e_Tiiiz P), (e_Tiiz heading)] ∧ g_box_round wide high P heading ∧ o = Rz.out EC e_Tiiz (f_box_round wide high P heading)
def f_law_number (cell : Int) : Int :=
  let way_1 : Int := (cell % 5)
  if way_1 < 2 then
    ((((cell / 5) * (((10 ^ 59) / 7) + 48271)) % ((2 * (10 ^ 59)) + 1)) - (10 ^ 59))
  else
    if way_1 = 2 then
      (((cell / 5) % 2001) - 1000)
    else
      (((cell / 5) % 13) - 6)
def g_law_number (cell : Int) : Prop :=
  (let way_1 : Int := (cell % 5)
  ((way_1 < 2) →   (IntMulOk (cell / 5) (((10 ^ 59) / 7) + 48271)) ∧ True) ∧ (¬ (way_1 < 2) →   ((way_1 = 2) →   True) ∧ (¬ (way_1 = 2) →   True)))
def S_law_number (ds : List D) (o : O) : Prop := ∃ (cell : Int), ds = [(.int cell)] ∧ g_law_number cell ∧ o = .rt (.int (f_law_number cell))
def f_law_side (cell : Int) : Int :=
  let way_1 : Int := (cell % 4)
  if way_1 = 1 then
    (1 + (((cell / 4) * (((10 ^ 59) / 11) + 104729)) % ((10 ^ 60) - 1)))
  else
    if way_1 = 2 then
      (1 + ((cell / 4) % 1000))
    else
      (1 + ((cell / 4) % 9))
def g_law_side (cell : Int) : Prop :=
  (let way_1 : Int := (cell % 4)
  ((way_1 = 1) →   (IntMulOk (cell / 4) (((10 ^ 59) / 11) + 104729)) ∧ True) ∧ (¬ (way_1 = 1) →   ((way_1 = 2) →   True) ∧ (¬ (way_1 = 2) →   True)))
def S_law_side (ds : List D) (o : O) : Prop := ∃ (cell : Int), ds = [(.int cell)] ∧ g_law_side cell ∧ o = .rt (.int (f_law_side cell))
abbrev e_Li : (List Int) → D := fun xs => .lst (xs.map D.int)
def f_law_measure_b1  (s_2 : (List Int)) : Stp (List Int) Empty :=
  let pair_3 : (List Int) := ([((ixL s_2 1) % (ixL s_2 0)), (ixL s_2 0)] : List Int)
  .nx pair_3
def g_law_measure_b1  (s_2 : (List Int)) : Prop :=
  (InB s_2.length 1) ∧ (InB s_2.length 0) ∧ (0 < (ixL s_2 0)) ∧ (InB s_2.length 0) ∧ (let pair_3 : (List Int) := ([((ixL s_2 1) % (ixL s_2 0)), (ixL s_2 0)] : List Int)
  True)
def f_law_measure (one : Int) (other : Int) : Int :=
  let pair_1 : (List Int) := (sortI ([(iabs one), (iabs other)] : List Int))
  (whileS (fun s_2 : (List Int) => (ixL s_2 0) > 0) (f_law_measure_b1) (((ixL pair_1 0).natAbs + 1)) pair_1).out (fun s_8 =>
    (ixL s_8 1)) (fun r => nomatch r)
def g_law_measure (one : Int) (other : Int) : Prop :=
  ([(iabs one), (iabs other)] : List Int).length < 64 ∧ (let pair_1 : (List Int) := (sortI ([(iabs one), (iabs other)] : List Int))
  (whileOk (fun s_2 : (List Int) => (ixL s_2 0) > 0) (f_law_measure_b1) (fun s_2 : (List Int) => (InB s_2.length 0)) (g_law_measure_b1) (((ixL pair_1 0).natAbs + 1)) pair_1) ∧ (∀ s_8, (whileS (fun s_2 : (List Int) => (ixL s_2 0) > 0) (f_law_measure_b1) (((ixL pair_1 0).natAbs + 1)) pair_1).fin s_8 →
    (InB s_8.length 1) ∧ True))
def S_law_measure (ds : List D) (o : O) : Prop := ∃ (one : Int) (other : Int), ds = [(.int one), (.int other)] ∧ g_law_measure one other ∧ o = .rt (.int (f_law_measure one other))
def f_law_reduced (top : Int) (bottom : Int) : (Int × Int) :=
  let size_1 : Int := (f_law_measure bottom top)
  (((top / size_1)), ((bottom / size_1)))
def g_law_reduced (top : Int) (bottom : Int) : Prop :=
  (g_law_measure bottom top) ∧ (let size_1 : Int := (f_law_measure bottom top)
  (∀ x_2 ∈ ([top, bottom] : List Int), CDivW x_2 size_1) ∧ True)
def S_law_reduced (ds : List D) (o : O) : Prop := ∃ (top : Int) (bottom : Int), ds = [(.int top), (.int bottom)] ∧ g_law_reduced top bottom ∧ o = .rt (e_Tiiz (f_law_reduced top bottom))
def f_law_point (x : Int) (y : Int) (w : Int) : (Int × Int × Int) :=
  let size_1 : Int := (f_law_measure w (f_law_measure x y))
  (((x / size_1)), ((y / size_1)), ((w / size_1)))
def g_law_point (x : Int) (y : Int) (w : Int) : Prop :=
  (g_law_measure x y) ∧ (g_law_measure w (f_law_measure x y)) ∧ (let size_1 : Int := (f_law_measure w (f_law_measure x y))
  (∀ x_2 ∈ ([x, y, w] : List Int), CDivW x_2 size_1) ∧ True)
def S_law_point (ds : List D) (o : O) : Prop := ∃ (x : Int) (y : Int) (w : Int), ds = [(.int x), (.int y), (.int w)] ∧ g_law_point x y w ∧ o = .rt (e_Tiiiz (f_law_point x y w))
def f_law_heading (a : Int) (b : Int) : (Int × Int) :=
  if (a = 0) ∧ (b = 0) then
    (2, 1)
  else
    (f_law_reduced a b)
def g_law_heading (a : Int) (b : Int) : Prop :=
  (((a = 0) ∧ (b = 0)) →   True) ∧ (¬ ((a = 0) ∧ (b = 0)) →   (g_law_reduced a b) ∧ True)
def S_law_heading (ds : List D) (o : O) : Prop := ∃ (a : Int) (b : Int), ds = [(.int a), (.int b)] ∧ g_law_heading a b ∧ o = .rt (e_Tiiz (f_law_heading a b))
def f_law_inside (wide : Int) (high : Int) (some : (List Int)) : (Int × Int × Int) :=
  let w_1 : Int := (2 + (iabs (ixL some 2)))
  (f_law_point (1 + ((ixL some 0) % ((wide * w_1) - 1))) (1 + ((ixL some 1) % ((high * w_1) - 1))) w_1)
def g_law_inside (wide : Int) (high : Int) (some : (List Int)) : Prop :=
  (InB some.length 2) ∧ (let w_1 : Int := (2 + (iabs (ixL some 2)))
  (InB some.length 0) ∧ (IntMulOk wide w_1) ∧ (0 < ((wide * w_1) - 1)) ∧ (InB some.length 1) ∧ (IntMulOk high w_1) ∧ (0 < ((high * w_1) - 1)) ∧ (g_law_point (1 + ((ixL some 0) % ((wide * w_1) - 1))) (1 + ((ixL some 1) % ((high * w_1) - 1))) w_1) ∧ True)
def S_law_inside (ds : List D) (o : O) : Prop := ∃ (wide : Int) (high : Int) (some : (List Int)), ds = [(.int wide), (.int high), (e_Li some)] ∧ g_law_inside wide high some ∧ o = .rt (e_Tiiiz (f_law_inside wide high some))
abbrev e_TiiTiiizz : (Int × Int × (Int × Int × Int)) → D := fun p => .tup [(.int p.1), (.int p.2.1), (e_Tiiiz p.2.2)]
def f_law_spoiled (way : Int) (wide : Int) (high : Int) (P : (Int × Int × Int)) (low : Int) : (Int × Int × (Int × Int × Int)) :=
  if way = 8 then
    ((-low), high, P)
  else
    if way = 9 then
      (wide, (-low), P)
    else
      let x_10 : Int := (if (way % 2) = 0 then (ixL ([0, (wide * P.2.2), ((-1) - low), (((wide * P.2.2) + 1) + low)] : List Int) (way / 2)) else P.1)
  let y_11 : Int := (if (way % 2) = 0 then P.2.1 else (ixL ([0, (high * P.2.2), ((-1) - low), (((high * P.2.2) + 1) + low)] : List Int) (way / 2)))
  (wide, high, (f_law_point x_10 y_11 P.2.2))
def g_law_spoiled (way : Int) (wide : Int) (high : Int) (P : (Int × Int × Int)) (low : Int) : Prop :=
  ((way = 8) →   True) ∧ (¬ (way = 8) →   ((way = 9) →   True) ∧ (¬ (way = 9) →   (((way % 2) = 0) → (IntMulOk wide P.2.2) ∧ (IntMulOk wide P.2.2) ∧ (InB ([0, (wide * P.2.2), ((-1) - low), (((wide * P.2.2) + 1) + low)] : List Int).length (way / 2)) ∧ True) ∧ (¬ ((way % 2) = 0) → (IntMulOk high P.2.2) ∧ (IntMulOk high P.2.2) ∧ (InB ([0, (high * P.2.2), ((-1) - low), (((high * P.2.2) + 1) + low)] : List Int).length (way / 2)) ∧ True) ∧ (let x_10 : Int := (if (way % 2) = 0 then (ixL ([0, (wide * P.2.2), ((-1) - low), (((wide * P.2.2) + 1) + low)] : List Int) (way / 2)) else P.1)
  (let y_11 : Int := (if (way % 2) = 0 then P.2.1 else (ixL ([0, (high * P.2.2), ((-1) - low), (((high * P.2.2) + 1) + low)] : List Int) (way / 2)))
  (g_law_point x_10 y_11 P.2.2) ∧ True))))
def S_law_spoiled (ds : List D) (o : O) : Prop := ∃ (way : Int) (wide : Int) (high : Int) (P : (Int × Int × Int)) (low : Int), ds = [(.int way), (.int wide), (.int high), (e_Tiiiz P), (.int low)] ∧ g_law_spoiled way wide high P low ∧ o = .rt (e_TiiTiiizz (f_law_spoiled way wide high P low))
def f_law_asked (number : Int) (wide : Int) (high : Int) (P : (Int × Int × Int)) (heading : (Int × Int)) : (Rz D) :=
  if number = 0 then
    (match f_box_at wide high P heading (1, 1) with
      | .ok v_2 =>
        .ok (e_TTiiizTiizz v_2)
      | .er c_ fs_ xs_ => .er c_ fs_ xs_)
  else
    if number = 1 then
      (match f_box_corner wide high P heading with
        | .ok v_5 =>
          .ok (e_OTiiz v_5)
        | .er c_ fs_ xs_ => .er c_ fs_ xs_)
    else
      (match f_box_round wide high P heading with
        | .ok v_7 =>
          .ok (e_Tiiz v_7)
        | .er c_ fs_ xs_ => .er c_ fs_ xs_)
def g_law_asked (number : Int) (wide : Int) (high : Int) (P : (Int × Int × Int)) (heading : (Int × Int)) : Prop :=
  ((number = 0) →   (g_box_at wide high P heading (1, 1)) ∧ (match f_box_at wide high P heading (1, 1) with
      | .ok v_2 =>
        True
      | .er c_ fs_ xs_ => True)) ∧ (¬ (number = 0) →   ((number = 1) →   (g_box_corner wide high P heading) ∧ (match f_box_corner wide high P heading with
        | .ok v_5 =>
          True
        | .er c_ fs_ xs_ => True)) ∧ (¬ (number = 1) →   (g_box_round wide high P heading) ∧ (match f_box_round wide high P heading with
        | .ok v_7 =>
          True
        | .er c_ fs_ xs_ => True)))
def S_law_asked (EC : Nat → Addr) (ds : List D) (o : O) : Prop := ∃ (number : Int) (wide : Int) (high : Int) (P : (Int × Int × Int)) (heading : (Int × Int)), ds = [(.int number), (.int wide), (.int high), (e_Tiiiz P), (e_Tiiz heading)] ∧ g_law_asked number wide high P heading ∧ o = Rz.out EC e_any (f_law_asked number wide high P heading)
def f_law_refused (number : Int) (wide : Int) (high : Int) (P : (Int × Int × Int)) (heading : (Int × Int)) : Bool :=
  (match f_law_asked number wide high P heading with
    | .ok v_2 =>
      (decide ((0 : Int) = 3))
    | .er _ _ _ =>
      (decide ((2 + (if (true && true) then 1 else 0 : Int)) = 3)))
def g_law_refused (number : Int) (wide : Int) (high : Int) (P : (Int × Int × Int)) (heading : (Int × Int)) : Prop :=
  (g_law_asked number wide high P heading) ∧ (match f_law_asked number wide high P heading with
    | .ok v_2 =>
      True
    | .er c_ fs_ xs_ => (c_ = 0) ∧ (fs_ = []) ∧ (xs_ = []) ∧
      (True))
def S_law_refused (ds : List D) (o : O) : Prop := ∃ (number : Int) (wide : Int) (high : Int) (P : (Int × Int × Int)) (heading : (Int × Int)), ds = [(.int number), (.int wide), (.int high), (e_Tiiiz P), (e_Tiiz heading)] ∧ g_law_refused number wide high P heading ∧ o = .rt (.bl (f_law_refused number wide high P heading))
abbrev e_Ri : (List Int) → D := fun xs => .scr (xs.map D.int)
theorem lay_Tiiz (x : (Int × Int)) : D.lay 1 (e_Tiiz x) = true := lay_tup (n := 0) (lay_cons (lay_int x.1) (by decide) (lay_cons (lay_int x.2) (by decide) lay_nil))
theorem lay_Tiiiz (x : (Int × Int × Int)) : D.lay 1 (e_Tiiiz x) = true := lay_tup (n := 0) (lay_cons (lay_int x.1) (by decide) (lay_cons (lay_int x.2.1) (by decide) (lay_cons (lay_int x.2.2) (by decide) lay_nil)))
theorem lay_TTiiizTiizz (x : ((Int × Int × Int) × (Int × Int))) : D.lay 2 (e_TTiiizTiizz x) = true := lay_tup (n := 1) (lay_cons (lay_Tiiiz x.1) (by decide) (lay_cons (lay_Tiiz x.2) (by decide) lay_nil))
theorem eqb_i (x y : Int) : D.eqb (.int x) (.int y) = true ↔ x = y := by simp [D.eqb]
theorem eqb_Tiiiz (x y : (Int × Int × Int)) : D.eqb (e_Tiiiz x) (e_Tiiiz y) = true ↔ x = y := by
  obtain ⟨x0, x1, x2⟩ := x
  obtain ⟨y0, y1, y2⟩ := y
  simp [D.eqb, D.eqbs, eqb_i, eqb_i, eqb_i, Prod.ext_iff]
theorem eqb_Tiiz (x y : (Int × Int)) : D.eqb (e_Tiiz x) (e_Tiiz y) = true ↔ x = y := by
  obtain ⟨x0, x1⟩ := x
  obtain ⟨y0, y1⟩ := y
  simp [D.eqb, D.eqbs, eqb_i, eqb_i, Prod.ext_iff]
theorem eqb_TTiiizTiizz (x y : ((Int × Int × Int) × (Int × Int))) : D.eqb (e_TTiiizTiizz x) (e_TTiiizTiizz y) = true ↔ x = y := by
  obtain ⟨x0, x1⟩ := x
  obtain ⟨y0, y1⟩ := y
  simp [D.eqb, D.eqbs, eqb_Tiiiz, eqb_Tiiz, Prod.ext_iff]
def f_law_b2 (heading_11 : (Int × Int)) (p_15 : (Int × Int × (Int × Int × Int))) (x_17 : Int) (s_16 : Unit) : Stp Unit Bool :=
  if ¬ ((f_law_refused x_17 p_15.1 p_15.2.1 p_15.2.2 heading_11) = true) then
    .rt false
  else
    .nx ()
def g_law_b2 (heading_11 : (Int × Int)) (p_15 : (Int × Int × (Int × Int × Int))) (x_17 : Int) (s_16 : Unit) : Prop :=
  (g_law_refused x_17 p_15.1 p_15.2.1 p_15.2.2 heading_11) ∧ ((¬ ((f_law_refused x_17 p_15.1 p_15.2.1 p_15.2.2 heading_11) = true)) →   True) ∧ (¬ (¬ ((f_law_refused x_17 p_15.1 p_15.2.1 p_15.2.2 heading_11) = true)) →   True)
def f_law_b1 (cells_1 : (List Int)) (x_3 : Int) (s_2 : Unit) : Stp Unit Bool :=
  let wide_4 : Int := (f_law_side (ixL cells_1 x_3))
  let high_5 : Int := (f_law_side (ixL cells_1 (x_3 + 1)))
  let some_9 : (List Int) := ((cutL cells_1 (some (x_3 + 2)) (some (x_3 + 9))).map (fun x_6 => (f_law_number x_6)))
  let P_10 : (Int × Int × Int) := (f_law_inside wide_4 high_5 some_9)
  let heading_11 : (Int × Int) := (f_law_heading (ixL some_9 3) (ixL some_9 4))
  if ((f_box_at wide_4 high_5 P_10 heading_11 (0, 1)).get) ≠ (P_10, heading_11) then
    .rt false
  else
    let way_13 : Int := ((ixL cells_1 (x_3 + 8)) % 11)
  if way_13 < 10 then
      let p_15 : (Int × Int × (Int × Int × Int)) := (f_law_spoiled way_13 wide_4 high_5 P_10 (iabs (ixL some_9 5)))
  (forS (f_law_b2 heading_11 p_15) (rangeI 0 3) ()).out (fun s_22 =>
        .nx ()) (fun r => .rt r)
    else
      .nx ()
def g_law_b1 (cells_1 : (List Int)) (x_3 : Int) (s_2 : Unit) : Prop :=
  (InB cells_1.length x_3) ∧ (g_law_side (ixL cells_1 x_3)) ∧ (let wide_4 : Int := (f_law_side (ixL cells_1 x_3))
  (InB cells_1.length (x_3 + 1)) ∧ (g_law_side (ixL cells_1 (x_3 + 1))) ∧ (let high_5 : Int := (f_law_side (ixL cells_1 (x_3 + 1)))
  (cutL cells_1 (some (x_3 + 2)) (some (x_3 + 9))).length ≤ 100000 ∧ (∀ x_6 ∈ (cutL cells_1 (some (x_3 + 2)) (some (x_3 + 9))), g_law_number x_6) ∧ (let some_9 : (List Int) := ((cutL cells_1 (some (x_3 + 2)) (some (x_3 + 9))).map (fun x_6 => (f_law_number x_6)))
  (g_law_inside wide_4 high_5 some_9) ∧ (let P_10 : (Int × Int × Int) := (f_law_inside wide_4 high_5 some_9)
  (InB some_9.length 3) ∧ (InB some_9.length 4) ∧ (g_law_heading (ixL some_9 3) (ixL some_9 4)) ∧ (let heading_11 : (Int × Int) := (f_law_heading (ixL some_9 3) (ixL some_9 4))
  (g_box_at wide_4 high_5 P_10 heading_11 (0, 1)) ∧ (f_box_at wide_4 high_5 P_10 heading_11 (0, 1)).Ok ∧ ((((f_box_at wide_4 high_5 P_10 heading_11 (0, 1)).get) ≠ (P_10, heading_11)) →   True) ∧ (¬ (((f_box_at wide_4 high_5 P_10 heading_11 (0, 1)).get) ≠ (P_10, heading_11)) →   (InB cells_1.length (x_3 + 8)) ∧ (let way_13 : Int := ((ixL cells_1 (x_3 + 8)) % 11)
  ((way_13 < 10) →   (InB some_9.length 5) ∧ (g_law_spoiled way_13 wide_4 high_5 P_10 (iabs (ixL some_9 5))) ∧ (let p_15 : (Int × Int × (Int × Int × Int)) := (f_law_spoiled way_13 wide_4 high_5 P_10 (iabs (ixL some_9 5)))
  (forOk (f_law_b2 heading_11 p_15) (g_law_b2 heading_11 p_15) (rangeI 0 3) ()) ∧ (∀ s_22, (forS (f_law_b2 heading_11 p_15) (rangeI 0 3) ()).fin s_22 →
        True))) ∧ (¬ (way_13 < 10) →   True))))))))
def f_law (script : (List Int)) : Bool :=
  let cells_1 : (List Int) := ((cutL script none (some 63)) ++ ([0, 0, 0, 0, 0, 0, 0, 0, 0] : List Int))
  (forS (f_law_b1 cells_1) (rangeS 0 ((cells_1.length : Int) - 8) 9) ()).out (fun s_45 =>
    true) (fun r => r)
def g_law (script : (List Int)) : Prop :=
  (cutL script none (some 63)).length + ([0, 0, 0, 0, 0, 0, 0, 0, 0] : List Int).length ≤ 100000 ∧ (let cells_1 : (List Int) := ((cutL script none (some 63)) ++ ([0, 0, 0, 0, 0, 0, 0, 0, 0] : List Int))
  (-(2 ^ 62) ≤ (0 : Int) ∧ (0 : Int) < 2 ^ 61 ∧ -(2 ^ 62) ≤ (((cells_1.length : Int) - 8) : Int) ∧ (((cells_1.length : Int) - 8) : Int) < 2 ^ 61) ∧ (forOk (f_law_b1 cells_1) (g_law_b1 cells_1) (rangeS 0 ((cells_1.length : Int) - 8) 9) ()) ∧ (∀ s_45, (forS (f_law_b1 cells_1) (rangeS 0 ((cells_1.length : Int) - 8) 9) ()).fin s_45 →
    True))
def S_law (ds : List D) (o : O) : Prop := ∃ (script : (List Int)), ds = [(e_Ri script)] ∧ g_law script ∧ o = .rt (.bl (f_law script))
end Bw
namespace Bw
open PySem PySem.Spec PyProof.Rows L2
def top (i : Nat) : Stmt := PySem.Challenge.pw_bouncewise_k85_out_of_the_box.main.body.getD i (.Pass ⟨0, 0, 0, 0⟩)
abbrev FnP (K : PySem.W.Frag) (x : Str) (st : Stmt) (f : Addr) (fd : FuncData) : Prop := FunD K x x (defArgs st) (defBody st) (defScope st) [] [] f fd
abbrev st_divisor : Stmt := top 16
abbrev st_point_of : Stmt := top 17
abbrev st_time_of : Stmt := top 18
abbrev st_look_inside : Stmt := top 20
abbrev st_swung : Stmt := top 21
abbrev st_box_at : Stmt := top 22
abbrev st_undone : Stmt := top 23
abbrev st_box_corner : Stmt := top 24
abbrev st_box_round : Stmt := top 25
abbrev st_law_number : Stmt := top 27
abbrev st_law_side : Stmt := top 28
abbrev st_law_measure : Stmt := top 29
abbrev st_law_reduced : Stmt := top 30
abbrev st_law_point : Stmt := top 31
abbrev st_law_heading : Stmt := top 32
abbrev st_law_inside : Stmt := top 33
abbrev st_law_spoiled : Stmt := top 34
abbrev st_law_asked : Stmt := top 35
abbrev st_law_refused : Stmt := top 36
abbrev st_law : Stmt := top 37
section
variable {P : Program} {w : World} {K : PySem.W.Frag} {mg : Str → Option Value} {base : Heap} {f : Addr} {fd : FuncData} {EC : Nat → Addr}
abbrev n_divisor : List Str := [("one" : Str), ("other" : Str), ("rest" : Str)]
theorem sc_divisor : FnScope [("one" : Str), ("other" : Str), ("rest" : Str)] [("one" : Str), ("other" : Str)] (defScope st_divisor) := ⟨rfl, rfl, rfl, by decide +kernel, rfl, by decide +kernel, by decide +kernel⟩
theorem w_divisor (F : FnP K "divisor" st_divisor f fd) (m_abs : mg "abs" = none) : FnOk P w K mg base (L2.CX P w) 1 f fd [("one" : Str), ("other" : Str)] (spOf K S_divisor) := by
  have nd := sc_divisor.nd
  refine def_ok F sc_divisor (fun ds o h => ?_) (fun cdv A outer s H E hr ds o h => ?_)
  · obtain ⟨one, other, rfl, _⟩ := h
    rfl
  · obtain ⟨one, other, rfl, hs, rfl⟩ := h
    refine JS.eq (o := (fun r => O.rt (.int r)) ((whileS (fun s_1 : (Int × Int) => s_1.2 ≠ 0) (f_divisor_b1) ((other.natAbs + 1)) (one, other)).out (fun s_4 =>   (iabs s_4.1)) (fun r => nomatch r))) ?_ rfl
    refine JS.slots (Γ' := [(.im (.int one)), (.im (.int other)), .un]) ?_ rfl
    replace hs : (whileOk (fun s_1 : (Int × Int) => s_1.2 ≠ 0) (f_divisor_b1) (fun s_1 : (Int × Int) => True) (g_divisor_b1) ((other.natAbs + 1)) (one, other)) ∧ (∀ s_4, (whileS (fun s_1 : (Int × Int) => s_1.2 ≠ 0) (f_divisor_b1) ((other.natAbs + 1)) (one, other)).fin s_4 →   True) := hs
    obtain ⟨c_8, hs⟩ := hs
    refine js_wk (Γ' := (fun (s_1 : (Int × Int)) => [(.im (.int s_1.1)), (.im (.int s_1.2)), .un]) (one, other)) ?_ (by exact (.same (.same (.un .nil))))
    refine js_while (R := (fun r => O.rt (.int r))) e_v (fun (s_1 : (Int × Int)) => [(.im (.int s_1.1)), (.im (.int s_1.2)), .un]) (fun s_1 : (Int × Int) => s_1.2 ≠ 0) (f_divisor_b1) (fun s_1 : (Int × Int) => True) (g_divisor_b1) ((other.natAbs + 1)) (one, other) (fun s_4 => _) (fun r => nomatch r) (passes_of rfl) (fun s_1 hc_7 => (jt_neI (je_var 1 rfl) je_int)) (fun s_1 hs hx_5 => ?_) c_8 (fun s_4 hf_6 => ?_) (fun r => nomatch r)
    · refine JS.eq (o := (Stp.o (fun (s_1 : (Int × Int)) => [(.im (.int s_1.1)), (.im (.int s_1.2)), .un]) e_v) ((bindL ((s_1.1.fmod s_1.2) : Int) (fun (rest_2 : Int) => .nx (s_1.2, rest_2))))) ?_ rfl
      replace hs : (s_1.2 ≠ 0) ∧ ((bindL ((s_1.1.fmod s_1.2) : Int) (fun (rest_2 : Int) => True))) := hs
      obtain ⟨c_3, hs⟩ := hs
      refine js_set 2 nd (je_fmod (je_var 0 rfl) (je_var 1 rfl) c_3) ?_
      refine js_gen (R := (Stp.o (fun (s_1 : (Int × Int)) => [(.im (.int s_1.1)), (.im (.int s_1.2)), .un]) e_v)) (fun (rest_2 : Int) => [(.im (.int s_1.1)), (.im (.int s_1.2)), (.im (.int rest_2))]) hs (fun rest_2 hs => ?_)
      refine js_set 0 nd (je_var 1 rfl) ?_
      refine js_set 1 nd (je_var 2 rfl) ?_
      exact js_endW (.same (.same (.un .nil)))
    · replace hs := hs s_4 hf_6
      exact js_ret (je_abs (ja_cons (je_var 0 rfl) ja_nil) m_abs)
abbrev n_point_of : List Str := [("x" : Str), ("y" : Str), ("w" : Str), ("share" : Str)]
theorem sc_point_of : FnScope [("x" : Str), ("y" : Str), ("w" : Str), ("share" : Str)] [("x" : Str), ("y" : Str), ("w" : Str)] (defScope st_point_of) := ⟨rfl, rfl, rfl, by decide +kernel, rfl, by decide +kernel, by decide +kernel⟩
theorem w_point_of (F : FnP K "point_of" st_point_of f fd) (d_divisor : DefOk P w K mg base 1 "divisor" [("one" : Str), ("other" : Str)] S_divisor) : FnOk P w K mg base (L2.CX P w) 2 f fd [("x" : Str), ("y" : Str), ("w" : Str)] (spOf K S_point_of) := by
  have nd := sc_point_of.nd
  refine def_ok F sc_point_of (fun ds o h => ?_) (fun cdv A outer s H E hr ds o h => ?_)
  · obtain ⟨x, y, w, rfl, _⟩ := h
    rfl
  · obtain ⟨x, y, w, rfl, hs, rfl⟩ := h
    refine JS.eq (o := (fun r => O.rt (e_Tiiiz r)) ((bindL ((f_divisor (f_divisor x y) w) : Int) (fun (share_1 : Int) => (bindL ((if w < 0 then (-share_1) else share_1) : Int) (fun (share_3 : Int) => ((x / share_3), (y / share_3), (w / share_3)))))))) ?_ rfl
    refine JS.slots (Γ' := [(.im (.int x)), (.im (.int y)), (.im (.int w)), .un]) ?_ rfl
    replace hs : (¬ (w = 0)) ∧ (g_divisor x y) ∧ (g_divisor (f_divisor x y) w) ∧ ((bindL ((f_divisor (f_divisor x y) w) : Int) (fun (share_1 : Int) => ((bindL ((if w < 0 then (-share_1) else share_1) : Int) (fun (share_3 : Int) => (CDivW x share_3) ∧ (CDivW y share_3) ∧ (CDivW w share_3) ∧ True)))))) := hs
    obtain ⟨c_11, hs⟩ := hs
    refine js_ifN (jt_eqI (je_var 2 rfl) je_int) c_11 ?_
    refine js_fall ?_
    obtain ⟨c_9, c_10, hs⟩ := hs
    refine js_set 3 nd (je_call d_divisor (hr.mono (by decide)) (ja_cons (je_call d_divisor (hr.mono (by decide)) (ja_cons (je_var 0 rfl) (ja_cons (je_var 1 rfl) ja_nil)) ⟨_, _, rfl, c_9, rfl⟩) (ja_cons (je_var 2 rfl) ja_nil)) ⟨_, _, rfl, c_10, rfl⟩) ?_
    refine js_gen (R := (fun r => O.rt (e_Tiiiz r))) (fun (share_1 : Int) => [(.im (.int x)), (.im (.int y)), (.im (.int w)), (.im (.int share_1))]) hs (fun share_1 hs => ?_)
    refine js_ifJ (Γa := [(.im (.int x)), (.im (.int y)), (.im (.int w)), (.im (.int (-share_1)))]) (Γb := [(.im (.int x)), (.im (.int y)), (.im (.int w)), (.im (.int share_1))]) (Γ' := [(.im (.int x)), (.im (.int y)), (.im (.int w)), (.im (.int (if w < 0 then (-share_1) else share_1)))]) (jt_lt (je_var 2 rfl) je_int) (fun hp_2 => ?_) (fun hp_2 => ?_) (fun hp_2 => by simp only [if_pos hp_2]) (fun hp_2 => by simp only [if_neg hp_2]) ?_
    · refine js_set 3 nd (je_neg (je_var 3 rfl)) ?_
      exact js_endW (.same (.same (.same (.same .nil))))
    · exact js_endW (.same (.same (.same (.same .nil))))
    · refine js_gen (R := (fun r => O.rt (e_Tiiiz r))) (fun (share_3 : Int) => [(.im (.int x)), (.im (.int y)), (.im (.int w)), (.im (.int share_3))]) hs (fun share_3 hs => ?_)
      obtain ⟨c_4, c_5, c_6, hs⟩ := hs
      exact js_ret (je_tup (ja_cons (je_div (je_var 0 rfl) (je_var 3 rfl) c_4) (ja_cons (je_div (je_var 1 rfl) (je_var 3 rfl) c_5) (ja_cons (je_div (je_var 2 rfl) (je_var 3 rfl) c_6) ja_nil))))
abbrev n_time_of : List Str := [("top" : Str), ("bottom" : Str), ("share" : Str)]
theorem sc_time_of : FnScope [("top" : Str), ("bottom" : Str), ("share" : Str)] [("top" : Str), ("bottom" : Str)] (defScope st_time_of) := ⟨rfl, rfl, rfl, by decide +kernel, rfl, by decide +kernel, by decide +kernel⟩
theorem w_time_of (F : FnP K "time_of" st_time_of f fd) (d_divisor : DefOk P w K mg base 1 "divisor" [("one" : Str), ("other" : Str)] S_divisor) : FnOk P w K mg base (L2.CX P w) 2 f fd [("top" : Str), ("bottom" : Str)] (spOf K S_time_of) := by
  have nd := sc_time_of.nd
  refine def_ok F sc_time_of (fun ds o h => ?_) (fun cdv A outer s H E hr ds o h => ?_)
  · obtain ⟨top, bottom, rfl, _⟩ := h
    rfl
  · obtain ⟨top, bottom, rfl, hs, rfl⟩ := h
    refine JS.eq (o := (fun r => O.rt (e_Tiiz r)) ((bindL ((f_divisor top bottom) : Int) (fun (share_1 : Int) => (bindL ((if bottom < 0 then (-share_1) else share_1) : Int) (fun (share_3 : Int) => ((top.fdiv share_3), (bottom.fdiv share_3)))))))) ?_ rfl
    refine JS.slots (Γ' := [(.im (.int top)), (.im (.int bottom)), .un]) ?_ rfl
    replace hs : (¬ (bottom = 0)) ∧ (g_divisor top bottom) ∧ ((bindL ((f_divisor top bottom) : Int) (fun (share_1 : Int) => ((bindL ((if bottom < 0 then (-share_1) else share_1) : Int) (fun (share_3 : Int) => (CDivF top share_3) ∧ (CDivF bottom share_3) ∧ True)))))) := hs
    obtain ⟨c_9, hs⟩ := hs
    refine js_ifN (jt_eqI (je_var 1 rfl) je_int) c_9 ?_
    refine js_fall ?_
    obtain ⟨c_8, hs⟩ := hs
    refine js_set 2 nd (je_call d_divisor (hr.mono (by decide)) (ja_cons (je_var 0 rfl) (ja_cons (je_var 1 rfl) ja_nil)) ⟨_, _, rfl, c_8, rfl⟩) ?_
    refine js_gen (R := (fun r => O.rt (e_Tiiz r))) (fun (share_1 : Int) => [(.im (.int top)), (.im (.int bottom)), (.im (.int share_1))]) hs (fun share_1 hs => ?_)
    refine js_ifJ (Γa := [(.im (.int top)), (.im (.int bottom)), (.im (.int (-share_1)))]) (Γb := [(.im (.int top)), (.im (.int bottom)), (.im (.int share_1))]) (Γ' := [(.im (.int top)), (.im (.int bottom)), (.im (.int (if bottom < 0 then (-share_1) else share_1)))]) (jt_lt (je_var 1 rfl) je_int) (fun hp_2 => ?_) (fun hp_2 => ?_) (fun hp_2 => by simp only [if_pos hp_2]) (fun hp_2 => by simp only [if_neg hp_2]) ?_
    · refine js_set 2 nd (je_neg (je_var 2 rfl)) ?_
      exact js_endW (.same (.same (.same .nil)))
    · exact js_endW (.same (.same (.same .nil)))
    · refine js_gen (R := (fun r => O.rt (e_Tiiz r))) (fun (share_3 : Int) => [(.im (.int top)), (.im (.int bottom)), (.im (.int share_3))]) hs (fun share_3 hs => ?_)
      obtain ⟨c_4, c_5, hs⟩ := hs
      exact js_ret (je_tup (ja_cons (je_fdivF (je_var 0 rfl) (je_var 2 rfl) c_4) (ja_cons (je_fdivF (je_var 1 rfl) (je_var 2 rfl) c_5) ja_nil)))
abbrev n_look_inside : List Str := [("wide" : Str), ("high" : Str), ("P" : Str), ("x" : Str), ("y" : Str), ("w" : Str)]
theorem sc_look_inside : FnScope [("wide" : Str), ("high" : Str), ("P" : Str), ("x" : Str), ("y" : Str), ("w" : Str)] [("wide" : Str), ("high" : Str), ("P" : Str)] (defScope st_look_inside) := ⟨rfl, rfl, rfl, by decide +kernel, rfl, by decide +kernel, by decide +kernel⟩
theorem w_look_inside (F : FnP K "look_inside" st_look_inside f fd) (ec_OutOfBox : ExcN K mg "OutOfBox" (EC 0)) : FnOk P w K mg base (L2.CX P w) 1 f fd [("wide" : Str), ("high" : Str), ("P" : Str)] (spOf K (S_look_inside EC)) := by
  have nd := sc_look_inside.nd
  refine def_ok F sc_look_inside (fun ds o h => ?_) (fun cdv A outer s H E hr ds o h => ?_)
  · obtain ⟨wide, high, P, rfl, _⟩ := h
    rfl
  · obtain ⟨wide, high, P, rfl, hs, rfl⟩ := h
    refine JS.eq (o := (Rz.out EC e_n) (if (wide < 1) ∨ (high < 1) then   .er 0 [] [] else   if (P.1 ≤ 0) ∨ ((P.2.1 ≤ 0) ∨ ((P.1 ≥ (wide * P.2.2)) ∨ (P.2.1 ≥ (high * P.2.2)))) then     .er 0 [] []   else     .ok ())) ?_ rfl
    refine JS.slots (Γ' := [(.im (.int wide)), (.im (.int high)), (.im (e_Tiiiz P)), .un, .un, .un]) ?_ rfl
    replace hs : (((wide < 1) ∨ (high < 1)) →   True) ∧ (¬ ((wide < 1) ∨ (high < 1)) →   (¬ (P.1 ≤ 0) → (¬ (P.2.1 ≤ 0) → IntMulOk wide P.2.2 ∧ (¬ (P.1 ≥ (wide * P.2.2)) → IntMulOk high P.2.2))) ∧ (((P.1 ≤ 0) ∨ ((P.2.1 ≤ 0) ∨ ((P.1 ≥ (wide * P.2.2)) ∨ (P.2.1 ≥ (high * P.2.2))))) →   True) ∧ (¬ ((P.1 ≤ 0) ∨ ((P.2.1 ≤ 0) ∨ ((P.1 ≥ (wide * P.2.2)) ∨ (P.2.1 ≥ (high * P.2.2))))) →   True)) := hs
    refine js_asg (je_var 2 rfl) (jg_tup (jgs_cons (jg_name 3 nd) (jgs_cons (jg_name 4 nd) (jgs_cons (jg_name 5 nd) jgs_nil)))) ?_
    obtain ⟨hA_10, hB_11⟩ := hs
    refine js_if (R := (Rz.out EC e_n)) (JW.t (jw_or (jt_lt (je_var 0 rfl) je_int) (fun hp_1 => (jw_or1 (jt_lt (je_var 1 rfl) je_int))))) (fun hp_2 => ?_) (fun hp_2 => ?_)
    · replace hs := hA_10 hp_2
      exact js_raise ec_OutOfBox (takes_of rfl rfl rfl rfl)
    · replace hs := hB_11 hp_2
      refine js_fall ?_
      obtain ⟨c_7, hA_8, hB_9⟩ := hs
      refine js_if (R := (Rz.out EC e_n)) (JW.t (jw_or (jt_le (je_var 3 rfl) je_int) (fun hp_3 => (jw_or (jt_le (je_var 4 rfl) je_int) (fun hp_4 => (jw_or (jt_ge (je_var 3 rfl) (je_mulK (je_var 0 rfl) (je_var 5 rfl) ((c_7 hp_3) hp_4).1)) (fun hp_5 => (jw_or1 (jt_ge (je_var 4 rfl) (je_mulK (je_var 1 rfl) (je_var 5 rfl) (((c_7 hp_3) hp_4).2 hp_5))))))))))) (fun hp_6 => ?_) (fun hp_6 => ?_)
      · replace hs := hA_8 hp_6
        exact js_raise ec_OutOfBox (takes_of rfl rfl rfl rfl)
      · replace hs := hB_9 hp_6
        refine js_fall ?_
        exact js_off
abbrev n_swung : List Str := [("far" : Str), ("span" : Str), ("step" : Str), ("turns" : Str), ("rest" : Str), ("place" : Str), ("way" : Str)]
theorem sc_swung : FnScope [("far" : Str), ("span" : Str), ("step" : Str), ("turns" : Str), ("rest" : Str), ("place" : Str), ("way" : Str)] [("far" : Str), ("span" : Str), ("step" : Str)] (defScope st_swung) := ⟨rfl, rfl, rfl, by decide +kernel, rfl, by decide +kernel, by decide +kernel⟩
theorem w_swung_1 (F : FnP K "swung" st_swung f fd) (d_swung_0 : DefOk P w K mg base 0 "swung" [("far" : Str), ("span" : Str), ("step" : Str)] S_swung_0) (m_divmod : mg "divmod" = none) : FnOk P w K mg base (L2.CX P w) 1 f fd [("far" : Str), ("span" : Str), ("step" : Str)] (spOf K S_swung_1) := by
  have nd := sc_swung.nd
  refine def_ok F sc_swung (fun ds o h => ?_) (fun cdv A outer s H E hr ds o h => ?_)
  · obtain ⟨far, span, step, rfl, _⟩ := h
    rfl
  · obtain ⟨far, span, step, rfl, hs, rfl⟩ := h
    refine JS.eq (o := (fun r => O.rt (e_Tiiz r)) (if step < 0 then   (bindL ((f_swung_0 (span - far) span (-step)) : (Int × Int)) (fun (p_2 : (Int × Int)) => ((span - p_2.1), (-p_2.2)))) else   (bindL ((far / span, far % span) : (Int × Int)) (fun (p_4 : (Int × Int)) => if (p_4.1 % 2) = 0 then     (p_4.2, step)   else     ((span - p_4.2), (-step)))))) ?_ rfl
    refine JS.slots (Γ' := [(.im (.int far)), (.im (.int span)), (.im (.int step)), .un, .un, .un, .un]) ?_ rfl
    replace hs : ((step < 0) →   (g_swung_0 (span - far) span (-step)) ∧ ((bindL ((f_swung_0 (span - far) span (-step)) : (Int × Int)) (fun (p_2 : (Int × Int)) => True)))) ∧ (¬ (step < 0) →   (CDivW far span) ∧ ((bindL ((far / span, far % span) : (Int × Int)) (fun (p_4 : (Int × Int)) => (((p_4.1 % 2) = 0) →   True) ∧ (¬ ((p_4.1 % 2) = 0) →   True))))) := hs
    obtain ⟨hA_9, hB_10⟩ := hs
    refine js_if (R := (fun r => O.rt (e_Tiiz r))) (jt_lt (je_var 2 rfl) je_int) (fun hp_1 => ?_) (fun hp_1 => ?_)
    · replace hs := hA_9 hp_1
      obtain ⟨c_3, hs⟩ := hs
      refine js_asg (je_call d_swung_0 (hr.mono (by decide)) (ja_cons (je_sub (je_var 1 rfl) (je_var 0 rfl)) (ja_cons (je_var 1 rfl) (ja_cons (je_neg (je_var 2 rfl)) ja_nil))) ⟨_, _, _, rfl, c_3, rfl⟩) (jg_tup (jgs_cons (jg_name 5 nd) (jgs_cons (jg_name 6 nd) jgs_nil))) ?_
      refine js_gen (R := (fun r => O.rt (e_Tiiz r))) (fun (p_2 : (Int × Int)) => [(.im (.int far)), (.im (.int span)), (.im (.int step)), .un, .un, (.im (.int p_2.1)), (.im (.int p_2.2))]) hs (fun p_2 hs => ?_)
      exact js_ret (je_tup (ja_cons (je_sub (je_var 1 rfl) (je_var 5 rfl)) (ja_cons (je_neg (je_var 6 rfl)) ja_nil)))
    · replace hs := hB_10 hp_1
      refine js_fall ?_
      obtain ⟨c_8, hs⟩ := hs
      refine js_asg (je_divmod (ja_cons (je_var 0 rfl) (ja_cons (je_var 1 rfl) ja_nil)) m_divmod c_8) (jg_tup (jgs_cons (jg_name 3 nd) (jgs_cons (jg_name 4 nd) jgs_nil))) ?_
      refine js_gen (R := (fun r => O.rt (e_Tiiz r))) (fun (p_4 : (Int × Int)) => [(.im (.int far)), (.im (.int span)), (.im (.int step)), (.im (.int p_4.1)), (.im (.int p_4.2)), .un, .un]) hs (fun p_4 hs => ?_)
      obtain ⟨hA_6, hB_7⟩ := hs
      refine js_if (R := (fun r => O.rt (e_Tiiz r))) (jt_eqI (je_mod (je_var 3 rfl) je_int (by decide)) je_int) (fun hp_5 => ?_) (fun hp_5 => ?_)
      · replace hs := hA_6 hp_5
        exact js_ret (je_tup (ja_cons (je_var 4 rfl) (ja_cons (je_var 2 rfl) ja_nil)))
      · replace hs := hB_7 hp_5
        refine js_fall ?_
        exact js_ret (je_tup (ja_cons (je_sub (je_var 1 rfl) (je_var 4 rfl)) (ja_cons (je_neg (je_var 2 rfl)) ja_nil)))
theorem w_swung (F : FnP K "swung" st_swung f fd) (d_swung_1 : DefOk P w K mg base 1 "swung" [("far" : Str), ("span" : Str), ("step" : Str)] S_swung_1) (m_divmod : mg "divmod" = none) : FnOk P w K mg base (L2.CX P w) 2 f fd [("far" : Str), ("span" : Str), ("step" : Str)] (spOf K S_swung) := by
  have nd := sc_swung.nd
  refine def_ok F sc_swung (fun ds o h => ?_) (fun cdv A outer s H E hr ds o h => ?_)
  · obtain ⟨far, span, step, rfl, _⟩ := h
    rfl
  · obtain ⟨far, span, step, rfl, hs, rfl⟩ := h
    refine JS.eq (o := (fun r => O.rt (e_Tiiz r)) (if step < 0 then   (bindL ((f_swung_1 (span - far) span (-step)) : (Int × Int)) (fun (p_2 : (Int × Int)) => ((span - p_2.1), (-p_2.2)))) else   (bindL ((far / span, far % span) : (Int × Int)) (fun (p_4 : (Int × Int)) => if (p_4.1 % 2) = 0 then     (p_4.2, step)   else     ((span - p_4.2), (-step)))))) ?_ rfl
    refine JS.slots (Γ' := [(.im (.int far)), (.im (.int span)), (.im (.int step)), .un, .un, .un, .un]) ?_ rfl
    replace hs : ((step < 0) →   (g_swung_1 (span - far) span (-step)) ∧ ((bindL ((f_swung_1 (span - far) span (-step)) : (Int × Int)) (fun (p_2 : (Int × Int)) => True)))) ∧ (¬ (step < 0) →   (CDivW far span) ∧ ((bindL ((far / span, far % span) : (Int × Int)) (fun (p_4 : (Int × Int)) => (((p_4.1 % 2) = 0) →   True) ∧ (¬ ((p_4.1 % 2) = 0) →   True))))) := hs
    obtain ⟨hA_9, hB_10⟩ := hs
    refine js_if (R := (fun r => O.rt (e_Tiiz r))) (jt_lt (je_var 2 rfl) je_int) (fun hp_1 => ?_) (fun hp_1 => ?_)
    · replace hs := hA_9 hp_1
      obtain ⟨c_3, hs⟩ := hs
      refine js_asg (je_call d_swung_1 (hr.mono (by decide)) (ja_cons (je_sub (je_var 1 rfl) (je_var 0 rfl)) (ja_cons (je_var 1 rfl) (ja_cons (je_neg (je_var 2 rfl)) ja_nil))) ⟨_, _, _, rfl, c_3, rfl⟩) (jg_tup (jgs_cons (jg_name 5 nd) (jgs_cons (jg_name 6 nd) jgs_nil))) ?_
      refine js_gen (R := (fun r => O.rt (e_Tiiz r))) (fun (p_2 : (Int × Int)) => [(.im (.int far)), (.im (.int span)), (.im (.int step)), .un, .un, (.im (.int p_2.1)), (.im (.int p_2.2))]) hs (fun p_2 hs => ?_)
      exact js_ret (je_tup (ja_cons (je_sub (je_var 1 rfl) (je_var 5 rfl)) (ja_cons (je_neg (je_var 6 rfl)) ja_nil)))
    · replace hs := hB_10 hp_1
      refine js_fall ?_
      obtain ⟨c_8, hs⟩ := hs
      refine js_asg (je_divmod (ja_cons (je_var 0 rfl) (ja_cons (je_var 1 rfl) ja_nil)) m_divmod c_8) (jg_tup (jgs_cons (jg_name 3 nd) (jgs_cons (jg_name 4 nd) jgs_nil))) ?_
      refine js_gen (R := (fun r => O.rt (e_Tiiz r))) (fun (p_4 : (Int × Int)) => [(.im (.int far)), (.im (.int span)), (.im (.int step)), (.im (.int p_4.1)), (.im (.int p_4.2)), .un, .un]) hs (fun p_4 hs => ?_)
      obtain ⟨hA_6, hB_7⟩ := hs
      refine js_if (R := (fun r => O.rt (e_Tiiz r))) (jt_eqI (je_mod (je_var 3 rfl) je_int (by decide)) je_int) (fun hp_5 => ?_) (fun hp_5 => ?_)
      · replace hs := hA_6 hp_5
        exact js_ret (je_tup (ja_cons (je_var 4 rfl) (ja_cons (je_var 2 rfl) ja_nil)))
      · replace hs := hB_7 hp_5
        refine js_fall ?_
        exact js_ret (je_tup (ja_cons (je_sub (je_var 1 rfl) (je_var 4 rfl)) (ja_cons (je_neg (je_var 2 rfl)) ja_nil)))
abbrev n_box_at : List Str := [("wide" : Str), ("high" : Str), ("P" : Str), ("heading" : Str), ("t" : Str), ("many" : Str), ("x" : Str), ("y" : Str), ("w" : Str), ("top" : Str), ("bottom" : Str), ("right" : Str), ("a" : Str), ("up" : Str), ("b" : Str)]
theorem sc_box_at : FnScope [("wide" : Str), ("high" : Str), ("P" : Str), ("heading" : Str), ("t" : Str), ("many" : Str), ("x" : Str), ("y" : Str), ("w" : Str), ("top" : Str), ("bottom" : Str), ("right" : Str), ("a" : Str), ("up" : Str), ("b" : Str)] [("wide" : Str), ("high" : Str), ("P" : Str), ("heading" : Str), ("t" : Str)] (defScope st_box_at) := ⟨rfl, rfl, rfl, by decide +kernel, rfl, by decide +kernel, by decide +kernel⟩
theorem w_box_at (F : FnP K "box_at" st_box_at f fd) (d_look_inside : DefOk P w K mg base 1 "look_inside" [("wide" : Str), ("high" : Str), ("P" : Str)] (S_look_inside EC)) (d_point_of : DefOk P w K mg base 2 "point_of" [("x" : Str), ("y" : Str), ("w" : Str)] S_point_of) (d_swung : DefOk P w K mg base 2 "swung" [("far" : Str), ("span" : Str), ("step" : Str)] S_swung) : FnOk P w K mg base (L2.CX P w) 3 f fd [("wide" : Str), ("high" : Str), ("P" : Str), ("heading" : Str), ("t" : Str)] (spOf K (S_box_at EC)) := by
  have nd := sc_box_at.nd
  refine def_ok F sc_box_at (fun ds o h => ?_) (fun cdv A outer s H E hr ds o h => ?_)
  · obtain ⟨wide, high, P, heading, t, rfl, _⟩ := h
    rfl
  · obtain ⟨wide, high, P, heading, t, rfl, hs, rfl⟩ := h
    refine JS.eq (o := (Rz.out EC e_TTiiizTiizz) ((match f_look_inside wide high P with   | .ok v_1 =>     (bindL ((P.2.2 * t.2) : Int) (fun (many_2 : Int) => (bindL ((f_swung ((P.1 * t.2) + ((heading.1 * t.1) * P.2.2)) (wide * many_2) heading.1) : (Int × Int)) (fun (p_3 : (Int × Int)) => (bindL ((f_swung ((P.2.1 * t.2) + ((heading.2 * t.1) * P.2.2)) (high * many_2) heading.2) : (Int × Int)) (fun (p_4 : (Int × Int)) => .ok ((f_point_of p_3.1 p_4.1 many_2), (p_3.2, p_4.2))))))))   | .er c_ fs_ xs_ => .er c_ fs_ xs_))) ?_ rfl
    refine JS.slots (Γ' := [(.im (.int wide)), (.im (.int high)), (.im (e_Tiiiz P)), (.im (e_Tiiz heading)), (.im (e_Tiiz t)), .un, .un, .un, .un, .un, .un, .un, .un, .un, .un]) ?_ rfl
    replace hs : (g_look_inside wide high P) ∧ (match f_look_inside wide high P with   | .ok v_1 =>     (IntMulOk P.2.2 t.2) ∧ ((bindL ((P.2.2 * t.2) : Int) (fun (many_2 : Int) => (IntMulOk P.1 t.2) ∧ (IntMulOk heading.1 t.1) ∧ (IntMulOk (heading.1 * t.1) P.2.2) ∧ (IntMulOk wide many_2) ∧ (g_swung ((P.1 * t.2) + ((heading.1 * t.1) * P.2.2)) (wide * many_2) heading.1) ∧ ((bindL ((f_swung ((P.1 * t.2) + ((heading.1 * t.1) * P.2.2)) (wide * many_2) heading.1) : (Int × Int)) (fun (p_3 : (Int × Int)) => (IntMulOk P.2.1 t.2) ∧ (IntMulOk heading.2 t.1) ∧ (IntMulOk (heading.2 * t.1) P.2.2) ∧ (IntMulOk high many_2) ∧ (g_swung ((P.2.1 * t.2) + ((heading.2 * t.1) * P.2.2)) (high * many_2) heading.2) ∧ ((bindL ((f_swung ((P.2.1 * t.2) + ((heading.2 * t.1) * P.2.2)) (high * many_2) heading.2) : (Int × Int)) (fun (p_4 : (Int × Int)) => (g_point_of p_3.1 p_4.1 many_2) ∧ True)))))))))   | .er c_ fs_ xs_ => True) := hs
    obtain ⟨c_17, hs⟩ := hs
    have hv : S_look_inside EC _ (Rz.out EC e_n (f_look_inside wide high P)) := ⟨_, _, _, rfl, c_17, rfl⟩
    revert hv hs
    generalize f_look_inside wide high P = rz_
    intro hs hv
    rcases rz_ with v_1 | ⟨c_, fs_, xs_⟩
    · replace hs : (IntMulOk P.2.2 t.2) ∧ ((bindL ((P.2.2 * t.2) : Int) (fun (many_2 : Int) => (IntMulOk P.1 t.2) ∧ (IntMulOk heading.1 t.1) ∧ (IntMulOk (heading.1 * t.1) P.2.2) ∧ (IntMulOk wide many_2) ∧ (g_swung ((P.1 * t.2) + ((heading.1 * t.1) * P.2.2)) (wide * many_2) heading.1) ∧ ((bindL ((f_swung ((P.1 * t.2) + ((heading.1 * t.1) * P.2.2)) (wide * many_2) heading.1) : (Int × Int)) (fun (p_3 : (Int × Int)) => (IntMulOk P.2.1 t.2) ∧ (IntMulOk heading.2 t.1) ∧ (IntMulOk (heading.2 * t.1) P.2.2) ∧ (IntMulOk high many_2) ∧ (g_swung ((P.2.1 * t.2) + ((heading.2 * t.1) * P.2.2)) (high * many_2) heading.2) ∧ ((bindL ((f_swung ((P.2.1 * t.2) + ((heading.2 * t.1) * P.2.2)) (high * many_2) heading.2) : (Int × Int)) (fun (p_4 : (Int × Int)) => (g_point_of p_3.1 p_4.1 many_2) ∧ True))))))))) := hs
      refine JS.eq (o := (Rz.out EC e_TTiiizTiizz) ((bindL ((P.2.2 * t.2) : Int) (fun (many_2 : Int) => (bindL ((f_swung ((P.1 * t.2) + ((heading.1 * t.1) * P.2.2)) (wide * many_2) heading.1) : (Int × Int)) (fun (p_3 : (Int × Int)) => (bindL ((f_swung ((P.2.1 * t.2) + ((heading.2 * t.1) * P.2.2)) (high * many_2) heading.2) : (Int × Int)) (fun (p_4 : (Int × Int)) => .ok ((f_point_of p_3.1 p_4.1 many_2), (p_3.2, p_4.2)))))))))) ?_ rfl
      refine js_drop (je_call d_look_inside (hr.mono (by decide)) (ja_cons (je_var 0 rfl) (ja_cons (je_var 1 rfl) (ja_cons (je_var 2 rfl) ja_nil))) hv) ?_
      refine js_asg (je_var 2 rfl) (jg_tup (jgs_cons (jg_name 6 nd) (jgs_cons (jg_name 7 nd) (jgs_cons (jg_name 8 nd) jgs_nil)))) ?_
      refine js_asg (je_var 4 rfl) (jg_tup (jgs_cons (jg_name 9 nd) (jgs_cons (jg_name 10 nd) jgs_nil))) ?_
      obtain ⟨c_16, hs⟩ := hs
      refine js_set 5 nd (je_mulK (je_var 8 rfl) (je_var 10 rfl) c_16) ?_
      refine js_gen (R := (Rz.out EC e_TTiiizTiizz)) (fun (many_2 : Int) => [(.im (.int wide)), (.im (.int high)), (.im (e_Tiiiz P)), (.im (e_Tiiz heading)), (.im (e_Tiiz t)), (.im (.int many_2)), (.im (.int P.1)), (.im (.int P.2.1)), (.im (.int P.2.2)), (.im (.int t.1)), (.im (.int t.2)), .un, .un, .un, .un]) hs (fun many_2 hs => ?_)
      obtain ⟨c_11, c_12, c_13, c_14, c_15, hs⟩ := hs
      refine js_asg (je_call d_swung (hr.mono (by decide)) (ja_cons (je_add (je_mulK (je_var 6 rfl) (je_var 10 rfl) c_11) (je_mulK (je_mulK (je_ixT (je_var 3 rfl) je_int rfl) (je_var 9 rfl) c_12) (je_var 8 rfl) c_13)) (ja_cons (je_mulK (je_var 0 rfl) (je_var 5 rfl) c_14) (ja_cons (je_ixT (je_var 3 rfl) je_int rfl) ja_nil))) ⟨_, _, _, rfl, c_15, rfl⟩) (jg_tup (jgs_cons (jg_name 11 nd) (jgs_cons (jg_name 12 nd) jgs_nil))) ?_
      refine js_gen (R := (Rz.out EC e_TTiiizTiizz)) (fun (p_3 : (Int × Int)) => [(.im (.int wide)), (.im (.int high)), (.im (e_Tiiiz P)), (.im (e_Tiiz heading)), (.im (e_Tiiz t)), (.im (.int many_2)), (.im (.int P.1)), (.im (.int P.2.1)), (.im (.int P.2.2)), (.im (.int t.1)), (.im (.int t.2)), (.im (.int p_3.1)), (.im (.int p_3.2)), .un, .un]) hs (fun p_3 hs => ?_)
      obtain ⟨c_6, c_7, c_8, c_9, c_10, hs⟩ := hs
      refine js_asg (je_call d_swung (hr.mono (by decide)) (ja_cons (je_add (je_mulK (je_var 7 rfl) (je_var 10 rfl) c_6) (je_mulK (je_mulK (je_ixT (je_var 3 rfl) je_int rfl) (je_var 9 rfl) c_7) (je_var 8 rfl) c_8)) (ja_cons (je_mulK (je_var 1 rfl) (je_var 5 rfl) c_9) (ja_cons (je_ixT (je_var 3 rfl) je_int rfl) ja_nil))) ⟨_, _, _, rfl, c_10, rfl⟩) (jg_tup (jgs_cons (jg_name 13 nd) (jgs_cons (jg_name 14 nd) jgs_nil))) ?_
      refine js_gen (R := (Rz.out EC e_TTiiizTiizz)) (fun (p_4 : (Int × Int)) => [(.im (.int wide)), (.im (.int high)), (.im (e_Tiiiz P)), (.im (e_Tiiz heading)), (.im (e_Tiiz t)), (.im (.int many_2)), (.im (.int P.1)), (.im (.int P.2.1)), (.im (.int P.2.2)), (.im (.int t.1)), (.im (.int t.2)), (.im (.int p_3.1)), (.im (.int p_3.2)), (.im (.int p_4.1)), (.im (.int p_4.2))]) hs (fun p_4 hs => ?_)
      obtain ⟨c_5, hs⟩ := hs
      exact js_ret (je_tup (ja_cons (je_call d_point_of (hr.mono (by decide)) (ja_cons (je_var 11 rfl) (ja_cons (je_var 13 rfl) (ja_cons (je_var 5 rfl) ja_nil))) ⟨_, _, _, rfl, c_5, rfl⟩) (ja_cons (je_tup (ja_cons (je_var 12 rfl) (ja_cons (je_var 14 rfl) ja_nil))) ja_nil)))
    · exact js_dropX (jx_call d_look_inside (takes_of rfl rfl rfl rfl) (hr.mono (by decide)) (ja_cons (je_var 0 rfl) (ja_cons (je_var 1 rfl) (ja_cons (je_var 2 rfl) ja_nil))) hv)
abbrev n_undone : List Str := [("one" : Str), ("other" : Str), ("ahead" : Str), ("now" : Str), ("many" : Str), ("then" : Str)]
theorem sc_undone : FnScope [("one" : Str), ("other" : Str), ("ahead" : Str), ("now" : Str), ("many" : Str), ("then" : Str)] [("one" : Str), ("other" : Str)] (defScope st_undone) := ⟨rfl, rfl, rfl, by decide +kernel, rfl, by decide +kernel, by decide +kernel⟩
theorem w_undone (F : FnP K "undone" st_undone f fd) : FnOk P w K mg base (L2.CX P w) 1 f fd [("one" : Str), ("other" : Str)] (spOf K S_undone) := by
  have nd := sc_undone.nd
  refine def_ok F sc_undone (fun ds o h => ?_) (fun cdv A outer s H E hr ds o h => ?_)
  · obtain ⟨one, other, rfl, _⟩ := h
    rfl
  · obtain ⟨one, other, rfl, hs, rfl⟩ := h
    refine JS.eq (o := (fun r => O.rt (.int r)) ((bindL ((other, 0) : (Int × Int)) (fun (ahead_1 : (Int × Int)) => (bindL (((one % other), 1) : (Int × Int)) (fun (now_2 : (Int × Int)) => (whileS (fun s_3 : ((Int × Int) × (Int × Int)) => s_3.2.1 > 0) (f_undone_b1) ((now_2.1.natAbs + 1)) (ahead_1, now_2)).out (fun s_9 =>   (s_9.1.2 % other)) (fun r => nomatch r))))))) ?_ rfl
    refine JS.slots (Γ' := [(.im (.int one)), (.im (.int other)), .un, .un, .un, .un]) ?_ rfl
    replace hs : ((bindL ((other, 0) : (Int × Int)) (fun (ahead_1 : (Int × Int)) => (0 < other) ∧ ((bindL (((one % other), 1) : (Int × Int)) (fun (now_2 : (Int × Int)) => (whileOk (fun s_3 : ((Int × Int) × (Int × Int)) => s_3.2.1 > 0) (f_undone_b1) (fun s_3 : ((Int × Int) × (Int × Int)) => True) (g_undone_b1) ((now_2.1.natAbs + 1)) (ahead_1, now_2)) ∧ (∀ s_9, (whileS (fun s_3 : ((Int × Int) × (Int × Int)) => s_3.2.1 > 0) (f_undone_b1) ((now_2.1.natAbs + 1)) (ahead_1, now_2)).fin s_9 →   (0 < other) ∧ True))))))) := hs
    refine js_set 2 nd (je_tup (ja_cons (je_var 1 rfl) (ja_cons je_int ja_nil))) ?_
    refine js_gen (R := (fun r => O.rt (.int r))) (fun (ahead_1 : (Int × Int)) => [(.im (.int one)), (.im (.int other)), (.im (e_Tiiz ahead_1)), .un, .un, .un]) hs (fun ahead_1 hs => ?_)
    obtain ⟨c_15, hs⟩ := hs
    refine js_set 3 nd (je_tup (ja_cons (je_mod (je_var 0 rfl) (je_var 1 rfl) c_15) (ja_cons je_int ja_nil))) ?_
    refine js_gen (R := (fun r => O.rt (.int r))) (fun (now_2 : (Int × Int)) => [(.im (.int one)), (.im (.int other)), (.im (e_Tiiz ahead_1)), (.im (e_Tiiz now_2)), .un, .un]) hs (fun now_2 hs => ?_)
    obtain ⟨c_14, hs⟩ := hs
    refine js_wk (Γ' := (fun (s_3 : ((Int × Int) × (Int × Int))) => [(.im (.int one)), (.im (.int other)), (.im (e_Tiiz s_3.1)), (.im (e_Tiiz s_3.2)), .un, .un]) (ahead_1, now_2)) ?_ (by exact (.same (.same (.same (.same (.un (.un .nil)))))))
    refine js_while (R := (fun r => O.rt (.int r))) e_v (fun (s_3 : ((Int × Int) × (Int × Int))) => [(.im (.int one)), (.im (.int other)), (.im (e_Tiiz s_3.1)), (.im (e_Tiiz s_3.2)), .un, .un]) (fun s_3 : ((Int × Int) × (Int × Int)) => s_3.2.1 > 0) (f_undone_b1) (fun s_3 : ((Int × Int) × (Int × Int)) => True) (g_undone_b1) ((now_2.1.natAbs + 1)) (ahead_1, now_2) (fun s_9 => _) (fun r => nomatch r) (passes_of rfl) (fun s_3 hc_13 => (jt_gt (je_ixT (je_var 3 rfl) je_int rfl) je_int)) (fun s_3 hs hx_11 => ?_) c_14 (fun s_9 hf_12 => ?_) (fun r => nomatch r)
    · refine JS.eq (o := (Stp.o (fun (s_3 : ((Int × Int) × (Int × Int))) => [(.im (.int one)), (.im (.int other)), (.im (e_Tiiz s_3.1)), (.im (e_Tiiz s_3.2)), .un, .un]) e_v) ((bindL ((s_3.1.1 / s_3.2.1) : Int) (fun (many_4 : Int) => (bindL (((s_3.1.1 - (many_4 * s_3.2.1)), (s_3.1.2 - (many_4 * s_3.2.2))) : (Int × Int)) (fun (then_5 : (Int × Int)) => .nx (s_3.2, then_5))))))) ?_ rfl
      replace hs : (CDivW s_3.1.1 s_3.2.1) ∧ ((bindL ((s_3.1.1 / s_3.2.1) : Int) (fun (many_4 : Int) => (IntMulOk many_4 s_3.2.1) ∧ (IntMulOk many_4 s_3.2.2) ∧ ((bindL (((s_3.1.1 - (many_4 * s_3.2.1)), (s_3.1.2 - (many_4 * s_3.2.2))) : (Int × Int)) (fun (then_5 : (Int × Int)) => True)))))) := hs
      obtain ⟨c_8, hs⟩ := hs
      refine js_set 4 nd (je_div (je_ixT (je_var 2 rfl) je_int rfl) (je_ixT (je_var 3 rfl) je_int rfl) c_8) ?_
      refine js_gen (R := (Stp.o (fun (s_3 : ((Int × Int) × (Int × Int))) => [(.im (.int one)), (.im (.int other)), (.im (e_Tiiz s_3.1)), (.im (e_Tiiz s_3.2)), .un, .un]) e_v)) (fun (many_4 : Int) => [(.im (.int one)), (.im (.int other)), (.im (e_Tiiz s_3.1)), (.im (e_Tiiz s_3.2)), (.im (.int many_4)), .un]) hs (fun many_4 hs => ?_)
      obtain ⟨c_6, c_7, hs⟩ := hs
      refine js_set 5 nd (je_tup (ja_cons (je_sub (je_ixT (je_var 2 rfl) je_int rfl) (je_mulK (je_var 4 rfl) (je_ixT (je_var 3 rfl) je_int rfl) c_6)) (ja_cons (je_sub (je_ixT (je_var 2 rfl) je_int rfl) (je_mulK (je_var 4 rfl) (je_ixT (je_var 3 rfl) je_int rfl) c_7)) ja_nil))) ?_
      refine js_gen (R := (Stp.o (fun (s_3 : ((Int × Int) × (Int × Int))) => [(.im (.int one)), (.im (.int other)), (.im (e_Tiiz s_3.1)), (.im (e_Tiiz s_3.2)), .un, .un]) e_v)) (fun (then_5 : (Int × Int)) => [(.im (.int one)), (.im (.int other)), (.im (e_Tiiz s_3.1)), (.im (e_Tiiz s_3.2)), (.im (.int many_4)), (.im (e_Tiiz then_5))]) hs (fun then_5 hs => ?_)
      refine js_set 2 nd (je_var 3 rfl) ?_
      refine js_set 3 nd (je_var 5 rfl) ?_
      exact js_endW (.same (.same (.same (.same (.un (.un .nil))))))
    · replace hs := hs s_9 hf_12
      obtain ⟨c_10, hs⟩ := hs
      exact js_ret (je_mod (je_ixT (je_var 2 rfl) je_int rfl) (je_var 1 rfl) c_10)
abbrev n_box_corner : List Str := [("wide" : Str), ("high" : Str), ("P" : Str), ("heading" : Str), ("share" : Str), ("off" : Str), ("cycle" : Str), ("turns" : Str), ("early" : Str), ("x" : Str), ("y" : Str), ("w" : Str), ("a" : Str), ("b" : Str)]
theorem sc_box_corner : FnScope [("wide" : Str), ("high" : Str), ("P" : Str), ("heading" : Str), ("share" : Str), ("off" : Str), ("cycle" : Str), ("turns" : Str), ("early" : Str), ("x" : Str), ("y" : Str), ("w" : Str), ("a" : Str), ("b" : Str)] [("wide" : Str), ("high" : Str), ("P" : Str), ("heading" : Str)] (defScope st_box_corner) := ⟨rfl, rfl, rfl, by decide +kernel, rfl, by decide +kernel, by decide +kernel⟩
theorem w_box_corner (F : FnP K "box_corner" st_box_corner f fd) (d_divisor : DefOk P w K mg base 1 "divisor" [("one" : Str), ("other" : Str)] S_divisor) (d_look_inside : DefOk P w K mg base 1 "look_inside" [("wide" : Str), ("high" : Str), ("P" : Str)] (S_look_inside EC)) (d_time_of : DefOk P w K mg base 2 "time_of" [("top" : Str), ("bottom" : Str)] S_time_of) (d_undone : DefOk P w K mg base 1 "undone" [("one" : Str), ("other" : Str)] S_undone) (m_abs : mg "abs" = none) : FnOk P w K mg base (L2.CX P w) 3 f fd [("wide" : Str), ("high" : Str), ("P" : Str), ("heading" : Str)] (spOf K (S_box_corner EC)) := by
  have nd := sc_box_corner.nd
  refine def_ok F sc_box_corner (fun ds o h => ?_) (fun cdv A outer s H E hr ds o h => ?_)
  · obtain ⟨wide, high, P, heading, rfl, _⟩ := h
    rfl
  · obtain ⟨wide, high, P, heading, rfl, hs, rfl⟩ := h
    refine JS.eq (o := (Rz.out EC e_OTiiz) ((match f_look_inside wide high P with   | .ok v_1 =>     (bindL ((f_divisor (wide * heading.2) (high * heading.1)) : Int) (fun (share_2 : Int) => (bindL (((heading.2 * P.1) - (heading.1 * P.2.1)) : Int) (fun (off_3 : Int) => if (off_3 % (share_2 * P.2.2)) ≠ 0 then       .ok none     else       (bindL (((high * (iabs heading.1)) / share_2) : Int) (fun (cycle_5 : Int) => (bindL ((((off_3 / (share_2 * P.2.2)) * (f_undone ((wide * heading.2) / share_2) cycle_5)) % cycle_5) : Int) (fun (turns_6 : Int) => (bindL ((f_time_of (((turns_6 * wide) * P.2.2) - P.1) (heading.1 * P.2.2)) : (Int × Int)) (fun (early_7 : (Int × Int)) => .ok (some (f_time_of (early_7.1 % (((wide * high) / share_2) * early_7.2)) early_7.2))))))))))))   | .er c_ fs_ xs_ => .er c_ fs_ xs_))) ?_ rfl
    refine JS.slots (Γ' := [(.im (.int wide)), (.im (.int high)), (.im (e_Tiiiz P)), (.im (e_Tiiz heading)), .un, .un, .un, .un, .un, .un, .un, .un, .un, .un]) ?_ rfl
    replace hs : (g_look_inside wide high P) ∧ (match f_look_inside wide high P with   | .ok v_1 =>     (IntMulOk wide heading.2) ∧ (IntMulOk high heading.1) ∧ (g_divisor (wide * heading.2) (high * heading.1)) ∧ ((bindL ((f_divisor (wide * heading.2) (high * heading.1)) : Int) (fun (share_2 : Int) => (IntMulOk heading.2 P.1) ∧ (IntMulOk heading.1 P.2.1) ∧ ((bindL (((heading.2 * P.1) - (heading.1 * P.2.1)) : Int) (fun (off_3 : Int) => (IntMulOk share_2 P.2.2) ∧ (0 < (share_2 * P.2.2)) ∧ (((off_3 % (share_2 * P.2.2)) ≠ 0) →   True) ∧ (¬ ((off_3 % (share_2 * P.2.2)) ≠ 0) →   (IntMulOk high (iabs heading.1)) ∧ (CDivW (high * (iabs heading.1)) share_2) ∧ ((bindL (((high * (iabs heading.1)) / share_2) : Int) (fun (cycle_5 : Int) => (IntMulOk share_2 P.2.2) ∧ (CDivW off_3 (share_2 * P.2.2)) ∧ (IntMulOk wide heading.2) ∧ (CDivW (wide * heading.2) share_2) ∧ (g_undone ((wide * heading.2) / share_2) cycle_5) ∧ (IntMulOk (off_3 / (share_2 * P.2.2)) (f_undone ((wide * heading.2) / share_2) cycle_5)) ∧ (0 < cycle_5) ∧ ((bindL ((((off_3 / (share_2 * P.2.2)) * (f_undone ((wide * heading.2) / share_2) cycle_5)) % cycle_5) : Int) (fun (turns_6 : Int) => (IntMulOk turns_6 wide) ∧ (IntMulOk (turns_6 * wide) P.2.2) ∧ (IntMulOk heading.1 P.2.2) ∧ (g_time_of (((turns_6 * wide) * P.2.2) - P.1) (heading.1 * P.2.2)) ∧ ((bindL ((f_time_of (((turns_6 * wide) * P.2.2) - P.1) (heading.1 * P.2.2)) : (Int × Int)) (fun (early_7 : (Int × Int)) => (IntMulOk wide high) ∧ (CDivW (wide * high) share_2) ∧ (IntMulOk ((wide * high) / share_2) early_7.2) ∧ (0 < (((wide * high) / share_2) * early_7.2)) ∧ (g_time_of (early_7.1 % (((wide * high) / share_2) * early_7.2)) early_7.2) ∧ True))))))))))))))))   | .er c_ fs_ xs_ => True) := hs
    obtain ⟨c_35, hs⟩ := hs
    have hv : S_look_inside EC _ (Rz.out EC e_n (f_look_inside wide high P)) := ⟨_, _, _, rfl, c_35, rfl⟩
    revert hv hs
    generalize f_look_inside wide high P = rz_
    intro hs hv
    rcases rz_ with v_1 | ⟨c_, fs_, xs_⟩
    · replace hs : (IntMulOk wide heading.2) ∧ (IntMulOk high heading.1) ∧ (g_divisor (wide * heading.2) (high * heading.1)) ∧ ((bindL ((f_divisor (wide * heading.2) (high * heading.1)) : Int) (fun (share_2 : Int) => (IntMulOk heading.2 P.1) ∧ (IntMulOk heading.1 P.2.1) ∧ ((bindL (((heading.2 * P.1) - (heading.1 * P.2.1)) : Int) (fun (off_3 : Int) => (IntMulOk share_2 P.2.2) ∧ (0 < (share_2 * P.2.2)) ∧ (((off_3 % (share_2 * P.2.2)) ≠ 0) →   True) ∧ (¬ ((off_3 % (share_2 * P.2.2)) ≠ 0) →   (IntMulOk high (iabs heading.1)) ∧ (CDivW (high * (iabs heading.1)) share_2) ∧ ((bindL (((high * (iabs heading.1)) / share_2) : Int) (fun (cycle_5 : Int) => (IntMulOk share_2 P.2.2) ∧ (CDivW off_3 (share_2 * P.2.2)) ∧ (IntMulOk wide heading.2) ∧ (CDivW (wide * heading.2) share_2) ∧ (g_undone ((wide * heading.2) / share_2) cycle_5) ∧ (IntMulOk (off_3 / (share_2 * P.2.2)) (f_undone ((wide * heading.2) / share_2) cycle_5)) ∧ (0 < cycle_5) ∧ ((bindL ((((off_3 / (share_2 * P.2.2)) * (f_undone ((wide * heading.2) / share_2) cycle_5)) % cycle_5) : Int) (fun (turns_6 : Int) => (IntMulOk turns_6 wide) ∧ (IntMulOk (turns_6 * wide) P.2.2) ∧ (IntMulOk heading.1 P.2.2) ∧ (g_time_of (((turns_6 * wide) * P.2.2) - P.1) (heading.1 * P.2.2)) ∧ ((bindL ((f_time_of (((turns_6 * wide) * P.2.2) - P.1) (heading.1 * P.2.2)) : (Int × Int)) (fun (early_7 : (Int × Int)) => (IntMulOk wide high) ∧ (CDivW (wide * high) share_2) ∧ (IntMulOk ((wide * high) / share_2) early_7.2) ∧ (0 < (((wide * high) / share_2) * early_7.2)) ∧ (g_time_of (early_7.1 % (((wide * high) / share_2) * early_7.2)) early_7.2) ∧ True)))))))))))))))) := hs
      refine JS.eq (o := (Rz.out EC e_OTiiz) ((bindL ((f_divisor (wide * heading.2) (high * heading.1)) : Int) (fun (share_2 : Int) => (bindL (((heading.2 * P.1) - (heading.1 * P.2.1)) : Int) (fun (off_3 : Int) => if (off_3 % (share_2 * P.2.2)) ≠ 0 then   .ok none else   (bindL (((high * (iabs heading.1)) / share_2) : Int) (fun (cycle_5 : Int) => (bindL ((((off_3 / (share_2 * P.2.2)) * (f_undone ((wide * heading.2) / share_2) cycle_5)) % cycle_5) : Int) (fun (turns_6 : Int) => (bindL ((f_time_of (((turns_6 * wide) * P.2.2) - P.1) (heading.1 * P.2.2)) : (Int × Int)) (fun (early_7 : (Int × Int)) => .ok (some (f_time_of (early_7.1 % (((wide * high) / share_2) * early_7.2)) early_7.2)))))))))))))) ?_ rfl
      refine js_drop (je_call d_look_inside (hr.mono (by decide)) (ja_cons (je_var 0 rfl) (ja_cons (je_var 1 rfl) (ja_cons (je_var 2 rfl) ja_nil))) hv) ?_
      refine js_asg (je_var 2 rfl) (jg_tup (jgs_cons (jg_name 9 nd) (jgs_cons (jg_name 10 nd) (jgs_cons (jg_name 11 nd) jgs_nil)))) ?_
      refine js_asg (je_var 3 rfl) (jg_tup (jgs_cons (jg_name 12 nd) (jgs_cons (jg_name 13 nd) jgs_nil))) ?_
      obtain ⟨c_32, c_33, c_34, hs⟩ := hs
      refine js_set 4 nd (je_call d_divisor (hr.mono (by decide)) (ja_cons (je_mulK (je_var 0 rfl) (je_var 13 rfl) c_32) (ja_cons (je_mulK (je_var 1 rfl) (je_var 12 rfl) c_33) ja_nil)) ⟨_, _, rfl, c_34, rfl⟩) ?_
      refine js_gen (R := (Rz.out EC e_OTiiz)) (fun (share_2 : Int) => [(.im (.int wide)), (.im (.int high)), (.im (e_Tiiiz P)), (.im (e_Tiiz heading)), (.im (.int share_2)), .un, .un, .un, .un, (.im (.int P.1)), (.im (.int P.2.1)), (.im (.int P.2.2)), (.im (.int heading.1)), (.im (.int heading.2))]) hs (fun share_2 hs => ?_)
      obtain ⟨c_30, c_31, hs⟩ := hs
      refine js_set 5 nd (je_sub (je_mulK (je_var 13 rfl) (je_var 9 rfl) c_30) (je_mulK (je_var 12 rfl) (je_var 10 rfl) c_31)) ?_
      refine js_gen (R := (Rz.out EC e_OTiiz)) (fun (off_3 : Int) => [(.im (.int wide)), (.im (.int high)), (.im (e_Tiiiz P)), (.im (e_Tiiz heading)), (.im (.int share_2)), (.im (.int off_3)), .un, .un, .un, (.im (.int P.1)), (.im (.int P.2.1)), (.im (.int P.2.2)), (.im (.int heading.1)), (.im (.int heading.2))]) hs (fun off_3 hs => ?_)
      obtain ⟨c_26, c_27, hA_28, hB_29⟩ := hs
      refine js_if (R := (Rz.out EC e_OTiiz)) (jt_neI (je_mod (je_var 5 rfl) (je_mulK (je_var 4 rfl) (je_var 11 rfl) c_26) c_27) je_int) (fun hp_4 => ?_) (fun hp_4 => ?_)
      · replace hs := hA_28 hp_4
        exact js_ret je_non
      · replace hs := hB_29 hp_4
        refine js_fall ?_
        obtain ⟨c_24, c_25, hs⟩ := hs
        refine js_set 6 nd (je_div (je_mulK (je_var 1 rfl) (je_abs (ja_cons (je_var 12 rfl) ja_nil) m_abs) c_24) (je_var 4 rfl) c_25) ?_
        refine js_gen (R := (Rz.out EC e_OTiiz)) (fun (cycle_5 : Int) => [(.im (.int wide)), (.im (.int high)), (.im (e_Tiiiz P)), (.im (e_Tiiz heading)), (.im (.int share_2)), (.im (.int off_3)), (.im (.int cycle_5)), .un, .un, (.im (.int P.1)), (.im (.int P.2.1)), (.im (.int P.2.2)), (.im (.int heading.1)), (.im (.int heading.2))]) hs (fun cycle_5 hs => ?_)
        obtain ⟨c_17, c_18, c_19, c_20, c_21, c_22, c_23, hs⟩ := hs
        refine js_set 7 nd (je_mod (je_mulK (je_div (je_var 5 rfl) (je_mulK (je_var 4 rfl) (je_var 11 rfl) c_17) c_18) (je_call d_undone (hr.mono (by decide)) (ja_cons (je_div (je_mulK (je_var 0 rfl) (je_var 13 rfl) c_19) (je_var 4 rfl) c_20) (ja_cons (je_var 6 rfl) ja_nil)) ⟨_, _, rfl, c_21, rfl⟩) c_22) (je_var 6 rfl) c_23) ?_
        refine js_gen (R := (Rz.out EC e_OTiiz)) (fun (turns_6 : Int) => [(.im (.int wide)), (.im (.int high)), (.im (e_Tiiiz P)), (.im (e_Tiiz heading)), (.im (.int share_2)), (.im (.int off_3)), (.im (.int cycle_5)), (.im (.int turns_6)), .un, (.im (.int P.1)), (.im (.int P.2.1)), (.im (.int P.2.2)), (.im (.int heading.1)), (.im (.int heading.2))]) hs (fun turns_6 hs => ?_)
        obtain ⟨c_13, c_14, c_15, c_16, hs⟩ := hs
        refine js_set 8 nd (je_call d_time_of (hr.mono (by decide)) (ja_cons (je_sub (je_mulK (je_mulK (je_var 7 rfl) (je_var 0 rfl) c_13) (je_var 11 rfl) c_14) (je_var 9 rfl)) (ja_cons (je_mulK (je_var 12 rfl) (je_var 11 rfl) c_15) ja_nil)) ⟨_, _, rfl, c_16, rfl⟩) ?_
        refine js_gen (R := (Rz.out EC e_OTiiz)) (fun (early_7 : (Int × Int)) => [(.im (.int wide)), (.im (.int high)), (.im (e_Tiiiz P)), (.im (e_Tiiz heading)), (.im (.int share_2)), (.im (.int off_3)), (.im (.int cycle_5)), (.im (.int turns_6)), (.im (e_Tiiz early_7)), (.im (.int P.1)), (.im (.int P.2.1)), (.im (.int P.2.2)), (.im (.int heading.1)), (.im (.int heading.2))]) hs (fun early_7 hs => ?_)
        obtain ⟨c_8, c_9, c_10, c_11, c_12, hs⟩ := hs
        exact js_ret (je_call d_time_of (hr.mono (by decide)) (ja_cons (je_mod (je_ixT (je_var 8 rfl) je_int rfl) (je_mulK (je_div (je_mulK (je_var 0 rfl) (je_var 1 rfl) c_8) (je_var 4 rfl) c_9) (je_ixT (je_var 8 rfl) je_int rfl) c_10) c_11) (ja_cons (je_ixT (je_var 8 rfl) je_int rfl) ja_nil)) ⟨_, _, rfl, c_12, rfl⟩)
    · exact js_dropX (jx_call d_look_inside (takes_of rfl rfl rfl rfl) (hr.mono (by decide)) (ja_cons (je_var 0 rfl) (ja_cons (je_var 1 rfl) (ja_cons (je_var 2 rfl) ja_nil))) hv)
abbrev n_box_round : List Str := [("wide" : Str), ("high" : Str), ("P" : Str), ("heading" : Str), ("share" : Str), ("a" : Str), ("b" : Str)]
theorem sc_box_round : FnScope [("wide" : Str), ("high" : Str), ("P" : Str), ("heading" : Str), ("share" : Str), ("a" : Str), ("b" : Str)] [("wide" : Str), ("high" : Str), ("P" : Str), ("heading" : Str)] (defScope st_box_round) := ⟨rfl, rfl, rfl, by decide +kernel, rfl, by decide +kernel, by decide +kernel⟩
theorem w_box_round (F : FnP K "box_round" st_box_round f fd) (d_divisor : DefOk P w K mg base 1 "divisor" [("one" : Str), ("other" : Str)] S_divisor) (d_look_inside : DefOk P w K mg base 1 "look_inside" [("wide" : Str), ("high" : Str), ("P" : Str)] (S_look_inside EC)) (m_abs : mg "abs" = none) : FnOk P w K mg base (L2.CX P w) 2 f fd [("wide" : Str), ("high" : Str), ("P" : Str), ("heading" : Str)] (spOf K (S_box_round EC)) := by
  have nd := sc_box_round.nd
  refine def_ok F sc_box_round (fun ds o h => ?_) (fun cdv A outer s H E hr ds o h => ?_)
  · obtain ⟨wide, high, P, heading, rfl, _⟩ := h
    rfl
  · obtain ⟨wide, high, P, heading, rfl, hs, rfl⟩ := h
    refine JS.eq (o := (Rz.out EC e_Tiiz) ((match f_look_inside wide high P with   | .ok v_1 =>     (bindL ((f_divisor (wide * heading.2) (high * heading.1)) : Int) (fun (share_2 : Int) => .ok ((((2 * wide) * high) / share_2), ((2 * ((high * (iabs heading.1)) + (wide * (iabs heading.2)))) / share_2))))   | .er c_ fs_ xs_ => .er c_ fs_ xs_))) ?_ rfl
    refine JS.slots (Γ' := [(.im (.int wide)), (.im (.int high)), (.im (e_Tiiiz P)), (.im (e_Tiiz heading)), .un, .un, .un]) ?_ rfl
    replace hs : (g_look_inside wide high P) ∧ (match f_look_inside wide high P with   | .ok v_1 =>     (IntMulOk wide heading.2) ∧ (IntMulOk high heading.1) ∧ (g_divisor (wide * heading.2) (high * heading.1)) ∧ ((bindL ((f_divisor (wide * heading.2) (high * heading.1)) : Int) (fun (share_2 : Int) => (IntMulOk (2 * wide) high) ∧ (CDivW ((2 * wide) * high) share_2) ∧ (IntMulOk high (iabs heading.1)) ∧ (IntMulOk wide (iabs heading.2)) ∧ (CDivW (2 * ((high * (iabs heading.1)) + (wide * (iabs heading.2)))) share_2) ∧ True)))   | .er c_ fs_ xs_ => True) := hs
    obtain ⟨c_11, hs⟩ := hs
    have hv : S_look_inside EC _ (Rz.out EC e_n (f_look_inside wide high P)) := ⟨_, _, _, rfl, c_11, rfl⟩
    revert hv hs
    generalize f_look_inside wide high P = rz_
    intro hs hv
    rcases rz_ with v_1 | ⟨c_, fs_, xs_⟩
    · replace hs : (IntMulOk wide heading.2) ∧ (IntMulOk high heading.1) ∧ (g_divisor (wide * heading.2) (high * heading.1)) ∧ ((bindL ((f_divisor (wide * heading.2) (high * heading.1)) : Int) (fun (share_2 : Int) => (IntMulOk (2 * wide) high) ∧ (CDivW ((2 * wide) * high) share_2) ∧ (IntMulOk high (iabs heading.1)) ∧ (IntMulOk wide (iabs heading.2)) ∧ (CDivW (2 * ((high * (iabs heading.1)) + (wide * (iabs heading.2)))) share_2) ∧ True))) := hs
      refine JS.eq (o := (Rz.out EC e_Tiiz) ((bindL ((f_divisor (wide * heading.2) (high * heading.1)) : Int) (fun (share_2 : Int) => .ok ((((2 * wide) * high) / share_2), ((2 * ((high * (iabs heading.1)) + (wide * (iabs heading.2)))) / share_2)))))) ?_ rfl
      refine js_drop (je_call d_look_inside (hr.mono (by decide)) (ja_cons (je_var 0 rfl) (ja_cons (je_var 1 rfl) (ja_cons (je_var 2 rfl) ja_nil))) hv) ?_
      refine js_asg (je_var 3 rfl) (jg_tup (jgs_cons (jg_name 5 nd) (jgs_cons (jg_name 6 nd) jgs_nil))) ?_
      obtain ⟨c_8, c_9, c_10, hs⟩ := hs
      refine js_set 4 nd (je_call d_divisor (hr.mono (by decide)) (ja_cons (je_mulK (je_var 0 rfl) (je_var 6 rfl) c_8) (ja_cons (je_mulK (je_var 1 rfl) (je_var 5 rfl) c_9) ja_nil)) ⟨_, _, rfl, c_10, rfl⟩) ?_
      refine js_gen (R := (Rz.out EC e_Tiiz)) (fun (share_2 : Int) => [(.im (.int wide)), (.im (.int high)), (.im (e_Tiiiz P)), (.im (e_Tiiz heading)), (.im (.int share_2)), (.im (.int heading.1)), (.im (.int heading.2))]) hs (fun share_2 hs => ?_)
      obtain ⟨c_3, c_4, c_5, c_6, c_7, hs⟩ := hs
      exact js_ret (je_tup (ja_cons (je_div (je_mulK (je_mulK je_int (je_var 0 rfl) (mul_small_l (by decide))) (je_var 1 rfl) c_3) (je_var 4 rfl) c_4) (ja_cons (je_div (je_mulK je_int (je_add (je_mulK (je_var 1 rfl) (je_abs (ja_cons (je_var 5 rfl) ja_nil) m_abs) c_5) (je_mulK (je_var 0 rfl) (je_abs (ja_cons (je_var 6 rfl) ja_nil) m_abs) c_6)) (mul_small_l (by decide))) (je_var 4 rfl) c_7) ja_nil)))
    · exact js_dropX (jx_call d_look_inside (takes_of rfl rfl rfl rfl) (hr.mono (by decide)) (ja_cons (je_var 0 rfl) (ja_cons (je_var 1 rfl) (ja_cons (je_var 2 rfl) ja_nil))) hv)
abbrev n_law_number : List Str := [("cell" : Str), ("way" : Str)]
theorem sc_law_number : FnScope [("cell" : Str), ("way" : Str)] [("cell" : Str)] (defScope st_law_number) := ⟨rfl, rfl, rfl, by decide +kernel, rfl, by decide +kernel, by decide +kernel⟩
theorem w_law_number (F : FnP K "_law_number" st_law_number f fd) : FnOk P w K mg base (L2.CX P w) 1 f fd [("cell" : Str)] (spOf K S_law_number) := by
  have nd := sc_law_number.nd
  refine def_ok F sc_law_number (fun ds o h => ?_) (fun cdv A outer s H E hr ds o h => ?_)
  · obtain ⟨cell, rfl, _⟩ := h
    rfl
  · obtain ⟨cell, rfl, hs, rfl⟩ := h
    refine JS.eq (o := (fun r => O.rt (.int r)) ((bindL ((cell % 5) : Int) (fun (way_1 : Int) => if way_1 < 2 then   ((((cell / 5) * (((10 ^ 59) / 7) + 48271)) % ((2 * (10 ^ 59)) + 1)) - (10 ^ 59)) else   if way_1 = 2 then     (((cell / 5) % 2001) - 1000)   else     (((cell / 5) % 13) - 6))))) ?_ rfl
    refine JS.slots (Γ' := [(.im (.int cell)), .un]) ?_ rfl
    replace hs : ((bindL ((cell % 5) : Int) (fun (way_1 : Int) => ((way_1 < 2) →   (IntMulOk (cell / 5) (((10 ^ 59) / 7) + 48271)) ∧ True) ∧ (¬ (way_1 < 2) →   ((way_1 = 2) →   True) ∧ (¬ (way_1 = 2) →   True))))) := hs
    refine js_set 1 nd (je_mod (je_var 0 rfl) je_int (by decide)) ?_
    refine js_gen (R := (fun r => O.rt (.int r))) (fun (way_1 : Int) => [(.im (.int cell)), (.im (.int way_1))]) hs (fun way_1 hs => ?_)
    obtain ⟨hA_7, hB_8⟩ := hs
    refine js_if (R := (fun r => O.rt (.int r))) (jt_lt (je_var 1 rfl) je_int) (fun hp_2 => ?_) (fun hp_2 => ?_)
    · replace hs := hA_7 hp_2
      obtain ⟨c_3, hs⟩ := hs
      exact js_ret (je_sub (je_mod (je_mulK (je_div (je_var 0 rfl) je_int (div_const (by decide) (by decide))) (je_add (je_div (je_powC je_int je_int ⟨by decide, by decide, by decide⟩ rfl) je_int (div_const (by decide) (by decide))) je_int) c_3) (je_add (je_mulK je_int (je_powC je_int je_int ⟨by decide, by decide, by decide⟩ rfl) (mul_small_l (by decide))) je_int) (by decide)) (je_powC je_int je_int ⟨by decide, by decide, by decide⟩ rfl))
    · replace hs := hB_8 hp_2
      refine js_fall ?_
      obtain ⟨hA_5, hB_6⟩ := hs
      refine js_if (R := (fun r => O.rt (.int r))) (jt_eqI (je_var 1 rfl) je_int) (fun hp_4 => ?_) (fun hp_4 => ?_)
      · replace hs := hA_5 hp_4
        exact js_ret (je_sub (je_mod (je_div (je_var 0 rfl) je_int (div_const (by decide) (by decide))) je_int (by decide)) je_int)
      · replace hs := hB_6 hp_4
        refine js_fall ?_
        exact js_ret (je_sub (je_mod (je_div (je_var 0 rfl) je_int (div_const (by decide) (by decide))) je_int (by decide)) je_int)
abbrev n_law_side : List Str := [("cell" : Str), ("way" : Str)]
theorem sc_law_side : FnScope [("cell" : Str), ("way" : Str)] [("cell" : Str)] (defScope st_law_side) := ⟨rfl, rfl, rfl, by decide +kernel, rfl, by decide +kernel, by decide +kernel⟩
theorem w_law_side (F : FnP K "_law_side" st_law_side f fd) : FnOk P w K mg base (L2.CX P w) 1 f fd [("cell" : Str)] (spOf K S_law_side) := by
  have nd := sc_law_side.nd
  refine def_ok F sc_law_side (fun ds o h => ?_) (fun cdv A outer s H E hr ds o h => ?_)
  · obtain ⟨cell, rfl, _⟩ := h
    rfl
  · obtain ⟨cell, rfl, hs, rfl⟩ := h
    refine JS.eq (o := (fun r => O.rt (.int r)) ((bindL ((cell % 4) : Int) (fun (way_1 : Int) => if way_1 = 1 then   (1 + (((cell / 4) * (((10 ^ 59) / 11) + 104729)) % ((10 ^ 60) - 1))) else   if way_1 = 2 then     (1 + ((cell / 4) % 1000))   else     (1 + ((cell / 4) % 9)))))) ?_ rfl
    refine JS.slots (Γ' := [(.im (.int cell)), .un]) ?_ rfl
    replace hs : ((bindL ((cell % 4) : Int) (fun (way_1 : Int) => ((way_1 = 1) →   (IntMulOk (cell / 4) (((10 ^ 59) / 11) + 104729)) ∧ True) ∧ (¬ (way_1 = 1) →   ((way_1 = 2) →   True) ∧ (¬ (way_1 = 2) →   True))))) := hs
    refine js_set 1 nd (je_mod (je_var 0 rfl) je_int (by decide)) ?_
    refine js_gen (R := (fun r => O.rt (.int r))) (fun (way_1 : Int) => [(.im (.int cell)), (.im (.int way_1))]) hs (fun way_1 hs => ?_)
    obtain ⟨hA_7, hB_8⟩ := hs
    refine js_if (R := (fun r => O.rt (.int r))) (jt_eqI (je_var 1 rfl) je_int) (fun hp_2 => ?_) (fun hp_2 => ?_)
    · replace hs := hA_7 hp_2
      obtain ⟨c_3, hs⟩ := hs
      exact js_ret (je_add je_int (je_mod (je_mulK (je_div (je_var 0 rfl) je_int (div_const (by decide) (by decide))) (je_add (je_div (je_powC je_int je_int ⟨by decide, by decide, by decide⟩ rfl) je_int (div_const (by decide) (by decide))) je_int) c_3) (je_sub (je_powC je_int je_int ⟨by decide, by decide, by decide⟩ rfl) je_int) (by decide)))
    · replace hs := hB_8 hp_2
      refine js_fall ?_
      obtain ⟨hA_5, hB_6⟩ := hs
      refine js_if (R := (fun r => O.rt (.int r))) (jt_eqI (je_var 1 rfl) je_int) (fun hp_4 => ?_) (fun hp_4 => ?_)
      · replace hs := hA_5 hp_4
        exact js_ret (je_add je_int (je_mod (je_div (je_var 0 rfl) je_int (div_const (by decide) (by decide))) je_int (by decide)))
      · replace hs := hB_6 hp_4
        refine js_fall ?_
        exact js_ret (je_add je_int (je_mod (je_div (je_var 0 rfl) je_int (div_const (by decide) (by decide))) je_int (by decide)))
abbrev n_law_measure : List Str := [("one" : Str), ("other" : Str), ("pair" : Str)]
theorem sc_law_measure : FnScope [("one" : Str), ("other" : Str), ("pair" : Str)] [("one" : Str), ("other" : Str)] (defScope st_law_measure) := ⟨rfl, rfl, rfl, by decide +kernel, rfl, by decide +kernel, by decide +kernel⟩
theorem w_law_measure (F : FnP K "_law_measure" st_law_measure f fd) (m_abs : mg "abs" = none) (m_sorted : mg "sorted" = none) : FnOk P w K mg base (L2.CX P w) 1 f fd [("one" : Str), ("other" : Str)] (spOf K S_law_measure) := by
  have nd := sc_law_measure.nd
  refine def_ok F sc_law_measure (fun ds o h => ?_) (fun cdv A outer s H E hr ds o h => ?_)
  · obtain ⟨one, other, rfl, _⟩ := h
    rfl
  · obtain ⟨one, other, rfl, hs, rfl⟩ := h
    refine JS.eq (o := (fun r => O.rt (.int r)) ((bindL ((sortI ([(iabs one), (iabs other)] : List Int)) : (List Int)) (fun (pair_1 : (List Int)) => (whileS (fun s_2 : (List Int) => (ixL s_2 0) > 0) (f_law_measure_b1) (((ixL pair_1 0).natAbs + 1)) pair_1).out (fun s_8 =>   (ixL s_8 1)) (fun r => nomatch r))))) ?_ rfl
    refine JS.slots (Γ' := [(.im (.int one)), (.im (.int other)), .un]) ?_ rfl
    replace hs : ([(iabs one), (iabs other)] : List Int).length < 64 ∧ ((bindL ((sortI ([(iabs one), (iabs other)] : List Int)) : (List Int)) (fun (pair_1 : (List Int)) => (whileOk (fun s_2 : (List Int) => (ixL s_2 0) > 0) (f_law_measure_b1) (fun s_2 : (List Int) => (InB s_2.length 0)) (g_law_measure_b1) (((ixL pair_1 0).natAbs + 1)) pair_1) ∧ (∀ s_8, (whileS (fun s_2 : (List Int) => (ixL s_2 0) > 0) (f_law_measure_b1) (((ixL pair_1 0).natAbs + 1)) pair_1).fin s_8 →   (InB s_8.length 1) ∧ True)))) := hs
    obtain ⟨c_14, hs⟩ := hs
    refine js_set 2 nd (JL.imm (jl_sortI (ja_cons (JL.imm (jl_lst (ja_cons (je_abs (ja_cons (je_var 0 rfl) ja_nil) m_abs) (ja_cons (je_abs (ja_cons (je_var 1 rfl) ja_nil) m_abs) ja_nil)))) ja_nil) m_sorted c_14)) ?_
    refine js_gen (R := (fun r => O.rt (.int r))) (fun (pair_1 : (List Int)) => [(.im (.int one)), (.im (.int other)), (.im (e_Li pair_1))]) hs (fun pair_1 hs => ?_)
    obtain ⟨c_13, hs⟩ := hs
    refine js_wk (Γ' := (fun (s_2 : (List Int)) => [(.im (.int one)), (.im (.int other)), (.im (e_Li s_2))]) pair_1) ?_ (by exact (.same (.same (.same .nil))))
    refine js_while (R := (fun r => O.rt (.int r))) e_v (fun (s_2 : (List Int)) => [(.im (.int one)), (.im (.int other)), (.im (e_Li s_2))]) (fun s_2 : (List Int) => (ixL s_2 0) > 0) (f_law_measure_b1) (fun s_2 : (List Int) => (InB s_2.length 0)) (g_law_measure_b1) (((ixL pair_1 0).natAbs + 1)) pair_1 (fun s_8 => _) (fun r => nomatch r) (passes_of rfl) (fun s_2 hc_12 => (jt_gt (je_ixLL (enc := D.int) (je_var 2 rfl) je_int hc_12) je_int)) (fun s_2 hs hx_10 => ?_) c_13 (fun s_8 hf_11 => ?_) (fun r => nomatch r)
    · refine JS.eq (o := (Stp.o (fun (s_2 : (List Int)) => [(.im (.int one)), (.im (.int other)), (.im (e_Li s_2))]) e_v) ((bindL (([((ixL s_2 1) % (ixL s_2 0)), (ixL s_2 0)] : List Int) : (List Int)) (fun (pair_3 : (List Int)) => .nx pair_3)))) ?_ rfl
      replace hs : (InB s_2.length 1) ∧ (InB s_2.length 0) ∧ (0 < (ixL s_2 0)) ∧ (InB s_2.length 0) ∧ ((bindL (([((ixL s_2 1) % (ixL s_2 0)), (ixL s_2 0)] : List Int) : (List Int)) (fun (pair_3 : (List Int)) => True))) := hs
      obtain ⟨c_4, c_5, c_6, c_7, hs⟩ := hs
      refine js_set 2 nd (JL.imm (jl_lst (ja_cons (je_mod (je_ixLL (enc := D.int) (je_var 2 rfl) je_int c_4) (je_ixLL (enc := D.int) (je_var 2 rfl) je_int c_5) c_6) (ja_cons (je_ixLL (enc := D.int) (je_var 2 rfl) je_int c_7) ja_nil)))) ?_
      refine js_gen (R := (Stp.o (fun (s_2 : (List Int)) => [(.im (.int one)), (.im (.int other)), (.im (e_Li s_2))]) e_v)) (fun (pair_3 : (List Int)) => [(.im (.int one)), (.im (.int other)), (.im (e_Li pair_3))]) hs (fun pair_3 hs => ?_)
      exact js_endW (.same (.same (.same .nil)))
    · replace hs := hs s_8 hf_11
      obtain ⟨c_9, hs⟩ := hs
      exact js_ret (je_ixLL (enc := D.int) (je_var 2 rfl) je_int c_9)
abbrev n_law_reduced : List Str := [("top" : Str), ("bottom" : Str), ("size" : Str), ("part" : Str)]
theorem sc_law_reduced : FnScope [("top" : Str), ("bottom" : Str), ("size" : Str), ("part" : Str)] [("top" : Str), ("bottom" : Str)] (defScope st_law_reduced) := ⟨rfl, rfl, rfl, by decide +kernel, rfl, by decide +kernel, by decide +kernel⟩
theorem w_law_reduced (F : FnP K "_law_reduced" st_law_reduced f fd) (d_law_measure : DefOk P w K mg base 1 "_law_measure" [("one" : Str), ("other" : Str)] S_law_measure) (m_tuple : mg "tuple" = none) : FnOk P w K mg base (L2.CX P w) 2 f fd [("top" : Str), ("bottom" : Str)] (spOf K S_law_reduced) := by
  have nd := sc_law_reduced.nd
  refine def_ok F sc_law_reduced (fun ds o h => ?_) (fun cdv A outer s H E hr ds o h => ?_)
  · obtain ⟨top, bottom, rfl, _⟩ := h
    rfl
  · obtain ⟨top, bottom, rfl, hs, rfl⟩ := h
    refine JS.eq (o := (fun r => O.rt (e_Tiiz r)) ((bindL ((f_law_measure bottom top) : Int) (fun (size_1 : Int) => (((top / size_1)), ((bottom / size_1))))))) ?_ rfl
    refine JS.slots (Γ' := [(.im (.int top)), (.im (.int bottom)), .un, .un]) ?_ rfl
    replace hs : (g_law_measure bottom top) ∧ ((bindL ((f_law_measure bottom top) : Int) (fun (size_1 : Int) => (∀ x_2 ∈ ([top, bottom] : List Int), CDivW x_2 size_1) ∧ True))) := hs
    obtain ⟨c_6, hs⟩ := hs
    refine js_set 2 nd (je_call d_law_measure (hr.mono (by decide)) (ja_cons (je_var 1 rfl) (ja_cons (je_var 0 rfl) ja_nil)) ⟨_, _, rfl, c_6, rfl⟩) ?_
    refine js_gen (R := (fun r => O.rt (e_Tiiz r))) (fun (size_1 : Int) => [(.im (.int top)), (.im (.int bottom)), (.im (.int size_1)), .un]) hs (fun size_1 hs => ?_)
    obtain ⟨c_5, hs⟩ := hs
    exact js_ret (JE.eq (je_tupL (ja_cons (JL.imm (JC.l (jc_comp (own := [("part", 3)]) (g := gName 3) D.int D.int ([top, bottom] : List Int) (fun x_2 => (x_2 / size_1)) _ nd (JI.h (JI.eq (ji_tup (je_tup (ja_cons (je_var 0 rfl) (ja_cons (je_var 1 rfl) ja_nil)))) rfl)) (blkOk_by (N := n_law_reduced) (sc := defScope st_law_reduced) (by decide +kernel)) (by exact Nat.le_of_ble_eq_true rfl) (fun _ _ _ _ _ => pg_name (i := 3) nd rfl (by first | exact Or.inl rfl | exact Or.inr rfl) (by first | exact .inl rfl | exact .inr rfl)) (fun _ _ => gc_name (by decide)) (fun x_2 hx_3 _ _ _ _ _ => (je_div (je_var 3 rfl) (je_var 2 rfl) (c_5 x_2 hx_3)))))) ja_nil) m_tuple) rfl)
abbrev n_law_point : List Str := [("x" : Str), ("y" : Str), ("w" : Str), ("size" : Str), ("part" : Str)]
theorem sc_law_point : FnScope [("x" : Str), ("y" : Str), ("w" : Str), ("size" : Str), ("part" : Str)] [("x" : Str), ("y" : Str), ("w" : Str)] (defScope st_law_point) := ⟨rfl, rfl, rfl, by decide +kernel, rfl, by decide +kernel, by decide +kernel⟩
theorem w_law_point (F : FnP K "_law_point" st_law_point f fd) (d_law_measure : DefOk P w K mg base 1 "_law_measure" [("one" : Str), ("other" : Str)] S_law_measure) (m_tuple : mg "tuple" = none) : FnOk P w K mg base (L2.CX P w) 2 f fd [("x" : Str), ("y" : Str), ("w" : Str)] (spOf K S_law_point) := by
  have nd := sc_law_point.nd
  refine def_ok F sc_law_point (fun ds o h => ?_) (fun cdv A outer s H E hr ds o h => ?_)
  · obtain ⟨x, y, w, rfl, _⟩ := h
    rfl
  · obtain ⟨x, y, w, rfl, hs, rfl⟩ := h
    refine JS.eq (o := (fun r => O.rt (e_Tiiiz r)) ((bindL ((f_law_measure w (f_law_measure x y)) : Int) (fun (size_1 : Int) => (((x / size_1)), ((y / size_1)), ((w / size_1))))))) ?_ rfl
    refine JS.slots (Γ' := [(.im (.int x)), (.im (.int y)), (.im (.int w)), .un, .un]) ?_ rfl
    replace hs : (g_law_measure x y) ∧ (g_law_measure w (f_law_measure x y)) ∧ ((bindL ((f_law_measure w (f_law_measure x y)) : Int) (fun (size_1 : Int) => (∀ x_2 ∈ ([x, y, w] : List Int), CDivW x_2 size_1) ∧ True))) := hs
    obtain ⟨c_6, c_7, hs⟩ := hs
    refine js_set 3 nd (je_call d_law_measure (hr.mono (by decide)) (ja_cons (je_var 2 rfl) (ja_cons (je_call d_law_measure (hr.mono (by decide)) (ja_cons (je_var 0 rfl) (ja_cons (je_var 1 rfl) ja_nil)) ⟨_, _, rfl, c_6, rfl⟩) ja_nil)) ⟨_, _, rfl, c_7, rfl⟩) ?_
    refine js_gen (R := (fun r => O.rt (e_Tiiiz r))) (fun (size_1 : Int) => [(.im (.int x)), (.im (.int y)), (.im (.int w)), (.im (.int size_1)), .un]) hs (fun size_1 hs => ?_)
    obtain ⟨c_5, hs⟩ := hs
    exact js_ret (JE.eq (je_tupL (ja_cons (JL.imm (JC.l (jc_comp (own := [("part", 4)]) (g := gName 4) D.int D.int ([x, y, w] : List Int) (fun x_2 => (x_2 / size_1)) _ nd (JI.h (JI.eq (ji_tup (je_tup (ja_cons (je_var 0 rfl) (ja_cons (je_var 1 rfl) (ja_cons (je_var 2 rfl) ja_nil))))) rfl)) (blkOk_by (N := n_law_point) (sc := defScope st_law_point) (by decide +kernel)) (by exact Nat.le_of_ble_eq_true rfl) (fun _ _ _ _ _ => pg_name (i := 4) nd rfl (by first | exact Or.inl rfl | exact Or.inr rfl) (by first | exact .inl rfl | exact .inr rfl)) (fun _ _ => gc_name (by decide)) (fun x_2 hx_3 _ _ _ _ _ => (je_div (je_var 4 rfl) (je_var 3 rfl) (c_5 x_2 hx_3)))))) ja_nil) m_tuple) rfl)
abbrev n_law_heading : List Str := [("a" : Str), ("b" : Str)]
theorem sc_law_heading : FnScope [("a" : Str), ("b" : Str)] [("a" : Str), ("b" : Str)] (defScope st_law_heading) := ⟨rfl, rfl, rfl, by decide +kernel, rfl, by decide +kernel, by decide +kernel⟩
theorem w_law_heading (F : FnP K "_law_heading" st_law_heading f fd) (d_law_reduced : DefOk P w K mg base 2 "_law_reduced" [("top" : Str), ("bottom" : Str)] S_law_reduced) : FnOk P w K mg base (L2.CX P w) 3 f fd [("a" : Str), ("b" : Str)] (spOf K S_law_heading) := by
  have nd := sc_law_heading.nd
  refine def_ok F sc_law_heading (fun ds o h => ?_) (fun cdv A outer s H E hr ds o h => ?_)
  · obtain ⟨a, b, rfl, _⟩ := h
    rfl
  · obtain ⟨a, b, rfl, hs, rfl⟩ := h
    refine JS.eq (o := (fun r => O.rt (e_Tiiz r)) (if (a = 0) ∧ (b = 0) then   (2, 1) else   (f_law_reduced a b))) ?_ rfl
    refine JS.slots (Γ' := [(.im (.int a)), (.im (.int b))]) ?_ rfl
    replace hs : (((a = 0) ∧ (b = 0)) →   True) ∧ (¬ ((a = 0) ∧ (b = 0)) →   (g_law_reduced a b) ∧ True) := hs
    obtain ⟨hA_4, hB_5⟩ := hs
    refine js_if (R := (fun r => O.rt (e_Tiiz r))) (JW.t (jw_and (jt_eqI (je_var 0 rfl) je_int) (fun hp_1 => (jw_and1 (jt_eqI (je_var 1 rfl) je_int))))) (fun hp_2 => ?_) (fun hp_2 => ?_)
    · replace hs := hA_4 hp_2
      exact js_ret (je_tup (ja_cons je_int (ja_cons je_int ja_nil)))
    · replace hs := hB_5 hp_2
      refine js_fall ?_
      obtain ⟨c_3, hs⟩ := hs
      exact js_ret (je_call d_law_reduced (hr.mono (by decide)) (ja_cons (je_var 0 rfl) (ja_cons (je_var 1 rfl) ja_nil)) ⟨_, _, rfl, c_3, rfl⟩)
abbrev n_law_inside : List Str := [("wide" : Str), ("high" : Str), ("some" : Str), ("w" : Str)]
theorem sc_law_inside : FnScope [("wide" : Str), ("high" : Str), ("some" : Str), ("w" : Str)] [("wide" : Str), ("high" : Str), ("some" : Str)] (defScope st_law_inside) := ⟨rfl, rfl, rfl, by decide +kernel, rfl, by decide +kernel, by decide +kernel⟩
theorem w_law_inside (F : FnP K "_law_inside" st_law_inside f fd) (d_law_point : DefOk P w K mg base 2 "_law_point" [("x" : Str), ("y" : Str), ("w" : Str)] S_law_point) (m_abs : mg "abs" = none) : FnOk P w K mg base (L2.CX P w) 3 f fd [("wide" : Str), ("high" : Str), ("some" : Str)] (spOf K S_law_inside) := by
  have nd := sc_law_inside.nd
  refine def_ok F sc_law_inside (fun ds o h => ?_) (fun cdv A outer s H E hr ds o h => ?_)
  · obtain ⟨wide, high, some, rfl, _⟩ := h
    rfl
  · obtain ⟨wide, high, some, rfl, hs, rfl⟩ := h
    refine JS.eq (o := (fun r => O.rt (e_Tiiiz r)) ((bindL ((2 + (iabs (ixL some 2))) : Int) (fun (w_1 : Int) => (f_law_point (1 + ((ixL some 0) % ((wide * w_1) - 1))) (1 + ((ixL some 1) % ((high * w_1) - 1))) w_1))))) ?_ rfl
    refine JS.slots (Γ' := [(.im (.int wide)), (.im (.int high)), (.im (e_Li some)), .un]) ?_ rfl
    replace hs : (InB some.length 2) ∧ ((bindL ((2 + (iabs (ixL some 2))) : Int) (fun (w_1 : Int) => (InB some.length 0) ∧ (IntMulOk wide w_1) ∧ (0 < ((wide * w_1) - 1)) ∧ (InB some.length 1) ∧ (IntMulOk high w_1) ∧ (0 < ((high * w_1) - 1)) ∧ (g_law_point (1 + ((ixL some 0) % ((wide * w_1) - 1))) (1 + ((ixL some 1) % ((high * w_1) - 1))) w_1) ∧ True))) := hs
    obtain ⟨c_9, hs⟩ := hs
    refine js_set 3 nd (je_add je_int (je_abs (ja_cons (je_ixLL (enc := D.int) (je_var 2 rfl) je_int c_9) ja_nil) m_abs)) ?_
    refine js_gen (R := (fun r => O.rt (e_Tiiiz r))) (fun (w_1 : Int) => [(.im (.int wide)), (.im (.int high)), (.im (e_Li some)), (.im (.int w_1))]) hs (fun w_1 hs => ?_)
    obtain ⟨c_2, c_3, c_4, c_5, c_6, c_7, c_8, hs⟩ := hs
    exact js_ret (je_call d_law_point (hr.mono (by decide)) (ja_cons (je_add je_int (je_mod (je_ixLL (enc := D.int) (je_var 2 rfl) je_int c_2) (je_sub (je_mulK (je_var 0 rfl) (je_var 3 rfl) c_3) je_int) c_4)) (ja_cons (je_add je_int (je_mod (je_ixLL (enc := D.int) (je_var 2 rfl) je_int c_5) (je_sub (je_mulK (je_var 1 rfl) (je_var 3 rfl) c_6) je_int) c_7)) (ja_cons (je_var 3 rfl) ja_nil))) ⟨_, _, _, rfl, c_8, rfl⟩)
abbrev n_law_spoiled : List Str := [("way" : Str), ("wide" : Str), ("high" : Str), ("P" : Str), ("low" : Str), ("x" : Str), ("y" : Str), ("w" : Str)]
theorem sc_law_spoiled : FnScope [("way" : Str), ("wide" : Str), ("high" : Str), ("P" : Str), ("low" : Str), ("x" : Str), ("y" : Str), ("w" : Str)] [("way" : Str), ("wide" : Str), ("high" : Str), ("P" : Str), ("low" : Str)] (defScope st_law_spoiled) := ⟨rfl, rfl, rfl, by decide +kernel, rfl, by decide +kernel, by decide +kernel⟩
theorem w_law_spoiled (F : FnP K "_law_spoiled" st_law_spoiled f fd) (d_law_point : DefOk P w K mg base 2 "_law_point" [("x" : Str), ("y" : Str), ("w" : Str)] S_law_point) : FnOk P w K mg base (L2.CX P w) 3 f fd [("way" : Str), ("wide" : Str), ("high" : Str), ("P" : Str), ("low" : Str)] (spOf K S_law_spoiled) := by
  have nd := sc_law_spoiled.nd
  refine def_ok F sc_law_spoiled (fun ds o h => ?_) (fun cdv A outer s H E hr ds o h => ?_)
  · obtain ⟨way, wide, high, P, low, rfl, _⟩ := h
    rfl
  · obtain ⟨way, wide, high, P, low, rfl, hs, rfl⟩ := h
    refine JS.eq (o := (fun r => O.rt (e_TiiTiiizz r)) (if way = 8 then   ((-low), high, P) else   if way = 9 then     (wide, (-low), P)   else     (bindL ((if (way % 2) = 0 then (ixL ([0, (wide * P.2.2), ((-1) - low), (((wide * P.2.2) + 1) + low)] : List Int) (way / 2)) else P.1) : Int) (fun (x_10 : Int) => (bindL ((if (way % 2) = 0 then P.2.1 else (ixL ([0, (high * P.2.2), ((-1) - low), (((high * P.2.2) + 1) + low)] : List Int) (way / 2))) : Int) (fun (y_11 : Int) => (wide, high, (f_law_point x_10 y_11 P.2.2)))))))) ?_ rfl
    refine JS.slots (Γ' := [(.im (.int way)), (.im (.int wide)), (.im (.int high)), (.im (e_Tiiiz P)), (.im (.int low)), .un, .un, .un]) ?_ rfl
    replace hs : ((way = 8) →   True) ∧ (¬ (way = 8) →   ((way = 9) →   True) ∧ (¬ (way = 9) →   (((way % 2) = 0) → (IntMulOk wide P.2.2) ∧ (IntMulOk wide P.2.2) ∧ (InB ([0, (wide * P.2.2), ((-1) - low), (((wide * P.2.2) + 1) + low)] : List Int).length (way / 2)) ∧ True) ∧ (¬ ((way % 2) = 0) → (IntMulOk high P.2.2) ∧ (IntMulOk high P.2.2) ∧ (InB ([0, (high * P.2.2), ((-1) - low), (((high * P.2.2) + 1) + low)] : List Int).length (way / 2)) ∧ True) ∧ ((bindL ((if (way % 2) = 0 then (ixL ([0, (wide * P.2.2), ((-1) - low), (((wide * P.2.2) + 1) + low)] : List Int) (way / 2)) else P.1) : Int) (fun (x_10 : Int) => ((bindL ((if (way % 2) = 0 then P.2.1 else (ixL ([0, (high * P.2.2), ((-1) - low), (((high * P.2.2) + 1) + low)] : List Int) (way / 2))) : Int) (fun (y_11 : Int) => (g_law_point x_10 y_11 P.2.2) ∧ True)))))))) := hs
    refine js_asg (je_var 3 rfl) (jg_tup (jgs_cons (jg_name 5 nd) (jgs_cons (jg_name 6 nd) (jgs_cons (jg_name 7 nd) jgs_nil)))) ?_
    obtain ⟨hA_17, hB_18⟩ := hs
    refine js_if (R := (fun r => O.rt (e_TiiTiiizz r))) (jt_eqI (je_var 0 rfl) je_int) (fun hp_1 => ?_) (fun hp_1 => ?_)
    · replace hs := hA_17 hp_1
      exact js_ret (je_tup (ja_cons (je_neg (je_var 4 rfl)) (ja_cons (je_var 2 rfl) (ja_cons (je_var 3 rfl) ja_nil))))
    · replace hs := hB_18 hp_1
      refine js_fall ?_
      obtain ⟨hA_15, hB_16⟩ := hs
      refine js_if (R := (fun r => O.rt (e_TiiTiiizz r))) (jt_eqI (je_var 0 rfl) je_int) (fun hp_2 => ?_) (fun hp_2 => ?_)
      · replace hs := hA_15 hp_2
        exact js_ret (je_tup (ja_cons (je_var 1 rfl) (ja_cons (je_neg (je_var 4 rfl)) (ja_cons (je_var 3 rfl) ja_nil))))
      · replace hs := hB_16 hp_2
        refine js_fall ?_
        obtain ⟨hA_13, hB_14, hs⟩ := hs
        refine js_ifJ (Γa := [(.im (.int way)), (.im (.int wide)), (.im (.int high)), (.im (e_Tiiiz P)), (.im (.int low)), (.im (.int (ixL ([0, (wide * P.2.2), ((-1) - low), (((wide * P.2.2) + 1) + low)] : List Int) (way / 2)))), (.im (.int P.2.1)), (.im (.int P.2.2))]) (Γb := [(.im (.int way)), (.im (.int wide)), (.im (.int high)), (.im (e_Tiiiz P)), (.im (.int low)), (.im (.int P.1)), (.im (.int (ixL ([0, (high * P.2.2), ((-1) - low), (((high * P.2.2) + 1) + low)] : List Int) (way / 2)))), (.im (.int P.2.2))]) (Γ' := [(.im (.int way)), (.im (.int wide)), (.im (.int high)), (.im (e_Tiiiz P)), (.im (.int low)), (.im (.int (if (way % 2) = 0 then (ixL ([0, (wide * P.2.2), ((-1) - low), (((wide * P.2.2) + 1) + low)] : List Int) (way / 2)) else P.1))), (.im (.int (if (way % 2) = 0 then P.2.1 else (ixL ([0, (high * P.2.2), ((-1) - low), (((high * P.2.2) + 1) + low)] : List Int) (way / 2))))), (.im (.int P.2.2))]) (jt_eqI (je_mod (je_var 0 rfl) je_int (by decide)) je_int) (fun hp_3 => ?_) (fun hp_3 => ?_) (fun hp_3 => by simp only [if_pos hp_3]) (fun hp_3 => by simp only [if_neg hp_3]) ?_
        · replace hs := hA_13 hp_3
          obtain ⟨c_4, c_5, c_6, hs⟩ := hs
          refine js_set 5 nd (je_ixLL (enc := D.int) (JL.imm (jl_lst (ja_cons je_int (ja_cons (je_mulK (je_var 1 rfl) (je_var 7 rfl) c_4) (ja_cons (je_sub (je_neg je_int) (je_var 4 rfl)) (ja_cons (je_add (je_add (je_mulK (je_var 1 rfl) (je_var 7 rfl) c_5) je_int) (je_var 4 rfl)) ja_nil)))))) (je_div (je_var 0 rfl) je_int (div_const (by decide) (by decide))) c_6) ?_
          exact js_endW (.same (.same (.same (.same (.same (.same (.same (.same .nil))))))))
        · replace hs := hB_14 hp_3
          obtain ⟨c_7, c_8, c_9, hs⟩ := hs
          refine js_set 6 nd (je_ixLL (enc := D.int) (JL.imm (jl_lst (ja_cons je_int (ja_cons (je_mulK (je_var 2 rfl) (je_var 7 rfl) c_7) (ja_cons (je_sub (je_neg je_int) (je_var 4 rfl)) (ja_cons (je_add (je_add (je_mulK (je_var 2 rfl) (je_var 7 rfl) c_8) je_int) (je_var 4 rfl)) ja_nil)))))) (je_div (je_var 0 rfl) je_int (div_const (by decide) (by decide))) c_9) ?_
          exact js_endW (.same (.same (.same (.same (.same (.same (.same (.same .nil))))))))
        · refine js_gen (R := (fun r => O.rt (e_TiiTiiizz r))) (fun (x_10 : Int) => [(.im (.int way)), (.im (.int wide)), (.im (.int high)), (.im (e_Tiiiz P)), (.im (.int low)), (.im (.int x_10)), (.im (.int (if (way % 2) = 0 then P.2.1 else (ixL ([0, (high * P.2.2), ((-1) - low), (((high * P.2.2) + 1) + low)] : List Int) (way / 2))))), (.im (.int P.2.2))]) hs (fun x_10 hs => ?_)
          refine js_gen (R := (fun r => O.rt (e_TiiTiiizz r))) (fun (y_11 : Int) => [(.im (.int way)), (.im (.int wide)), (.im (.int high)), (.im (e_Tiiiz P)), (.im (.int low)), (.im (.int x_10)), (.im (.int y_11)), (.im (.int P.2.2))]) hs (fun y_11 hs => ?_)
          obtain ⟨c_12, hs⟩ := hs
          exact js_ret (je_tup (ja_cons (je_var 1 rfl) (ja_cons (je_var 2 rfl) (ja_cons (je_call d_law_point (hr.mono (by decide)) (ja_cons (je_var 5 rfl) (ja_cons (je_var 6 rfl) (ja_cons (je_var 7 rfl) ja_nil))) ⟨_, _, _, rfl, c_12, rfl⟩) ja_nil))))
abbrev n_law_asked : List Str := [("number" : Str), ("wide" : Str), ("high" : Str), ("P" : Str), ("heading" : Str)]
theorem sc_law_asked : FnScope [("number" : Str), ("wide" : Str), ("high" : Str), ("P" : Str), ("heading" : Str)] [("number" : Str), ("wide" : Str), ("high" : Str), ("P" : Str), ("heading" : Str)] (defScope st_law_asked) := ⟨rfl, rfl, rfl, by decide +kernel, rfl, by decide +kernel, by decide +kernel⟩
theorem w_law_asked (F : FnP K "_law_asked" st_law_asked f fd) (d_box_at : DefOk P w K mg base 3 "box_at" [("wide" : Str), ("high" : Str), ("P" : Str), ("heading" : Str), ("t" : Str)] (S_box_at EC)) (d_box_corner : DefOk P w K mg base 3 "box_corner" [("wide" : Str), ("high" : Str), ("P" : Str), ("heading" : Str)] (S_box_corner EC)) (d_box_round : DefOk P w K mg base 2 "box_round" [("wide" : Str), ("high" : Str), ("P" : Str), ("heading" : Str)] (S_box_round EC)) : FnOk P w K mg base (L2.CX P w) 4 f fd [("number" : Str), ("wide" : Str), ("high" : Str), ("P" : Str), ("heading" : Str)] (spOf K (S_law_asked EC)) := by
  have nd := sc_law_asked.nd
  refine def_ok F sc_law_asked (fun ds o h => ?_) (fun cdv A outer s H E hr ds o h => ?_)
  · obtain ⟨number, wide, high, P, heading, rfl, _⟩ := h
    rfl
  · obtain ⟨number, wide, high, P, heading, rfl, hs, rfl⟩ := h
    refine JS.eq (o := (Rz.out EC e_any) (if number = 0 then   (match f_box_at wide high P heading (1, 1) with     | .ok v_2 =>       .ok (e_TTiiizTiizz v_2)     | .er c_ fs_ xs_ => .er c_ fs_ xs_) else   if number = 1 then     (match f_box_corner wide high P heading with       | .ok v_5 =>         .ok (e_OTiiz v_5)       | .er c_ fs_ xs_ => .er c_ fs_ xs_)   else     (match f_box_round wide high P heading with       | .ok v_7 =>         .ok (e_Tiiz v_7)       | .er c_ fs_ xs_ => .er c_ fs_ xs_))) ?_ rfl
    refine JS.slots (Γ' := [(.im (.int number)), (.im (.int wide)), (.im (.int high)), (.im (e_Tiiiz P)), (.im (e_Tiiz heading))]) ?_ rfl
    replace hs : ((number = 0) →   (g_box_at wide high P heading (1, 1)) ∧ (match f_box_at wide high P heading (1, 1) with     | .ok v_2 =>       True     | .er c_ fs_ xs_ => True)) ∧ (¬ (number = 0) →   ((number = 1) →   (g_box_corner wide high P heading) ∧ (match f_box_corner wide high P heading with       | .ok v_5 =>         True       | .er c_ fs_ xs_ => True)) ∧ (¬ (number = 1) →   (g_box_round wide high P heading) ∧ (match f_box_round wide high P heading with       | .ok v_7 =>         True       | .er c_ fs_ xs_ => True))) := hs
    obtain ⟨hA_11, hB_12⟩ := hs
    refine js_if (R := (Rz.out EC e_any)) (jt_eqI (je_var 0 rfl) je_int) (fun hp_1 => ?_) (fun hp_1 => ?_)
    · replace hs := hA_11 hp_1
      obtain ⟨c_3, hs⟩ := hs
      have hv : S_box_at EC _ (Rz.out EC e_TTiiizTiizz (f_box_at wide high P heading (1, 1))) := ⟨_, _, _, _, _, rfl, c_3, rfl⟩
      revert hv hs
      generalize f_box_at wide high P heading (1, 1) = rz_
      intro hs hv
      rcases rz_ with v_2 | ⟨c_, fs_, xs_⟩
      · replace hs : True := hs
        refine JS.eq (o := (Rz.out EC e_any) (.ok (e_TTiiizTiizz v_2))) ?_ rfl
        exact js_ret (je_call d_box_at (hr.mono (by decide)) (ja_cons (je_var 1 rfl) (ja_cons (je_var 2 rfl) (ja_cons (je_var 3 rfl) (ja_cons (je_var 4 rfl) (ja_cons (je_tup (ja_cons je_int (ja_cons je_int ja_nil))) ja_nil))))) hv)
      · exact js_retX (jx_call d_box_at (takes_of rfl rfl rfl rfl) (hr.mono (by decide)) (ja_cons (je_var 1 rfl) (ja_cons (je_var 2 rfl) (ja_cons (je_var 3 rfl) (ja_cons (je_var 4 rfl) (ja_cons (je_tup (ja_cons je_int (ja_cons je_int ja_nil))) ja_nil))))) hv)
    · replace hs := hB_12 hp_1
      refine js_fall ?_
      obtain ⟨hA_9, hB_10⟩ := hs
      refine js_if (R := (Rz.out EC e_any)) (jt_eqI (je_var 0 rfl) je_int) (fun hp_4 => ?_) (fun hp_4 => ?_)
      · replace hs := hA_9 hp_4
        obtain ⟨c_6, hs⟩ := hs
        have hv : S_box_corner EC _ (Rz.out EC e_OTiiz (f_box_corner wide high P heading)) := ⟨_, _, _, _, rfl, c_6, rfl⟩
        revert hv hs
        generalize f_box_corner wide high P heading = rz_
        intro hs hv
        rcases rz_ with v_5 | ⟨c_, fs_, xs_⟩
        · replace hs : True := hs
          refine JS.eq (o := (Rz.out EC e_any) (.ok (e_OTiiz v_5))) ?_ rfl
          exact js_ret (je_call d_box_corner (hr.mono (by decide)) (ja_cons (je_var 1 rfl) (ja_cons (je_var 2 rfl) (ja_cons (je_var 3 rfl) (ja_cons (je_var 4 rfl) ja_nil)))) hv)
        · exact js_retX (jx_call d_box_corner (takes_of rfl rfl rfl rfl) (hr.mono (by decide)) (ja_cons (je_var 1 rfl) (ja_cons (je_var 2 rfl) (ja_cons (je_var 3 rfl) (ja_cons (je_var 4 rfl) ja_nil)))) hv)
      · replace hs := hB_10 hp_4
        refine js_fall ?_
        obtain ⟨c_8, hs⟩ := hs
        have hv : S_box_round EC _ (Rz.out EC e_Tiiz (f_box_round wide high P heading)) := ⟨_, _, _, _, rfl, c_8, rfl⟩
        revert hv hs
        generalize f_box_round wide high P heading = rz_
        intro hs hv
        rcases rz_ with v_7 | ⟨c_, fs_, xs_⟩
        · replace hs : True := hs
          refine JS.eq (o := (Rz.out EC e_any) (.ok (e_Tiiz v_7))) ?_ rfl
          exact js_ret (je_call d_box_round (hr.mono (by decide)) (ja_cons (je_var 1 rfl) (ja_cons (je_var 2 rfl) (ja_cons (je_var 3 rfl) (ja_cons (je_var 4 rfl) ja_nil)))) hv)
        · exact js_retX (jx_call d_box_round (takes_of rfl rfl rfl rfl) (hr.mono (by decide)) (ja_cons (je_var 1 rfl) (ja_cons (je_var 2 rfl) (ja_cons (je_var 3 rfl) (ja_cons (je_var 4 rfl) ja_nil)))) hv)
abbrev n_law_refused : List Str := [("number" : Str), ("wide" : Str), ("high" : Str), ("P" : Str), ("heading" : Str), ("word" : Str), ("e" : Str)]
theorem sc_law_refused : FnScope [("number" : Str), ("wide" : Str), ("high" : Str), ("P" : Str), ("heading" : Str), ("word" : Str), ("e" : Str)] [("number" : Str), ("wide" : Str), ("high" : Str), ("P" : Str), ("heading" : Str)] (defScope st_law_refused) := ⟨rfl, rfl, rfl, by decide +kernel, rfl, by decide +kernel, by decide +kernel⟩
theorem w_law_refused (F : FnP K "_law_refused" st_law_refused f fd) (xc_OutOfBox : ExcC K (EC 0)) (d_law_asked : DefOk P w K mg base 4 "_law_asked" [("number" : Str), ("wide" : Str), ("high" : Str), ("P" : Str), ("heading" : Str)] (S_law_asked EC)) (gc_BadDrawing : mg "BadDrawing" = some (.ref (EC 2))) (gc_BadWall : mg "BadWall" = some (.ref (EC 3))) (gc_NoName : mg "NoName" = some (.ref (EC 4))) (gc_NoPoint : mg "NoPoint" = some (.ref (EC 5))) (gc_NoRow : mg "NoRow" = some (.ref (EC 6))) (gc_NoText : mg "NoText" = some (.ref (EC 7))) (gc_NoWay : mg "NoWay" = some (.ref (EC 8))) (gc_OnWall : mg "OnWall" = some (.ref (EC 9))) (gc_OutOfBox : mg "OutOfBox" = some (.ref (EC 0))) (gc_Over : mg "Over" = some (.ref (EC 10))) (gc_Overlap : mg "Overlap" = some (.ref (EC 11))) (gc_RoomError : mg "RoomError" = some (.ref (EC 1))) (gc_TooLong : mg "TooLong" = some (.ref (EC 12))) (gc_TooMany : mg "TooMany" = some (.ref (EC 13))) (m_ValueError : mg "ValueError" = none) (m_int : mg "int" = none) (m_isinstance : mg "isinstance" = none) (kv_OutOfBox : PySem.W.kitOne K (.ref (EC 0)) (.type "ValueError") = some true) (xm_OutOfBox__BadDrawing__false : PySem.W.exmOne K (.ref (EC 0)) (.ref (EC 2)) = some false) (xm_OutOfBox__BadWall__false : PySem.W.exmOne K (.ref (EC 0)) (.ref (EC 3)) = some false) (xm_OutOfBox__NoName__false : PySem.W.exmOne K (.ref (EC 0)) (.ref (EC 4)) = some false) (xm_OutOfBox__NoPoint__false : PySem.W.exmOne K (.ref (EC 0)) (.ref (EC 5)) = some false) (xm_OutOfBox__NoRow__false : PySem.W.exmOne K (.ref (EC 0)) (.ref (EC 6)) = some false) (xm_OutOfBox__NoText__false : PySem.W.exmOne K (.ref (EC 0)) (.ref (EC 7)) = some false) (xm_OutOfBox__NoWay__false : PySem.W.exmOne K (.ref (EC 0)) (.ref (EC 8)) = some false) (xm_OutOfBox__OnWall__false : PySem.W.exmOne K (.ref (EC 0)) (.ref (EC 9)) = some false) (xm_OutOfBox__OutOfBox__true : PySem.W.exmOne K (.ref (EC 0)) (.ref (EC 0)) = some true) (xm_OutOfBox__Over__false : PySem.W.exmOne K (.ref (EC 0)) (.ref (EC 10)) = some false) (xm_OutOfBox__Overlap__false : PySem.W.exmOne K (.ref (EC 0)) (.ref (EC 11)) = some false) (xm_OutOfBox__RoomError__true : PySem.W.exmOne K (.ref (EC 0)) (.ref (EC 1)) = some true) (xm_OutOfBox__TooLong__false : PySem.W.exmOne K (.ref (EC 0)) (.ref (EC 12)) = some false) (xm_OutOfBox__TooMany__false : PySem.W.exmOne K (.ref (EC 0)) (.ref (EC 13)) = some false) : FnOk P w K mg base (L2.CX P w) 5 f fd [("number" : Str), ("wide" : Str), ("high" : Str), ("P" : Str), ("heading" : Str)] (spOf K S_law_refused) := by
  have nd := sc_law_refused.nd
  refine def_ok F sc_law_refused (fun ds o h => ?_) (fun cdv A outer s H E hr ds o h => ?_)
  · obtain ⟨number, wide, high, P, heading, rfl, _⟩ := h
    rfl
  · obtain ⟨number, wide, high, P, heading, rfl, hs, rfl⟩ := h
    refine JS.eq (o := (fun r => O.rt (.bl r)) ((match f_law_asked number wide high P heading with   | .ok v_2 =>     (decide ((0 : Int) = 3))   | .er _ _ _ =>     (decide ((2 + (if (true && true) then 1 else 0 : Int)) = 3))))) ?_ rfl
    refine JS.slots (Γ' := [(.im (.int number)), (.im (.int wide)), (.im (.int high)), (.im (e_Tiiiz P)), (.im (e_Tiiz heading)), .un, .un]) ?_ rfl
    replace hs : (g_law_asked number wide high P heading) ∧ (match f_law_asked number wide high P heading with   | .ok v_2 =>     True   | .er c_ fs_ xs_ => (c_ = 0) ∧ (fs_ = []) ∧ (xs_ = []) ∧     (True)) := hs
    refine js_set 5 nd je_int ?_
    obtain ⟨c_1, hs⟩ := hs
    have hv : S_law_asked EC _ (Rz.out EC e_any (f_law_asked number wide high P heading)) := ⟨_, _, _, _, _, rfl, c_1, rfl⟩
    revert hv hs
    generalize f_law_asked number wide high P heading = rz_
    intro hs hv
    rcases rz_ with v_2 | ⟨c_, fs_, xs_⟩
    · replace hs : True := hs
      refine JS.eq (o := (fun r => O.rt (.bl r)) ((decide ((0 : Int) = 3)))) ?_ rfl
      refine js_tryOk (je_call d_law_asked (hr.mono (by decide)) (ja_cons (je_var 0 rfl) (ja_cons (je_var 1 rfl) (ja_cons (je_var 2 rfl) (ja_cons (je_var 3 rfl) (ja_cons (je_var 4 rfl) ja_nil))))) hv) ?_
      exact js_ret (je_eqI (je_var 5 rfl) je_int)
    · replace hs : (c_ = 0) ∧ (fs_ = []) ∧ (xs_ = []) ∧ (True) := hs
      obtain ⟨rfl, rfl, rfl, hs⟩ := hs
      refine JS.eq (o := (fun r => O.rt (.bl r)) ((decide ((2 + (if (true && true) then 1 else 0 : Int)) = 3)))) ?_ rfl
      refine js_tryG (Γ' := [(.im (.int number)), (.im (.int wide)), (.im (.int high)), (.im (e_Tiiiz P)), (.im (e_Tiiz heading)), (.im (.int (2 + (if (true && true) then 1 else 0 : Int)))), .un]) (C := EC 0) nd rfl rfl (takes_of rfl rfl rfl rfl) (fun W_ pn_ xe_ tk_ => jx_call d_law_asked tk_ (hr.mono (by decide)) (ja_cons (je_var 0 rfl) (ja_cons (je_var 1 rfl) (ja_cons (je_var 2 rfl) (ja_cons (je_var 3 rfl) (ja_cons (je_var 4 rfl) ja_nil))))) hv) (hw_skip (ClT.tup (NamesL.cons (⟨rfl, by decide, .inl gc_BadDrawing⟩) (NamesL.cons (⟨rfl, by decide, .inl gc_BadWall⟩) (NamesL.cons (⟨rfl, by decide, .inl gc_NoName⟩) (NamesL.cons (⟨rfl, by decide, .inl gc_NoPoint⟩) (NamesL.cons (⟨rfl, by decide, .inl gc_NoRow⟩) (NamesL.cons (⟨rfl, by decide, .inl gc_NoText⟩) (NamesL.cons (⟨rfl, by decide, .inl gc_NoWay⟩) (NamesL.cons (⟨rfl, by decide, .inl gc_OnWall⟩) (NamesL.cons (⟨rfl, by decide, .inl gc_Over⟩) (NamesL.cons (⟨rfl, by decide, .inl gc_Overlap⟩) (NamesL.cons (⟨rfl, by decide, .inl gc_TooLong⟩) (NamesL.cons (⟨rfl, by decide, .inl gc_TooMany⟩) NamesL.nil)))))))))))) (by exact Nat.le_of_ble_eq_true rfl)) (any_cons xm_OutOfBox__BadDrawing__false (any_cons xm_OutOfBox__BadWall__false (any_cons xm_OutOfBox__NoName__false (any_cons xm_OutOfBox__NoPoint__false (any_cons xm_OutOfBox__NoRow__false (any_cons xm_OutOfBox__NoText__false (any_cons xm_OutOfBox__NoWay__false (any_cons xm_OutOfBox__OnWall__false (any_cons xm_OutOfBox__Over__false (any_cons xm_OutOfBox__Overlap__false (any_cons xm_OutOfBox__TooLong__false (any_cons xm_OutOfBox__TooMany__false any_nil)))))))))))) (hw_hitN (Γs := [(.im (.int number)), (.im (.int wide)), (.im (.int high)), (.im (e_Tiiiz P)), (.im (e_Tiiz heading)), (.im (.int (2 + (if (true && true) then 1 else 0 : Int)))), .un]) 6 (ClT.one ⟨rfl, by decide, .inl gc_OutOfBox⟩) (any_cons xm_OutOfBox__OutOfBox__true any_nil) hdt_nil (fun a_ oe_ pn_ hz_ hd_ => ?_))) ?_
      · refine js_set 5 nd (je_add je_int (je_intB (ja_cons (je_and (by exact je_isiE xc_OutOfBox hz_ hd_ (je_var 6 rfl) (pe_glob (v := .ref (EC 1)) rfl gc_RoomError rfl) relv_ref (kit_exm xm_OutOfBox__RoomError__true) m_isinstance) (fun hb_3 => (je_one (by exact je_isiE xc_OutOfBox hz_ hd_ (je_var 6 rfl) (pe_bltn (v := .ty "ValueError") rfl m_ValueError (by decide +kernel) rfl (by decide) rfl) relv_ty kv_OutOfBox m_isinstance)))) ja_nil) m_int)) ?_
        exact js_endW (.same (.same (.same (.same (.same (.same (.un .nil)))))))
      · exact js_ret (je_eqI (je_var 5 rfl) je_int)
abbrev n_law : List Str := [("script" : Str), ("cells" : Str), ("k" : Str), ("wide" : Str), ("high" : Str), ("some" : Str), ("P" : Str), ("heading" : Str), ("way" : Str), ("number" : Str), ("cell" : Str), ("bad" : Str), ("tall" : Str), ("Q" : Str)]
theorem sc_law : FnScope [("script" : Str), ("cells" : Str), ("k" : Str), ("wide" : Str), ("high" : Str), ("some" : Str), ("P" : Str), ("heading" : Str), ("way" : Str), ("number" : Str), ("cell" : Str), ("bad" : Str), ("tall" : Str), ("Q" : Str)] [("script" : Str)] (defScope st_law) := ⟨rfl, rfl, rfl, by decide +kernel, rfl, by decide +kernel, by decide +kernel⟩
theorem w_law (F : FnP K "law" st_law f fd) (d_law_heading : DefOk P w K mg base 3 "_law_heading" [("a" : Str), ("b" : Str)] S_law_heading) (d_law_inside : DefOk P w K mg base 3 "_law_inside" [("wide" : Str), ("high" : Str), ("some" : Str)] S_law_inside) (d_law_number : DefOk P w K mg base 1 "_law_number" [("cell" : Str)] S_law_number) (d_law_refused : DefOk P w K mg base 5 "_law_refused" [("number" : Str), ("wide" : Str), ("high" : Str), ("P" : Str), ("heading" : Str)] S_law_refused) (d_law_side : DefOk P w K mg base 1 "_law_side" [("cell" : Str)] S_law_side) (d_law_spoiled : DefOk P w K mg base 3 "_law_spoiled" [("way" : Str), ("wide" : Str), ("high" : Str), ("P" : Str), ("low" : Str)] S_law_spoiled) (d_box_at : DefOk P w K mg base 3 "box_at" [("wide" : Str), ("high" : Str), ("P" : Str), ("heading" : Str), ("t" : Str)] (S_box_at EC)) (m_abs : mg "abs" = none) (m_len : mg "len" = none) (m_range : mg "range" = none) : FnOk P w K mg base (L2.CX P w) 6 f fd [("script" : Str)] (spOf K S_law) := by
  have nd := sc_law.nd
  refine def_ok F sc_law (fun ds o h => ?_) (fun cdv A outer s H E hr ds o h => ?_)
  · obtain ⟨script, rfl, _⟩ := h
    rfl
  · obtain ⟨script, rfl, hs, rfl⟩ := h
    refine JS.eq (o := (fun r => O.rt (.bl r)) ((bindL (((cutL script none (some 63)) ++ ([0, 0, 0, 0, 0, 0, 0, 0, 0] : List Int)) : (List Int)) (fun (cells_1 : (List Int)) => (forS (f_law_b1 cells_1) (rangeS 0 ((cells_1.length : Int) - 8) 9) ()).out (fun s_45 =>   true) (fun r => r))))) ?_ rfl
    refine JS.slots (Γ' := [(.im (e_Ri script)), .un, .un, .un, .un, .un, .un, .un, .un, .un, .un, .un, .un, .un]) ?_ rfl
    replace hs : (cutL script none (some 63)).length + ([0, 0, 0, 0, 0, 0, 0, 0, 0] : List Int).length ≤ 100000 ∧ ((bindL (((cutL script none (some 63)) ++ ([0, 0, 0, 0, 0, 0, 0, 0, 0] : List Int)) : (List Int)) (fun (cells_1 : (List Int)) => (-(2 ^ 62) ≤ (0 : Int) ∧ (0 : Int) < 2 ^ 61 ∧ -(2 ^ 62) ≤ (((cells_1.length : Int) - 8) : Int) ∧ (((cells_1.length : Int) - 8) : Int) < 2 ^ 61) ∧ (forOk (f_law_b1 cells_1) (g_law_b1 cells_1) (rangeS 0 ((cells_1.length : Int) - 8) 9) ()) ∧ (∀ s_45, (forS (f_law_b1 cells_1) (rangeS 0 ((cells_1.length : Int) - 8) 9) ()).fin s_45 →   True)))) := hs
    obtain ⟨c_50, hs⟩ := hs
    refine js_set 1 nd (JL.imm (jl_cat (enc := D.int) (JL.imm (jl_sliceS (enc := D.int) (je_var 0 rfl) jo_none (jo_some je_int))) (JL.imm (jl_lst (ja_cons je_int (ja_cons je_int (ja_cons je_int (ja_cons je_int (ja_cons je_int (ja_cons je_int (ja_cons je_int (ja_cons je_int (ja_cons je_int ja_nil))))))))))) c_50)) ?_
    refine js_gen (R := (fun r => O.rt (.bl r))) (fun (cells_1 : (List Int)) => [(.im (e_Ri script)), (.im (e_Li cells_1)), .un, .un, .un, .un, .un, .un, .un, .un, .un, .un, .un, .un]) hs (fun cells_1 hs => ?_)
    obtain ⟨c_48, c_49, hs⟩ := hs
    refine js_wk (Γ' := (fun (s_2 : Unit) => [(.im (e_Ri script)), (.im (e_Li cells_1)), .un, .un, .un, .un, .un, .un, .un, .un, .un, .un, .un, .un]) ()) ?_ (by exact (.same (.same (.un (.un (.un (.un (.un (.un (.un (.un (.un (.un (.un (.un .nil)))))))))))))))
    refine js_for (R := (fun r => O.rt (.bl r))) D.int D.bl (rangeS 0 ((cells_1.length : Int) - 8) 9) (fun (s_2 : Unit) => [(.im (e_Ri script)), (.im (e_Li cells_1)), .un, .un, .un, .un, .un, .un, .un, .un, .un, .un, .un, .un]) (fun (x_3 : Int) (s_2 : Unit) => [(.im (e_Ri script)), (.im (e_Li cells_1)), (.im (.int x_3)), .un, .un, .un, .un, .un, .un, .un, .un, .un, .un, .un]) (f_law_b1 cells_1) (g_law_b1 cells_1) () (fun s_45 => _) (fun r => r) (passes_of rfl) rfl (ji_range3 (ja_cons je_int (ja_cons (je_sub (je_lenL (enc := D.int) (ja_cons (je_var 1 rfl) ja_nil) m_len) je_int) (ja_cons je_int ja_nil))) m_range (by decide) (by decide) c_48) (fun _ _ => (jg_name 2 nd)) (fun x_3 s_2 hx_46 hs => ?_) c_49 (fun s_45 hf_47 => ?_) (fun r => rfl)
    · refine JS.eq (o := (Stp.o (fun (s_2 : Unit) => [(.im (e_Ri script)), (.im (e_Li cells_1)), .un, .un, .un, .un, .un, .un, .un, .un, .un, .un, .un, .un]) D.bl) ((bindL ((f_law_side (ixL cells_1 x_3)) : Int) (fun (wide_4 : Int) => (bindL ((f_law_side (ixL cells_1 (x_3 + 1))) : Int) (fun (high_5 : Int) => (bindL (((cutL cells_1 (some (x_3 + 2)) (some (x_3 + 9))).map (fun x_6 => (f_law_number x_6))) : (List Int)) (fun (some_9 : (List Int)) => (bindL ((f_law_inside wide_4 high_5 some_9) : (Int × Int × Int)) (fun (P_10 : (Int × Int × Int)) => (bindL ((f_law_heading (ixL some_9 3) (ixL some_9 4)) : (Int × Int)) (fun (heading_11 : (Int × Int)) => if ((f_box_at wide_4 high_5 P_10 heading_11 (0, 1)).get) ≠ (P_10, heading_11) then   .rt false else   (bindL (((ixL cells_1 (x_3 + 8)) % 11) : Int) (fun (way_13 : Int) => if way_13 < 10 then     (bindL ((f_law_spoiled way_13 wide_4 high_5 P_10 (iabs (ixL some_9 5))) : (Int × Int × (Int × Int × Int))) (fun (p_15 : (Int × Int × (Int × Int × Int))) => (forS (f_law_b2 heading_11 p_15) (rangeI 0 3) ()).out (fun s_22 =>       .nx ()) (fun r => .rt r)))   else     .nx ())))))))))))))) ?_ rfl
      replace hs : (InB cells_1.length x_3) ∧ (g_law_side (ixL cells_1 x_3)) ∧ ((bindL ((f_law_side (ixL cells_1 x_3)) : Int) (fun (wide_4 : Int) => (InB cells_1.length (x_3 + 1)) ∧ (g_law_side (ixL cells_1 (x_3 + 1))) ∧ ((bindL ((f_law_side (ixL cells_1 (x_3 + 1))) : Int) (fun (high_5 : Int) => (cutL cells_1 (some (x_3 + 2)) (some (x_3 + 9))).length ≤ 100000 ∧ (∀ x_6 ∈ (cutL cells_1 (some (x_3 + 2)) (some (x_3 + 9))), g_law_number x_6) ∧ ((bindL (((cutL cells_1 (some (x_3 + 2)) (some (x_3 + 9))).map (fun x_6 => (f_law_number x_6))) : (List Int)) (fun (some_9 : (List Int)) => (g_law_inside wide_4 high_5 some_9) ∧ ((bindL ((f_law_inside wide_4 high_5 some_9) : (Int × Int × Int)) (fun (P_10 : (Int × Int × Int)) => (InB some_9.length 3) ∧ (InB some_9.length 4) ∧ (g_law_heading (ixL some_9 3) (ixL some_9 4)) ∧ ((bindL ((f_law_heading (ixL some_9 3) (ixL some_9 4)) : (Int × Int)) (fun (heading_11 : (Int × Int)) => (g_box_at wide_4 high_5 P_10 heading_11 (0, 1)) ∧ (f_box_at wide_4 high_5 P_10 heading_11 (0, 1)).Ok ∧ ((((f_box_at wide_4 high_5 P_10 heading_11 (0, 1)).get) ≠ (P_10, heading_11)) →   True) ∧ (¬ (((f_box_at wide_4 high_5 P_10 heading_11 (0, 1)).get) ≠ (P_10, heading_11)) →   (InB cells_1.length (x_3 + 8)) ∧ ((bindL (((ixL cells_1 (x_3 + 8)) % 11) : Int) (fun (way_13 : Int) => ((way_13 < 10) →   (InB some_9.length 5) ∧ (g_law_spoiled way_13 wide_4 high_5 P_10 (iabs (ixL some_9 5))) ∧ ((bindL ((f_law_spoiled way_13 wide_4 high_5 P_10 (iabs (ixL some_9 5))) : (Int × Int × (Int × Int × Int))) (fun (p_15 : (Int × Int × (Int × Int × Int))) => (forOk (f_law_b2 heading_11 p_15) (g_law_b2 heading_11 p_15) (rangeI 0 3) ()) ∧ (∀ s_22, (forS (f_law_b2 heading_11 p_15) (rangeI 0 3) ()).fin s_22 →       True))))) ∧ (¬ (way_13 < 10) →   True)))))))))))))))))))) := hs
      obtain ⟨c_43, c_44, hs⟩ := hs
      refine js_set 3 nd (je_call d_law_side (hr.mono (by decide)) (ja_cons (je_ixLL (enc := D.int) (je_var 1 rfl) (je_var 2 rfl) c_43) ja_nil) ⟨_, rfl, c_44, rfl⟩) ?_
      refine js_gen (R := (Stp.o (fun (s_2 : Unit) => [(.im (e_Ri script)), (.im (e_Li cells_1)), .un, .un, .un, .un, .un, .un, .un, .un, .un, .un, .un, .un]) D.bl)) (fun (wide_4 : Int) => [(.im (e_Ri script)), (.im (e_Li cells_1)), (.im (.int x_3)), (.im (.int wide_4)), .un, .un, .un, .un, .un, .un, .un, .un, .un, .un]) hs (fun wide_4 hs => ?_)
      obtain ⟨c_41, c_42, hs⟩ := hs
      refine js_set 4 nd (je_call d_law_side (hr.mono (by decide)) (ja_cons (je_ixLL (enc := D.int) (je_var 1 rfl) (je_add (je_var 2 rfl) je_int) c_41) ja_nil) ⟨_, rfl, c_42, rfl⟩) ?_
      refine js_gen (R := (Stp.o (fun (s_2 : Unit) => [(.im (e_Ri script)), (.im (e_Li cells_1)), .un, .un, .un, .un, .un, .un, .un, .un, .un, .un, .un, .un]) D.bl)) (fun (high_5 : Int) => [(.im (e_Ri script)), (.im (e_Li cells_1)), (.im (.int x_3)), (.im (.int wide_4)), (.im (.int high_5)), .un, .un, .un, .un, .un, .un, .un, .un, .un]) hs (fun high_5 hs => ?_)
      obtain ⟨c_39, c_40, hs⟩ := hs
      refine js_setC 5 (jc_comp (own := [("cell", 10)]) (g := gName 10) D.int D.int (cutL cells_1 (some (x_3 + 2)) (some (x_3 + 9))) (fun x_6 => (f_law_number x_6)) _ nd (JI.h (ji_new (jl_slice (enc := D.int) (je_var 1 rfl) (jo_some (je_add (je_var 2 rfl) je_int)) (jo_some (je_add (je_var 2 rfl) je_int))))) (blkOk_by (N := n_law) (sc := defScope st_law) (by decide +kernel)) c_39 (fun _ _ _ _ _ => pg_name (i := 10) nd rfl (by first | exact Or.inl rfl | exact Or.inr rfl) (by first | exact .inl rfl | exact .inr rfl)) (fun _ _ => gc_name (by decide)) (fun x_6 hx_7 _ _ _ _ _ => (je_call d_law_number (hr.mono (by decide)) (ja_cons (je_var 10 rfl) ja_nil) ⟨_, rfl, (c_40 x_6 hx_7), rfl⟩))) ?_
      refine js_gen (R := (Stp.o (fun (s_2 : Unit) => [(.im (e_Ri script)), (.im (e_Li cells_1)), .un, .un, .un, .un, .un, .un, .un, .un, .un, .un, .un, .un]) D.bl)) (fun (some_9 : (List Int)) => [(.im (e_Ri script)), (.im (e_Li cells_1)), (.im (.int x_3)), (.im (.int wide_4)), (.im (.int high_5)), (.im (e_Li some_9)), .un, .un, .un, .un, .un, .un, .un, .un]) hs (fun some_9 hs => ?_)
      obtain ⟨c_38, hs⟩ := hs
      refine js_set 6 nd (je_call d_law_inside (hr.mono (by decide)) (ja_cons (je_var 3 rfl) (ja_cons (je_var 4 rfl) (ja_cons (je_var 5 rfl) ja_nil))) ⟨_, _, _, rfl, c_38, rfl⟩) ?_
      refine js_gen (R := (Stp.o (fun (s_2 : Unit) => [(.im (e_Ri script)), (.im (e_Li cells_1)), .un, .un, .un, .un, .un, .un, .un, .un, .un, .un, .un, .un]) D.bl)) (fun (P_10 : (Int × Int × Int)) => [(.im (e_Ri script)), (.im (e_Li cells_1)), (.im (.int x_3)), (.im (.int wide_4)), (.im (.int high_5)), (.im (e_Li some_9)), (.im (e_Tiiiz P_10)), .un, .un, .un, .un, .un, .un, .un]) hs (fun P_10 hs => ?_)
      obtain ⟨c_35, c_36, c_37, hs⟩ := hs
      refine js_set 7 nd (je_call d_law_heading (hr.mono (by decide)) (ja_cons (je_ixLL (enc := D.int) (je_var 5 rfl) je_int c_35) (ja_cons (je_ixLL (enc := D.int) (je_var 5 rfl) je_int c_36) ja_nil)) ⟨_, _, rfl, c_37, rfl⟩) ?_
      refine js_gen (R := (Stp.o (fun (s_2 : Unit) => [(.im (e_Ri script)), (.im (e_Li cells_1)), .un, .un, .un, .un, .un, .un, .un, .un, .un, .un, .un, .un]) D.bl)) (fun (heading_11 : (Int × Int)) => [(.im (e_Ri script)), (.im (e_Li cells_1)), (.im (.int x_3)), (.im (.int wide_4)), (.im (.int high_5)), (.im (e_Li some_9)), (.im (e_Tiiiz P_10)), (.im (e_Tiiz heading_11)), .un, .un, .un, .un, .un, .un]) hs (fun heading_11 hs => ?_)
      obtain ⟨c_31, c_32, hA_33, hB_34⟩ := hs
      refine js_if (R := (Stp.o (fun (s_2 : Unit) => [(.im (e_Ri script)), (.im (e_Li cells_1)), .un, .un, .un, .un, .un, .un, .un, .un, .un, .un, .un, .un]) D.bl)) (jt_neD hr.units (je_call d_box_at (hr.mono (by decide)) (ja_cons (je_var 3 rfl) (ja_cons (je_var 4 rfl) (ja_cons (je_var 6 rfl) (ja_cons (je_var 7 rfl) (ja_cons (je_tup (ja_cons je_int (ja_cons je_int ja_nil))) ja_nil))))) ⟨_, _, _, _, _, rfl, c_31, Rz.out_ok c_32⟩) (je_tup (ja_cons (je_var 6 rfl) (ja_cons (je_var 7 rfl) ja_nil))) (lay_TTiiizTiizz ((f_box_at wide_4 high_5 P_10 heading_11 (0, 1)).get)) (lay_TTiiizTiizz (P_10, heading_11)) (eqb_TTiiizTiizz ((f_box_at wide_4 high_5 P_10 heading_11 (0, 1)).get) (P_10, heading_11))) (fun hp_12 => ?_) (fun hp_12 => ?_)
      · replace hs := hA_33 hp_12
        exact js_ret je_bl
      · replace hs := hB_34 hp_12
        refine js_fall ?_
        obtain ⟨c_30, hs⟩ := hs
        refine js_set 8 nd (je_mod (je_ixLL (enc := D.int) (je_var 1 rfl) (je_add (je_var 2 rfl) je_int) c_30) je_int (by decide)) ?_
        refine js_gen (R := (Stp.o (fun (s_2 : Unit) => [(.im (e_Ri script)), (.im (e_Li cells_1)), .un, .un, .un, .un, .un, .un, .un, .un, .un, .un, .un, .un]) D.bl)) (fun (way_13 : Int) => [(.im (e_Ri script)), (.im (e_Li cells_1)), (.im (.int x_3)), (.im (.int wide_4)), (.im (.int high_5)), (.im (e_Li some_9)), (.im (e_Tiiiz P_10)), (.im (e_Tiiz heading_11)), (.im (.int way_13)), .un, .un, .un, .un, .un]) hs (fun way_13 hs => ?_)
        obtain ⟨hA_28, hB_29⟩ := hs
        refine js_if (R := (Stp.o (fun (s_2 : Unit) => [(.im (e_Ri script)), (.im (e_Li cells_1)), .un, .un, .un, .un, .un, .un, .un, .un, .un, .un, .un, .un]) D.bl)) (jt_lt (je_var 8 rfl) je_int) (fun hp_14 => ?_) (fun hp_14 => ?_)
        · replace hs := hA_28 hp_14
          obtain ⟨c_26, c_27, hs⟩ := hs
          refine js_asg (je_call d_law_spoiled (hr.mono (by decide)) (ja_cons (je_var 8 rfl) (ja_cons (je_var 3 rfl) (ja_cons (je_var 4 rfl) (ja_cons (je_var 6 rfl) (ja_cons (je_abs (ja_cons (je_ixLL (enc := D.int) (je_var 5 rfl) je_int c_26) ja_nil) m_abs) ja_nil))))) ⟨_, _, _, _, _, rfl, c_27, rfl⟩) (jg_tup (jgs_cons (jg_name 11 nd) (jgs_cons (jg_name 12 nd) (jgs_cons (jg_name 13 nd) jgs_nil)))) ?_
          refine js_gen (R := (Stp.o (fun (s_2 : Unit) => [(.im (e_Ri script)), (.im (e_Li cells_1)), .un, .un, .un, .un, .un, .un, .un, .un, .un, .un, .un, .un]) D.bl)) (fun (p_15 : (Int × Int × (Int × Int × Int))) => [(.im (e_Ri script)), (.im (e_Li cells_1)), (.im (.int x_3)), (.im (.int wide_4)), (.im (.int high_5)), (.im (e_Li some_9)), (.im (e_Tiiiz P_10)), (.im (e_Tiiz heading_11)), (.im (.int way_13)), .un, .un, (.im (.int p_15.1)), (.im (.int p_15.2.1)), (.im (e_Tiiiz p_15.2.2))]) hs (fun p_15 hs => ?_)
          obtain ⟨c_25, hs⟩ := hs
          refine js_wk (Γ' := (fun (s_16 : Unit) => [(.im (e_Ri script)), (.im (e_Li cells_1)), (.im (.int x_3)), (.im (.int wide_4)), (.im (.int high_5)), (.im (e_Li some_9)), (.im (e_Tiiiz P_10)), (.im (e_Tiiz heading_11)), (.im (.int way_13)), .un, .un, (.im (.int p_15.1)), (.im (.int p_15.2.1)), (.im (e_Tiiiz p_15.2.2))]) ()) ?_ (by exact (.same (.same (.same (.same (.same (.same (.same (.same (.same (.un (.un (.same (.same (.same .nil)))))))))))))))
          refine js_for (R := (Stp.o (fun (s_2 : Unit) => [(.im (e_Ri script)), (.im (e_Li cells_1)), .un, .un, .un, .un, .un, .un, .un, .un, .un, .un, .un, .un]) D.bl)) D.int D.bl (rangeI 0 3) (fun (s_16 : Unit) => [(.im (e_Ri script)), (.im (e_Li cells_1)), (.im (.int x_3)), (.im (.int wide_4)), (.im (.int high_5)), (.im (e_Li some_9)), (.im (e_Tiiiz P_10)), (.im (e_Tiiz heading_11)), (.im (.int way_13)), .un, .un, (.im (.int p_15.1)), (.im (.int p_15.2.1)), (.im (e_Tiiiz p_15.2.2))]) (fun (x_17 : Int) (s_16 : Unit) => [(.im (e_Ri script)), (.im (e_Li cells_1)), (.im (.int x_3)), (.im (.int wide_4)), (.im (.int high_5)), (.im (e_Li some_9)), (.im (e_Tiiiz P_10)), (.im (e_Tiiz heading_11)), (.im (.int way_13)), (.im (.int x_17)), .un, (.im (.int p_15.1)), (.im (.int p_15.2.1)), (.im (e_Tiiiz p_15.2.2))]) (f_law_b2 heading_11 p_15) (g_law_b2 heading_11 p_15) () (fun s_22 => _) (fun r => .rt r) (passes_of rfl) rfl (ji_range1 (ja_cons je_int ja_nil) m_range (by decide) (by decide)) (fun _ _ => (jg_name 9 nd)) (fun x_17 s_16 hx_23 hs => ?_) c_25 (fun s_22 hf_24 => ?_) (fun r => rfl)
          · refine JS.eq (o := (Stp.o (fun (s_16 : Unit) => [(.im (e_Ri script)), (.im (e_Li cells_1)), (.im (.int x_3)), (.im (.int wide_4)), (.im (.int high_5)), (.im (e_Li some_9)), (.im (e_Tiiiz P_10)), (.im (e_Tiiz heading_11)), (.im (.int way_13)), .un, .un, (.im (.int p_15.1)), (.im (.int p_15.2.1)), (.im (e_Tiiiz p_15.2.2))]) D.bl) (if ¬ ((f_law_refused x_17 p_15.1 p_15.2.1 p_15.2.2 heading_11) = true) then   .rt false else   .nx ())) ?_ rfl
            replace hs : (g_law_refused x_17 p_15.1 p_15.2.1 p_15.2.2 heading_11) ∧ ((¬ ((f_law_refused x_17 p_15.1 p_15.2.1 p_15.2.2 heading_11) = true)) →   True) ∧ (¬ (¬ ((f_law_refused x_17 p_15.1 p_15.2.1 p_15.2.2 heading_11) = true)) →   True) := hs
            obtain ⟨c_19, hA_20, hB_21⟩ := hs
            refine js_if (R := (Stp.o (fun (s_16 : Unit) => [(.im (e_Ri script)), (.im (e_Li cells_1)), (.im (.int x_3)), (.im (.int wide_4)), (.im (.int high_5)), (.im (e_Li some_9)), (.im (e_Tiiiz P_10)), (.im (e_Tiiz heading_11)), (.im (.int way_13)), .un, .un, (.im (.int p_15.1)), (.im (.int p_15.2.1)), (.im (e_Tiiiz p_15.2.2))]) D.bl)) (jt_not (jt_val (je_call d_law_refused (hr.mono (by decide)) (ja_cons (je_var 9 rfl) (ja_cons (je_var 11 rfl) (ja_cons (je_var 12 rfl) (ja_cons (je_var 13 rfl) (ja_cons (je_var 7 rfl) ja_nil))))) ⟨_, _, _, _, _, rfl, c_19, rfl⟩))) (fun hp_18 => ?_) (fun hp_18 => ?_)
            · replace hs := hA_20 hp_18
              exact js_ret je_bl
            · replace hs := hB_21 hp_18
              refine js_fall ?_
              exact js_endW (.same (.same (.same (.same (.same (.same (.same (.same (.same (.un (.un (.same (.same (.same .nil))))))))))))))
          · replace hs := hs s_22 hf_24
            refine js_fall ?_
            exact js_endW (.same (.same (.un (.un (.un (.un (.un (.un (.un (.un (.un (.un (.un (.un .nil))))))))))))))
        · replace hs := hB_29 hp_14
          refine js_fall ?_
          exact js_endW (.same (.same (.un (.un (.un (.un (.un (.un (.un (.un (.un (.un (.un (.un .nil))))))))))))))
    · replace hs := hs s_45 hf_47
      exact js_ret je_bl
end
end Bw
namespace Bw
open PySem PySem.Spec PyProof.Rows L2
/-! ### lists, ranges, loops without the program -/
theorem ixN_of {n : Nat} {i : Int} (h : InB n i) : ∃ j, ixN n i = some j ∧ j < n ∧ (0 ≤ i → (j : Int) = i) := by
  obtain ⟨h1, h2⟩ := h
  unfold ixN
  by_cases h0 : 0 ≤ i
  · exact ⟨i.toNat, by rw [if_pos h0, if_pos h2], by omega, fun _ => by omega⟩
  · exact ⟨(i + n).toNat, by rw [if_neg h0, if_pos h1], by omega, fun z => absurd z h0⟩
theorem ixL_mem {α : Type} [Inhabited α] {xs : List α} {i : Int} (h : InB xs.length i) : ixL xs i ∈ xs := by
  obtain ⟨j, e, hj, _⟩ := ixN_of h
  unfold ixL atI
  rw [e]
  simp [hj]
theorem ixL_nat {α : Type} [Inhabited α] {xs : List α} {k : Nat} (h : k < xs.length) : ixL xs (k : Int) = xs[k] := by
  obtain ⟨j, e, hj, e2⟩ := ixN_of (n := xs.length) (i := (k : Int)) ⟨by omega, by omega⟩
  have : j = k := by have := e2 (by omega); omega
  subst this
  unfold ixL atI
  rw [e]
  simp [hj]
theorem mem_cutL {α : Type} {xs : List α} {lo hi : Option Int} {x : α} (h : x ∈ cutL xs lo hi) : x ∈ xs := List.mem_of_mem_drop (List.mem_of_mem_take h)
theorem cutL_len {α : Type} {xs : List α} {a b : Int} (h0 : 0 ≤ a) (h1 : a ≤ b) (h2 : b ≤ xs.length) : (cutL xs (some a) (some b)).length = (b - a).toNat := by
  unfold cutL HT.sIx
  dsimp only
  rw [if_neg (by omega), if_neg (by omega), List.length_take, List.length_drop]
  omega
theorem cutL_head_len {α : Type} {xs : List α} {b : Int} (h0 : 0 ≤ b) : (cutL xs none (some b)).length ≤ b.toNat := by
  unfold cutL HT.sIx
  dsimp only
  rw [if_neg (by omega), List.length_take]
  omega
theorem rangeS_mem {lo hi s x : Int} (hs : 0 < s) (h : x ∈ rangeS lo hi s) : lo ≤ x ∧ x < hi := by
  unfold rangeS at h
  obtain ⟨k, hk, e⟩ := List.mem_map.mp h
  rw [List.mem_range] at hk
  split at hk
  · rename_i hl
    have e1 := Int.emod_add_mul_ediv (hi - lo - 1) s
    have l1 := Int.emod_nonneg (hi - lo - 1) (by omega : s ≠ 0)
    generalize (hi - lo - 1) / s = q at *
    have hq : (k : Int) ≤ q := by omega
    have m1 := Int.mul_le_mul_of_nonneg_left hq (by omega : 0 ≤ s)
    have m2 : 0 ≤ (k : Int) * s := Int.mul_nonneg (by omega) (by omega)
    rw [Int.mul_comm s (k : Int)] at m1
    omega
  · simp at hk
theorem for_all {α τ ρ : Type} {B : α → τ → Stp τ ρ} {S : α → τ → Prop} (P : τ → Prop) : ∀ (xs : List α) (s : τ), P s → (∀ x ∈ xs, ∀ s, P s → S x s ∧ ∃ t, B x s = .nx t ∧ P t) → forOk B S xs s ∧ ∃ t, forS B xs s = .nx t ∧ P t
  | [], s, h, _ => ⟨trivial, s, rfl, h⟩
  | x :: xs, s, h, hs => by
    obtain ⟨h1, t, h2, h3⟩ := hs x (.head _) s h
    obtain ⟨k1, u, k2, k3⟩ := for_all P xs t h3 fun y hy => hs y (.tail _ hy)
    refine ⟨⟨h1, ?_⟩, u, ?_, k3⟩
    · rw [h2]; exact k1
    · rw [forS_cons, h2]; exact k2
theorem for_unit {α ρ : Type} {B : α → Unit → Stp Unit ρ} {S : α → Unit → Prop} (xs : List α) (h : ∀ x ∈ xs, S x () ∧ B x () = .nx ()) : forOk B S xs () ∧ forS B xs () = .nx () := by
  obtain ⟨h1, ⟨⟩, h2, _⟩ := for_all (B := B) (S := S) (fun _ => True) xs () trivial fun x hx _ _ => ⟨(h x hx).1, (), (h x hx).2, trivial⟩
  exact ⟨h1, h2⟩
end Bw
namespace Bw
open PySem PySem.Spec PyProof.Rows L2
/-! ### sizes -/
def Bd (n : Nat) (x : Int) : Prop := x.natAbs < 2 ^ n
theorem Bd.mono {n m : Nat} {x : Int} (h : Bd n x) (hm : n ≤ m) : Bd m x := Nat.lt_of_lt_of_le h (Nat.pow_le_pow_right (by decide) hm)
theorem Bd.mul {n m : Nat} {x y : Int} (h : Bd n x) (k : Bd m y) : Bd (n + m) (x * y) := by
  unfold Bd at *
  rw [Int.natAbs_mul, Nat.pow_add]
  exact Nat.mul_lt_mul'' h k
theorem Bd.add {n m k : Nat} {x y : Int} (h : Bd n x) (h2 : Bd m y) (hn : n < k := by omega) (hm : m < k := by omega) : Bd k (x + y) := by
  obtain ⟨j, rfl⟩ : ∃ j, k = j + 1 := ⟨k - 1, by omega⟩
  have a : x.natAbs < 2 ^ j := h.mono (show n ≤ j by omega)
  have b : y.natAbs < 2 ^ j := h2.mono (show m ≤ j by omega)
  unfold Bd
  rw [Nat.pow_succ]
  omega
theorem Bd.neg {n : Nat} {x : Int} (h : Bd n x) : Bd n (-x) := by unfold Bd at *; rw [Int.natAbs_neg]; exact h
theorem Bd.sub {n m k : Nat} {x y : Int} (h : Bd n x) (h2 : Bd m y) (hn : n < k := by omega) (hm : m < k := by omega) : Bd k (x - y) := by
  rw [Int.sub_eq_add_neg]
  exact h.add h2.neg hn hm
theorem Bd.ok {n m : Nat} {x y : Int} (h : Bd n x) (k : Bd m y) (hs : n + m ≤ 134217728 := by omega) : IntMulOk x y := mul_ok h k hs
theorem Bd.div {n : Nat} {x y : Int} (hy : 0 < y) (h : Bd n y) (hs : n ≤ 8999 := by omega) : CDivW x y := wide_div hy (h.mono (show n ≤ 9000 by omega)) (by decide) (by decide)
theorem Bd.of {n : Nat} {x y : Int} (h0 : -y ≤ x) (h1 : x ≤ y) (h : Bd n y) : Bd n x := by unfold Bd at *; omega
theorem Bd.of0 {n : Nat} {x y : Int} (h0 : 0 ≤ x) (h1 : x ≤ y) (h : Bd n y) : Bd n x := Bd.of (by omega) h1 h
/-! ### the divisor -/
theorem gcd_fmod (a b : Int) : Int.gcd b (a.fmod b) = Int.gcd a b := by
  have e : a.fmod b = a - b * a.fdiv b := by
    have := Int.fmod_add_mul_fdiv a b
    omega
  apply Nat.dvd_antisymm
  · apply Int.dvd_gcd
    · have h1 := Int.gcd_dvd_left b (a.fmod b)
      have h2 := Int.gcd_dvd_right b (a.fmod b)
      have h3 : a = a.fmod b + b * a.fdiv b := (Int.fmod_add_mul_fdiv a b).symm
      have h4 : ((Int.gcd b (a.fmod b) : Nat) : Int) ∣ a.fmod b + b * a.fdiv b := Int.dvd_add h2 (Int.dvd_mul_of_dvd_left h1)
      rwa [← h3] at h4
    · exact Int.gcd_dvd_left _ _
  · apply Int.dvd_gcd
    · exact Int.gcd_dvd_right _ _
    · rw [e]
      exact Int.dvd_sub (Int.gcd_dvd_left _ _) (Int.dvd_mul_of_dvd_left (Int.gcd_dvd_right _ _))
theorem gcd_emod (a b : Int) : Int.gcd (b % a) a = Int.gcd a b := by
  apply Nat.dvd_antisymm
  · apply Int.dvd_gcd
    · exact Int.gcd_dvd_right _ _
    · have h1 := Int.gcd_dvd_left (b % a) a
      have h2 := Int.gcd_dvd_right (b % a) a
      have h3 : b = b % a + a * (b / a) := (Int.emod_add_mul_ediv b a).symm
      have h4 : ((Int.gcd (b % a) a : Nat) : Int) ∣ b % a + a * (b / a) := Int.dvd_add h1 (Int.dvd_mul_of_dvd_left h2)
      rwa [← h3] at h4
  · apply Int.dvd_gcd
    · rw [Int.emod_def]
      exact Int.dvd_sub (Int.gcd_dvd_right _ _) (Int.dvd_mul_of_dvd_left (Int.gcd_dvd_left _ _))
    · exact Int.gcd_dvd_left _ _
theorem fmod_lt (a : Int) {b : Int} (h : b ≠ 0) : (a.fmod b).natAbs < b.natAbs := by
  rcases Int.lt_or_lt_of_ne h with h | h
  · have e := Int.fmod_eq_emod (a := a) (b := b)
    have h1 := Int.emod_nonneg a (by omega : b ≠ 0)
    have h2 := Int.emod_lt a (by omega : b ≠ 0)
    rw [e]
    by_cases c : b ∣ a
    · have h3 := Int.emod_eq_zero_of_dvd c
      rw [if_pos (.inr c), h3]
      omega
    · have h3 : a % b ≠ 0 := fun z => c (Int.dvd_of_emod_eq_zero z)
      rw [if_neg (by omega)]
      omega
  · have e := Int.fmod_eq_emod (a := a) (b := b)
    rw [if_pos (.inl (by omega))] at e
    have h1 := Int.emod_nonneg a (by omega : b ≠ 0)
    have h2 := Int.emod_lt a (by omega : b ≠ 0)
    rw [e]
    omega
theorem iabs_eq (i : Int) : iabs i = (i.natAbs : Int) := by
  unfold iabs
  split <;> omega
theorem divisor_core : ∀ (n : Nat) (s : Int × Int), s.2.natAbs < n → whileOk (fun s_1 : (Int × Int) => s_1.2 ≠ 0) (f_divisor_b1) (fun s_1 : (Int × Int) => True) (g_divisor_b1) n s ∧
    (whileS (fun s_1 : (Int × Int) => s_1.2 ≠ 0) (f_divisor_b1) n s).out (fun s_4 => (iabs s_4.1)) (fun r : Empty => nomatch r) = (Int.gcd s.1 s.2 : Int)
  | 0, s, h => by omega
  | n + 1, (a, b), h => by
    dsimp only at h
    by_cases hb : b = 0
    · subst hb
      refine ⟨⟨trivial, fun z => absurd rfl z⟩, ?_⟩
      rw [whileS_succ, if_neg (by simp)]
      show iabs a = _
      rw [iabs_eq, Int.gcd_zero_right]
    · have lt := fmod_lt a hb
      obtain ⟨h1, h2⟩ := divisor_core n (b, a.fmod b) (by dsimp only; omega)
      refine ⟨⟨trivial, fun _ => ⟨⟨hb, trivial⟩, h1⟩⟩, ?_⟩
      rw [whileS_succ, if_pos hb]
      show (whileS _ _ n (b, a.fmod b)).out _ _ = _
      rw [h2, gcd_fmod]
theorem g_divisor_ok (a b : Int) : g_divisor a b := ⟨(divisor_core _ (a, b) (Nat.lt_succ_self _)).1, fun _ _ => trivial⟩
theorem f_divisor_eq (a b : Int) : f_divisor a b = (Int.gcd a b : Int) := (divisor_core _ (a, b) (Nat.lt_succ_self _)).2
theorem f_divisor_fun : f_divisor = fun a b => (Int.gcd a b : Int) := by funext a b; exact f_divisor_eq a b
/-! ### the law's own divisor -/
theorem ix0 (a b : Int) : ixL [a, b] 0 = a := rfl
theorem ix1 (a b : Int) : ixL [a, b] 1 = b := rfl
theorem measure_core : ∀ (n : Nat) (a b : Int), 0 ≤ a → 0 ≤ b → a.natAbs < n → whileOk (fun s_2 : (List Int) => (ixL s_2 0) > 0) (f_law_measure_b1) (fun s_2 : (List Int) => (InB s_2.length 0)) (g_law_measure_b1) n [a, b] ∧
    ∃ c d, whileS (fun s_2 : (List Int) => (ixL s_2 0) > 0) (f_law_measure_b1) n [a, b] = .nx [c, d] ∧ d = (Int.gcd a b : Int)
  | 0, a, b, _, _, h => by omega
  | n + 1, a, b, ha, hb, h => by
    have i0 : InB [a, b].length 0 := ⟨by simp, by simp⟩
    have i1 : InB [a, b].length 1 := ⟨by simp, by simp⟩
    by_cases h0 : a = 0
    · subst h0
      refine ⟨⟨i0, fun z => by have z' : ixL [0, b] 0 > 0 := z; rw [ix0] at z'; omega⟩, 0, b, ?_, ?_⟩
      · rw [whileS_succ, if_neg (by rw [ix0]; omega)]
      · rw [Int.gcd_zero_left]
        omega
    · have pa : 0 < a := by omega
      have l1 := Int.emod_nonneg b (by omega : a ≠ 0)
      have l2 := Int.emod_lt_of_pos b pa
      obtain ⟨h1, c, d, h2, h3⟩ := measure_core n (b % a) a l1 ha (by omega)
      refine ⟨⟨i0, fun _ => ⟨⟨i1, i0, by rw [ix0]; exact pa, i0, trivial⟩, h1⟩⟩, c, d, ?_, ?_⟩
      · rw [whileS_succ, if_pos (by rw [ix0]; exact pa)]
        exact h2
      · rw [h3, gcd_emod]
theorem sortI_two (a b : Int) : sortI [a, b] = if a ≤ b then [a, b] else [b, a] := by
  symm
  apply sortI_uniq
  · split
    · exact List.Perm.refl _
    · exact List.Perm.swap _ _ _
  · split <;> simp <;> omega
theorem measure_all (a b : Int) : g_law_measure a b ∧ f_law_measure a b = (Int.gcd a b : Int) := by
  unfold g_law_measure f_law_measure
  rw [iabs_eq, iabs_eq, sortI_two]
  dsimp only
  have key : ∀ x y : Int, 0 ≤ x → 0 ≤ y → Int.gcd x y = Int.gcd a b → ((whileOk (fun s_2 : (List Int) => (ixL s_2 0) > 0) (f_law_measure_b1) (fun s_2 : (List Int) => (InB s_2.length 0)) (g_law_measure_b1) (((ixL [x, y] 0).natAbs + 1)) [x, y]) ∧ (∀ s_8, (whileS (fun s_2 : (List Int) => (ixL s_2 0) > 0) (f_law_measure_b1) (((ixL [x, y] 0).natAbs + 1)) [x, y]).fin s_8 →
    (InB s_8.length 1) ∧ True)) ∧ (whileS (fun s_2 : (List Int) => (ixL s_2 0) > 0) (f_law_measure_b1) (((ixL [x, y] 0).natAbs + 1)) [x, y]).out (fun s_8 => (ixL s_8 1)) (fun r : Empty => nomatch r) = (Int.gcd a b : Int) := by
    intro x y hx hy hg
    obtain ⟨h1, c, d, h2, h3⟩ := measure_core ((ixL [x, y] 0).natAbs + 1) x y hx hy (by rw [ix0]; omega)
    refine ⟨⟨h1, fun s hs => ?_⟩, ?_⟩
    · rw [h2] at hs
      cases hs
      exact ⟨⟨by simp, by simp⟩, trivial⟩
    · rw [h2]
      show ixL [c, d] 1 = _
      rw [ix1, h3, hg]
  split
  · obtain ⟨k1, k2⟩ := key _ _ (Int.natCast_nonneg a.natAbs) (Int.natCast_nonneg b.natAbs) (by simp [Int.gcd])
    exact ⟨⟨by simp, k1⟩, k2⟩
  · obtain ⟨k1, k2⟩ := key _ _ (Int.natCast_nonneg b.natAbs) (Int.natCast_nonneg a.natAbs) (by simp [Int.gcd, Nat.gcd_comm])
    exact ⟨⟨by simp, k1⟩, k2⟩
end Bw

namespace Bw
open PySem PySem.Spec PyProof.Rows L2
/-! ### common divisors, lowest terms -/
theorem gcd_Bd {n : Nat} {a b : Int} (ha : Bd n a) (hb : Bd n b) : Bd n (Int.gcd a b : Int) := by
  unfold Bd at *
  show (Int.gcd a b) < 2 ^ n
  by_cases h : a = 0
  · subst h
    rw [Int.gcd_zero_left]
    exact hb
  · have := Nat.gcd_le_left (n := b.natAbs) (Int.natAbs_pos.mpr h)
    show Nat.gcd a.natAbs b.natAbs < 2 ^ n
    omega
theorem gcd_split (a b : Int) (h : a ≠ 0 ∨ b ≠ 0) : 0 < (Int.gcd a b : Int) ∧ a = (Int.gcd a b : Int) * (a / (Int.gcd a b : Int)) ∧ b = (Int.gcd a b : Int) * (b / (Int.gcd a b : Int)) ∧ Int.gcd (a / (Int.gcd a b : Int)) (b / (Int.gcd a b : Int)) = 1 := by
  have hp : 0 < Int.gcd a b := by
    rcases h with h | h
    · exact Int.gcd_pos_of_ne_zero_left _ h
    · exact Int.gcd_pos_of_ne_zero_right _ h
  refine ⟨by omega, (Int.mul_ediv_cancel' (Int.gcd_dvd_left _ _)).symm, (Int.mul_ediv_cancel' (Int.gcd_dvd_right _ _)).symm, ?_⟩
  exact Int.gcd_ediv_gcd_ediv_gcd hp
def Low (P : Int × Int × Int) : Prop := 0 < P.2.2 ∧ Int.gcd (Int.gcd P.1 P.2.1) P.2.2 = 1
theorem dvd_mul_of3 {x y w m c : Int} (hg : Int.gcd (Int.gcd x y) w = 1) (hx : m ∣ x * c) (hy : m ∣ y * c) (hw : m ∣ w * c) : m ∣ c := by
  have h1 : m ∣ ((Int.gcd (x * c) (y * c) : Nat) : Int) := Int.dvd_coe_gcd hx hy
  rw [Int.gcd_mul_right] at h1
  have h2 : m ∣ (Int.gcd x y : Int) * c := by
    have e : ((Int.gcd x y * c.natAbs : Nat) : Int) = (Int.gcd x y : Int) * (c.natAbs : Int) := Int.natCast_mul _ _
    rw [e] at h1
    have h3 : m ∣ (Int.gcd x y : Int) * (c.natAbs : Int) ↔ m ∣ (Int.gcd x y : Int) * c := by
      rcases Int.natAbs_eq c with q | q
      · rw [← q]
      · have : (Int.gcd x y : Int) * c = -((Int.gcd x y : Int) * (c.natAbs : Int)) := by
          conv => lhs; rw [q]
          rw [Int.mul_neg]
        rw [this, Int.dvd_neg]
    exact h3.mp h1
  have h4 : m ∣ ((Int.gcd ((Int.gcd x y : Int) * c) (w * c) : Nat) : Int) := Int.dvd_coe_gcd h2 hw
  rw [Int.gcd_mul_right, hg, Nat.one_mul] at h4
  exact (Int.dvd_natAbs.mp h4)
theorem low_uniq {P Q : Int × Int × Int} (hP : Low P) (hQ : Low Q) (h1 : P.1 * Q.2.2 = Q.1 * P.2.2) (h2 : P.2.1 * Q.2.2 = Q.2.1 * P.2.2) : P = Q := by
  obtain ⟨x, y, w⟩ := P
  obtain ⟨x', y', w'⟩ := Q
  obtain ⟨p1, p2⟩ := hP
  obtain ⟨q1, q2⟩ := hQ
  dsimp only at *
  have d1 : w ∣ w' := dvd_mul_of3 p2 (h1 ▸ Int.dvd_mul_left _ _) (h2 ▸ Int.dvd_mul_left _ _) (Int.dvd_mul_right _ _)
  have d2 : w' ∣ w := dvd_mul_of3 q2 (h1 ▸ Int.dvd_mul_left _ _) (h2 ▸ Int.dvd_mul_left _ _) (Int.dvd_mul_right _ _)
  have e : w = w' := Int.dvd_antisymm (by omega) (by omega) d1 d2
  subst e
  have e1 := Int.eq_of_mul_eq_mul_right (by omega) h1
  have e2 := Int.eq_of_mul_eq_mul_right (by omega) h2
  rw [e1, e2]
theorem gcd3_split (x y w : Int) (hw : 0 < w) : 0 < (Int.gcd (Int.gcd x y) w : Int) ∧ x = (Int.gcd (Int.gcd x y) w : Int) * (x / (Int.gcd (Int.gcd x y) w : Int)) ∧ y = (Int.gcd (Int.gcd x y) w : Int) * (y / (Int.gcd (Int.gcd x y) w : Int)) ∧ w = (Int.gcd (Int.gcd x y) w : Int) * (w / (Int.gcd (Int.gcd x y) w : Int)) ∧ Low (x / (Int.gcd (Int.gcd x y) w : Int), y / (Int.gcd (Int.gcd x y) w : Int), w / (Int.gcd (Int.gcd x y) w : Int)) := by
  have hp : 0 < Int.gcd (Int.gcd x y) w := Int.gcd_pos_of_ne_zero_right _ (by omega)
  generalize hG : Int.gcd (Int.gcd x y) w = G at *
  have d0 : (G : Int) ∣ (Int.gcd x y : Int) := hG ▸ Int.gcd_dvd_left _ _
  have dx : (G : Int) ∣ x := Int.dvd_trans d0 (Int.gcd_dvd_left _ _)
  have dy : (G : Int) ∣ y := Int.dvd_trans d0 (Int.gcd_dvd_right _ _)
  have dw : (G : Int) ∣ w := hG ▸ Int.gcd_dvd_right _ _
  obtain ⟨a, rfl⟩ := dx
  obtain ⟨b, rfl⟩ := dy
  obtain ⟨c, rfl⟩ := dw
  have gn : (G : Int) ≠ 0 := by omega
  rw [Int.mul_ediv_cancel_left _ gn, Int.mul_ediv_cancel_left _ gn, Int.mul_ediv_cancel_left _ gn]
  refine ⟨by omega, rfl, rfl, rfl, ?_, ?_⟩
  · exact Int.pos_of_mul_pos_right hw (by omega)
  · rw [Int.gcd_mul_left] at hG
    have e : ((((G : Int).natAbs * Int.gcd a b : Nat)) : Int) = (G : Int) * (Int.gcd a b : Int) := by
      rw [Int.natAbs_natCast, Int.natCast_mul]
    rw [e, Int.gcd_mul_left, Int.natAbs_natCast] at hG
    dsimp only
    have h5 : G * Int.gcd (Int.gcd a b) c = G * 1 := by omega
    exact Nat.eq_of_mul_eq_mul_left hp h5
/-! ### the law's own lowest terms -/
theorem f_measure_eq (a b : Int) : f_law_measure a b = (Int.gcd a b : Int) := (measure_all a b).2
theorem g_measure_ok (a b : Int) : g_law_measure a b := (measure_all a b).1
theorem g_lawpoint_ok {x y w : Int} (hw : 0 < w) (hb : Bd 8999 w) : g_law_point x y w := by
  have hs := (gcd3_split x y w hw).1
  have hl : ((Int.gcd (Int.gcd x y) w : Nat) : Int) ≤ w := Int.le_of_dvd hw (Int.gcd_dvd_right (Int.gcd x y : Int) w)
  have hB : Bd 8999 (Int.gcd (Int.gcd x y) w : Int) := Bd.of0 (by omega) hl hb
  unfold g_law_point
  rw [f_measure_eq, f_measure_eq, Int.gcd_comm w]
  exact ⟨g_measure_ok _ _, g_measure_ok _ _, fun _ _ => hB.div hs, trivial⟩
theorem g_reduced_ok {a b : Int} (h : a ≠ 0 ∨ b ≠ 0) (ha : Bd 8999 a) (hb : Bd 8999 b) : g_law_reduced a b := by
  have hs := (gcd_split b a (by omega)).1
  have hB := gcd_Bd hb ha
  unfold g_law_reduced
  rw [f_measure_eq]
  exact ⟨g_measure_ok _ _, fun _ _ => hB.div hs, trivial⟩
theorem reduced_spec {a b : Int} (h : a ≠ 0 ∨ b ≠ 0) : ∃ g : Int, 0 < g ∧ a = g * (f_law_reduced a b).1 ∧ b = g * (f_law_reduced a b).2 ∧ Int.gcd (f_law_reduced a b).1 (f_law_reduced a b).2 = 1 := by
  unfold f_law_reduced
  rw [f_measure_eq, Int.gcd_comm b a]
  obtain ⟨h1, h2, h3, h4⟩ := gcd_split a b h
  exact ⟨_, h1, h2, h3, h4⟩
theorem abs_le_mul {g a : Int} (hg : 0 < g) : a.natAbs ≤ (g * a).natAbs := by
  rw [Int.natAbs_mul]
  exact Nat.le_mul_of_pos_left _ (by omega)
theorem Bd.part {n : Nat} {g a b : Int} (hg : 0 < g) (e : b = g * a) (h : Bd n b) : Bd n a := by
  subst e
  exact Nat.lt_of_le_of_lt (abs_le_mul hg) h
theorem pos_part {g a b : Int} (hg : 0 < g) (e : b = g * a) (h : 0 < b) : 0 < a := by
  subst e
  exact Int.pos_of_mul_pos_right h (by omega)
theorem nonneg_part {g a b : Int} (hg : 0 < g) (e : b = g * a) (h : 0 ≤ b) : 0 ≤ a := by
  subst e
  exact Int.nonneg_of_mul_nonneg_right h hg
theorem lawpoint_spec {x y w : Int} (hw : 0 < w) : ∃ g : Int, 0 < g ∧ x = g * (f_law_point x y w).1 ∧ y = g * (f_law_point x y w).2.1 ∧ w = g * (f_law_point x y w).2.2 ∧ Low (f_law_point x y w) := by
  unfold f_law_point
  rw [f_measure_eq, f_measure_eq, Int.gcd_comm w]
  obtain ⟨h1, h2, h3, h4, h5⟩ := gcd3_split x y w hw
  exact ⟨_, h1, h2, h3, h4, h5⟩
end Bw

namespace Bw
open PySem PySem.Spec PyProof.Rows L2
theorem f_point_eq {x y w : Int} (hw : 0 < w) : f_point_of x y w = (x / (Int.gcd (Int.gcd x y) w : Int), y / (Int.gcd (Int.gcd x y) w : Int), w / (Int.gcd (Int.gcd x y) w : Int)) := by
  unfold f_point_of
  rw [f_divisor_eq, f_divisor_eq]
  dsimp only
  rw [if_neg (by omega)]
theorem g_point_ok {x y w : Int} (hw : 0 < w) (hb : Bd 8999 w) : g_point_of x y w := by
  have hs := (gcd3_split x y w hw).1
  have hl : ((Int.gcd (Int.gcd x y) w : Nat) : Int) ≤ w := by
    have := Int.gcd_dvd_right (Int.gcd x y : Int) w
    exact Int.le_of_dvd hw this
  unfold g_point_of
  rw [f_divisor_eq, f_divisor_eq]
  dsimp only
  rw [if_neg (by omega)]
  have hB : Bd 8999 (Int.gcd (Int.gcd x y) w : Int) := Bd.of0 (by omega) hl hb
  exact ⟨by omega, g_divisor_ok _ _, g_divisor_ok _ _, hB.div hs, hB.div hs, hB.div hs, trivial⟩
theorem point_of_spec {x y w : Int} (hw : 0 < w) : ∃ g : Int, 0 < g ∧ x = g * (f_point_of x y w).1 ∧ y = g * (f_point_of x y w).2.1 ∧ w = g * (f_point_of x y w).2.2 ∧ Low (f_point_of x y w) := by
  rw [f_point_eq hw]
  obtain ⟨h1, h2, h3, h4, h5⟩ := gcd3_split x y w hw
  exact ⟨_, h1, h2, h3, h4, h5⟩
theorem point_of_uniq {x y w : Int} {Q : Int × Int × Int} (hw : 0 < w) (hQ : Low Q) (h1 : x * Q.2.2 = Q.1 * w) (h2 : y * Q.2.2 = Q.2.1 * w) : f_point_of x y w = Q := by
  obtain ⟨g, g0, ex, ey, ew, hl⟩ := point_of_spec (x := x) (y := y) hw
  generalize f_point_of x y w = P at *
  subst ex ey ew
  apply low_uniq hl hQ
  · rw [Int.mul_assoc, Int.mul_left_comm Q.1] at h1
    exact Int.eq_of_mul_eq_mul_left (by omega) h1
  · rw [Int.mul_assoc, Int.mul_left_comm Q.2.1] at h2
    exact Int.eq_of_mul_eq_mul_left (by omega) h2
theorem point_of_congr {x y w x' y' w' : Int} (hw : 0 < w) (hw' : 0 < w') (h1 : x * w' = x' * w) (h2 : y * w' = y' * w) : f_point_of x y w = f_point_of x' y' w' := by
  obtain ⟨g, g0, ex, ey, ew, hl⟩ := point_of_spec (x := x') (y := y') hw'
  apply point_of_uniq hw hl
  · generalize f_point_of x' y' w' = P at *
    apply Int.eq_of_mul_eq_mul_left (a := g) (by omega)
    grind
  · generalize f_point_of x' y' w' = P at *
    apply Int.eq_of_mul_eq_mul_left (a := g) (by omega)
    grind
theorem f_lawpoint_eq {x y w : Int} (hw : 0 < w) : f_law_point x y w = f_point_of x y w := by
  rw [f_point_eq hw]
  unfold f_law_point
  rw [f_measure_eq, f_measure_eq, Int.gcd_comm w]
end Bw

namespace Bw
open PySem PySem.Spec PyProof.Rows L2
/-! ### swung -/
def Sw (far span step p w : Int) : Prop := 0 ≤ p ∧ p ≤ span ∧ (step ≠ 0 → (p = 0 → 0 < w) ∧ (p = span → w < 0)) ∧ ∃ k : Int, (w = step ∧ far = 2 * (k * span) + p) ∨ (w = -step ∧ far = 2 * (k * span) - p)
theorem sw_up {far span step : Int} (h : 0 < span) (hs : 0 ≤ step) : Sw far span step (if far / span % 2 = 0 then (far % span, step) else (span - far % span, -step)).1 (if far / span % 2 = 0 then (far % span, step) else (span - far % span, -step)).2 := by
  have e := Int.emod_add_mul_ediv far span
  have l1 := Int.emod_nonneg far (by omega : span ≠ 0)
  have l2 := Int.emod_lt_of_pos far h
  have e2 := Int.emod_add_mul_ediv (far / span) 2
  generalize far / span = q at *
  generalize far % span = r at *
  split
  · refine ⟨l1, by dsimp only; omega, fun _ => ⟨fun _ => by dsimp only; omega, fun z => by dsimp only at *; omega⟩, q / 2, .inl ⟨rfl, ?_⟩⟩
    dsimp only
    have : q = 2 * (q / 2) := by omega
    grind
  · refine ⟨by dsimp only; omega, by dsimp only; omega, fun _ => ⟨fun _ => by dsimp only at *; omega, fun z => by dsimp only at *; omega⟩, q / 2 + 1, .inr ⟨rfl, ?_⟩⟩
    dsimp only
    have : q = 2 * (q / 2) + 1 := by omega
    grind
theorem sw_neg {far span step p w : Int} (h : Sw far span step p w) : Sw (-far) span (-step) p w := by
  obtain ⟨h1, h2, h3, k, h4⟩ := h
  refine ⟨h1, h2, fun z => h3 (by omega), -k, ?_⟩
  rw [Int.neg_mul]
  omega
theorem sw_shift {far span step p w : Int} (j : Int) (h : Sw far span step p w) : Sw (far + 2 * (j * span)) span step p w := by
  obtain ⟨h1, h2, h3, k, h4⟩ := h
  refine ⟨h1, h2, h3, k + j, ?_⟩
  rw [Int.add_mul]
  omega
theorem sw_turn {far span step p w : Int} (h : Sw (span - far) span (-step) p w) (h0 : step ≠ 0) : Sw far span step (span - p) (-w) := by
  obtain ⟨h1, h2, h3, k, h4⟩ := h
  have h3 := h3 (by omega)
  rcases h4 with ⟨h4, h5⟩ | ⟨h4, h5⟩
  · refine ⟨by omega, by omega, fun _ => by omega, -k, .inl ⟨by omega, ?_⟩⟩
    rw [Int.neg_mul]; omega
  · refine ⟨by omega, by omega, fun _ => by omega, 1 - k, .inr ⟨by omega, ?_⟩⟩
    rw [Int.sub_mul]; omega
theorem swung_spec {far span step : Int} (h : 0 < span) : Sw far span step (f_swung far span step).1 (f_swung far span step).2 := by
  unfold f_swung
  split
  · rename_i hs
    unfold f_swung_1
    rw [if_neg (by omega)]
    exact sw_turn (sw_up h (by omega)) (by omega)
  · exact sw_up h (by omega)
theorem g_swung_ok {far span step : Int} (h : 0 < span) (hb : Bd 8999 span) : g_swung far span step := by
  unfold g_swung g_swung_1
  dsimp only
  refine ⟨fun hs => ⟨⟨fun z => by omega, fun _ => ⟨hb.div h, fun _ => trivial, fun _ => trivial⟩⟩, trivial⟩, fun _ => ⟨hb.div h, fun _ => trivial, fun _ => trivial⟩⟩
/-- no whole multiple of a span lies strictly between -span and span but 0 -/
theorem mul_between {k s : Int} (hs : 0 < s) (h1 : -s < k * s) (h2 : k * s < s) : k = 0 := by
  have a : -1 < k := by
    apply Int.lt_of_mul_lt_mul_right (a := s) _ (by omega)
    omega
  have b : k < 1 := by
    apply Int.lt_of_mul_lt_mul_right (a := s) _ (by omega)
    omega
  omega
theorem sw_uniq {far span step p w p' w' : Int} (hs : 0 < span) (h : Sw far span step p w) (h' : Sw far span step p' w') : p = p' ∧ w = w' := by
  obtain ⟨h1, h2, h3, k, h4⟩ := h
  obtain ⟨g1, g2, g3, j, g4⟩ := h'
  have e : (k - j) * span = k * span - j * span := Int.sub_mul _ _ _
  have key : k * span - j * span = 0 ∨ k * span - j * span ≥ span ∨ k * span - j * span ≤ -span := by
    by_cases a : k - j = 0
    · rw [a] at e; omega
    · by_cases b : k * span - j * span < span
      · by_cases c : -span < k * span - j * span
        · exact absurd (mul_between hs (e ▸ c) (e ▸ b)) a
        · omega
      · omega
  by_cases z : step = 0
  · subst z
    omega
  · have h3 := h3 z
    have g3 := g3 z
    omega
theorem sw_scale {far span step p w c : Int} (hc : 0 < c) (hs : 0 < span) (h : Sw far span step p w) : Sw (far * c) (span * c) step (p * c) w := by
  obtain ⟨h1, h2, h3, k, h4⟩ := h
  refine ⟨Int.mul_nonneg h1 (by omega), Int.mul_le_mul_of_nonneg_right h2 (by omega), fun z => ⟨fun y => (h3 z).1 ?_, fun y => (h3 z).2 ?_⟩, k, ?_⟩
  · rcases Int.mul_eq_zero.mp y with y | y <;> omega
  · exact Int.eq_of_mul_eq_mul_right (by omega) y
  · rcases h4 with ⟨h4, h5⟩ | ⟨h4, h5⟩
    · exact .inl ⟨h4, by grind⟩
    · exact .inr ⟨h4, by grind⟩
/-- who flies on from where it stands, flies as the first -/
theorem sw_on {far span step p w d q v : Int} (h : Sw far span step p w) (h2 : Sw (p + w * d) span w q v) : Sw (far + step * d) span step q v := by
  obtain ⟨_, _, _, k, h4⟩ := h
  rcases h4 with ⟨e, f⟩ | ⟨e, f⟩
  · subst e
    have := sw_shift k h2
    have e : p + w * d + 2 * (k * span) = far + w * d := by omega
    rwa [e] at this
  · subst e
    have := sw_shift k (sw_neg h2)
    have e : -(p + -step * d) + 2 * (k * span) = far + step * d := by rw [Int.neg_mul]; omega
    rw [e, Int.neg_neg] at this
    exact this
theorem sw_at {p span step : Int} (h1 : 0 < p) (h2 : p < span) : Sw p span step p step := ⟨by omega, by omega, fun _ => by omega, 0, .inl ⟨rfl, by omega⟩⟩
end Bw

namespace Bw
open PySem PySem.Spec PyProof.Rows L2
/-! ### the box -/
def Ins (wide high : Int) (P : Int × Int × Int) : Prop := 1 ≤ wide ∧ 1 ≤ high ∧ 0 < P.1 ∧ 0 < P.2.1 ∧ P.1 < wide * P.2.2 ∧ P.2.1 < high * P.2.2
theorem Ins.w {wide high : Int} {P : Int × Int × Int} (h : Ins wide high P) : 0 < P.2.2 := by
  obtain ⟨h1, _, h3, _, h5, _⟩ := h
  exact Int.pos_of_mul_pos_right (by omega : 0 < wide * P.2.2) (by omega)
theorem look_ok {wide high : Int} {P : Int × Int × Int} (h : Ins wide high P) (bw : Bd 9000000 wide) (bh : Bd 9000000 high) (bp : Bd 9000000 P.2.2) : g_look_inside wide high P ∧ f_look_inside wide high P = .ok () := by
  obtain ⟨h1, h2, h3, h4, h5, h6⟩ := h
  refine ⟨⟨fun _ => trivial, fun _ => ⟨fun _ => fun _ => ⟨bw.ok bp, fun _ => bh.ok bp⟩, fun _ => trivial, fun _ => trivial⟩⟩, ?_⟩
  unfold f_look_inside
  rw [if_neg (by omega), if_neg (by omega)]
theorem look_er {wide high : Int} {P : Int × Int × Int} (h : ¬ Ins wide high P) (bw : Bd 9000000 wide) (bh : Bd 9000000 high) (bp : Bd 9000000 P.2.2) : g_look_inside wide high P ∧ f_look_inside wide high P = .er 0 [] [] := by
  refine ⟨⟨fun _ => trivial, fun _ => ⟨fun _ => fun _ => ⟨bw.ok bp, fun _ => bh.ok bp⟩, fun _ => trivial, fun _ => trivial⟩⟩, ?_⟩
  unfold f_look_inside
  unfold Ins at h
  split
  · rfl
  · rw [if_pos (by omega)]
end Bw

namespace Bw
open PySem PySem.Spec PyProof.Rows L2
/-- where the flight stands -/
def bx (wide high : Int) (P : Int × Int × Int) (h t : Int × Int) : (Int × Int × Int) × (Int × Int) :=
  (f_point_of (f_swung (P.1 * t.2 + h.1 * t.1 * P.2.2) (wide * (P.2.2 * t.2)) h.1).1 (f_swung (P.2.1 * t.2 + h.2 * t.1 * P.2.2) (high * (P.2.2 * t.2)) h.2).1 (P.2.2 * t.2),
    ((f_swung (P.1 * t.2 + h.1 * t.1 * P.2.2) (wide * (P.2.2 * t.2)) h.1).2, (f_swung (P.2.1 * t.2 + h.2 * t.1 * P.2.2) (high * (P.2.2 * t.2)) h.2).2))
theorem box_ok {wide high : Int} {P : Int × Int × Int} {h t : Int × Int} (hi : Ins wide high P) (ht : 0 < t.2) (bw : Bd 2000 wide) (bh : Bd 2000 high) (bp : Bd 2000 P.2.2) (bx' : Bd 2000000 P.1) (by' : Bd 2000000 P.2.1) (ba : Bd 2000000 h.1) (bb : Bd 2000000 h.2) (b1 : Bd 2000000 t.1) (b2 : Bd 2000 t.2) : g_box_at wide high P h t ∧ f_box_at wide high P h t = .ok (bx wide high P h t) := by
  have hm : 0 < P.2.2 * t.2 := Int.mul_pos hi.w ht
  have bm : Bd 4000 (P.2.2 * t.2) := bp.mul b2
  obtain ⟨l1, l2⟩ := look_ok hi (bw.mono (by omega)) (bh.mono (by omega)) (bp.mono (by omega))
  unfold g_box_at f_box_at
  rw [l2]
  exact ⟨⟨l1, bp.ok b2, bx'.ok b2, ba.ok b1, (ba.mul b1).ok bp, bw.ok bm, g_swung_ok (Int.mul_pos (by have := hi.1; omega) hm) ((bw.mul bm).mono (by omega)), by'.ok b2, bb.ok b1, (bb.mul b1).ok bp, bh.ok bm, g_swung_ok (Int.mul_pos (by have := hi.2.1; omega) hm) ((bh.mul bm).mono (by omega)), g_point_ok hm (bm.mono (by omega)), trivial⟩, rfl⟩
theorem box_er {wide high : Int} {P : Int × Int × Int} {h t : Int × Int} (hi : ¬ Ins wide high P) (bw : Bd 2000 wide) (bh : Bd 2000 high) (bp : Bd 2000 P.2.2) : g_box_at wide high P h t ∧ f_box_at wide high P h t = .er 0 [] [] := by
  obtain ⟨l1, l2⟩ := look_er hi (bw.mono (by omega)) (bh.mono (by omega)) (bp.mono (by omega))
  unfold g_box_at f_box_at
  rw [l2]
  exact ⟨⟨l1, trivial⟩, rfl⟩
theorem bx_spec {wide high : Int} {P : Int × Int × Int} {h t : Int × Int} (hi : Ins wide high P) (ht : 0 < t.2) : ∃ g : Int, 0 < g ∧ P.2.2 * t.2 = g * (bx wide high P h t).1.2.2 ∧ Low (bx wide high P h t).1 ∧ Sw (P.1 * t.2 + h.1 * t.1 * P.2.2) (wide * (P.2.2 * t.2)) h.1 (g * (bx wide high P h t).1.1) (bx wide high P h t).2.1 ∧ Sw (P.2.1 * t.2 + h.2 * t.1 * P.2.2) (high * (P.2.2 * t.2)) h.2 (g * (bx wide high P h t).1.2.1) (bx wide high P h t).2.2 := by
  have hm : 0 < P.2.2 * t.2 := Int.mul_pos hi.w ht
  have s1 := swung_spec (far := P.1 * t.2 + h.1 * t.1 * P.2.2) (step := h.1) (Int.mul_pos (by have := hi.1; omega : 0 < wide) hm)
  have s2 := swung_spec (far := P.2.1 * t.2 + h.2 * t.1 * P.2.2) (step := h.2) (Int.mul_pos (by have := hi.2.1; omega : 0 < high) hm)
  unfold bx
  dsimp only
  obtain ⟨g, g0, ex, ey, ew, hl⟩ := point_of_spec (x := (f_swung (P.1 * t.2 + h.1 * t.1 * P.2.2) (wide * (P.2.2 * t.2)) h.1).1) (y := (f_swung (P.2.1 * t.2 + h.2 * t.1 * P.2.2) (high * (P.2.2 * t.2)) h.2).1) hm
  refine ⟨g, g0, ew, hl, ?_, ?_⟩
  · rw [← ex]; exact s1
  · rw [← ey]; exact s2
/-- whoever stands as the laws of standing ask (scaled by c) is what is told -/
theorem bx_uniq {wide high : Int} {P : Int × Int × Int} {h t : Int × Int} {Q : Int × Int × Int} {v : Int × Int} {c d : Int} (hi : Ins wide high P) (ht : 0 < t.2) (hQ : Low Q) (hc : 0 < c) (e : P.2.2 * t.2 * c = d * Q.2.2)
    (s1 : Sw ((P.1 * t.2 + h.1 * t.1 * P.2.2) * c) (wide * (P.2.2 * t.2) * c) h.1 (d * Q.1) v.1)
    (s2 : Sw ((P.2.1 * t.2 + h.2 * t.1 * P.2.2) * c) (high * (P.2.2 * t.2) * c) h.2 (d * Q.2.1) v.2) : bx wide high P h t = (Q, v) := by
  have hm : 0 < P.2.2 * t.2 := Int.mul_pos hi.w ht
  have wp : 0 < wide * (P.2.2 * t.2) := Int.mul_pos (by have := hi.1; omega : 0 < wide) hm
  have hp : 0 < high * (P.2.2 * t.2) := Int.mul_pos (by have := hi.2.1; omega : 0 < high) hm
  obtain ⟨a1, a2⟩ := sw_uniq (Int.mul_pos wp hc) (sw_scale hc wp (swung_spec (far := P.1 * t.2 + h.1 * t.1 * P.2.2) (step := h.1) wp)) s1
  obtain ⟨b1, b2⟩ := sw_uniq (Int.mul_pos hp hc) (sw_scale hc hp (swung_spec (far := P.2.1 * t.2 + h.2 * t.1 * P.2.2) (step := h.2) hp)) s2
  have k : ∀ p q : Int, p * c = d * q → p * Q.2.2 = q * (P.2.2 * t.2) := fun p q y => by
    apply Int.eq_of_mul_eq_mul_right (a := c) (by omega)
    have : p * Q.2.2 * c = p * c * Q.2.2 := by rw [Int.mul_assoc, Int.mul_comm Q.2.2, Int.mul_assoc]
    rw [this, y, Int.mul_assoc q, e, Int.mul_comm d q, Int.mul_assoc]
  unfold bx
  rw [a2, b2, point_of_uniq hm hQ (k _ _ a1) (k _ _ b1)]
/-- at time 0 it stands at the begin -/
theorem bx_zero {wide high : Int} {P : Int × Int × Int} {h : Int × Int} (hi : Ins wide high P) (hl : Low P) : bx wide high P h (0, 1) = (P, h) := by
  have ⟨w1, w2, w3, w4, w5, w6⟩ := hi
  refine bx_uniq (c := 1) (d := 1) hi (by show (0 : Int) < 1; decide) hl (by decide) (by dsimp only; omega) ?_ ?_
  · dsimp only
    rw [Int.mul_zero, Int.zero_mul, Int.add_zero, Int.mul_one, Int.mul_one, Int.mul_one, Int.mul_one, Int.one_mul]
    exact sw_at w3 w5
  · dsimp only
    rw [Int.mul_zero, Int.zero_mul, Int.add_zero, Int.mul_one, Int.mul_one, Int.mul_one, Int.mul_one, Int.one_mul]
    exact sw_at w4 w6
end Bw

namespace Bw
open PySem PySem.Spec PyProof.Rows L2
theorem Bd.quot {n : Nat} {c : Int} (h : Bd n c) (k : Int) (hk : 0 < k) : Bd n (c / k) := by
  unfold Bd at *
  have e := Int.emod_add_mul_ediv c k
  have l1 := Int.emod_nonneg c (by omega : k ≠ 0)
  have l2 := Int.emod_lt_of_pos c hk
  generalize c / k = q at *
  generalize c % k = r at *
  have : q.natAbs ≤ c.natAbs := by
    rcases Int.lt_or_le q 0 with z | z
    · have m : k * q ≤ k * (-1) := Int.mul_le_mul_of_nonneg_left (by omega) (by omega)
      have m2 : (k - 1) * q ≤ (k - 1) * (-1) := Int.mul_le_mul_of_nonneg_left (by omega) (by omega)
      rw [Int.sub_mul] at m2
      omega
    · have m2 : 0 ≤ (k - 1) * q := Int.mul_nonneg (by omega) z
      rw [Int.sub_mul] at m2
      omega
  omega
theorem bd59 : Bd 197 (10 ^ 59) := by unfold Bd; decide
theorem Ins.of_scale {wide high x y w g : Int} {P : Int × Int × Int} (hw : 1 ≤ wide) (hh : 1 ≤ high) (hg : 0 < g) (ex : x = g * P.1) (ey : y = g * P.2.1) (ew : w = g * P.2.2) (x0 : 0 < x) (y0 : 0 < y) (x1 : x < wide * w) (y1 : y < high * w) : Ins wide high P := by
  refine ⟨hw, hh, pos_part hg ex x0, pos_part hg ey y0, ?_, ?_⟩
  · subst ex ew
    rw [Int.mul_left_comm] at x1
    exact Int.lt_of_mul_lt_mul_left x1 (by omega)
  · subst ey ew
    rw [Int.mul_left_comm] at y1
    exact Int.lt_of_mul_lt_mul_left y1 (by omega)
theorem reduced_bd {n : Nat} {a b : Int} (h : a ≠ 0 ∨ b ≠ 0) (ha : Bd n a) (hb : Bd n b) : Bd n (f_law_reduced a b).1 ∧ Bd n (f_law_reduced a b).2 := by
  obtain ⟨g, g0, e1, e2, _⟩ := reduced_spec h
  exact ⟨ha.part g0 e1, hb.part g0 e2⟩
theorem reduced_time {n : Nat} {a b : Int} (hb0 : 0 < b) (ha : Bd n a) (hb : Bd n b) (h3 : n ≤ 8999) : g_law_reduced a b ∧ 0 < (f_law_reduced a b).2 ∧ Bd n (f_law_reduced a b).1 ∧ Bd n (f_law_reduced a b).2 := by
  obtain ⟨g, g0, e1, e2, _⟩ := reduced_spec (a := a) (.inr (by omega : b ≠ 0))
  exact ⟨g_reduced_ok (.inr (by omega)) (ha.mono h3) (hb.mono h3), pos_part g0 e2 hb0, ha.part g0 e1, hb.part g0 e2⟩
theorem Bd.iabs {n : Nat} {a : Int} (h : Bd n a) : Bd n (iabs a) := by
  rw [iabs_eq]
  exact h
theorem Bd.cst {n : Nat} (i : Int) (h : decide (i.natAbs < 2 ^ n) = true) : Bd n i := by unfold Bd; exact of_decide_eq_true h
theorem bits_bd {z : Int} {n : Nat} (h : Builtin.Int.intBits z ≤ n) : Bd n z := intBits_le_iff.mp h
theorem heading_spec {n : Nat} {a b : Int} (ha : Bd n a) (hb : Bd n b) (h2 : 2 ≤ n) (h3 : n ≤ 8999) : g_law_heading a b ∧ Bd n (f_law_heading a b).1 ∧ Bd n (f_law_heading a b).2 ∧ Int.gcd (f_law_heading a b).1 (f_law_heading a b).2 = 1 := by
  unfold g_law_heading f_law_heading
  by_cases z : a = 0 ∧ b = 0
  · rw [if_pos z]
    have e : ∀ i : Int, Bd 2 i → Bd n i := fun i q => q.mono h2
    exact ⟨⟨fun _ => trivial, fun y => absurd z y⟩, e 2 (by unfold Bd; decide), e 1 (by unfold Bd; decide), by decide⟩
  · rw [if_neg z]
    have q : a ≠ 0 ∨ b ≠ 0 := by omega
    refine ⟨⟨fun y => absurd y z, fun _ => ⟨g_reduced_ok q (ha.mono h3) (hb.mono h3), trivial⟩⟩, (reduced_bd q ha hb).1, (reduced_bd q ha hb).2, ?_⟩
    obtain ⟨g, g0, e1, e2, e3⟩ := reduced_spec q
    exact e3
/-- the begin strictly inside, its third number 2 more than a drawn one -/
theorem inside_spec {wide high : Int} {some : List Int} (hw : 1 ≤ wide) (hh : 1 ≤ high) (bw : Bd 250 wide) (bh : Bd 250 high) (hl : 3 ≤ some.length) (b2 : Bd 250 (ixL some 2)) : g_law_inside wide high some ∧ Ins wide high (f_law_inside wide high some) ∧ Low (f_law_inside wide high some) ∧ Bd 252 (f_law_inside wide high some).2.2 ∧ Bd 600 (f_law_inside wide high some).1 ∧ Bd 600 (f_law_inside wide high some).2.1 := by
  unfold g_law_inside f_law_inside
  dsimp only
  generalize ixL some 0 = s0
  generalize ixL some 1 = s1
  generalize ixL some 2 = s2 at *
  have w1 : 2 ≤ 2 + iabs s2 := by rw [iabs_eq]; omega
  have B : Bd 252 (2 + iabs s2) := (Bd.cst 2 (by decide) : Bd 2 2).add b2.iabs
  generalize 2 + iabs s2 = w at *
  have m1 : wide * 2 ≤ wide * w := Int.mul_le_mul_of_nonneg_left w1 (by omega)
  have m2 : high * 2 ≤ high * w := Int.mul_le_mul_of_nonneg_left w1 (by omega)
  have b1 : Bd 600 (wide * w) := (bw.mul B).mono (by decide)
  have b2 : Bd 600 (high * w) := (bh.mul B).mono (by decide)
  have r1 := Int.emod_nonneg s0 (by omega : wide * w - 1 ≠ 0)
  have r2 := Int.emod_lt_of_pos s0 (by omega : 0 < wide * w - 1)
  have r3 := Int.emod_nonneg s1 (by omega : high * w - 1 ≠ 0)
  have r4 := Int.emod_lt_of_pos s1 (by omega : 0 < high * w - 1)
  have o1 : IntMulOk wide w := bw.ok B
  have o2 : IntMulOk high w := bh.ok B
  generalize e1 : wide * w = ww at *
  generalize e2 : high * w = hw' at *
  generalize s0 % (ww - 1) = x at *
  generalize s1 % (hw' - 1) = y at *
  obtain ⟨g, g0, ex, ey, ew, hlow⟩ := lawpoint_spec (x := 1 + x) (y := 1 + y) (w := w) (by omega)
  refine ⟨⟨⟨by omega, by omega⟩, ⟨by omega, by omega⟩, o1, by omega, ⟨by omega, by omega⟩, o2, by omega, g_lawpoint_ok (by omega) (B.mono (by decide)), trivial⟩, ?_, hlow, B.part g0 ew, (Bd.of0 (by omega) (by omega) b1).part g0 ex, (Bd.of0 (by omega) (by omega) b2).part g0 ey⟩
  exact Ins.of_scale hw hh g0 ex ey ew (by omega) (by omega) (by omega) (by omega)
end Bw

namespace Bw
open PySem PySem.Spec PyProof.Rows L2
theorem number_spec {c : Int} (h : Bd 1048576 c) : g_law_number c ∧ Bd 197 (f_law_number c) := by
  have k1 : g_law_number c := by
    unfold g_law_number
    dsimp only
    have k : IntMulOk (c / 5) (10 ^ 59 / 7 + 48271) := (h.quot 5 (by decide)).ok (m := 200) (by unfold Bd; decide)
    exact ⟨fun _ => ⟨k, trivial⟩, fun _ => ⟨fun _ => trivial, fun _ => trivial⟩⟩
  have k2 : -(10 ^ 59) ≤ f_law_number c ∧ f_law_number c ≤ 10 ^ 59 := by
    unfold f_law_number
    dsimp only
    split
    · generalize c / 5 * (10 ^ 59 / 7 + 48271) = z
      omega
    · split <;> omega
  exact ⟨k1, Bd.of k2.1 k2.2 bd59⟩
/-- the cells that a script gives -/
theorem cells_spec {ns : List Int} (hb : ∀ z ∈ ns, Builtin.Int.intBits z ≤ 1048576) : (∀ z ∈ cutL ns none (some 63) ++ ([0, 0, 0, 0, 0, 0, 0, 0, 0] : List Int), Bd 1048576 z) ∧ (cutL ns none (some 63) ++ ([0, 0, 0, 0, 0, 0, 0, 0, 0] : List Int)).length ≤ 72 ∧ (cutL ns none (some 63)).length + ([0, 0, 0, 0, 0, 0, 0, 0, 0] : List Int).length ≤ 100000 ∧ 9 ≤ (cutL ns none (some 63) ++ ([0, 0, 0, 0, 0, 0, 0, 0, 0] : List Int)).length := by
  have l1 := cutL_head_len (xs := ns) (b := 63) (by decide)
  refine ⟨fun z hz => ?_, ?_, ?_, ?_⟩
  · rcases List.mem_append.mp hz with h | h
    · exact bits_bd (hb z (mem_cutL h))
    · have e : z = 0 := by simpa using h
      subst e
      exact (Bd.cst 0 (by decide) : Bd 2 0).mono (by decide)
  · rw [List.length_append]
    simp at l1 ⊢
    omega
  · simp at l1 ⊢
    omega
  · rw [List.length_append]
    simp
end Bw
namespace Bw
open PySem PySem.Spec PyProof.Rows L2
theorem bd60 : Bd 200 (10 * 10 ^ 59) := by unfold Bd; decide
theorem side_spec {c : Int} (h : Bd 1048576 c) : g_law_side c ∧ 1 ≤ f_law_side c ∧ Bd 200 (f_law_side c) := by
  have k1 : g_law_side c := by
    unfold g_law_side
    dsimp only
    have k : IntMulOk (c / 4) (10 ^ 59 / 11 + 104729) := (h.quot 4 (by decide)).ok (m := 200) (by unfold Bd; decide)
    exact ⟨fun _ => ⟨k, trivial⟩, fun _ => ⟨fun _ => trivial, fun _ => trivial⟩⟩
  have k2 : 1 ≤ f_law_side c ∧ f_law_side c ≤ 10 * 10 ^ 59 := by
    unfold f_law_side
    dsimp only
    split
    · generalize c / 4 * (10 ^ 59 / 11 + 104729) = z
      omega
    · split <;> omega
  exact ⟨k1, k2.1, Bd.of0 (by omega) k2.2 bd60⟩
theorem not_ins_x {wide high x y w : Int} (hw : 0 < w) (h : x ≤ 0 ∨ wide * w ≤ x) : ¬ Ins wide high (f_law_point x y w) := by
  intro i
  obtain ⟨g, g0, ex, ey, ew, _⟩ := lawpoint_spec (x := x) (y := y) hw
  generalize f_law_point x y w = Q at *
  obtain ⟨_, _, i3, _, i5, _⟩ := i
  have a : 0 < g * Q.1 := Int.mul_pos g0 i3
  have b : g * Q.1 < g * (wide * Q.2.2) := Int.mul_lt_mul_of_pos_left i5 g0
  rw [Int.mul_left_comm, ← ew] at b
  omega
theorem not_ins_y {wide high x y w : Int} (hw : 0 < w) (h : y ≤ 0 ∨ high * w ≤ y) : ¬ Ins wide high (f_law_point x y w) := by
  intro i
  obtain ⟨g, g0, ex, ey, ew, _⟩ := lawpoint_spec (x := x) (y := y) hw
  generalize f_law_point x y w = Q at *
  obtain ⟨_, _, _, i4, _, i6⟩ := i
  have a : 0 < g * Q.2.1 := Int.mul_pos g0 i4
  have b : g * Q.2.1 < g * (high * Q.2.2) := Int.mul_lt_mul_of_pos_left i6 g0
  rw [Int.mul_left_comm, ← ew] at b
  omega
theorem four {a b c d : Int} {k : Int} (h0 : 0 ≤ k) (h1 : k < 4) : InB [a, b, c, d].length k ∧ (ixL [a, b, c, d] k = a ∨ ixL [a, b, c, d] k = b ∨ ixL [a, b, c, d] k = c ∨ ixL [a, b, c, d] k = d) := by
  have : k = 0 ∨ k = 1 ∨ k = 2 ∨ k = 3 := by omega
  refine ⟨⟨by simp; omega, by simp; omega⟩, ?_⟩
  rcases this with rfl | rfl | rfl | rfl
  · exact .inl rfl
  · exact .inr (.inl rfl)
  · exact .inr (.inr (.inl rfl))
  · exact .inr (.inr (.inr rfl))
theorem spoiled_ok {way wide high low : Int} {P : Int × Int × Int} (h0 : 0 ≤ way) (h1 : way < 10) (hi : Ins wide high P) (hl : 0 ≤ low) (bl : Bd 250 low) (bw : Bd 250 wide) (bh : Bd 250 high) (bp : Bd 252 P.2.2) :
    g_law_spoiled way wide high P low ∧ ¬ Ins (f_law_spoiled way wide high P low).1 (f_law_spoiled way wide high P low).2.1 (f_law_spoiled way wide high P low).2.2 ∧ Bd 2000 (f_law_spoiled way wide high P low).1 ∧ Bd 2000 (f_law_spoiled way wide high P low).2.1 ∧ Bd 2000 (f_law_spoiled way wide high P low).2.2.2.2 := by
  have hw := hi.w
  have w1 := hi.1
  have h1' := hi.2.1
  have o1 := bw.ok bp
  have o2 := bh.ok bp
  have pw : 0 < wide * P.2.2 := Int.mul_pos (by omega) hw
  have ph : 0 < high * P.2.2 := Int.mul_pos (by omega) hw
  have bw' : Bd 2000 wide := bw.mono (by decide)
  have bh' : Bd 2000 high := bh.mono (by decide)
  have bp' : Bd 2000 P.2.2 := bp.mono (by decide)
  have bl' : Bd 2000 (-low) := bl.neg.mono (by decide)
  have LP : ∀ x y : Int, g_law_point x y P.2.2 ∧ Bd 2000 (f_law_point x y P.2.2).2.2 := fun x y => by
    obtain ⟨g, g0, ex, ey, ew, _⟩ := lawpoint_spec (x := x) (y := y) hw
    exact ⟨g_lawpoint_ok hw (bp.mono (by decide)), bp'.part g0 ew⟩
  unfold g_law_spoiled f_law_spoiled
  by_cases e8 : way = 8
  · rw [if_pos e8]
    exact ⟨⟨fun _ => trivial, fun y => absurd e8 y⟩, fun z => by have := z.1; dsimp only at this; omega, bl', bh', bp'⟩
  · rw [if_neg e8]
    by_cases e9 : way = 9
    · rw [if_pos e9]
      exact ⟨⟨fun y => absurd y e8, fun _ => ⟨fun _ => trivial, fun y => absurd e9 y⟩⟩, fun z => by have := z.2.1; dsimp only at this; omega, bw', bl', bp'⟩
    · rw [if_neg e9]
      dsimp only
      by_cases ev : way % 2 = 0
      · rw [if_pos ev, if_pos ev]
        obtain ⟨j1, j2⟩ := four (a := 0) (b := wide * P.2.2) (c := -1 - low) (d := wide * P.2.2 + 1 + low) (k := way / 2) (by omega) (by omega)
        generalize ixL [0, wide * P.2.2, -1 - low, wide * P.2.2 + 1 + low] (way / 2) = x at *
        exact ⟨⟨fun y => absurd y e8, fun _ => ⟨fun y => absurd y e9, fun _ => ⟨fun _ => ⟨o1, o1, j1, trivial⟩, fun y => absurd ev y, (LP _ _).1, trivial⟩⟩⟩, not_ins_x hw (by omega), bw', bh', (LP _ _).2⟩
      · rw [if_neg ev, if_neg ev]
        obtain ⟨j1, j2⟩ := four (a := 0) (b := high * P.2.2) (c := -1 - low) (d := high * P.2.2 + 1 + low) (k := way / 2) (by omega) (by omega)
        generalize ixL [0, high * P.2.2, -1 - low, high * P.2.2 + 1 + low] (way / 2) = y at *
        exact ⟨⟨fun y => absurd y e8, fun _ => ⟨fun y => absurd y e9, fun _ => ⟨fun y => absurd y ev, fun _ => ⟨o2, o2, j1, trivial⟩, (LP _ _).1, trivial⟩⟩⟩, not_ins_y hw (by omega), bw', bh', (LP _ _).2⟩
theorem asked_er {n wide high : Int} {P : Int × Int × Int} {h : Int × Int} (hi : ¬ Ins wide high P) (bw : Bd 2000 wide) (bh : Bd 2000 high) (bp : Bd 2000 P.2.2) : g_law_asked n wide high P h ∧ f_law_asked n wide high P h = .er 0 [] [] := by
  obtain ⟨a1, a2⟩ := box_er (h := h) (t := (1, 1)) hi bw bh bp
  obtain ⟨l1, l2⟩ := look_er hi (bw.mono (by decide)) (bh.mono (by decide)) (bp.mono (by decide))
  have c1 : g_box_corner wide high P h ∧ f_box_corner wide high P h = .er 0 [] [] := by
    unfold g_box_corner f_box_corner
    rw [l2]
    exact ⟨⟨l1, trivial⟩, rfl⟩
  have r1 : g_box_round wide high P h ∧ f_box_round wide high P h = .er 0 [] [] := by
    unfold g_box_round f_box_round
    rw [l2]
    exact ⟨⟨l1, trivial⟩, rfl⟩
  unfold g_law_asked f_law_asked
  rw [a2, c1.2, r1.2]
  refine ⟨⟨fun _ => ⟨a1, trivial⟩, fun _ => ⟨fun _ => ⟨c1.1, trivial⟩, fun _ => ⟨r1.1, trivial⟩⟩⟩, ?_⟩
  dsimp only
  split
  · rfl
  · split <;> rfl
theorem refused_ok {n wide high : Int} {P : Int × Int × Int} {h : Int × Int} (hi : ¬ Ins wide high P) (bw : Bd 2000 wide) (bh : Bd 2000 high) (bp : Bd 2000 P.2.2) : g_law_refused n wide high P h ∧ f_law_refused n wide high P h = true := by
  obtain ⟨k1, k2⟩ := asked_er (n := n) (h := h) hi bw bh bp
  unfold g_law_refused f_law_refused
  rw [k2]
  exact ⟨⟨k1, rfl, rfl, rfl, trivial⟩, rfl⟩
theorem body_ok {cells : List Int} (hb : ∀ z ∈ cells, Bd 1048576 z) {x : Int} (h0 : 0 ≤ x) (h1 : x + 9 ≤ cells.length) : g_law_b1 cells x () ∧ f_law_b1 cells x () = .nx () := by
  have i0 : InB cells.length x := ⟨by omega, by omega⟩
  have i1 : InB cells.length (x + 1) := ⟨by omega, by omega⟩
  have i8 : InB cells.length (x + 8) := ⟨by omega, by omega⟩
  unfold g_law_b1 f_law_b1
  dsimp only
  obtain ⟨a1, a2, a3⟩ := side_spec (hb _ (ixL_mem i0))
  obtain ⟨c1, c2, c3⟩ := side_spec (hb _ (ixL_mem i1))
  generalize f_law_side (ixL cells x) = wide at *
  generalize f_law_side (ixL cells (x + 1)) = high at *
  have b1 : Bd 250 wide := a3.mono (by decide)
  have b2 : Bd 250 high := c3.mono (by decide)
  have hc : (cutL cells (some (x + 2)) (some (x + 9))).length = 7 := by
    rw [cutL_len (by omega) (by omega) (by omega)]; omega
  have hm : ∀ z ∈ cutL cells (some (x + 2)) (some (x + 9)), g_law_number z := fun z hz => (number_spec (hb z (mem_cutL hz))).1
  have hn : ((cutL cells (some (x + 2)) (some (x + 9))).map (fun x_6 => (f_law_number x_6))).length = 7 := by rw [List.length_map, hc]
  have hs : ∀ z ∈ (cutL cells (some (x + 2)) (some (x + 9))).map (fun x_6 => (f_law_number x_6)), Bd 197 z := fun z hz => by
    obtain ⟨y, hy, e⟩ := List.mem_map.mp hz
    rw [← e]
    exact (number_spec (hb y (mem_cutL hy))).2
  generalize (cutL cells (some (x + 2)) (some (x + 9))).map (fun x_6 => (f_law_number x_6)) = ns at *
  have jb : ∀ i : Int, 0 ≤ i → i < 7 → InB ns.length i := fun i h1 h2 => ⟨by omega, by omega⟩
  have j2 := jb 2 (by decide) (by decide)
  have j3 := jb 3 (by decide) (by decide)
  have j4 := jb 4 (by decide) (by decide)
  have j5 := jb 5 (by decide) (by decide)
  obtain ⟨p1, p2, p3, p4, p5, p6⟩ := inside_spec (some := ns) a2 c2 b1 b2 (by omega) ((hs _ (ixL_mem j2)).mono (by decide))
  generalize f_law_inside wide high ns = P at *
  obtain ⟨q1, q2, q3, q4⟩ := heading_spec (hs _ (ixL_mem j3)) (hs _ (ixL_mem j4)) (by decide) (by decide)
  generalize f_law_heading (ixL ns 3) (ixL ns 4) = h at *
  have bo : Bd 2000 1 := (Bd.cst 1 (by decide) : Bd 2 1).mono (by decide)
  have bz : Bd 2000000 0 := (Bd.cst 0 (by decide) : Bd 2 0).mono (by decide)
  obtain ⟨k1, k2⟩ := box_ok (h := h) (t := (0, 1)) p2 (by show (0 : Int) < 1; decide) (b1.mono (by decide)) (b2.mono (by decide)) (p4.mono (by decide)) (p5.mono (by decide)) (p6.mono (by decide)) (q2.mono (by decide)) (q3.mono (by decide)) bz bo
  have zz := bx_zero (h := h) p2 p3
  rw [zz] at k2
  have lo : 0 ≤ iabs (ixL ns 5) := by rw [iabs_eq]; omega
  have bl : Bd 250 (iabs (ixL ns 5)) := (hs _ (ixL_mem j5)).iabs.mono (by decide)
  have m0 : 0 ≤ ixL cells (x + 8) % 11 ∧ ixL cells (x + 8) % 11 < 11 := by omega
  generalize iabs (ixL ns 5) = low at *
  generalize ixL cells (x + 8) % 11 = way at *
  have key : way < 10 → g_law_spoiled way wide high P low ∧ forOk (f_law_b2 h (f_law_spoiled way wide high P low)) (g_law_b2 h (f_law_spoiled way wide high P low)) (rangeI 0 3) () ∧ forS (f_law_b2 h (f_law_spoiled way wide high P low)) (rangeI 0 3) () = .nx () := fun hw => by
    obtain ⟨s1, s2, s3, s4, s5⟩ := spoiled_ok m0.1 hw p2 lo bl b1 b2 p4
    generalize f_law_spoiled way wide high P low = r at *
    obtain ⟨f1, f2⟩ := for_unit (B := f_law_b2 h r) (S := g_law_b2 h r) (rangeI 0 3) fun n _ => by
      obtain ⟨e1, e2⟩ := refused_ok (n := n) (h := h) s2 s3 s4 s5
      unfold g_law_b2 f_law_b2
      rw [if_neg (by rw [e2]; simp)]
      exact ⟨⟨e1, fun _ => trivial, fun _ => trivial⟩, rfl⟩
    exact ⟨s1, f1, f2⟩
  rw [k2]
  refine ⟨⟨i0, a1, i1, c1, by omega, hm, p1, j3, j4, q1, k1, trivial, fun _ => trivial, fun _ => ⟨i8, fun hw => ⟨j5, (key hw).1, (key hw).2.1, fun _ _ => trivial⟩, fun _ => trivial⟩⟩, ?_⟩
  refine (if_neg (fun z => z rfl)).trans ?_
  by_cases hw : way < 10
  · rw [if_pos hw, (key hw).2.2]
    rfl
  · rw [if_neg hw]
theorem plain (ns : List Int) (hl : ns.length ≤ 63) (hb : ∀ z ∈ ns, Builtin.Int.intBits z ≤ 1048576) : g_law ns ∧ O.rt (.bl true) = O.rt (.bl (f_law ns)) := by
  obtain ⟨hB, l2, l3, l4⟩ := cells_spec hb
  unfold g_law f_law
  dsimp only
  generalize cutL ns none (some 63) ++ ([0, 0, 0, 0, 0, 0, 0, 0, 0] : List Int) = cells at *
  obtain ⟨h1, h2⟩ := for_unit (B := f_law_b1 cells) (S := g_law_b1 cells) (rangeS 0 ((cells.length : Int) - 8) 9) fun x hx => by
    have := rangeS_mem (by decide) hx
    exact body_ok hB this.1 (by omega)
  refine ⟨⟨l3, ⟨by decide, by decide, by omega, by omega⟩, h1, fun _ _ => trivial⟩, ?_⟩
  rw [h2]
  rfl
end Bw
namespace Bw
open PySem PySem.Spec PyProof.Rows L2
def dD (i : Nat) (n : Str) : He.DefD := ⟨(n, none), n, n, defArgs (top i), defBody (top i), defScope (top i), [], []⟩
def fn : List He.DefD := [dD 16 "divisor", dD 17 "point_of", dD 18 "time_of", dD 20 "look_inside", dD 21 "swung", dD 22 "box_at", dD 23 "undone", dD 24 "box_corner", dD 25 "box_round", dD 27 "_law_number", dD 28 "_law_side", dD 29 "_law_measure", dD 30 "_law_reduced", dD 31 "_law_point", dD 32 "_law_heading", dD 33 "_law_inside", dD 34 "_law_spoiled", dD 35 "_law_asked", dD 36 "_law_refused", dD 37 "law"]
def fa : List He.Fa := [.glo "divisor", .glo "point_of", .glo "time_of", .glo "look_inside", .glo "swung", .glo "box_at", .glo "undone", .glo "box_corner", .glo "box_round", .glo "_law_number", .glo "_law_side", .glo "_law_measure", .glo "_law_reduced", .glo "_law_point", .glo "_law_heading", .glo "_law_inside", .glo "_law_spoiled", .glo "_law_asked", .glo "_law_refused", .glo "law", .free "ValueError", .free "abs", .free "divmod", .free "int", .free "isinstance", .free "len", .free "range", .free "sorted", .free "tuple", .glo "BadDrawing", .glo "BadWall", .glo "NoName", .glo "NoPoint", .glo "NoRow", .glo "NoText", .glo "NoWay", .glo "OnWall", .glo "OutOfBox", .glo "Over", .glo "Overlap", .glo "RoomError", .glo "TooLong", .glo "TooMany", .glo "OutOfBox", .exc "OutOfBox", .exm "OutOfBox" "BadDrawing" false, .exm "OutOfBox" "BadWall" false, .exm "OutOfBox" "NoName" false, .exm "OutOfBox" "NoPoint" false, .exm "OutOfBox" "NoRow" false, .exm "OutOfBox" "NoText" false, .exm "OutOfBox" "NoWay" false, .exm "OutOfBox" "OnWall" false, .exm "OutOfBox" "OutOfBox" true, .exm "OutOfBox" "Over" false, .exm "OutOfBox" "Overlap" false, .exm "OutOfBox" "RoomError" true, .exm "OutOfBox" "TooLong" false, .exm "OutOfBox" "TooMany" false]
def ecOf (K : PySem.W.Frag) : Nat → Addr
  | 0 => He.ga K "OutOfBox"
  | 1 => He.ga K "RoomError"
  | 2 => He.ga K "BadDrawing"
  | 3 => He.ga K "BadWall"
  | 4 => He.ga K "NoName"
  | 5 => He.ga K "NoPoint"
  | 6 => He.ga K "NoRow"
  | 7 => He.ga K "NoText"
  | 8 => He.ga K "NoWay"
  | 9 => He.ga K "OnWall"
  | 10 => He.ga K "Over"
  | 11 => He.ga K "Overlap"
  | 12 => He.ga K "TooLong"
  | 13 => He.ga K "TooMany"
  | _ => 0
abbrev RR : PySem.W.OpenRow := PySem.W.OpenLaw.row PySem.Challenge.rw_bouncewise_k85_out_of_the_box
def exN : List Str := [("OutOfBox" : Str)]
def exF (K : PySem.W.Frag) : Bool := exN.all (exB K)
abbrev hk : PySem.W.Hook := He.hookX 4 fa fn [] [] exF
def ob (s : PySem.W.SharedT) : He.AlX := He.obsX 4 fa fn [] [] exF (HandSHeadRun.getT s)
theorem ob_eq (s : PySem.W.SharedT) : ob s = hk.obs s.abs := He.obsX_eq (HandSHeadRun.getT_eq s)
def loose0 : List Str := [("RoomError" : Str), ("NoPoint" : Str), ("NoWay" : Str), ("BadWall" : Str), ("TooMany" : Str), ("Overlap" : Str), ("OnWall" : Str), ("Over" : Str), ("TooLong" : Str), ("OutOfBox" : Str), ("BadDrawing" : Str), ("NoText" : Str), ("NoName" : Str), ("NoRow" : Str), ("divisor" : Str), ("point_of" : Str), ("time_of" : Str), ("look_inside" : Str), ("swung" : Str), ("box_at" : Str), ("undone" : Str), ("box_corner" : Str), ("box_round" : Str), ("_law_number" : Str), ("_law_side" : Str), ("_law_measure" : Str), ("_law_reduced" : Str), ("_law_point" : Str), ("_law_heading" : Str), ("_law_inside" : Str)]
def loose1 : List Str := [("_law_spoiled" : Str), ("_law_asked" : Str), ("_law_refused" : Str)]
def loose : List Str := loose0 ++ loose1
theorem run (w : World) : HandSHeadRun.RunEq RR (PySem.W.view RR.prog [37]) hk ob 6000 loose w := by
  intro os
  kernel_rfl
theorem facts {P : Program} {w : World} {K : PySem.W.Frag} {h : Heap} {mg : Str → Option Value} {f : Addr} (X : K.In h) (G : h.Ns mainGlobals mg) (hfa : mg ("law" : Str) = some (.ref f)) (c : He.SaysD fa fn K) (ex : exF K = true) :
    ∃ fd : FuncData, (∀ (s : Shared) (v : Value), BindsTo s fd ⟨[v], []⟩ [("script", v)]) ∧ ∀ base : Heap, K.In base → base.Ns mainGlobals mg → FnOk P w K mg base (L2.CX P w) 6 f fd ["script"] (spOf K S_law) := by
  obtain ⟨fd0, F0⟩ := c.def_ 0 (d := dD 16 "divisor") rfl
  obtain ⟨fd1, F1⟩ := c.def_ 1 (d := dD 17 "point_of") rfl
  obtain ⟨fd2, F2⟩ := c.def_ 2 (d := dD 18 "time_of") rfl
  obtain ⟨fd3, F3⟩ := c.def_ 3 (d := dD 20 "look_inside") rfl
  obtain ⟨fd4, F4⟩ := c.def_ 4 (d := dD 21 "swung") rfl
  obtain ⟨fd5, F5⟩ := c.def_ 5 (d := dD 22 "box_at") rfl
  obtain ⟨fd6, F6⟩ := c.def_ 6 (d := dD 23 "undone") rfl
  obtain ⟨fd7, F7⟩ := c.def_ 7 (d := dD 24 "box_corner") rfl
  obtain ⟨fd8, F8⟩ := c.def_ 8 (d := dD 25 "box_round") rfl
  obtain ⟨fd9, F9⟩ := c.def_ 9 (d := dD 27 "_law_number") rfl
  obtain ⟨fd10, F10⟩ := c.def_ 10 (d := dD 28 "_law_side") rfl
  obtain ⟨fd11, F11⟩ := c.def_ 11 (d := dD 29 "_law_measure") rfl
  obtain ⟨fd12, F12⟩ := c.def_ 12 (d := dD 30 "_law_reduced") rfl
  obtain ⟨fd13, F13⟩ := c.def_ 13 (d := dD 31 "_law_point") rfl
  obtain ⟨fd14, F14⟩ := c.def_ 14 (d := dD 32 "_law_heading") rfl
  obtain ⟨fd15, F15⟩ := c.def_ 15 (d := dD 33 "_law_inside") rfl
  obtain ⟨fd16, F16⟩ := c.def_ 16 (d := dD 34 "_law_spoiled") rfl
  obtain ⟨fd17, F17⟩ := c.def_ 17 (d := dD 35 "_law_asked") rfl
  obtain ⟨fd18, F18⟩ := c.def_ 18 (d := dD 36 "_law_refused") rfl
  obtain ⟨fd19, F19⟩ := c.def_ 19 (d := dD 37 "law") rfl
  have m_ValueError := He.free_ok X G (c.fact 20 (f := .free "ValueError") rfl)
  have m_abs := He.free_ok X G (c.fact 21 (f := .free "abs") rfl)
  have m_divmod := He.free_ok X G (c.fact 22 (f := .free "divmod") rfl)
  have m_int := He.free_ok X G (c.fact 23 (f := .free "int") rfl)
  have m_isinstance := He.free_ok X G (c.fact 24 (f := .free "isinstance") rfl)
  have m_len := He.free_ok X G (c.fact 25 (f := .free "len") rfl)
  have m_range := He.free_ok X G (c.fact 26 (f := .free "range") rfl)
  have m_sorted := He.free_ok X G (c.fact 27 (f := .free "sorted") rfl)
  have m_tuple := He.free_ok X G (c.fact 28 (f := .free "tuple") rfl)
  have gc_BadDrawing : mg "BadDrawing" = some (.ref (ecOf K 2)) := He.glo_ok X G (c.fact 29 (f := .glo "BadDrawing") rfl)
  have gc_BadWall : mg "BadWall" = some (.ref (ecOf K 3)) := He.glo_ok X G (c.fact 30 (f := .glo "BadWall") rfl)
  have gc_NoName : mg "NoName" = some (.ref (ecOf K 4)) := He.glo_ok X G (c.fact 31 (f := .glo "NoName") rfl)
  have gc_NoPoint : mg "NoPoint" = some (.ref (ecOf K 5)) := He.glo_ok X G (c.fact 32 (f := .glo "NoPoint") rfl)
  have gc_NoRow : mg "NoRow" = some (.ref (ecOf K 6)) := He.glo_ok X G (c.fact 33 (f := .glo "NoRow") rfl)
  have gc_NoText : mg "NoText" = some (.ref (ecOf K 7)) := He.glo_ok X G (c.fact 34 (f := .glo "NoText") rfl)
  have gc_NoWay : mg "NoWay" = some (.ref (ecOf K 8)) := He.glo_ok X G (c.fact 35 (f := .glo "NoWay") rfl)
  have gc_OnWall : mg "OnWall" = some (.ref (ecOf K 9)) := He.glo_ok X G (c.fact 36 (f := .glo "OnWall") rfl)
  have gc_OutOfBox : mg "OutOfBox" = some (.ref (ecOf K 0)) := He.glo_ok X G (c.fact 37 (f := .glo "OutOfBox") rfl)
  have gc_Over : mg "Over" = some (.ref (ecOf K 10)) := He.glo_ok X G (c.fact 38 (f := .glo "Over") rfl)
  have gc_Overlap : mg "Overlap" = some (.ref (ecOf K 11)) := He.glo_ok X G (c.fact 39 (f := .glo "Overlap") rfl)
  have gc_RoomError : mg "RoomError" = some (.ref (ecOf K 1)) := He.glo_ok X G (c.fact 40 (f := .glo "RoomError") rfl)
  have gc_TooLong : mg "TooLong" = some (.ref (ecOf K 12)) := He.glo_ok X G (c.fact 41 (f := .glo "TooLong") rfl)
  have gc_TooMany : mg "TooMany" = some (.ref (ecOf K 13)) := He.glo_ok X G (c.fact 42 (f := .glo "TooMany") rfl)
  have xk_OutOfBox := exOk_of (List.all_eq_true.mp ex "OutOfBox" (by decide))
  have xc_OutOfBox : ExcC K (ecOf K 0) := xk_OutOfBox.1
  have kv_OutOfBox : PySem.W.kitOne K (.ref (ecOf K 0)) (.type "ValueError") = some true := xk_OutOfBox.2
  have ec_OutOfBox : ExcN K mg "OutOfBox" (ecOf K 0) := ⟨He.glo_ok X G (c.fact 43 (f := .glo "OutOfBox") rfl), (He.exc_ok (c.fact 44 (f := .exc "OutOfBox") rfl)).1, (He.exc_ok (c.fact 44 (f := .exc "OutOfBox") rfl)).2.1, (He.exc_ok (c.fact 44 (f := .exc "OutOfBox") rfl)).2.2.1, (He.exc_ok (c.fact 44 (f := .exc "OutOfBox") rfl)).2.2.2⟩
  have xm_OutOfBox__BadDrawing__false : PySem.W.exmOne K (.ref (ecOf K 0)) (.ref (ecOf K 2)) = some false := He.exm_ok (c.fact 45 (f := .exm "OutOfBox" "BadDrawing" false) rfl)
  have xm_OutOfBox__BadWall__false : PySem.W.exmOne K (.ref (ecOf K 0)) (.ref (ecOf K 3)) = some false := He.exm_ok (c.fact 46 (f := .exm "OutOfBox" "BadWall" false) rfl)
  have xm_OutOfBox__NoName__false : PySem.W.exmOne K (.ref (ecOf K 0)) (.ref (ecOf K 4)) = some false := He.exm_ok (c.fact 47 (f := .exm "OutOfBox" "NoName" false) rfl)
  have xm_OutOfBox__NoPoint__false : PySem.W.exmOne K (.ref (ecOf K 0)) (.ref (ecOf K 5)) = some false := He.exm_ok (c.fact 48 (f := .exm "OutOfBox" "NoPoint" false) rfl)
  have xm_OutOfBox__NoRow__false : PySem.W.exmOne K (.ref (ecOf K 0)) (.ref (ecOf K 6)) = some false := He.exm_ok (c.fact 49 (f := .exm "OutOfBox" "NoRow" false) rfl)
  have xm_OutOfBox__NoText__false : PySem.W.exmOne K (.ref (ecOf K 0)) (.ref (ecOf K 7)) = some false := He.exm_ok (c.fact 50 (f := .exm "OutOfBox" "NoText" false) rfl)
  have xm_OutOfBox__NoWay__false : PySem.W.exmOne K (.ref (ecOf K 0)) (.ref (ecOf K 8)) = some false := He.exm_ok (c.fact 51 (f := .exm "OutOfBox" "NoWay" false) rfl)
  have xm_OutOfBox__OnWall__false : PySem.W.exmOne K (.ref (ecOf K 0)) (.ref (ecOf K 9)) = some false := He.exm_ok (c.fact 52 (f := .exm "OutOfBox" "OnWall" false) rfl)
  have xm_OutOfBox__OutOfBox__true : PySem.W.exmOne K (.ref (ecOf K 0)) (.ref (ecOf K 0)) = some true := He.exm_ok (c.fact 53 (f := .exm "OutOfBox" "OutOfBox" true) rfl)
  have xm_OutOfBox__Over__false : PySem.W.exmOne K (.ref (ecOf K 0)) (.ref (ecOf K 10)) = some false := He.exm_ok (c.fact 54 (f := .exm "OutOfBox" "Over" false) rfl)
  have xm_OutOfBox__Overlap__false : PySem.W.exmOne K (.ref (ecOf K 0)) (.ref (ecOf K 11)) = some false := He.exm_ok (c.fact 55 (f := .exm "OutOfBox" "Overlap" false) rfl)
  have xm_OutOfBox__RoomError__true : PySem.W.exmOne K (.ref (ecOf K 0)) (.ref (ecOf K 1)) = some true := He.exm_ok (c.fact 56 (f := .exm "OutOfBox" "RoomError" true) rfl)
  have xm_OutOfBox__TooLong__false : PySem.W.exmOne K (.ref (ecOf K 0)) (.ref (ecOf K 12)) = some false := He.exm_ok (c.fact 57 (f := .exm "OutOfBox" "TooLong" false) rfl)
  have xm_OutOfBox__TooMany__false : PySem.W.exmOne K (.ref (ecOf K 0)) (.ref (ecOf K 13)) = some false := He.exm_ok (c.fact 58 (f := .exm "OutOfBox" "TooMany" false) rfl)
  have e := hfa.symm.trans (He.glo_ok X G (c.fact 19 (f := .glo "law") rfl))
  cases e
  refine ⟨fd19, fun s v => FunD.bindsA (ps := ["script"]) F19 (fun _ _ _ _ _ _ us hl => match us, hl with | [_], _ => rfl) s [v] rfl, fun base KB GB => ?_⟩
  have d_divisor : DefOk P w K mg base 1 "divisor" [("one" : Str), ("other" : Str)] S_divisor := ⟨_, _, He.glo_ok X G (c.fact 0 (f := .glo "divisor") rfl), F0.kp, F0.bindsN (fun _ _ _ _ _ _ us hl => match us, hl with | [_, _], _ => rfl), w_divisor F0 m_abs⟩
  have d_point_of : DefOk P w K mg base 2 "point_of" [("x" : Str), ("y" : Str), ("w" : Str)] S_point_of := ⟨_, _, He.glo_ok X G (c.fact 1 (f := .glo "point_of") rfl), F1.kp, F1.bindsN (fun _ _ _ _ _ _ us hl => match us, hl with | [_, _, _], _ => rfl), w_point_of F1 d_divisor⟩
  have d_time_of : DefOk P w K mg base 2 "time_of" [("top" : Str), ("bottom" : Str)] S_time_of := ⟨_, _, He.glo_ok X G (c.fact 2 (f := .glo "time_of") rfl), F2.kp, F2.bindsN (fun _ _ _ _ _ _ us hl => match us, hl with | [_, _], _ => rfl), w_time_of F2 d_divisor⟩
  have d_look_inside : DefOk P w K mg base 1 "look_inside" [("wide" : Str), ("high" : Str), ("P" : Str)] (S_look_inside (ecOf K)) := ⟨_, _, He.glo_ok X G (c.fact 3 (f := .glo "look_inside") rfl), F3.kp, F3.bindsN (fun _ _ _ _ _ _ us hl => match us, hl with | [_, _, _], _ => rfl), w_look_inside F3 ec_OutOfBox⟩
  have d_swung_0 : DefOk P w K mg base 0 "swung" [("far" : Str), ("span" : Str), ("step" : Str)] S_swung_0 := ⟨_, _, He.glo_ok X G (c.fact 4 (f := .glo "swung") rfl), F4.kp, F4.bindsN (fun _ _ _ _ _ _ us hl => match us, hl with | [_, _, _], _ => rfl), fn_false (fun _ _ h => by obtain ⟨_, _, _, _, z, _⟩ := h; exact z)⟩
  have d_swung_1 : DefOk P w K mg base 1 "swung" [("far" : Str), ("span" : Str), ("step" : Str)] S_swung_1 := ⟨_, _, He.glo_ok X G (c.fact 4 (f := .glo "swung") rfl), F4.kp, F4.bindsN (fun _ _ _ _ _ _ us hl => match us, hl with | [_, _, _], _ => rfl), w_swung_1 F4 d_swung_0 m_divmod⟩
  have d_swung : DefOk P w K mg base 2 "swung" [("far" : Str), ("span" : Str), ("step" : Str)] S_swung := ⟨_, _, He.glo_ok X G (c.fact 4 (f := .glo "swung") rfl), F4.kp, F4.bindsN (fun _ _ _ _ _ _ us hl => match us, hl with | [_, _, _], _ => rfl), w_swung F4 d_swung_1 m_divmod⟩
  have d_box_at : DefOk P w K mg base 3 "box_at" [("wide" : Str), ("high" : Str), ("P" : Str), ("heading" : Str), ("t" : Str)] (S_box_at (ecOf K)) := ⟨_, _, He.glo_ok X G (c.fact 5 (f := .glo "box_at") rfl), F5.kp, F5.bindsN (fun _ _ _ _ _ _ us hl => match us, hl with | [_, _, _, _, _], _ => rfl), w_box_at F5 d_look_inside d_point_of d_swung⟩
  have d_undone : DefOk P w K mg base 1 "undone" [("one" : Str), ("other" : Str)] S_undone := ⟨_, _, He.glo_ok X G (c.fact 6 (f := .glo "undone") rfl), F6.kp, F6.bindsN (fun _ _ _ _ _ _ us hl => match us, hl with | [_, _], _ => rfl), w_undone F6⟩
  have d_box_corner : DefOk P w K mg base 3 "box_corner" [("wide" : Str), ("high" : Str), ("P" : Str), ("heading" : Str)] (S_box_corner (ecOf K)) := ⟨_, _, He.glo_ok X G (c.fact 7 (f := .glo "box_corner") rfl), F7.kp, F7.bindsN (fun _ _ _ _ _ _ us hl => match us, hl with | [_, _, _, _], _ => rfl), w_box_corner F7 d_divisor d_look_inside d_time_of d_undone m_abs⟩
  have d_box_round : DefOk P w K mg base 2 "box_round" [("wide" : Str), ("high" : Str), ("P" : Str), ("heading" : Str)] (S_box_round (ecOf K)) := ⟨_, _, He.glo_ok X G (c.fact 8 (f := .glo "box_round") rfl), F8.kp, F8.bindsN (fun _ _ _ _ _ _ us hl => match us, hl with | [_, _, _, _], _ => rfl), w_box_round F8 d_divisor d_look_inside m_abs⟩
  have d_law_number : DefOk P w K mg base 1 "_law_number" [("cell" : Str)] S_law_number := ⟨_, _, He.glo_ok X G (c.fact 9 (f := .glo "_law_number") rfl), F9.kp, F9.bindsN (fun _ _ _ _ _ _ us hl => match us, hl with | [_], _ => rfl), w_law_number F9⟩
  have d_law_side : DefOk P w K mg base 1 "_law_side" [("cell" : Str)] S_law_side := ⟨_, _, He.glo_ok X G (c.fact 10 (f := .glo "_law_side") rfl), F10.kp, F10.bindsN (fun _ _ _ _ _ _ us hl => match us, hl with | [_], _ => rfl), w_law_side F10⟩
  have d_law_measure : DefOk P w K mg base 1 "_law_measure" [("one" : Str), ("other" : Str)] S_law_measure := ⟨_, _, He.glo_ok X G (c.fact 11 (f := .glo "_law_measure") rfl), F11.kp, F11.bindsN (fun _ _ _ _ _ _ us hl => match us, hl with | [_, _], _ => rfl), w_law_measure F11 m_abs m_sorted⟩
  have d_law_reduced : DefOk P w K mg base 2 "_law_reduced" [("top" : Str), ("bottom" : Str)] S_law_reduced := ⟨_, _, He.glo_ok X G (c.fact 12 (f := .glo "_law_reduced") rfl), F12.kp, F12.bindsN (fun _ _ _ _ _ _ us hl => match us, hl with | [_, _], _ => rfl), w_law_reduced F12 d_law_measure m_tuple⟩
  have d_law_point : DefOk P w K mg base 2 "_law_point" [("x" : Str), ("y" : Str), ("w" : Str)] S_law_point := ⟨_, _, He.glo_ok X G (c.fact 13 (f := .glo "_law_point") rfl), F13.kp, F13.bindsN (fun _ _ _ _ _ _ us hl => match us, hl with | [_, _, _], _ => rfl), w_law_point F13 d_law_measure m_tuple⟩
  have d_law_heading : DefOk P w K mg base 3 "_law_heading" [("a" : Str), ("b" : Str)] S_law_heading := ⟨_, _, He.glo_ok X G (c.fact 14 (f := .glo "_law_heading") rfl), F14.kp, F14.bindsN (fun _ _ _ _ _ _ us hl => match us, hl with | [_, _], _ => rfl), w_law_heading F14 d_law_reduced⟩
  have d_law_inside : DefOk P w K mg base 3 "_law_inside" [("wide" : Str), ("high" : Str), ("some" : Str)] S_law_inside := ⟨_, _, He.glo_ok X G (c.fact 15 (f := .glo "_law_inside") rfl), F15.kp, F15.bindsN (fun _ _ _ _ _ _ us hl => match us, hl with | [_, _, _], _ => rfl), w_law_inside F15 d_law_point m_abs⟩
  have d_law_spoiled : DefOk P w K mg base 3 "_law_spoiled" [("way" : Str), ("wide" : Str), ("high" : Str), ("P" : Str), ("low" : Str)] S_law_spoiled := ⟨_, _, He.glo_ok X G (c.fact 16 (f := .glo "_law_spoiled") rfl), F16.kp, F16.bindsN (fun _ _ _ _ _ _ us hl => match us, hl with | [_, _, _, _, _], _ => rfl), w_law_spoiled F16 d_law_point⟩
  have d_law_asked : DefOk P w K mg base 4 "_law_asked" [("number" : Str), ("wide" : Str), ("high" : Str), ("P" : Str), ("heading" : Str)] (S_law_asked (ecOf K)) := ⟨_, _, He.glo_ok X G (c.fact 17 (f := .glo "_law_asked") rfl), F17.kp, F17.bindsN (fun _ _ _ _ _ _ us hl => match us, hl with | [_, _, _, _, _], _ => rfl), w_law_asked F17 d_box_at d_box_corner d_box_round⟩
  have d_law_refused : DefOk P w K mg base 5 "_law_refused" [("number" : Str), ("wide" : Str), ("high" : Str), ("P" : Str), ("heading" : Str)] S_law_refused := ⟨_, _, He.glo_ok X G (c.fact 18 (f := .glo "_law_refused") rfl), F18.kp, F18.bindsN (fun _ _ _ _ _ _ us hl => match us, hl with | [_, _, _, _, _], _ => rfl), w_law_refused F18 xc_OutOfBox d_law_asked gc_BadDrawing gc_BadWall gc_NoName gc_NoPoint gc_NoRow gc_NoText gc_NoWay gc_OnWall gc_OutOfBox gc_Over gc_Overlap gc_RoomError gc_TooLong gc_TooMany m_ValueError m_int m_isinstance kv_OutOfBox xm_OutOfBox__BadDrawing__false xm_OutOfBox__BadWall__false xm_OutOfBox__NoName__false xm_OutOfBox__NoPoint__false xm_OutOfBox__NoRow__false xm_OutOfBox__NoText__false xm_OutOfBox__NoWay__false xm_OutOfBox__OnWall__false xm_OutOfBox__OutOfBox__true xm_OutOfBox__Over__false xm_OutOfBox__Overlap__false xm_OutOfBox__RoomError__true xm_OutOfBox__TooLong__false xm_OutOfBox__TooMany__false⟩
  exact w_law F19 d_law_heading d_law_inside d_law_number d_law_refused d_law_side d_law_spoiled d_box_at m_abs m_len m_range
end Bw
open PySem PySem.W PySem.Calls PyProof.Rows
set_option maxRecDepth 100000 in
set_option maxHeartbeats 0 in
theorem PySem.Challenge.cw_bouncewise_k85_out_of_the_box_holds : PySem.Challenge.rw_bouncewise_k85_out_of_the_box.Holds := by
  w_on; o_law
  refine HandSHeadRun.head_any (r := OpenLaw.row PySem.Challenge.rw_bouncewise_k85_out_of_the_box) (q := view (OpenLaw.row PySem.Challenge.rw_bouncewise_k85_out_of_the_box).prog [37]) (H := Bw.hk) (ob := Bw.ob) (M := 6000) (loose := Bw.loose) (d := HandSHeadRun.topDef (OpenLaw.row PySem.Challenge.rw_bouncewise_k85_out_of_the_box).prog 37) (kwd := []) Bw.ob_eq
    (by kernel_rfl) (fun s => by kernel_rfl) Bw.run (by kernel_rfl) (by kernel_rfl) (by kernel_rfl) (by rfl) (by first | assumption | decide +kernel) (by decide +kernel) ⟨rfl, rfl, rfl, rfl, rfl, by decide +kernel⟩ ?hw ?hc
  case hw => w_witness2
  case hc =>
    refine Bw.walk_ofEB (l := PySem.Challenge.rw_bouncewise_k85_out_of_the_box) (n := 63) (k := 6) (x := "script") rfl (by decide) (by kernel_rfl) ⟨rfl, by decide, by decide⟩ ?F
    intro w mg fa h Y G hmg0
    obtain ⟨K, KX, c⟩ := Y
    have hmg : mg ("law" : PySem.Str) = some (.ref fa) := by
      have e : (HandSHeadRun.topDef (OpenLaw.row PySem.Challenge.rw_bouncewise_k85_out_of_the_box).prog 37).name = ("law" : PySem.Str) := by kernel_rfl
      rw [← e]
      exact hmg0
    obtain ⟨fd, hb, hF⟩ := Bw.facts (P := (PySem.Challenge.rw_bouncewise_k85_out_of_the_box).prog) (w := w) KX G hmg (congrArg Prod.fst c.t) c.more
    exact ⟨K, fd, Bw.S_law, KX, hb, fun ns hl hbits => ⟨ns, rfl, Bw.plain ns hl hbits⟩, hF⟩
