import PyProof.Rows.All
import Wide.All
import OpenK.AllK
import Wide.FinOn
import HandS.ForMost
import HandS.TupAny
import HandS.IsInst
import HandS.Wide
import HandS.SortInts
import HandS.Style
import HandS.Exc
import HandS.ExcOwn
import HandS.TryOnly
import HandS.WordsExc
import HandS.SetFor
import HandS.More
import HandS.Conv
import HandS.Deep
import HandS.ExcIs
import HandS.Dict
import HandS.NoneIn
import HandS.Defaults
import HandS.Text
import HandS.ExcInit
import HandS.ExcField
import PyProof.StrOps2
import PySem.Challenge.RW_coverpapers_k29_invalid_texts
set_option Elab.async false
set_option linter.all false
set_option maxRecDepth 100000
/-! Y: a layer of two tiers over HandS: frozen data (PyData, in F) and owned lists by name (in O). -/
namespace Y
open PySem PySem.Spec PyProof.Rows L2

inductive OV where
  | d (x : PyData)
  | o (a : Addr)
  | t (xs : List OV)
  | s (ns : List Int)
  | ty (n : String)
  | cls (C : Addr)
inductive OO where
  | lst (xs : List OV)
  | dk (kvs : List (Key × OV))
  | ins (C dx : Addr) (fs : List (Str × OV))
  | own (x : Addr)
  | xd (fs : List (Str × OV))
abbrev Oh := Addr → Option OO
abbrev En := List (Option OV)
def updO (O : Oh) (a : Addr) (o : OO) : Oh := fun b => if b = a then some o else O b
def delO (O : Oh) (a : Addr) : Oh := fun b => if b = a then none else O b
theorem updO_same {O : Oh} {a : Addr} {o : OO} : updO O a o a = some o := by unfold updO; rw [if_pos rfl]
theorem updO_ne {O : Oh} {a b : Addr} {o : OO} (h : b ≠ a) : updO O a o b = O b := by unfold updO; rw [if_neg h]
theorem updO_updO {O : Oh} {a : Addr} {o u : OO} : updO (updO O a o) a u = updO O a u := by
  funext b; unfold updO; split <;> rfl
theorem updO_comm {O : Oh} {a b : Addr} {o u : OO} (h : a ≠ b) : updO (updO O a o) b u = updO (updO O b u) a o := by
  funext c; unfold updO
  by_cases h1 : c = b
  · rw [if_pos h1, if_neg (fun e => h (e.symm.trans h1)), if_pos h1]
  · rw [if_neg h1]; by_cases h2 : c = a
    · rw [if_pos h2, if_pos h2]
    · rw [if_neg h2, if_neg h2, if_neg h1]
theorem updO_self {O : Oh} {a : Addr} {o : OO} (h : O a = some o) : updO O a o = O := by
  funext b; unfold updO; split
  · rename_i e; rw [e, h]
  · rfl
theorem delO_updO {O : Oh} {a : Addr} {o : OO} (h : O a = none) : delO (updO O a o) a = O := by
  funext b; unfold delO updO; split
  · rename_i e; rw [e, h]
  · rfl
theorem delO_same {O : Oh} {a : Addr} : delO O a a = none := by unfold delO; rw [if_pos rfl]
theorem delO_ne {O : Oh} {a b : Addr} (h : b ≠ a) : delO O a b = O b := by unfold delO; rw [if_neg h]

/-! ### data over a heap -/
mutual
inductive Dq (K : PySem.W.Frag) (F : Hp) : PyData → V → Prop
  | non : Dq K F .none .non
  | bl (b : Bool) : Dq K F (.bool b) (.bl b)
  | int (i : Int) : Dq K F (.int i) (.int i)
  | str (x : Str) : Dq K F (.str x) (.str x)
  | lst {a : Addr} {vs : List V} {ds : List PyData} : F a = some (.lst vs) → DqA K F ds vs → Dq K F (.list ds) (.ref a)
  | tup {a : Addr} {vs : List V} {ds : List PyData} : SqT K F a vs → DqA K F ds vs → Dq K F (.tuple ds) (.ref a)
inductive DqA (K : PySem.W.Frag) (F : Hp) : List PyData → List V → Prop
  | nil : DqA K F [] []
  | cons {d : PyData} {v : V} {ds : List PyData} {vs : List V} : Dq K F d v → DqA K F ds vs → DqA K F (d :: ds) (v :: vs)
end
mutual
inductive RV (K : PySem.W.Frag) (F : Hp) : OV → V → Prop
  | d {x : PyData} {v : V} : Dq K F x v → RV K F (.d x) v
  | o {a : Addr} : RV K F (.o a) (.ref a)
  | t {a : Addr} {xs : List OV} {vs : List V} : SqT K F a vs → RVs K F xs vs → RV K F (.t xs) (.ref a)
  | s {a : Addr} {ns : List Int} : SqL K F a (ns.map V.int) → RV K F (.s ns) (.ref a)
  | ty {n : String} : RV K F (.ty n) (.ty n)
  | cls {C : Addr} : RV K F (.cls C) (.ref C)
inductive RVs (K : PySem.W.Frag) (F : Hp) : List OV → List V → Prop
  | nil : RVs K F [] []
  | cons {x : OV} {v : V} {xs : List OV} {vs : List V} : RV K F x v → RVs K F xs vs → RVs K F (x :: xs) (v :: vs)
end
inductive RPs {κ : Type} (K : PySem.W.Frag) (F : Hp) : List (κ × OV) → List (κ × V) → Prop
  | nil : RPs K F [] []
  | cons {k : κ} {x : OV} {v : V} {xs : List (κ × OV)} {vs : List (κ × V)} : RV K F x v → RPs K F xs vs → RPs K F ((k, x) :: xs) ((k, v) :: vs)
def RO (K : PySem.W.Frag) (F : Hp) : OO → HO → Prop
  | .lst xs, h => ∃ vs, h = .lst vs ∧ RVs K F xs vs
  | .dk kvs, h => ∃ vs, h = .dK vs ∧ RPs K F kvs vs
  | .ins C dx fs, h => ∃ vs, h = .ins C dx vs ∧ RPs K F fs vs
  | .own x, h => h = .own x
  | .xd fs, h => ∃ vs, h = .xd vs ∧ RPs K F fs vs

section
variable {K : PySem.W.Frag} {F F' : Hp}
theorem seqT_mono (e : Same F F') {a : Addr} {vs : List V} (h : SqT K F a vs) : SqT K F' a vs := by
  rcases h with (h | ⟨o, h⟩) | h
  · exact .inl (.inl (e _ _ h))
  · exact .inl (.inr ⟨o, e _ _ h⟩)
  · exact .inr h
mutual
theorem Dq.mono (e : Same F F') : ∀ {x : PyData} {v : V}, Dq K F x v → Dq K F' x v
  | _, _, .non => .non
  | _, _, .bl b => .bl b
  | _, _, .int i => .int i
  | _, _, .str x => .str x
  | _, _, .lst h hs => .lst (e _ _ h) (DqA.mono e hs)
  | _, _, .tup h hs => .tup (seqT_mono e h) (DqA.mono e hs)
theorem DqA.mono (e : Same F F') : ∀ {xs : List PyData} {vs : List V}, DqA K F xs vs → DqA K F' xs vs
  | _, _, .nil => .nil
  | _, _, .cons h hs => .cons (Dq.mono e h) (DqA.mono e hs)
end
mutual
theorem RV.mono (e : Same F F') : ∀ {x : OV} {v : V}, RV K F x v → RV K F' x v
  | _, _, .d h => .d (h.mono e)
  | _, _, .o => .o
  | _, _, .t h hs => .t (seqT_mono e h) (RVs.mono e hs)
  | _, _, .s h => .s (e.seq h)
  | _, _, .ty => .ty
  | _, _, .cls => .cls
theorem RVs.mono (e : Same F F') : ∀ {xs : List OV} {vs : List V}, RVs K F xs vs → RVs K F' xs vs
  | _, _, .nil => .nil
  | _, _, .cons h hs => .cons (RV.mono e h) (RVs.mono e hs)
end
theorem RPs.mono {κ : Type} (e : Same F F') : ∀ {xs : List (κ × OV)} {vs : List (κ × V)}, RPs K F xs vs → RPs K F' xs vs
  | _, _, .nil => .nil
  | _, _, .cons h hs => .cons (h.mono e) (RPs.mono e hs)
theorem RO.mono (e : Same F F') {o : OO} {h : HO} (r : RO K F o h) : RO K F' o h := by
  cases o with
  | lst xs => obtain ⟨vs, q, r⟩ := r; exact ⟨vs, q, r.mono e⟩
  | dk xs => obtain ⟨vs, q, r⟩ := r; exact ⟨vs, q, r.mono e⟩
  | ins C dx xs => obtain ⟨vs, q, r⟩ := r; exact ⟨vs, q, r.mono e⟩
  | own x => exact r
  | xd xs => obtain ⟨vs, q, r⟩ := r; exact ⟨vs, q, r.mono e⟩
theorem RVs.length : ∀ {xs : List OV} {vs : List V}, RVs K F xs vs → xs.length = vs.length
  | _, _, .nil => rfl
  | _, _, .cons _ hs => by rw [List.length_cons, List.length_cons, RVs.length hs]
theorem DqA.length : ∀ {xs : List PyData} {vs : List V}, DqA K F xs vs → xs.length = vs.length
  | _, _, .nil => rfl
  | _, _, .cons _ hs => by rw [List.length_cons, List.length_cons, DqA.length hs]
theorem RVs.get : ∀ {xs : List OV} {vs : List V} {i : Nat} {x : OV}, RVs K F xs vs → xs[i]? = some x → ∃ v, vs[i]? = some v ∧ RV K F x v
  | _, _, _, _, .nil, e => by simp at e
  | _, _, 0, _, .cons r _, e => by simp at e; subst e; exact ⟨_, rfl, r⟩
  | _, _, i + 1, x, .cons _ t, e => by
    obtain ⟨u, h1, h2⟩ := RVs.get (i := i) (x := x) t (by simpa using e)
    exact ⟨u, by simpa using h1, h2⟩
theorem RVs.ofData : ∀ {ds : List PyData} {vs : List V}, DqA K F ds vs → RVs K F (ds.map OV.d) vs
  | _, _, .nil => .nil
  | _, _, .cons h hs => .cons (.d h) (RVs.ofData hs)
theorem RVs.toData : ∀ {ds : List PyData} {vs : List V}, RVs K F (ds.map OV.d) vs → DqA K F ds vs
  | [], _, .nil => .nil
  | _ :: _, _, .cons (.d h) hs => .cons h (RVs.toData hs)
theorem RVs.append : ∀ {xs ys : List OV} {vs ws : List V}, RVs K F xs vs → RVs K F ys ws → RVs K F (xs ++ ys) (vs ++ ws)
  | _, _, _, _, .nil, s => s
  | _, _, _, _, .cons r t, s => .cons r (RVs.append t s)
theorem RVs.set {x : OV} {v : V} (r : RV K F x v) : ∀ {xs : List OV} {vs : List V} (i : Nat), RVs K F xs vs → RVs K F (xs.set i x) (vs.set i v)
  | _, _, _, .nil => .nil
  | _, _, 0, .cons _ t => .cons r t
  | _, _, i + 1, .cons q t => .cons q (RVs.set r i t)
theorem RVs.take : ∀ {xs : List OV} {us : List V} (n : Nat), RVs K F xs us → RVs K F (xs.take n) (us.take n)
  | _, _, 0, _ => .nil
  | _, _, _ + 1, .nil => .nil
  | _, _, n + 1, .cons r t => .cons r (RVs.take n t)
theorem RVs.drop : ∀ {xs : List OV} {us : List V} (n : Nat), RVs K F xs us → RVs K F (xs.drop n) (us.drop n)
  | _, _, 0, r => r
  | _, _, _ + 1, .nil => .nil
  | _, _, n + 1, .cons _ t => RVs.drop n t
theorem RVs.reverse {xs : List OV} {us : List V} (r : RVs K F xs us) : RVs K F xs.reverse us.reverse := by
  induction xs generalizing us with
  | nil => cases r; exact .nil
  | cons x xs ih => cases r with | cons h t => rw [List.reverse_cons, List.reverse_cons]; exact (ih t).append (.cons h .nil)
theorem RVs.eraseIdx : ∀ {xs : List OV} {us : List V} (n : Nat), RVs K F xs us → RVs K F (xs.eraseIdx n) (us.eraseIdx n)
  | _, _, _, .nil => .nil
  | _, _, 0, .cons _ t => t
  | _, _, n + 1, .cons r t => .cons r (RVs.eraseIdx n t)
theorem RVs.insertIdx {x : OV} {v : V} (r : RV K F x v) : ∀ {xs : List OV} {us : List V} (n : Nat), RVs K F xs us → RVs K F (xs.insertIdx n x) (us.insertIdx n v)
  | _, _, 0, h => .cons r h
  | _, _, _ + 1, .nil => .nil
  | _, _, n + 1, .cons q t => .cons q (RVs.insertIdx r n t)
theorem DqA.ofInts : ∀ {ns : List Int} {vs : List V}, DqA K F (ns.map PyData.int) vs → vs = ns.map V.int
  | [], _, .nil => rfl
  | _ :: _, _, .cons (.int i) hs => by rw [DqA.ofInts hs]; rfl
theorem DqA.ints : ∀ {ns : List Int}, DqA K F (ns.map PyData.int) (ns.map V.int)
  | [] => .nil
  | _ :: _ => .cons (.int _) DqA.ints
mutual
theorem Dq.dp : ∀ {x : PyData} {v : V}, Dq K F x v → Dp K F v x
  | _, _, .non => .non
  | _, _, .bl b => .bl b
  | _, _, .int i => .int i
  | _, _, .str x => .str x
  | _, _, .lst h hs => .lst (SqL.of h) (DqA.dp hs)
  | _, _, .tup h hs => .tup h (DqA.dp hs)
theorem DqA.dp : ∀ {xs : List PyData} {vs : List V}, DqA K F xs vs → DpAll K F vs xs
  | _, _, .nil => .nil
  | _, _, .cons h hs => .cons (Dq.dp h) (DqA.dp hs)
end
end

/-! ### states -/
structure Rep (K : PySem.W.Frag) (F : Hp) (O : Oh) (H : Hp) : Prop where
  fz : Same F H
  ow : ∀ a o, O a = some o → F a = none ∧ ∃ h, H a = some h ∧ RO K F o h
structure Step (F : Hp) (O : Oh) (H F' : Hp) (O' : Oh) (H' : Hp) : Prop where
  fx : Same F F'
  nw : ∀ a, F a = none → F' a ≠ none → H a = none ∨ O a ≠ none
  ow : ∀ a, O' a ≠ none → O a ≠ none ∨ H a = none
  fr : ∀ a h, H a = some h → O a = none → H' a = some h
theorem Step.refl {F : Hp} {O : Oh} {H : Hp} : Step F O H F O H := ⟨Same.refl F, fun _ h n => absurd h n, fun _ h => .inl h, fun _ _ h _ => h⟩
theorem Step.trans {F : Hp} {O : Oh} {H F1 : Hp} {O1 : Oh} {H1 F2 : Hp} {O2 : Oh} {H2 : Hp} (a : Step F O H F1 O1 H1) (b : Step F1 O1 H1 F2 O2 H2) : Step F O H F2 O2 H2 := by
  refine ⟨a.fx.trans b.fx, fun x h n => ?_, fun x h => ?_, fun x h e n => ?_⟩
  · by_cases q : F1 x = none
    · rcases b.nw x q n with z | z
      · cases e : H x with
        | none => exact .inl rfl
        | some u =>
          by_cases w : O x = none
          · rw [a.fr x u e w] at z; cases z
          · exact .inr w
      · rcases a.ow x z with w | w
        · exact .inr w
        · exact .inl w
    · exact a.nw x h q
  · rcases b.ow x h with z | z
    · exact a.ow x z
    · cases e : H x with
      | none => exact .inr rfl
      | some u =>
        by_cases w : O x = none
        · rw [a.fr x u e w] at z; cases z
        · exact .inl w
  · have e1 := a.fr x h e n
    refine b.fr x h e1 ?_
    cases z : O1 x with
    | none => rfl
    | some u =>
      rcases a.ow x (by rw [z]; exact fun q => nomatch q) with w | w
      · exact absurd n w
      · rw [w] at e; cases e

def RS (K : PySem.W.Frag) (F : Hp) (env : En) (st : L2.St) : Prop := env.length = st.length ∧ ∀ (i : Nat) (x : OV), env[i]? = some (some x) → ∃ v, st[i]? = some (some v) ∧ RV K F x v
theorem RS.mono {K : PySem.W.Frag} {F F' : Hp} {env : En} {st : L2.St} (e : Same F F') (r : RS K F env st) : RS K F' env st := ⟨r.1, fun i x h => by
  obtain ⟨v, h1, h2⟩ := r.2 i x h
  exact ⟨v, h1, h2.mono e⟩⟩
theorem RS.set {K : PySem.W.Frag} {F : Hp} {env : En} {st : L2.St} {x : OV} {v : V} (r : RS K F env st) (h : RV K F x v) (i : Nat) : RS K F (env.set i (some x)) (st.set i (some v)) := by
  refine ⟨by rw [List.length_set, List.length_set, r.1], fun j y e => ?_⟩
  by_cases hj : i = j
  · subst hj
    by_cases hi : i < env.length
    · rw [List.getElem?_set_self hi] at e
      cases e
      exact ⟨v, by rw [List.getElem?_set_self (by rw [← r.1]; exact hi)], h⟩
    · rw [List.getElem?_eq_none (by simpa using hi)] at e; cases e
  · rw [List.getElem?_set_ne hj] at e ⊢
    exact r.2 j y e
theorem RS.wipe {K : PySem.W.Frag} {F : Hp} {env : En} {st : L2.St} (r : RS K F env st) (i : Nat) : RS K F (env.set i none) (st.set i none) := by
  refine ⟨by rw [List.length_set, List.length_set, r.1], fun j y e => ?_⟩
  by_cases hj : i = j
  · subst hj
    by_cases hi : i < env.length
    · rw [List.getElem?_set_self hi] at e; cases e
    · rw [List.getElem?_eq_none (by simpa using hi)] at e; cases e
  · rw [List.getElem?_set_ne hj] at e ⊢
    exact r.2 j y e
theorem RS.wipe0 {K : PySem.W.Frag} {F : Hp} {env : En} {st : L2.St} (r : RS K F env st) (i : Nat) : RS K F (env.set i none) st := by
  refine ⟨by rw [List.length_set, r.1], fun j y e => ?_⟩
  by_cases hj : i = j
  · subst hj
    by_cases hi : i < env.length
    · rw [List.getElem?_set_self hi] at e; cases e
    · rw [List.getElem?_eq_none (by simpa using hi)] at e; cases e
  · rw [List.getElem?_set_ne hj] at e
    exact r.2 j y e

section
variable {K : PySem.W.Frag} {F H : Hp} {O : Oh} {p : Addr}
theorem Rep.ofree (R : Rep K F O H) (hp : H p = none) : O p = none := by
  cases e : O p with
  | none => rfl
  | some o => obtain ⟨_, h, q, _⟩ := R.ow p o e; rw [hp] at q; cases q
theorem Rep.ffree (R : Rep K F O H) (hp : H p = none) : F p = none := R.fz.free hp
/-- a new owned object -/
theorem Rep.newO {o : OO} {h : HO} (R : Rep K F O H) (hp : H p = none) (r : RO K F o h) : Rep K F (updO O p o) (upd H p h) ∧ Step F O H F (updO O p o) (upd H p h) := by
  refine ⟨⟨fun a u e => ?_, fun a u e => ?_⟩, ⟨Same.refl F, fun _ h n => absurd h n, fun a e => ?_, fun a u e n => ?_⟩⟩
  · have := R.fz a u e
    rw [upd_ne (ne_of_none this hp)]; exact this
  · by_cases ha : a = p
    · subst ha
      rw [updO_same] at e; cases e
      exact ⟨R.ffree hp, h, upd_same, r⟩
    · rw [updO_ne ha] at e
      obtain ⟨h1, h2, h3, h4⟩ := R.ow a u e
      exact ⟨h1, h2, by rw [upd_ne ha]; exact h3, h4⟩
  · by_cases ha : a = p
    · subst ha; exact .inr hp
    · rw [updO_ne ha] at e; exact .inl e
  · rw [upd_ne (ne_of_none e hp)]; exact e
/-- a new frozen object -/
theorem Rep.newF {h : HO} (R : Rep K F O H) (hp : H p = none) : Rep K (upd F p h) O (upd H p h) ∧ Step F O H (upd F p h) O (upd H p h) ∧ Same F (upd F p h) := by
  have sf : Same F (upd F p h) := fun a u e => by rw [upd_ne (ne_of_none (R.fz a u e) hp)]; exact e
  refine ⟨⟨fun a u e => ?_, fun a u e => ?_⟩, ⟨sf, fun a e n => ?_, fun a e => .inl e, fun a u e n => ?_⟩, sf⟩
  · by_cases ha : a = p
    · subst ha; rw [upd_same] at e; cases e; exact upd_same
    · rw [upd_ne ha] at e; rw [upd_ne ha]; exact R.fz a u e
  · obtain ⟨h1, h2, h3, h4⟩ := R.ow a u e
    have ha := ne_of_none h3 hp
    exact ⟨by rw [upd_ne ha]; exact h1, h2, by rw [upd_ne ha]; exact h3, h4.mono sf⟩
  · by_cases ha : a = p
    · subst ha; exact .inl hp
    · rw [upd_ne ha] at n; exact absurd e n
  · rw [upd_ne (ne_of_none e hp)]; exact e
/-- an owned object is written -/
theorem Rep.write {o o' : OO} {h : HO} (R : Rep K F O H) (hp : O p = some o') (r : RO K F o h) : Rep K F (updO O p o) (upd H p h) ∧ Step F O H F (updO O p o) (upd H p h) := by
  obtain ⟨f0, h0, q0, _⟩ := R.ow p o' hp
  refine ⟨⟨fun a u e => ?_, fun a u e => ?_⟩, ⟨Same.refl F, fun _ h n => absurd h n, fun a e => ?_, fun a u e n => ?_⟩⟩
  · rw [upd_ne (ne_of_none e f0)]; exact R.fz a u e
  · by_cases ha : a = p
    · subst ha
      rw [updO_same] at e; cases e
      exact ⟨f0, h, upd_same, r⟩
    · rw [updO_ne ha] at e
      obtain ⟨h1, h2, h3, h4⟩ := R.ow a u e
      exact ⟨h1, h2, by rw [upd_ne ha]; exact h3, h4⟩
  · by_cases ha : a = p
    · subst ha; exact .inl (by rw [hp]; exact fun q => nomatch q)
    · rw [updO_ne ha] at e; exact .inl e
  · by_cases ha : a = p
    · subst ha; rw [hp] at n; cases n
    · rw [upd_ne ha]; exact e
theorem Rep.drop {O' : Oh} (R : Rep K F O H) (s : ∀ a o, O' a = some o → O a = some o) : Rep K F O' H ∧ Step F O H F O' H :=
  ⟨⟨R.fz, fun a o e => R.ow a o (s a o e)⟩, ⟨Same.refl F, fun _ h n => absurd h n, fun a e => by
    cases q : O' a with
    | none => exact absurd q e
    | some o => exact .inl (by rw [s a o q]; exact fun z => nomatch z), fun _ _ e _ => e⟩⟩
theorem Rep.lst {xs : List OV} (R : Rep K F O H) (h : O p = some (.lst xs)) : ∃ vs, H p = some (.lst vs) ∧ RVs K F xs vs := by
  obtain ⟨_, u, h1, vs, h2, h3⟩ := R.ow p _ h
  exact ⟨vs, by rw [h1, h2], h3⟩
end

/-! ### the frozen form of a tree of owned lists -/
mutual
inductive Fz (O : Oh) : OV → PyData → Prop
  | d (x : PyData) : Fz O (.d x) x
  | o {a : Addr} {xs : List OV} {ds : List PyData} : O a = some (.lst xs) → FzA O xs ds → Fz O (.o a) (.list ds)
  | t {xs : List OV} {ds : List PyData} : FzA O xs ds → Fz O (.t xs) (.tuple ds)
inductive FzA (O : Oh) : List OV → List PyData → Prop
  | nil : FzA O [] []
  | cons {x : OV} {d : PyData} {xs : List OV} {ds : List PyData} : Fz O x d → FzA O xs ds → FzA O (x :: xs) (d :: ds)
end
inductive Rch (O : Oh) : OV → Addr → Prop
  | here {a : Addr} {xs : List OV} : O a = some (.lst xs) → Rch O (.o a) a
  | o {a b : Addr} {xs : List OV} {x : OV} : O a = some (.lst xs) → x ∈ xs → Rch O x b → Rch O (.o a) b
  | t {b : Addr} {xs : List OV} {x : OV} : x ∈ xs → Rch O x b → Rch O (.t xs) b
theorem Rch.own {O : Oh} {x : OV} {a : Addr} (h : Rch O x a) : ∃ xs, O a = some (.lst xs) := by
  induction h with
  | here h => exact ⟨_, h⟩
  | o _ _ _ ih => exact ih
  | t _ _ ih => exact ih
section
variable {K : PySem.W.Frag} {F F' H : Hp} {O : Oh}
mutual
theorem Fz.dq (R : Rep K F O H) (e : Same F F') : ∀ {r : OV} {x : PyData} {v : V}, Fz O r x → RV K F r v → (∀ a xs, Rch O r a → O a = some (.lst xs) → F' a = H a) → Dq K F' x v
  | _, _, _, .d x, .d h, _ => h.mono e
  | _, _, _, .o h hs, .o, k => by
    obtain ⟨vs, h1, h2⟩ := R.lst h
    exact .lst ((k _ _ (.here h) h).trans h1) (FzA.dqa R e hs h2 fun x hx a xs r ha => k a xs (.o h hx r) ha)
  | _, _, _, .t hs, .t h1 h2, k => .tup (seqT_mono e h1) (FzA.dqa R e hs h2 fun x hx a xs r ha => k a xs (.t hx r) ha)
theorem FzA.dqa (R : Rep K F O H) (e : Same F F') : ∀ {rs : List OV} {xs : List PyData} {vs : List V}, FzA O rs xs → RVs K F rs vs → (∀ r ∈ rs, ∀ a xs, Rch O r a → O a = some (.lst xs) → F' a = H a) → DqA K F' xs vs
  | _, _, _, .nil, .nil, _ => .nil
  | _, _, _, .cons h hs, .cons r rs, k => .cons (Fz.dq R e h r fun a xs q => k _ List.mem_cons_self a xs q) (FzA.dqa R e hs rs fun r hr a xs q => k r (List.mem_cons_of_mem _ hr) a xs q)
end
end
open Classical in
/-- weakening of a value with its state: no heap is touched -/
def Wk (O : Oh) (r : OV) (O' : Oh) (r' : OV) : Prop := ∀ (K : PySem.W.Frag) (F H : Hp) (v : V), Rep K F O H → RV K F r v → ∃ F', Step F O H F' O' H ∧ Rep K F' O' H ∧ RV K F' r' v
theorem Wk.refl (O : Oh) (r : OV) : Wk O r O r := fun K F H v R h => ⟨F, Step.refl, R, h⟩
theorem Wk.trans {O O1 O2 : Oh} {r r1 r2 : OV} (a : Wk O r O1 r1) (b : Wk O1 r1 O2 r2) : Wk O r O2 r2 := fun K F H v R h => by
  obtain ⟨F1, s1, R1, h1⟩ := a K F H v R h
  obtain ⟨F2, s2, R2, h2⟩ := b K F1 H v R1 h1
  exact ⟨F2, s1.trans s2, R2, h2⟩
theorem Wk.drop {O O' : Oh} {r : OV} (s : ∀ a o, O' a = some o → O a = some o) : Wk O r O' r := fun K F H v R h => ⟨F, (R.drop s).2, (R.drop s).1, h⟩
open Classical in
theorem Wk.fz {O O' : Oh} {r : OV} {x : PyData} (h : Fz O r x) (sub : ∀ a o, O' a = some o → O a = some o) (dis : ∀ a, Rch O r a → O' a = none) : Wk O r O' (.d x) := fun K F H v R q => by
  let F' : Hp := fun a => if Rch O r a then H a else F a
  have sf : Same F F' := fun a u e => by
    show (if Rch O r a then H a else F a) = some u
    by_cases z : Rch O r a
    · obtain ⟨xs, hx⟩ := z.own
      rw [(R.ow a _ hx).1] at e; cases e
    · rw [if_neg z]; exact e
  refine ⟨F', ⟨sf, fun a e n => ?_, fun a e => ?_, fun _ _ e _ => e⟩, ⟨fun a u e => ?_, fun a o e => ?_⟩, .d (h.dq R sf q fun a xs z _ => if_pos z)⟩
  · by_cases z : Rch O r a
    · obtain ⟨xs, hx⟩ := z.own
      exact .inr (by rw [hx]; exact fun z => nomatch z)
    · exact absurd e (by have : F' a = F a := if_neg z; rw [this] at n; exact n)
  · cases w : O' a with
    | none => exact absurd w e
    | some o => exact .inl (by rw [sub a o w]; exact fun z => nomatch z)
  · have e : (if Rch O r a then H a else F a) = some u := e
    by_cases z : Rch O r a
    · rw [if_pos z] at e; exact e
    · rw [if_neg z] at e; exact R.fz a u e
  · obtain ⟨h1, h2, h3, h4⟩ := R.ow a o (sub a o e)
    refine ⟨?_, h2, h3, h4.mono sf⟩
    show (if Rch O r a then H a else F a) = none
    rw [if_neg (fun z => by rw [dis a z] at e; cases e)]; exact h1
theorem FzA.ofData {O : Oh} : ∀ ds : List PyData, FzA O (ds.map OV.d) ds
  | [] => .nil
  | d :: ds => .cons (.d d) (FzA.ofData ds)
theorem Rch.flat {O : Oh} {p b : Addr} {ds : List PyData} (h : O p = some (.lst (ds.map OV.d))) (r : Rch O (.o p) b) : b = p := by
  cases r with
  | here _ => rfl
  | o h1 hx h2 =>
    rw [h] at h1; cases h1
    obtain ⟨d, _, rfl⟩ := List.mem_map.mp hx
    cases h2
/-- a new flat list, frozen -/
theorem Wk.flat {O : Oh} {p : Addr} {ds : List PyData} (hp : O p = none) : Wk (updO O p (.lst (ds.map OV.d))) (.o p) O (.d (.list ds)) :=
  Wk.fz (.o updO_same (FzA.ofData ds)) (fun a o e => by rw [updO_ne (fun z => by rw [z, hp] at e; cases e)]; exact e) fun a r => by rw [r.flat updO_same]; exact hp
end Y
/-! Y: judgements over two tiers, expressions. -/
namespace Y
open PySem PySem.Spec L2

abbrev AE := En → Oh → (OV → Oh → Prop) → Prop
abbrev AA := En → Oh → (List OV → Oh → Prop) → Prop
abbrev AT := En → Oh → (Bool → Oh → Prop) → Prop
structure AEnds where
  nx : En → Oh → Prop
  rt : OV → Oh → Prop
  bk : En → Oh → Prop := fun _ _ => False
  ct : En → Oh → Prop := fun _ _ => False
abbrev AS := AEnds → En → Oh → Prop
abbrev AX := Value → Option Addr → En → Oh → Prop
def XL (K : PySem.W.Frag) (F : Hp) (O : Oh) (H : Hp) (AW : AX) (W : WX) : Prop := ∀ c d env' O' F' H' st', AW c d env' O' → Step F O H F' O' H' → Rep K F' O' H' → RS K F' env' st' → W c d st' H'
theorem XL.step {K : PySem.W.Frag} {F F1 : Hp} {O O1 : Oh} {H H1 : Hp} {AW : AX} {W : WX} (x : XL K F O H AW W) (s : Step F O H F1 O1 H1) : XL K F1 O1 H1 AW W :=
  fun c d env' O' F' H' st' a s' R rs => x c d env' O' F' H' st' a (s.trans s') R rs

structure SE (K : PySem.W.Frag) (W : WX) (AW : AX) (t : TE) (T : AE) : Prop where
  run : ∀ {F : Hp} {O : Oh} {H : Hp} {st : L2.St} {env : En} {Q : VK} {R : OV → Oh → Prop}, Rep K F O H → RS K F env st → XL K F O H AW W → T env O R →
    (∀ r O' F' H' v, R r O' → Step F O H F' O' H' → Rep K F' O' H' → RV K F' r v → Q v H') → t st H Q
structure SA (K : PySem.W.Frag) (W : WX) (AW : AX) (t : TA) (T : AA) : Prop where
  run : ∀ {F : Hp} {O : Oh} {H : Hp} {st : L2.St} {env : En} {Q : List V → Hp → Prop} {R : List OV → Oh → Prop}, Rep K F O H → RS K F env st → XL K F O H AW W → T env O R →
    (∀ r O' F' H' v, R r O' → Step F O H F' O' H' → Rep K F' O' H' → RVs K F' r v → Q v H') → t st H Q
structure ST (K : PySem.W.Frag) (W : WX) (AW : AX) (t : TT) (T : AT) : Prop where
  run : ∀ {F : Hp} {O : Oh} {H : Hp} {st : L2.St} {env : En} {Q : Bool → Hp → Prop} {R : Bool → Oh → Prop}, Rep K F O H → RS K F env st → XL K F O H AW W → T env O R →
    (∀ r O' F' H', R r O' → Step F O H F' O' H' → Rep K F' O' H' → Q r H') → t st H Q
structure Lift (K : PySem.W.Frag) (F : Hp) (O : Oh) (H : Hp) (P : AEnds) (D : Ends) : Prop where
  nx : ∀ env' O' F' H' st', P.nx env' O' → Step F O H F' O' H' → Rep K F' O' H' → RS K F' env' st' → D.nx st' H'
  rt : ∀ r O' F' H' v, P.rt r O' → Step F O H F' O' H' → Rep K F' O' H' → RV K F' r v → D.rt v H'
  bk : ∀ env' O' F' H' st', P.bk env' O' → Step F O H F' O' H' → Rep K F' O' H' → RS K F' env' st' → D.bk st' H'
  ct : ∀ env' O' F' H' st', P.ct env' O' → Step F O H F' O' H' → Rep K F' O' H' → RS K F' env' st' → D.ct st' H'
theorem Lift.step {K : PySem.W.Frag} {F F1 : Hp} {O O1 : Oh} {H H1 : Hp} {P : AEnds} {D : Ends} (x : Lift K F O H P D) (s : Step F O H F1 O1 H1) : Lift K F1 O1 H1 P D :=
  ⟨fun e o f h t a s' => x.nx e o f h t a (s.trans s'), fun e o f h t a s' => x.rt e o f h t a (s.trans s'), fun e o f h t a s' => x.bk e o f h t a (s.trans s'), fun e o f h t a s' => x.ct e o f h t a (s.trans s')⟩
structure SS (K : PySem.W.Frag) (W : WX) (AW : AX) (t : TS) (T : AS) : Prop where
  run : ∀ {F : Hp} {O : Oh} {H : Hp} {st : L2.St} {env : En} {D : Ends} {P : AEnds}, Rep K F O H → RS K F env st → XL K F O H AW W → T P env O → Lift K F O H P D → t D st H

def QE (X : Cx) (W : WX) (AW : AX) (e : Expr) (T : AE) : Prop := ∃ t, PE X e t ∧ SE X.K W AW t T
def QA (X : Cx) (W : WX) (AW : AX) (e : List Expr) (T : AA) : Prop := ∃ t, PA X e t ∧ SA X.K W AW t T
def QT (X : Cx) (W : WX) (AW : AX) (e : Expr) (T : AT) : Prop := ∃ t, PT X e t ∧ ST X.K W AW t T
def QW (X : Cx) (W : WX) (AW : AX) (e : Expr) (T : AT) : Prop := ∃ t, PW X e t ∧ ST X.K W AW t T
def QS (X : Cx) (W : WX) (AW : AX) (s : Stmt) (T : AS) : Prop := ∃ t, PS X s t ∧ SS X.K W AW t T
def QSs (X : Cx) (W : WX) (AW : AX) (s : List Stmt) (T : AS) : Prop := ∃ t, PSs X s t ∧ SS X.K W AW t T

section
variable {X : Cx} {W : WX} {AW : AX} {pos : Pos}
def aVar (i : Nat) : AE := fun env O R => ∃ x, env[i]? = some (some x) ∧ R x O
theorem qe_var (i : Nat) {x : Str} (hN : X.N[i]? = some x := by rfl) (hv : Vis X.env.scope x := by first | exact Or.inl rfl | exact Or.inr (Or.inl rfl) | exact Or.inr (Or.inr rfl)) (hd : (x == ("__debug__" : Str)) = false := by decide)
    (hcd : (x == ("__classdict__" : Str)) = false := by decide) : QE X W AW (.Name x pos) (aVar i) :=
  ⟨_, pv i hN hv hd hcd, ⟨fun R rs _ h q => by
    obtain ⟨x, e, h⟩ := h
    obtain ⟨v, e1, e2⟩ := rs.2 i x e
    exact ⟨v, e1, q x _ _ _ v h Step.refl R e2⟩⟩⟩
def aC (x : PyData) : AE := fun _ O R => R (.d x) O
theorem se_c {K : PySem.W.Frag} {x : PyData} {v : V} (h : ∀ F, Dq K F x v) : SE K W AW (tC v) (aC x) := ⟨fun R rs _ h' q => q _ _ _ _ _ h' Step.refl R (.d (h _))⟩
theorem qe_int {i j} : QE X W AW (.Constant (.int i) j pos) (aC (.int i)) := ⟨_, pe_int, se_c fun _ => .int i⟩
theorem qe_bl {b j} : QE X W AW (.Constant (.bool b) j pos) (aC (.bool b)) := ⟨_, pe_bl, se_c fun _ => .bl b⟩
theorem qe_non {j} : QE X W AW (.Constant .none j pos) (aC .none) := ⟨_, pe_non, se_c fun _ => .non⟩
theorem qe_str {x j} : QE X W AW (.Constant (.str x) j pos) (aC (.str x)) := ⟨_, pe_str, se_c fun _ => .str x⟩
/-- a constant of the module -/
theorem qe_glob {x : Str} {d : PyData} {v : V} {u : Value} (hg : Gl X x) (hm : X.mg x = some u) (r : RelV v u) (h : ∀ F, Dq X.K F d v) (hd : (x == ("__debug__" : Str)) = false := by decide) : QE X W AW (.Name x pos) (aC d) :=
  ⟨_, pe_glob hg hm r hd, se_c h⟩

/-! ### two-place operations -/
abbrev AR2 := OV → OV → Oh → (OV → Oh → Prop) → Prop
def SR (K : PySem.W.Frag) (r : R2) (a : AR2) : Prop := ∀ (F : Hp) (O : Oh) (H : Hp) (x y : OV) (vx vy : V) (Q : VK) (R : OV → Oh → Prop), Rep K F O H → RV K F x vx → RV K F y vy → a x y O R →
    (∀ r O' F' H' v, R r O' → Step F O H F' O' H' → Rep K F' O' H' → RV K F' r v → Q v H') → r vx vy H Q
def aOp (a : AR2) (TA TB : AE) : AE := fun env O R => TA env O fun x O1 => TB env O1 fun y O2 => a x y O2 R
theorem se_op {K : PySem.W.Frag} {r : R2} {a : AR2} {ta tb : TE} {TA TB : AE} (hr : SR K r a) (ha : SE K W AW ta TA) (hb : SE K W AW tb TB) : SE K W AW (tOp r ta tb) (aOp a TA TB) := ⟨fun R0 rs xl h q =>
  ha.run R0 rs xl h fun x O1 F1 H1 v h1 s1 R1 r1 => hb.run R1 (rs.mono s1.fx) (xl.step s1) h1 fun y O2 F2 H2 w h2 s2 R2 r2 =>
    hr F2 O2 H2 x y v w _ _ R2 (r1.mono s2.fx) r2 h2 fun z O3 F3 H3 u h3 s3 R3 r3 => q z O3 F3 H3 u h3 (s1.trans (s2.trans s3)) R3 r3⟩
theorem qe_op {op : Operator} {r : R2} {a : AR2} {ea eb : Expr} {TA TB : AE} (ho : OpR X (binaryOp op) r) (hs : SR X.K r a) (ha : QE X W AW ea TA) (hb : QE X W AW eb TB) : QE X W AW (.BinOp ea op eb pos) (aOp a TA TB) := by
  obtain ⟨ta, p1, s1⟩ := ha
  obtain ⟨tb, p2, s2⟩ := hb
  exact ⟨_, pe_op ho p1 p2, se_op hs s1 s2⟩
theorem qe_cmp {op : CmpOp} {r : R2} {a : AR2} {ea eb : Expr} {TA TB : AE} (ho : OpR X (compareOp op) r) (hs : SR X.K r a) (ha : QE X W AW ea TA) (hb : QE X W AW eb TB) (hm : behindInMarks op eb = false := by first | exact nomark _ | rfl) : QE X W AW (.Compare ea [op] [eb] pos) (aOp a TA TB) := by
  obtain ⟨ta, p1, s1⟩ := ha
  obtain ⟨tb, p2, s2⟩ := hb
  exact ⟨_, pe_cmpR ho p1 p2 hm, se_op hs s1 s2⟩
theorem qe_ix {r : R2} {a : AR2} {ea eb : Expr} {TA TB : AE} (ho : IxR X r) (hs : SR X.K r a) (ha : QE X W AW ea TA) (hb : QE X W AW eb TB) (hp : PlainIx eb := by exact fun _ _ => rfl) : QE X W AW (.Subscript ea eb pos) (aOp a TA TB) := by
  obtain ⟨ta, p1, s1⟩ := ha
  obtain ⟨tb, p2, s2⟩ := hb
  exact ⟨_, pe_ix ho p1 p2 hp, se_op hs s1 s2⟩
/-- a chain a < b < c of ints (or any two comparisons) -/
def aChain (a a' : AR2) (TA TB TC : AE) : AE := fun env O R => TA env O fun x O1 => TB env O1 fun y O2 => a x y O2 fun z O3 => ∃ k, z = .d (.bool k) ∧ if k = true then TC env O3 fun w O4 => a' y w O4 R else R (.d (.bool false)) O3
theorem qe_chain {op op' : CmpOp} {r r' : R2} {a a' : AR2} {ea eb ec : Expr} {TA TB TC : AE} (ho : OpR X (compareOp op) r) (hs : SR X.K r a) (ho' : OpR X (compareOp op') r') (hs' : SR X.K r' a') (ha : QE X W AW ea TA) (hb : QE X W AW eb TB) (hc : QE X W AW ec TC)
    (hm : lastMarks [op, op'] [eb, ec] = false := by with_unfolding_all rfl) : QE X W AW (.Compare ea [op, op'] [eb, ec] pos) (aChain a a' TA TB TC) := by
  obtain ⟨ta, p1, s1⟩ := ha
  obtain ⟨tb, p2, s2⟩ := hb
  obtain ⟨tc, p3, s3⟩ := hc
  refine ⟨_, pe_chain ho ho' p1 p2 p3 hm, ⟨fun R0 rs xl h q => ?_⟩⟩
  refine s1.run R0 rs xl h fun x O1 F1 H1 v h1 z1 R1 r1 => s2.run R1 (rs.mono z1.fx) (xl.step z1) h1 fun y O2 F2 H2 w h2 z2 R2 r2 => hs F2 O2 H2 x y v w _ _ R2 (r1.mono z2.fx) r2 h2 fun z O3 F3 H3 u h3 z3 R3 r3 => ?_
  obtain ⟨k, rfl, h3⟩ := h3
  cases r3 with
  | d r3 =>
    cases r3 with
    | bl b =>
      refine ⟨k, rfl, ?_⟩
      cases k with
      | true =>
        rw [if_pos rfl] at h3 ⊢
        exact s3.run R3 ((rs.mono z1.fx).mono (z2.trans z3).fx) (xl.step (z1.trans (z2.trans z3))) h3 fun c O4 F4 H4 vc h4 z4 R4 r4 => hs' F4 O4 H4 y c w vc _ _ R4 (r2.mono (z3.trans z4).fx) r4 h4 fun e O5 F5 H5 ve h5 z5 R5 r5 => q e O5 F5 H5 ve h5 (z1.trans (z2.trans (z3.trans (z4.trans z5)))) R5 r5
      | false =>
        rw [if_neg Bool.false_ne_true] at h3 ⊢
        exact q _ _ _ _ _ h3 (z1.trans (z2.trans z3)) R3 (.d (.bl false))

/-! ints -/
def aI (C : Int → Int → Prop) (g : Int → Int → PyData) : AR2 := fun x y O R => ∃ i j, x = .d (.int i) ∧ y = .d (.int j) ∧ C i j ∧ R (.d (g i j)) O
def aI0 (g : Int → Int → PyData) : AR2 := fun x y O R => ∃ i j, x = .d (.int i) ∧ y = .d (.int j) ∧ R (.d (g i j)) O
theorem RV.int_inv {K : PySem.W.Frag} {F : Hp} {i : Int} {v : V} (h : RV K F (.d (.int i)) v) : v = .int i := by cases h with | d h => cases h; rfl
theorem RV.bl_inv {K : PySem.W.Frag} {F : Hp} {i : Bool} {v : V} (h : RV K F (.d (.bool i)) v) : v = .bl i := by cases h with | d h => cases h; rfl
theorem RV.str_inv {K : PySem.W.Frag} {F : Hp} {i : Str} {v : V} (h : RV K F (.d (.str i)) v) : v = .str i := by cases h with | d h => cases h; rfl
theorem sr_I {K : PySem.W.Frag} {C : Int → Int → Prop} {g : Int → Int → Int} : SR K (rI C fun i j => .int (g i j)) (aI C fun i j => .int (g i j)) := by
  intro F O H x y vx vy Q R R0 rx ry h q
  obtain ⟨i, j, rfl, rfl, c, h⟩ := h
  exact ⟨i, j, rx.int_inv, ry.int_inv, c, q _ _ _ _ _ h Step.refl R0 (.d (.int _))⟩
theorem sr_I0 {K : PySem.W.Frag} {g : Int → Int → Int} : SR K (rI0 fun i j => .int (g i j)) (aI0 fun i j => .int (g i j)) := by
  intro F O H x y vx vy Q R R0 rx ry h q
  obtain ⟨i, j, rfl, rfl, h⟩ := h
  exact ⟨i, j, rx.int_inv, ry.int_inv, q _ _ _ _ _ h Step.refl R0 (.d (.int _))⟩
theorem sr_B0 {K : PySem.W.Frag} {g : Int → Int → Bool} : SR K (rI0 fun i j => .bl (g i j)) (aI0 fun i j => .bool (g i j)) := by
  intro F O H x y vx vy Q R R0 rx ry h q
  obtain ⟨i, j, rfl, rfl, h⟩ := h
  exact ⟨i, j, rx.int_inv, ry.int_inv, q _ _ _ _ _ h Step.refl R0 (.d (.bl _))⟩
def aStr2 (C : Str → Str → Prop) (g : Str → Str → PyData) : AR2 := fun x y O R => ∃ i j, x = .d (.str i) ∧ y = .d (.str j) ∧ C i j ∧ R (.d (g i j)) O
theorem sr_addS {K : PySem.W.Frag} : SR K (fun x y H Q => ∃ i j, x = .str i ∧ y = .str j ∧ i.length + j.length ≤ sizeLine ∧ Q (.str (i ++ j)) H) (aStr2 (fun i j => i.length + j.length ≤ sizeLine) fun i j => .str (i ++ j)) := by
  intro F O H x y vx vy Q R R0 rx ry h q
  obtain ⟨i, j, rfl, rfl, c, h⟩ := h
  exact ⟨i, j, rx.str_inv, ry.str_inv, c, q _ _ _ _ _ h Step.refl R0 (.d (.str _))⟩

/-! ### items of lists and tuples -/
def itemsL (O : Oh) : OV → List OV → Prop
  | .d (.list ds), xs => xs = ds.map OV.d
  | .o a, xs => O a = some (.lst xs)
  | .s ns, xs => xs = ns.map fun n => OV.d (.int n)
  | _, _ => False
def itemsT : OV → List OV → Prop
  | .d (.tuple ds), xs => xs = ds.map OV.d
  | .t ys, xs => xs = ys
  | _, _ => False
theorem view_l {K : PySem.W.Frag} {F H : Hp} {O : Oh} {x : OV} {v : V} {xs : List OV} (R : Rep K F O H) (r : RV K F x v) (h : itemsL O x xs) : ∃ p vs, v = .ref p ∧ SqL K H p vs ∧ RVs K F xs vs := by
  cases r with
  | d r =>
    cases r with
    | lst h1 h2 => exact ⟨_, _, rfl, SqL.of (R.fz _ _ h1), by rw [show xs = _ from h]; exact RVs.ofData h2⟩
    | _ => exact False.elim h
  | o => obtain ⟨vs, h1, h2⟩ := R.lst h; exact ⟨_, vs, rfl, SqL.of h1, h2⟩
  | t _ _ => exact False.elim h
  | ty => exact False.elim h
  | cls => exact False.elim h
  | @s a ns h1 =>
    refine ⟨_, _, rfl, R.fz.seq h1, ?_⟩
    rw [show xs = _ from h]
    have e : (ns.map fun n => OV.d (.int n)) = (ns.map PyData.int).map OV.d := by rw [List.map_map]; rfl
    rw [e]
    exact RVs.ofData DqA.ints
theorem view_t {K : PySem.W.Frag} {F : Hp} {x : OV} {v : V} {xs : List OV} (r : RV K F x v) (h : itemsT x xs) : ∃ p vs, v = .ref p ∧ SqT K F p vs ∧ RVs K F xs vs := by
  cases r with
  | d r =>
    cases r with
    | tup h1 h2 => exact ⟨_, _, rfl, h1, by rw [show xs = _ from h]; exact RVs.ofData h2⟩
    | _ => exact False.elim h
  | t h1 h2 => exact ⟨_, _, rfl, h1, by rw [show xs = _ from h]; exact h2⟩
  | o => exact False.elim h
  | s _ => exact False.elim h
  | ty => exact False.elim h
  | cls => exact False.elim h
theorem atI_RVs {K : PySem.W.Frag} {F : Hp} {xs : List OV} {vs : List V} {i : Int} {x : OV} (r : RVs K F xs vs) (h : atI xs i = some x) : ∃ v, atI vs i = some v ∧ RV K F x v := by
  unfold atI at h ⊢
  rw [← r.length]
  cases e : ixN xs.length i with
  | none => rw [e] at h; cases h
  | some j =>
    rw [e] at h
    obtain ⟨v, h1, h2⟩ := r.get (i := j) (x := x) h
    exact ⟨v, h1, h2⟩
def aIxL : AR2 := fun x y O R => ∃ xs i z, itemsL O x xs ∧ y = .d (.int i) ∧ atI xs i = some z ∧ R z O
def aIxT : AR2 := fun x y O R => ∃ xs i z, itemsT x xs ∧ y = .d (.int i) ∧ atI xs i = some z ∧ R z O
theorem sr_ixL {K : PySem.W.Frag} : SR K (rIxL K) aIxL := by
  intro F O H x y vx vy Q R R0 rx ry h q
  obtain ⟨xs, i, z, hx, rfl, hz, h⟩ := h
  obtain ⟨p, vs, rfl, h1, h2⟩ := view_l R0 rx hx
  obtain ⟨v, h3, h4⟩ := atI_RVs h2 hz
  exact ⟨p, vs, i, v, rfl, ry.int_inv, h1, h3, q _ _ _ _ _ h Step.refl R0 h4⟩
theorem sr_ixT {K : PySem.W.Frag} : SR K (rIxT K) aIxT := by
  intro F O H x y vx vy Q R R0 rx ry h q
  obtain ⟨xs, i, z, hx, rfl, hz, h⟩ := h
  obtain ⟨p, vs, rfl, h1, h2⟩ := view_t rx hx
  obtain ⟨v, h3, h4⟩ := atI_RVs h2 hz
  exact ⟨p, vs, i, v, rfl, ry.int_inv, seqT_mono R0.fz h1, h3, q _ _ _ _ _ h Step.refl R0 h4⟩
def aIxS : AR2 := fun x y O R => ∃ (z : Str) (i : Int) (c : Nat), x = .d (.str z) ∧ y = .d (.int i) ∧ z.length ≤ sizeLine ∧ atI z.cps.toList i = some c ∧ R (.d (.str ⟨#[c]⟩)) O
theorem sr_ixS {K : PySem.W.Frag} : SR K rIxS aIxS := by
  intro F O H x y vx vy Q R R0 rx ry h q
  obtain ⟨z, i, c, rfl, rfl, hz, hc, h⟩ := h
  exact ⟨z, i, c, rx.str_inv, ry.int_inv, hz, hc, q _ _ _ _ _ h Step.refl R0 (.d (.str _))⟩

/-! ### == and != of data -/
theorem Fz.dp {K : PySem.W.Frag} {F H : Hp} {O : Oh} {r : OV} {x : PyData} {v : V} (R : Rep K F O H) (h : Fz O r x) (rv : RV K F r v) : Dp K H v x := (h.dq R R.fz rv fun _ _ _ _ => rfl).dp
def aEq (neg : Bool) : AR2 := fun x y O R => ∃ d e, Fz O x d ∧ Fz O y e ∧ SeqAt.shaped d = true ∧ SeqAt.shaped e = true ∧ R (.d (.bool (neg != PyData.eqv d e))) O
theorem sr_eq {K : PySem.W.Frag} : SR K (rEqD K) (aEq false) := by
  intro F O H x y vx vy Q R R0 rx ry h q
  obtain ⟨d, e, hd, he, s1, s2, h⟩ := h
  refine ⟨d, e, hd.dp R0 rx, he.dp R0 ry, s1, s2, q _ _ _ _ _ h Step.refl R0 ?_⟩
  rw [Bool.false_bne]
  exact .d (.bl _)
theorem sr_ne {K : PySem.W.Frag} : SR K (rNeD K) (aEq true) := by
  intro F O H x y vx vy Q R R0 rx ry h q
  obtain ⟨d, e, hd, he, s1, s2, h⟩ := h
  refine ⟨d, e, hd.dp R0 rx, he.dp R0 ry, s1, s2, q _ _ _ _ _ h Step.refl R0 ?_⟩
  rw [Bool.true_bne]
  exact .d (.bl _)
def isNon : OV → Bool
  | .d .none => true
  | _ => false
theorem isNon_eq {K : PySem.W.Frag} {F : Hp} {x : OV} {v : V} (r : RV K F x v) : decide (v = .non) = isNon x := by
  cases r with
  | d r => cases r <;> first | rfl | exact decide_eq_false (fun z => nomatch z)
  | _ => exact decide_eq_false (fun z => nomatch z)
def aIsN (neg : Bool) : AR2 := fun x y O R => y = .d .none ∧ R (.d (.bool (neg != isNon x))) O
theorem sr_isN {K : PySem.W.Frag} : SR K (fun x y H Q => y = .non ∧ Q (.bl (decide (x = .non))) H) (aIsN false) := by
  intro F O H x y vx vy Q R R0 rx ry h q
  obtain ⟨rfl, h⟩ := h
  refine ⟨by cases ry with | d r => cases r; rfl, q _ _ _ _ _ h Step.refl R0 ?_⟩
  rw [isNon_eq rx, Bool.false_bne]
  exact .d (.bl _)
theorem sr_notN {K : PySem.W.Frag} : SR K (fun x y H Q => y = .non ∧ Q (.bl (!decide (x = .non))) H) (aIsN true) := by
  intro F O H x y vx vy Q R R0 rx ry h q
  obtain ⟨rfl, h⟩ := h
  refine ⟨by cases ry with | d r => cases r; rfl, q _ _ _ _ _ h Step.refl R0 ?_⟩
  rw [isNon_eq rx, Bool.true_bne]
  exact .d (.bl _)

/-! ### argument lists and displays -/
def aNil : AA := fun _ O R => R [] O
def aCons (T : AE) (U : AA) : AA := fun env O R => T env O fun x O1 => U env O1 fun xs O2 => R (x :: xs) O2
theorem qa_nil : QA X W AW [] aNil := ⟨_, pa_nil, ⟨fun R _ _ h q => q _ _ _ _ _ h Step.refl R .nil⟩⟩
theorem qa_cons {e : Expr} {es : List Expr} {T : AE} {U : AA} (ha : QE X W AW e T) (hr : QA X W AW es U) (hs : starEach (e :: es) X.env = (false, eval e X.env) :: starEach es X.env := by rfl) : QA X W AW (e :: es) (aCons T U) := by
  obtain ⟨ta, p1, s1⟩ := ha
  obtain ⟨tb, p2, s2⟩ := hr
  exact ⟨_, pa_cons p1 p2 hs, ⟨fun R0 rs xl h q => s1.run R0 rs xl h fun x O1 F1 H1 v h1 z1 R1 r1 => s2.run R1 (rs.mono z1.fx) (xl.step z1) h1 fun xs O2 F2 H2 vs h2 z2 R2 r2 =>
    q _ _ _ _ _ h2 (z1.trans z2) R2 (.cons (r1.mono z2.fx) r2)⟩⟩
/-- the value of a tuple of these items: data where all are data -/
def unD : List OV → Option (List PyData)
  | [] => some []
  | .d x :: r => match unD r with
    | some l => some (x :: l)
    | none => none
  | _ :: _ => none
def mkT (xs : List OV) : OV := match unD xs with
  | some ds => .d (.tuple ds)
  | none => .t xs
theorem unD_some : ∀ {xs : List OV} {ds : List PyData}, unD xs = some ds → xs = ds.map OV.d
  | [], _, h => by cases h; rfl
  | .d x :: r, ds, h => by
    unfold unD at h
    cases e : unD r with
    | none => rw [e] at h; cases h
    | some es => rw [e] at h; cases h; rw [unD_some e]; rfl
  | .o _ :: _, _, h => by cases h
  | .t _ :: _, _, h => by cases h
  | .s _ :: _, _, h => by cases h
  | .ty _ :: _, _, h => by cases h
  | .cls _ :: _, _, h => by cases h
theorem RV.mkT {K : PySem.W.Frag} {F : Hp} {a : Addr} {xs : List OV} {vs : List V} (h : SqT K F a vs) (r : RVs K F xs vs) : RV K F (mkT xs) (.ref a) := by
  unfold Y.mkT
  split
  · rename_i ds e
    rw [unD_some e] at r
    exact .d (.tup h r.toData)
  · exact .t h r
/-- a tuple of data; of any values; a frozen list of data; an owned list -/
def aTup (U : AA) : AE := fun env O R => U env O fun xs O1 => ∃ ds, unD xs = some ds ∧ xs.length ≤ 10000 ∧ R (.d (.tuple ds)) O1
def aTupO (U : AA) : AE := fun env O R => U env O fun xs O1 => xs.length ≤ 10000 ∧ R (.t xs) O1
def aLstF (U : AA) : AE := fun env O R => U env O fun xs O1 => ∃ ds, unD xs = some ds ∧ xs.length ≤ 10000 ∧ R (.d (.list ds)) O1
def aLst (U : AA) : AE := fun env O R => U env O fun xs O1 => xs.length ≤ 10000 ∧ ∀ p, O1 p = none → R (.o p) (updO O1 p (.lst xs))
theorem le_line {n : Nat} (h : n ≤ 10000) : n ≤ sizeLine := Nat.le_trans h (by decide)
theorem qe_tup {es : List Expr} {U : AA} {x1} (h : QA X W AW es U) : QE X W AW (.Tuple es x1 pos) (aTup U) := by
  obtain ⟨ta, p1, s1⟩ := h
  refine ⟨_, pe_tup p1, ⟨fun R0 rs xl h q => s1.run R0 rs xl h fun xs O1 F1 H1 vs h1 z1 R1 r1 => ?_⟩⟩
  obtain ⟨ds, hd, hz, h1⟩ := h1
  refine ⟨by rw [← r1.length]; exact le_line hz, fun p hp => ?_⟩
  obtain ⟨R2, z2, sf⟩ := R1.newF (h := .tup vs) hp
  rw [unD_some hd] at r1
  exact q _ _ _ _ _ h1 (z1.trans z2) R2 (.d (.tup (.inl (.inl upd_same)) (r1.toData.mono sf)))
theorem qe_tupO {es : List Expr} {U : AA} {x1} (h : QA X W AW es U) : QE X W AW (.Tuple es x1 pos) (aTupO U) := by
  obtain ⟨ta, p1, s1⟩ := h
  refine ⟨_, pe_tup p1, ⟨fun R0 rs xl h q => s1.run R0 rs xl h fun xs O1 F1 H1 vs h1 z1 R1 r1 => ?_⟩⟩
  refine ⟨by rw [← r1.length]; exact le_line h1.1, fun p hp => ?_⟩
  obtain ⟨R2, z2, sf⟩ := R1.newF (h := .tup vs) hp
  exact q _ _ _ _ _ h1.2 (z1.trans z2) R2 (.t (.inl (.inl upd_same)) (r1.mono sf))
theorem qe_lstF {es : List Expr} {U : AA} (h : QA X W AW es U) : QE X W AW (.List es pos) (aLstF U) := by
  obtain ⟨ta, p1, s1⟩ := h
  refine ⟨_, pe_lst p1, ⟨fun R0 rs xl h q => s1.run R0 rs xl h fun xs O1 F1 H1 vs h1 z1 R1 r1 => ?_⟩⟩
  obtain ⟨ds, hd, hz, h1⟩ := h1
  refine ⟨by rw [← r1.length]; exact le_line hz, fun p hp => ?_⟩
  obtain ⟨R2, z2, sf⟩ := R1.newF (h := .lst vs) hp
  rw [unD_some hd] at r1
  exact q _ _ _ _ _ h1 (z1.trans z2) R2 (.d (.lst upd_same (r1.toData.mono sf)))
theorem qe_lst {es : List Expr} {U : AA} (h : QA X W AW es U) : QE X W AW (.List es pos) (aLst U) := by
  obtain ⟨ta, p1, s1⟩ := h
  refine ⟨_, pe_lst p1, ⟨fun R0 rs xl h q => s1.run R0 rs xl h fun xs O1 F1 H1 vs h1 z1 R1 r1 => ?_⟩⟩
  refine ⟨by rw [← r1.length]; exact le_line h1.1, fun p hp => ?_⟩
  obtain ⟨R2, z2⟩ := R1.newO (o := .lst xs) (h := .lst vs) hp ⟨vs, rfl, r1⟩
  exact q _ _ _ _ _ (h1.2 p (R1.ofree hp)) (z1.trans z2) R2 .o
/-- weakening behind an expression -/
def aWk (T : AE) : AE := fun env O R => T env O fun r O1 => ∃ r' O', Wk O1 r O' r' ∧ R r' O'
theorem qe_wk {e : Expr} {T : AE} (h : QE X W AW e T) : QE X W AW e (aWk T) := by
  obtain ⟨t, p, s⟩ := h
  refine ⟨t, p, ⟨fun R0 rs xl h q => s.run R0 rs xl h fun r O1 F1 H1 v h1 z1 R1 r1 => ?_⟩⟩
  obtain ⟨r', O', w, h2⟩ := h1
  obtain ⟨F2, z2, R2, r2⟩ := w _ F1 H1 v R1 r1
  exact q _ _ _ _ _ h2 (z1.trans z2) R2 r2

/-! ### built-in functions and types by values -/
abbrev AN := List OV → Oh → (OV → Oh → Prop) → Prop
def SN (K : PySem.W.Frag) (r : List V → Hp → VK → Prop) (a : AN) : Prop := ∀ (F : Hp) (O : Oh) (H : Hp) (xs : List OV) (vs : List V) (Q : VK) (R : OV → Oh → Prop), Rep K F O H → RVs K F xs vs → a xs O R →
    (∀ r O' F' H' v, R r O' → Step F O H F' O' H' → Rep K F' O' H' → RV K F' r v → Q v H') → r vs H Q
def aCB (a : AN) (U : AA) : AE := fun env O R => U env O fun xs O1 => a xs O1 R
theorem se_cb {K : PySem.W.Frag} {r : List V → Hp → VK → Prop} {a : AN} {t : TA} {U : AA} (hr : SN K r a) (h : SA K W AW t U) : SE K W AW (tCB r t) (aCB a U) := ⟨fun R0 rs xl h' q =>
  h.run R0 rs xl h' fun xs O1 F1 H1 vs h1 z1 R1 r1 => hr F1 O1 H1 xs vs _ _ R1 r1 h1 fun r O2 F2 H2 v h2 z2 R2 r2 => q r O2 F2 H2 v h2 (z1.trans z2) R2 r2⟩
theorem qe_callB {x : Str} {p : Pos} {e : Expr} {es : List Expr} {id : String} {r : List V → Hp → VK → Prop} {a : AN} {U : AA} (hc : CallR X (.builtin id) r) (hs' : SN X.K r a) (hm : X.mg x = none) (hv : bootBuiltins x = some (.builtin id)) (ha : QA X W AW (e :: es) U) (hg : Gl X x := by rfl) (hn : x ≠ "__name__" := by decide) (hdb : (x == ("__debug__" : Str)) = false := by decide)
    (he : starEach (e :: es) X.env = (false, eval e X.env) :: starEach es X.env := by rfl) (hpl : (backTo pos (starEach es X.env)).any (·.1) = false := by rfl) : QE X W AW (.Call (.Name x p) (e :: es) [] pos) (aCB a U) := by
  obtain ⟨t, p1, s1⟩ := ha
  exact ⟨_, pe_callB hc hg hm hv p1 hn hdb he hpl, se_cb hs' s1⟩
theorem qe_callTy {x : Str} {p : Pos} {e : Expr} {es : List Expr} {id : String} {r : List V → Hp → VK → Prop} {a : AN} {U : AA} (hc : CallR X (.type id) r) (hs' : SN X.K r a) (hm : X.mg x = none) (hv : bootBuiltins x = some (.type id)) (ha : QA X W AW (e :: es) U) (hg : Gl X x := by rfl) (hn : x ≠ "__name__" := by decide) (hdb : (x == ("__debug__" : Str)) = false := by decide)
    (he : starEach (e :: es) X.env = (false, eval e X.env) :: starEach es X.env := by rfl) (hpl : (backTo pos (starEach es X.env)).any (·.1) = false := by rfl) : QE X W AW (.Call (.Name x p) (e :: es) [] pos) (aCB a U) := by
  obtain ⟨t, p1, s1⟩ := ha
  exact ⟨_, pe_callTy hc hg hm hv p1 hn hdb he hpl, se_cb hs' s1⟩
theorem rvs1 {K : PySem.W.Frag} {F : Hp} {x : OV} {vs : List V} (h : RVs K F [x] vs) : ∃ v, vs = [v] ∧ RV K F x v := by
  cases h with | cons r t => cases t; exact ⟨_, rfl, r⟩
theorem rvs2 {K : PySem.W.Frag} {F : Hp} {x y : OV} {vs : List V} (h : RVs K F [x, y] vs) : ∃ v w, vs = [v, w] ∧ RV K F x v ∧ RV K F y w := by
  cases h with | cons r t => cases t with | cons r' t => cases t; exact ⟨_, _, rfl, r, r'⟩
def aLen : AN := fun xs O R => ∃ x ys, xs = [x] ∧ (itemsL O x ys ∨ itemsT x ys) ∧ R (.d (.int ys.length)) O
theorem sn_len {K : PySem.W.Frag} : SN K (fun xs H Q => ∃ p ys, xs = [.ref p] ∧ (SqL K H p ys ∨ SqT K H p ys) ∧ Q (.int ys.length) H) aLen := by
  intro F O H xs vs Q R R0 rv h q
  obtain ⟨x, ys, rfl, hx, h⟩ := h
  obtain ⟨v, rfl, r⟩ := rvs1 rv
  rcases hx with hx | hx
  · obtain ⟨p, ws, rfl, h1, h2⟩ := view_l R0 r hx
    refine ⟨p, ws, rfl, .inl h1, ?_⟩
    rw [← h2.length]
    exact q _ _ _ _ _ h Step.refl R0 (.d (.int _))
  · obtain ⟨p, ws, rfl, h1, h2⟩ := view_t r hx
    refine ⟨p, ws, rfl, .inr (seqT_mono R0.fz h1), ?_⟩
    rw [← h2.length]
    exact q _ _ _ _ _ h Step.refl R0 (.d (.int _))
def aLenS : AN := fun xs O R => ∃ z : Str, xs = [.d (.str z)] ∧ z.length ≤ sizeLine ∧ R (.d (.int z.length)) O
theorem sn_lenS {K : PySem.W.Frag} : SN K (fun xs H Q => ∃ z, xs = [.str z] ∧ z.length ≤ sizeLine ∧ Q (.int z.length) H) aLenS := by
  intro F O H xs vs Q R R0 rv h q
  obtain ⟨z, rfl, hz, h⟩ := h
  obtain ⟨v, rfl, r⟩ := rvs1 rv
  rw [r.str_inv]
  exact ⟨z, rfl, hz, q _ _ _ _ _ h Step.refl R0 (.d (.int _))⟩
/-- list(xs): a new owned list -/
def aList : AN := fun xs O R => ∃ x ys, xs = [x] ∧ (itemsL O x ys ∨ itemsT x ys) ∧ ∀ p, O p = none → R (.o p) (updO O p (.lst ys))
theorem sn_list {K : PySem.W.Frag} : SN K (fun xs H Q => ∃ p ys, xs = [.ref p] ∧ (SqL K H p ys ∨ SqT K H p ys) ∧ ∀ l, H l = none → Q (.ref l) (upd H l (.lst ys))) aList := by
  intro F O H xs vs Q R R0 rv h q
  obtain ⟨x, ys, rfl, hx, h⟩ := h
  obtain ⟨v, rfl, r⟩ := rvs1 rv
  rcases hx with hx | hx
  · obtain ⟨p, ws, rfl, h1, h2⟩ := view_l R0 r hx
    refine ⟨p, ws, rfl, .inl h1, fun l hl => ?_⟩
    obtain ⟨R2, z2⟩ := R0.newO (o := .lst ys) (h := .lst ws) hl ⟨ws, rfl, h2⟩
    exact q _ _ _ _ _ (h l (R0.ofree hl)) z2 R2 .o
  · obtain ⟨p, ws, rfl, h1, h2⟩ := view_t r hx
    refine ⟨p, ws, rfl, .inr (seqT_mono R0.fz h1), fun l hl => ?_⟩
    obtain ⟨R2, z2⟩ := R0.newO (o := .lst ys) (h := .lst ws) hl ⟨ws, rfl, h2⟩
    exact q _ _ _ _ _ (h l (R0.ofree hl)) z2 R2 .o
/-- tuple(xs) -/
def aTuple : AN := fun xs O R => ∃ x ys, xs = [x] ∧ ((itemsL O x ys ∧ R (mkT ys) O) ∨ (itemsT x ys ∧ R x O))
theorem sn_tuple {K : PySem.W.Frag} : SN K (fun xs H Q => ∃ p ys, xs = [.ref p] ∧ ((SqL K H p ys ∧ ∀ l, H l = none → Q (.ref l) (upd H l (.tup ys))) ∨ (SqT K H p ys ∧ Q (.ref p) H))) aTuple := by
  intro F O H xs vs Q R R0 rv h q
  obtain ⟨x, ys, rfl, hx⟩ := h
  obtain ⟨v, rfl, r⟩ := rvs1 rv
  rcases hx with ⟨hx, h⟩ | ⟨hx, h⟩
  · obtain ⟨p, ws, rfl, h1, h2⟩ := view_l R0 r hx
    refine ⟨p, ws, rfl, .inl ⟨h1, fun l hl => ?_⟩⟩
    obtain ⟨R2, z2, sf⟩ := R0.newF (h := .tup ws) hl
    exact q _ _ _ _ _ h z2 R2 (.mkT (.inl (.inl upd_same)) (h2.mono sf))
  · obtain ⟨p, ws, rfl, h1, h2⟩ := view_t r hx
    exact ⟨p, ws, rfl, .inr ⟨seqT_mono R0.fz h1, q _ _ _ _ _ h Step.refl R0 r⟩⟩
/-- functions of ints -/
def aInt1 (g : Int → PyData) : AN := fun xs O R => ∃ i, xs = [.d (.int i)] ∧ R (.d (g i)) O
def aInt2 (g : Int → Int → PyData) : AN := fun xs O R => ∃ i j, xs = [.d (.int i), .d (.int j)] ∧ R (.d (g i j)) O
end
end Y
/-! Y: methods, slices, tests, comprehensions. -/
namespace Y
open PySem PySem.Spec L2
section
variable {X : Cx} {W : WX} {AW : AX} {pos : Pos}
def aIntOf : AN := fun xs O R => (∃ i, xs = [.d (.int i)] ∧ R (.d (.int i)) O) ∨ ∃ k, xs = [.d (.bool k)] ∧ R (.d (.int (if k then 1 else 0))) O
theorem sn_int1 {K : PySem.W.Frag} : SN K (fun xs H Q => (∃ i, xs = [.int i] ∧ Q (.int i) H) ∨ ∃ k, xs = [.bl k] ∧ Q (.int (if k then 1 else 0)) H) aIntOf := by
  intro F O H xs vs Q R R0 rv h q
  rcases h with ⟨i, rfl, h⟩ | ⟨k, rfl, h⟩
  · obtain ⟨v, rfl, r⟩ := rvs1 rv
    rw [r.int_inv]
    exact .inl ⟨i, rfl, q _ _ _ _ _ h Step.refl R0 (.d (.int _))⟩
  · obtain ⟨v, rfl, r⟩ := rvs1 rv
    rw [r.bl_inv]
    exact .inr ⟨k, rfl, q _ _ _ _ _ h Step.refl R0 (.d (.int _))⟩
theorem sn_i1 {K : PySem.W.Frag} {g : Int → Int} : SN K (fun xs H Q => ∃ i, xs = [.int i] ∧ Q (.int (g i)) H) (aInt1 fun i => .int (g i)) := by
  intro F O H xs vs Q R R0 rv h q
  obtain ⟨i, rfl, h⟩ := h
  obtain ⟨v, rfl, r⟩ := rvs1 rv
  rw [r.int_inv]
  exact ⟨i, rfl, q _ _ _ _ _ h Step.refl R0 (.d (.int _))⟩
theorem sn_i2 {K : PySem.W.Frag} {g : Int → Int → Int} : SN K (fun xs H Q => ∃ i j, xs = [.int i, .int j] ∧ Q (.int (g i j)) H) (aInt2 fun i j => .int (g i j)) := by
  intro F O H xs vs Q R R0 rv h q
  obtain ⟨i, j, rfl, h⟩ := h
  obtain ⟨v, w, rfl, r1, r2⟩ := rvs2 rv
  rw [r1.int_inv, r2.int_inv]
  exact ⟨i, j, rfl, q _ _ _ _ _ h Step.refl R0 (.d (.int _))⟩

theorem RVs.ints_of {K : PySem.W.Frag} {F : Hp} {ns : List Int} {vs : List V} (h : RVs K F (ns.map fun n => OV.d (.int n)) vs) : vs = ns.map V.int := by
  have e : (ns.map fun n => OV.d (.int n)) = (ns.map PyData.int).map OV.d := by rw [List.map_map]; rfl
  rw [e] at h
  exact DqA.ofInts h.toData
def Zs (ns : List Int) : List OV := ns.map fun n => OV.d (.int n)
theorem RVs.zs {K : PySem.W.Frag} {F : Hp} {ns : List Int} : RVs K F (Y.Zs ns) (ns.map V.int) := by
  have e : Y.Zs ns = (ns.map PyData.int).map OV.d := by rw [List.map_map]; rfl
  rw [e]
  exact RVs.ofData DqA.ints
def aSum : AN := fun xs O R => ∃ x ns, xs = [x] ∧ itemsL O x (Zs ns) ∧ R (.d (.int ns.sum)) O
theorem sn_sum {K : PySem.W.Frag} : SN K (rSum K) aSum := by
  intro F O H xs vs Q R R0 rv h q
  obtain ⟨x, ns, rfl, hx, h⟩ := h
  obtain ⟨v, rfl, r⟩ := rvs1 rv
  obtain ⟨p, ws, rfl, h1, h2⟩ := view_l R0 r hx
  rw [h2.ints_of] at h1
  exact ⟨p, ns, rfl, h1, q _ _ _ _ _ h Step.refl R0 (.d (.int _))⟩
def aMaxL (le : Int → Int → Prop) : AN := fun xs O R => ∃ x ns, xs = [x] ∧ itemsL O x (Zs ns) ∧ 0 < ns.length ∧ ∀ m, m ∈ ns → (∀ y, y ∈ ns → le y m) → R (.d (.int m)) O
theorem sn_max {K : PySem.W.Frag} : SN K (rMax K) (aMaxL fun y m => y ≤ m) := by
  intro F O H xs vs Q R R0 rv h q
  obtain ⟨x, ns, rfl, hx, hn, h⟩ := h
  obtain ⟨v, rfl, r⟩ := rvs1 rv
  obtain ⟨p, ws, rfl, h1, h2⟩ := view_l R0 r hx
  rw [h2.ints_of] at h1
  exact ⟨p, ns, rfl, h1, hn, fun m hm hl => q _ _ _ _ _ (h m hm hl) Step.refl R0 (.d (.int _))⟩
theorem sn_min {K : PySem.W.Frag} : SN K (rMin K) (aMaxL fun y m => m ≤ y) := by
  intro F O H xs vs Q R R0 rv h q
  obtain ⟨x, ns, rfl, hx, hn, h⟩ := h
  obtain ⟨v, rfl, r⟩ := rvs1 rv
  obtain ⟨p, ws, rfl, h1, h2⟩ := view_l R0 r hx
  rw [h2.ints_of] at h1
  exact ⟨p, ns, rfl, h1, hn, fun m hm hl => q _ _ _ _ _ (h m hm hl) Step.refl R0 (.d (.int _))⟩
/-- sorted(xs) of fewer than 64 Zs: a new owned list -/
def aSorted : AN := fun xs O R => ∃ x ns, xs = [x] ∧ itemsL O x (Zs ns) ∧ ns.length < 64 ∧ ∀ ns' p, ns'.Perm ns → ns'.Pairwise (· ≤ ·) → O p = none → R (.o p) (updO O p (.lst (Zs ns')))
theorem sn_sorted {K : PySem.W.Frag} : SN K (rSorted K) aSorted := by
  intro F O H xs vs Q R R0 rv h q
  obtain ⟨x, ns, rfl, hx, hn, h⟩ := h
  obtain ⟨v, rfl, r⟩ := rvs1 rv
  obtain ⟨p, ws, rfl, h1, h2⟩ := view_l R0 r hx
  rw [h2.ints_of] at h1
  refine ⟨p, ns, rfl, h1, hn, fun ns' l hp hs hl => ?_⟩
  obtain ⟨R2, z2⟩ := R0.newO (o := .lst (Zs ns')) (h := .lst (ns'.map V.int)) hl ⟨_, rfl, RVs.zs⟩
  exact q _ _ _ _ _ (h ns' l hp hs (R0.ofree hl)) z2 R2 .o

/-! ### isinstance(x, T) of a built-in type -/
def tyOf (O : Oh) : OV → String → Prop
  | .d .none, s => s = "NoneType"
  | .d (.bool _), s => s = "bool"
  | .d (.int _), s => s = "int"
  | .d (.str _), s => s = "str"
  | .d (.list _), s => s = "list"
  | .d (.tuple _), s => s = "tuple"
  | .t _, s => s = "tuple"
  | .o a, s => s = "list" ∧ ∃ xs, O a = some (.lst xs)
  | _, _ => False
theorem sqt_tyx {K : PySem.W.Frag} {H : Hp} {a : Addr} {vs : List V} (h : SqT K H a vs) : TyX K H (.ref a) (.type "tuple") := by
  rcases h with (h | ⟨o, h⟩) | ⟨o, its, n, h1, h2, _⟩
  · exact .base (.tup h)
  · exact .fTuple h
  · exact .kTuple h1 h2
theorem tyx_of {K : PySem.W.Frag} {F H : Hp} {O : Oh} {x : OV} {v : V} {t : String} (R : Rep K F O H) (r : RV K F x v) (h : tyOf O x t) : TyX K H v (.type t) := by
  cases r with
  | d r =>
    cases r with
    | non => rw [show t = _ from h]; exact .base .non
    | bl b => rw [show t = _ from h]; exact .base (.bl b)
    | int b => rw [show t = _ from h]; exact .base (.int b)
    | str b => rw [show t = _ from h]; exact .base (.str b)
    | lst h1 h2 => rw [show t = _ from h]; exact .base (.lst (R.fz _ _ h1))
    | tup h1 h2 => rw [show t = _ from h]; exact sqt_tyx (seqT_mono R.fz h1)
  | o =>
    obtain ⟨rfl, xs, hx⟩ := h
    obtain ⟨vs, h1, _⟩ := R.lst hx
    exact .base (.lst h1)
  | t h1 h2 => rw [show t = _ from h]; exact sqt_tyx (seqT_mono R.fz h1)
  | s _ => exact False.elim h
  | ty => exact False.elim h
  | cls => exact False.elim h
def aIsi : AN := fun xs O R => ∃ x n t b, xs = [x, .ty n] ∧ tyOf O x t ∧ kitB t n = some b ∧ R (.d (.bool b)) O
theorem sn_isi {K : PySem.W.Frag} : SN K (rIsi K) aIsi := by
  intro F O H xs vs Q R R0 rv h q
  obtain ⟨x, n, t, b, rfl, hx, hb, h⟩ := h
  obtain ⟨v, w, rfl, r1, r2⟩ := rvs2 rv
  cases r2
  exact ⟨v, .ty n, .type t, .type n, b, rfl, .ty n, tyx_of R0 r1 hx, kit_ty hb, q _ _ _ _ _ h Step.refl R0 (.d (.bl _))⟩
def aTyC (n : String) : AE := fun _ O R => R (.ty n) O
theorem qe_ty {x : Str} {n : String} (hm : X.mg x = none) (hv : bootBuiltins x = some (.type n)) (hg : Gl X x := by rfl) (hn : x ≠ "__name__" := by decide) (hd : (x == ("__debug__" : Str)) = false := by decide) : QE X W AW (.Name x pos) (aTyC n) :=
  ⟨_, pe_bltn hg hm hv (v := .ty n) rfl hn hd, ⟨fun R rs _ h q => q _ _ _ _ _ h Step.refl R .ty⟩⟩

/-! ### methods of built-in types -/
abbrev AM := OV → List OV → Oh → (OV → Oh → Prop) → Prop
def SM (K : PySem.W.Frag) (r : V → List V → Hp → VK → Prop) (a : AM) : Prop := ∀ (F : Hp) (O : Oh) (H : Hp) (x : OV) (xs : List OV) (v : V) (vs : List V) (Q : VK) (R : OV → Oh → Prop), Rep K F O H → RV K F x v → RVs K F xs vs → a x xs O R →
    (∀ r O' F' H' v, R r O' → Step F O H F' O' H' → Rep K F' O' H' → RV K F' r v → Q v H') → r v vs H Q
def tyM (T : String) (O : Oh) (x : OV) : Prop := (T = "list" ∧ ∃ ys, itemsL O x ys) ∨ (T = "str" ∧ ∃ z, x = .d (.str z))
theorem tyM_v {K : PySem.W.Frag} {F H : Hp} {O : Oh} {T : String} {x : OV} {v : V} (R : Rep K F O H) (r : RV K F x v) (h : tyM T O x) : tyV K T v H := by
  rcases h with ⟨rfl, ys, h⟩ | ⟨rfl, z, rfl⟩
  · obtain ⟨p, vs, rfl, h1, _⟩ := view_l R r h
    exact .inl ⟨rfl, vs, h1⟩
  · rw [r.str_inv]; exact rfl
def aBM (T : String) (a : AM) (TO : AE) (U : AA) : AE := fun env O R => TO env O fun x O1 => tyM T O1 x ∧ U env O1 fun xs O2 => a x xs O2 R
def aBM0 (T : String) (a : AM) (TO : AE) : AE := fun env O R => TO env O fun x O1 => tyM T O1 x ∧ a x [] O1 R
theorem qe_bm {o e : Expr} {es : List Expr} {name : Str} {apos cpos : Pos} {T id : String} {r : V → List V → Hp → VK → Prop} {a : AM} {TO : AE} {U : AA} (pa : PlainAttrs T) (slot : Slot T name id) (hty : typeOf (.builtin id) = pure (.type "method_descriptor")) (hm : MtR X id r) (hs' : SM X.K r a) (ho : QE X W AW o TO) (ha : QA X W AW (e :: es) U)
    (hbase : attributeBase o name X.env (eval o X.env) = eval o X.env := by rfl)
    (hfew : ((backTo cpos (starEach (e :: es) X.env)).all (fun x => !x.1) && (backToKw cpos (keywordEach [] X.env)).all (fun x => x.1.isSome)
      && decide ((e :: es).length + ([] : List Keyword).length + (if ([] : List Keyword).isEmpty then 0 else 1) < 30)) = true := by rfl)
    (hline : (apos.endLine == cpos.line) = true := by rfl) (hs : starEach (e :: es) X.env = (false, eval e X.env) :: starEach es X.env := by rfl) (hplain : (backTo cpos (starEach es X.env)).any (·.1) = false := by rfl) :
    QE X W AW (.Call (.Attribute o name apos) (e :: es) [] cpos) (aBM T a TO U) := by
  obtain ⟨t, p1, s1⟩ := ho
  obtain ⟨u, p2, s2⟩ := ha
  refine ⟨_, pe_bm pa slot hty hm p1 p2 hbase hfew hline hs hplain, ⟨fun R0 rs xl h q => s1.run R0 rs xl h fun x O1 F1 H1 v h1 z1 R1 r1 => ⟨tyM_v R1 r1 h1.1, ?_⟩⟩⟩
  exact s2.run R1 (rs.mono z1.fx) (xl.step z1) h1.2 fun xs O2 F2 H2 vs h2 z2 R2 r2 => hs' F2 O2 H2 x xs v vs _ _ R2 (r1.mono z2.fx) r2 h2 fun r O3 F3 H3 w h3 z3 R3 r3 => q r O3 F3 H3 w h3 (z1.trans (z2.trans z3)) R3 r3
theorem qe_bm0 {o : Expr} {name : Str} {apos cpos : Pos} {T id : String} {r : V → List V → Hp → VK → Prop} {a : AM} {TO : AE} (pa : PlainAttrs T) (slot : Slot T name id) (hty : typeOf (.builtin id) = pure (.type "method_descriptor")) (hm : MtR X id r) (hs' : SM X.K r a) (ho : QE X W AW o TO)
    (hbase : attributeBase o name X.env (eval o X.env) = eval o X.env := by rfl) (hline : (apos.endLine == cpos.line) = true := by rfl) : QE X W AW (.Call (.Attribute o name apos) [] [] cpos) (aBM0 T a TO) := by
  obtain ⟨t, p1, s1⟩ := ho
  refine ⟨_, pe_bm0 pa slot hty hm p1 hbase hline, ⟨fun R0 rs xl h q => s1.run R0 rs xl h fun x O1 F1 H1 v h1 z1 R1 r1 => ⟨tyM_v R1 r1 h1.1, ?_⟩⟩⟩
  exact hs' F1 O1 H1 x [] v [] _ _ R1 r1 .nil h1.2 fun r O3 F3 H3 w h3 z3 R3 r3 => q r O3 F3 H3 w h3 (z1.trans z3) R3 r3
theorem RVs.nil_inv {K : PySem.W.Frag} {F : Hp} {vs : List V} (h : RVs K F [] vs) : vs = [] := by cases h; rfl
def aAppend : AM := fun x xs O R => ∃ l ys y, x = .o l ∧ xs = [y] ∧ O l = some (.lst ys) ∧ ys.length < sizeLine ∧ R (.d .none) (updO O l (.lst (ys ++ [y])))
theorem sm_append {K : PySem.W.Frag} : SM K rAppend aAppend := by
  intro F O H x xs v vs Q R R0 rx rs h q
  obtain ⟨l, ys, y, rfl, rfl, hl, hz, h⟩ := h
  cases rx
  obtain ⟨w, rfl, rw'⟩ := rvs1 rs
  obtain ⟨us, h1, h2⟩ := R0.lst hl
  obtain ⟨R2, z2⟩ := R0.write (o := .lst (ys ++ [y])) (h := .lst (us ++ [w])) hl ⟨_, rfl, h2.append (.cons rw' .nil)⟩
  exact ⟨l, us, w, rfl, rfl, h1, by rw [← h2.length]; exact hz, q _ _ _ _ _ h z2 R2 (.d .non)⟩
/-- what can be read as a list that is no script -/
theorem view_lm {K : PySem.W.Frag} {F H : Hp} {O : Oh} {x : OV} {v : V} {xs : List OV} (R : Rep K F O H) (r : RV K F x v) (h : itemsL O x xs) (hn : ∀ ns, x ≠ .s ns) : ∃ p vs, v = .ref p ∧ H p = some (.lst vs) ∧ RVs K F xs vs := by
  cases r with
  | d r =>
    cases r with
    | lst h1 h2 => exact ⟨_, _, rfl, R.fz _ _ h1, by rw [show xs = _ from h]; exact RVs.ofData h2⟩
    | _ => exact False.elim h
  | o => obtain ⟨vs, h1, h2⟩ := R.lst h; exact ⟨_, vs, rfl, h1, h2⟩
  | t _ _ => exact False.elim h
  | ty => exact False.elim h
  | cls => exact False.elim h
  | s h1 => exact absurd rfl (hn _)
def notS : OV → Prop
  | .s _ => False
  | _ => True
theorem notS_ne {x : OV} (h : notS x) : ∀ ns, x ≠ .s ns := fun ns e => by rw [e] at h; exact h
def aExtend : AM := fun x xs O R => ∃ l ys z zs, x = .o l ∧ xs = [z] ∧ O l = some (.lst ys) ∧ notS z ∧ itemsL O z zs ∧ ys.length + zs.length ≤ sizeLine ∧ R (.d .none) (updO O l (.lst (ys ++ zs)))
theorem sm_extend {K : PySem.W.Frag} : SM K rExtend aExtend := by
  intro F O H x xs v vs Q R R0 rx rs h q
  obtain ⟨l, ys, z, zs, rfl, rfl, hl, hn, hzs, hz, h⟩ := h
  cases rx
  obtain ⟨w, rfl, rw'⟩ := rvs1 rs
  obtain ⟨us, h1, h2⟩ := R0.lst hl
  obtain ⟨p, ws, rfl, h3, h4⟩ := view_lm R0 rw' hzs (notS_ne hn)
  obtain ⟨R2, z2⟩ := R0.write (o := .lst (ys ++ zs)) (h := .lst (us ++ ws)) hl ⟨_, rfl, h2.append h4⟩
  exact ⟨l, p, us, ws, rfl, rfl, h1, h3, by rw [← h2.length, ← h4.length]; exact hz, q _ _ _ _ _ h z2 R2 (.d .non)⟩
theorem list_extend_tupG (l : Addr) (items : Array Value) (n : Nat) (b : Addr) (items2 : Array Value) (n2 : Nat) (dd : Option Addr) (sl : Array (Option Value)) (hs0 : ¬(!items.isEmpty && Builtin.List.listTooLong (items.size + items2.size)) = true) (hs1 : items.size ≤ sizeLine) (hs2 : items.size + items2.size ≤ sizeLine + 1) :
    Meets (Builtin.«list.extend» ⟨[.ref l, .ref b], []⟩) (fun _ R s => s.heap.get? l = some { cls := .type "list", dict := none, data := .seq items n, slots := #[] } ∧ s.heap.get? b = some { cls := .type "tuple", dict := dd, data := .seq items2 n2, slots := sl } ∧ R (.ok (.ret Value.none)) { s with heap := s.heap.update l (Obj.mapSeq fun x => x ++ items2), toks := s.toks }) :=
  .of_wp fun prog w A R s h => by
    obtain ⟨hp, g, d, tk, os⟩ := s; obtain ⟨hl, hb, h⟩ := h; have f1 := AutoSeq1.idx_int; have f2 := AutoSeq1.sub_tuple_tuple; have f3 := AutoSeq1.sub_list_list; have f4 := AutoSeq1.sub_tuple_list; have f5 := AutoSeq1.sub_list_tuple;
    have hz' : (items ++ items2).size ≤ sizeLine + 1 := by rw [Array.size_append]; exact hs2
    wp_walk using (wpAny_updateSeq hl rfl (hz := hs1) (_hz' := hz')), wpAny_loadPart' hl, wpAny_loadPart' hb; exact ⟨_, rfl, h⟩
/-- xs.extend(t), t a tuple -/
def rExtendT (K : PySem.W.Frag) : V → List V → Hp → VK → Prop := fun x vs H Q => ∃ l b xs zs, x = .ref l ∧ vs = [.ref b] ∧ H l = some (.lst xs) ∧ SqT K H b zs ∧ xs.length + zs.length ≤ sizeLine ∧ Q .non (upd H l (.lst (xs ++ zs)))
theorem mt_extendT : MtR X "list.extend" (rExtendT X.K) := by
  intro pins s σ H x vs v us Q I rx rv h
  obtain ⟨l, b, xs, zs, rfl, rfl, hH, hB, hz, q⟩ := h
  cases rx
  obtain ⟨u, rfl, ru⟩ := Vals.one rv
  cases ru
  obtain ⟨z, its, n, r, hl, e⟩ := I.lstM hH
  obtain ⟨its2, r2, ⟨⟨cls2, dd2, data2, sl2⟩, ho2, hc2, n2, hd2⟩, _⟩ := I.tuple hB
  simp only at hc2 hd2
  subst hc2 hd2
  have hl2 := r2.length
  have hsz : its.toArray.size + its2.toArray.size ≤ sizeLine := by rw [List.size_toArray, List.size_toArray]; omega
  have hlong : ¬ (!its.toArray.isEmpty && Builtin.List.listTooLong (its.toArray.size + its2.toArray.size)) = true := by
    rw [notLongL hsz, Bool.and_false]
    exact Bool.false_ne_true
  refine call_meets F.slot_list_extend ⟨_, e, rfl⟩ F.entry_list_extend (F.args_list_extend_2 _ _)
    (list_extend_tupG l its.toArray n b its2.toArray n2 dd2 sl2 hlong (by rw [List.size_toArray]; omega) (by omega)) ⟨e, ho2, ?_⟩
  refine ⟨.non, _, I.lset (its' := its ++ its2) hH e (by simp) (r.append r2) ?_, rfl, q⟩
  rw [List.length_append]
  omega
end
end Y
/-! Y: more methods, slices, +, in, tests, comprehensions. -/
namespace Y
open PySem PySem.Spec L2
section
variable {X : Cx} {W : WX} {AW : AX} {pos : Pos}
def aExtendT : AM := fun x xs O R => ∃ l ys z zs, x = .o l ∧ xs = [z] ∧ O l = some (.lst ys) ∧ itemsT z zs ∧ ys.length + zs.length ≤ sizeLine ∧ R (.d .none) (updO O l (.lst (ys ++ zs)))
theorem sm_extendT {K : PySem.W.Frag} : SM K (rExtendT K) aExtendT := by
  intro F O H x xs v vs Q R R0 rx rs h q
  obtain ⟨l, ys, z, zs, rfl, rfl, hl, hzs, hz, h⟩ := h
  cases rx
  obtain ⟨w, rfl, rw'⟩ := rvs1 rs
  obtain ⟨us, h1, h2⟩ := R0.lst hl
  obtain ⟨p, ws, rfl, h3, h4⟩ := view_t rw' hzs
  obtain ⟨R2, z2⟩ := R0.write (o := .lst (ys ++ zs)) (h := .lst (us ++ ws)) hl ⟨_, rfl, h2.append h4⟩
  exact ⟨l, p, us, ws, rfl, rfl, h1, seqT_mono R0.fz h3, by rw [← h2.length, ← h4.length]; exact hz, q _ _ _ _ _ h z2 R2 (.d .non)⟩
def aPop : AM := fun x xs O R => ∃ l ys y, x = .o l ∧ xs = [] ∧ O l = some (.lst (ys ++ [y])) ∧ R y (updO O l (.lst ys))
theorem sm_pop {K : PySem.W.Frag} : SM K rPop aPop := by
  intro F O H x xs v vs Q R R0 rx rs h q
  obtain ⟨l, ys, y, rfl, rfl, hl, h⟩ := h
  cases rx
  obtain ⟨us, h1, h2⟩ := R0.lst hl
  have hlen := h2.length
  rw [List.length_append, List.length_singleton] at hlen
  obtain ⟨w, hw, rw'⟩ := h2.get (i := ys.length) (x := y) (by rw [List.getElem?_append_right (Nat.le_refl _), Nat.sub_self]; rfl)
  have ht := h2.take ys.length
  rw [List.take_left'] at ht
  obtain ⟨R2, z2⟩ := R0.write (o := .lst ys) (h := .lst us.dropLast) hl ⟨_, rfl, by rw [List.dropLast_eq_take]; rw [show us.length - 1 = ys.length by omega]; exact ht⟩
  exact ⟨l, us, w, rfl, rs.nil_inv, h1, by rw [show us.length - 1 = ys.length by omega]; exact hw, q _ _ _ _ _ h z2 R2 rw'⟩
  rfl
def aPopAt : AM := fun x xs O R => ∃ l ys i k y, x = .o l ∧ xs = [.d (.int i)] ∧ O l = some (.lst ys) ∧ -(2 ^ 63) ≤ i ∧ i < 2 ^ 63 ∧ seqIndex? i ys.length = some k ∧ ys[k]? = some y ∧ R y (updO O l (.lst (ys.eraseIdx k)))
theorem sm_popAt {K : PySem.W.Frag} : SM K rPopAt aPopAt := by
  intro F O H x xs v vs Q R R0 rx rs h q
  obtain ⟨l, ys, i, k, y, rfl, rfl, hl, b1, b2, hk, hy, h⟩ := h
  cases rx
  obtain ⟨w, rfl, rw'⟩ := rvs1 rs
  rw [rw'.int_inv]
  obtain ⟨us, h1, h2⟩ := R0.lst hl
  obtain ⟨u, hu, ru⟩ := h2.get hy
  obtain ⟨R2, z2⟩ := R0.write (o := .lst (ys.eraseIdx k)) (h := .lst (us.eraseIdx k)) hl ⟨_, rfl, h2.eraseIdx k⟩
  exact ⟨l, us, i, k, u, rfl, rfl, h1, b1, b2, by rw [← h2.length]; exact hk, hu, q _ _ _ _ _ h z2 R2 ru⟩
def aReverse : AM := fun x xs O R => ∃ l ys, x = .o l ∧ xs = [] ∧ O l = some (.lst ys) ∧ R (.d .none) (updO O l (.lst ys.reverse))
theorem sm_reverse {K : PySem.W.Frag} : SM K rReverse aReverse := by
  intro F O H x xs v vs Q R R0 rx rs h q
  obtain ⟨l, ys, rfl, rfl, hl, h⟩ := h
  cases rx
  obtain ⟨us, h1, h2⟩ := R0.lst hl
  obtain ⟨R2, z2⟩ := R0.write (o := .lst ys.reverse) (h := .lst us.reverse) hl ⟨_, rfl, h2.reverse⟩
  exact ⟨l, us, rfl, rs.nil_inv, h1, q _ _ _ _ _ h z2 R2 (.d .non)⟩
def aInsert : AM := fun x xs O R => ∃ l ys i y, x = .o l ∧ xs = [.d (.int i), y] ∧ O l = some (.lst ys) ∧ ys.length < sizeLine ∧ 0 ≤ i ∧ i < 2 ^ 63 ∧ R (.d .none) (updO O l (.lst (ys.take i.toNat ++ [y] ++ ys.drop i.toNat)))
theorem sm_insert {K : PySem.W.Frag} : SM K (fun x vs H Q => ∃ (l : Addr) (xs : List V) (i : Int) (y : V), x = .ref l ∧ vs = [.int i, y] ∧ H l = some (.lst xs) ∧ xs.length < sizeLine ∧ 0 ≤ i ∧ i < 2 ^ 63 ∧
    Q .non (upd H l (.lst (xs.take i.toNat ++ [y] ++ xs.drop i.toNat)))) aInsert := by
  intro F O H x xs v vs Q R R0 rx rs h q
  obtain ⟨l, ys, i, y, rfl, rfl, hl, hz, b1, b2, h⟩ := h
  cases rx
  obtain ⟨w, u, rfl, rw', ru⟩ := rvs2 rs
  rw [rw'.int_inv]
  obtain ⟨us, h1, h2⟩ := R0.lst hl
  obtain ⟨R2, z2⟩ := R0.write (o := .lst (ys.take i.toNat ++ [y] ++ ys.drop i.toNat)) (h := .lst (us.take i.toNat ++ [u] ++ us.drop i.toNat)) hl ⟨_, rfl, ((h2.take _).append (.cons ru .nil)).append (h2.drop _)⟩
  exact ⟨l, us, i, u, rfl, rfl, h1, by rw [← h2.length]; exact hz, b1, b2, q _ _ _ _ _ h z2 R2 (.d .non)⟩
def aCount : AM := fun x xs O R => ∃ ns k, itemsL O x (Zs ns) ∧ xs = [.d (.int k)] ∧ R (.d (.int (ns.count k : Nat))) O
theorem sm_count {K : PySem.W.Frag} : SM K (rCntI K) aCount := by
  intro F O H x xs v vs Q R R0 rx rs h q
  obtain ⟨ns, k, hx, rfl, h⟩ := h
  obtain ⟨w, rfl, rw'⟩ := rvs1 rs
  rw [rw'.int_inv]
  obtain ⟨p, us, rfl, h1, h2⟩ := view_l R0 rx hx
  rw [h2.ints_of] at h1
  exact ⟨p, ns, k, rfl, rfl, h1, q _ _ _ _ _ h Step.refl R0 (.d (.int _))⟩
/-- the place of an int in a list of ints -/
def aIndex : AM := fun x xs O R => ∃ ns k j, itemsL O x (Zs ns) ∧ xs = [.d (.int k)] ∧ ns[j]? = some k ∧ (∀ m z, m < j → ns[m]? = some z → z ≠ k) ∧ R (.d (.int (j : Nat))) O

/-! ### slices -/
abbrev AO := En → Oh → (Option Int → Oh → Prop) → Prop
structure SO (K : PySem.W.Frag) (W : WX) (AW : AX) (t : TO) (T : AO) : Prop where
  run : ∀ {F : Hp} {O : Oh} {H : Hp} {st : L2.St} {env : En} {Q : Option Int → Hp → Prop} {R : Option Int → Oh → Prop}, Rep K F O H → RS K F env st → XL K F O H AW W → T env O R →
    (∀ r O' F' H', R r O' → Step F O H F' O' H' → Rep K F' O' H' → Q r H') → t st H Q
def QO (X : Cx) (W : WX) (AW : AX) (e : Option Expr) (T : AO) : Prop := ∃ t, PO X e t ∧ SO X.K W AW t T
def aNoPart : AO := fun _ O R => R none O
def aPart (T : AE) : AO := fun env O R => T env O fun x O1 => ∃ i, x = .d (.int i) ∧ R (some i) O1
theorem qo_none : QO X W AW none aNoPart := ⟨_, po_none, ⟨fun R _ _ h q => q _ _ _ _ h Step.refl R⟩⟩
theorem qo_some {e : Expr} {T : AE} (h : QE X W AW e T) : QO X W AW (some e) (aPart T) := by
  obtain ⟨t, p, s⟩ := h
  refine ⟨_, po_some p, ⟨fun R0 rs xl h q => s.run R0 rs xl h fun x O1 F1 H1 v h1 z1 R1 r1 => ?_⟩⟩
  obtain ⟨i, rfl, h1⟩ := h1
  exact ⟨i, r1.int_inv, q _ _ _ _ h1 z1 R1⟩
abbrev AL := OV → Option Int → Option Int → Oh → (OV → Oh → Prop) → Prop
def SL (K : PySem.W.Frag) (r : V → Option Int → Option Int → Hp → VK → Prop) (a : AL) : Prop := ∀ (F : Hp) (O : Oh) (H : Hp) (x : OV) (lo hi : Option Int) (v : V) (Q : VK) (R : OV → Oh → Prop), Rep K F O H → RV K F x v → a x lo hi O R →
    (∀ r O' F' H' v, R r O' → Step F O H F' O' H' → Rep K F' O' H' → RV K F' r v → Q v H') → r v lo hi H Q
def aSl (a : AL) (TE : AE) (TL TH : AO) : AE := fun env O R => TE env O fun x O1 => TL env O1 fun l O2 => TH env O2 fun u O3 => a x l u O3 R
theorem qe_slice {e : Expr} {lo hi : Option Expr} {p2 : Pos} {r : V → Option Int → Option Int → Hp → VK → Prop} {a : AL} {TE : AE} {TL TH : AO} (hr : SlR X r) (hs : SL X.K r a) (he : QE X W AW e TE) (hl : QO X W AW lo TL) (hu : QO X W AW hi TH) : QE X W AW (.Subscript e (.Slice lo hi none p2) pos) (aSl a TE TL TH) := by
  obtain ⟨t, p, s⟩ := he
  obtain ⟨t1, p1, s1⟩ := hl
  obtain ⟨t2, p2, s2⟩ := hu
  refine ⟨_, pe_slice hr p p1 p2, ⟨fun R0 rs xl h q => s.run R0 rs xl h fun x O1 F1 H1 v h1 z1 R1 r1 => s1.run R1 (rs.mono z1.fx) (xl.step z1) h1 fun l O2 F2 H2 h2 z2 R2 => s2.run R2 ((rs.mono z1.fx).mono z2.fx) (xl.step (z1.trans z2)) h2 fun u O3 F3 H3 h3 z3 R3 => ?_⟩⟩
  exact hs F3 O3 H3 x l u v _ _ R3 (r1.mono (z2.trans z3).fx) h3 fun r O4 F4 H4 w h4 z4 R4 r4 => q r O4 F4 H4 w h4 (z1.trans (z2.trans (z3.trans z4))) R4 r4
def cutO (xs : List OV) (lo hi : Option Int) : List OV := (xs.drop (HT.sIx xs.length 0 lo)).take (HT.sIx xs.length xs.length hi - HT.sIx xs.length 0 lo)
theorem RVs.cut {K : PySem.W.Frag} {F : Hp} {xs : List OV} {vs : List V} (r : RVs K F xs vs) (lo hi : Option Int) : RVs K F (cutO xs lo hi) (cutV vs lo hi) := by
  unfold cutO cutV
  rw [r.length]
  exact (r.drop _).take _
def aSlL : AL := fun x lo hi O R => ∃ xs, itemsL O x xs ∧ ∀ p, O p = none → R (.o p) (updO O p (.lst (cutO xs lo hi)))
theorem sl_l {K : PySem.W.Frag} : SL K (rSlL K) aSlL := by
  intro F O H x lo hi v Q R R0 r h q
  obtain ⟨xs, hx, h⟩ := h
  obtain ⟨p, vs, rfl, h1, h2⟩ := view_l R0 r hx
  refine ⟨p, vs, rfl, h1, fun l hl => ?_⟩
  obtain ⟨R2, z2⟩ := R0.newO (o := .lst (cutO xs lo hi)) (h := .lst (cutV vs lo hi)) hl ⟨_, rfl, h2.cut lo hi⟩
  exact q _ _ _ _ _ (h l (R0.ofree hl)) z2 R2 .o
theorem cut_whole {xs : List OV} {lo hi : Option Int} (h : HT.sIx xs.length 0 lo = 0 ∧ HT.sIx xs.length xs.length hi = xs.length) : cutO xs lo hi = xs := by
  unfold cutO
  rw [h.1, h.2]
  simp
theorem itemsT_rv {K : PySem.W.Frag} {F : Hp} {x : OV} {v : V} {xs : List OV} (r : RV K F x v) (h : itemsT x xs) : ∃ p vs, v = .ref p ∧ SqT K F p vs ∧ RVs K F xs vs := view_t r h
def aSlT : AL := fun x lo hi O R => ∃ xs, itemsT x xs ∧ R (mkT (cutO xs lo hi)) O
theorem sl_t {K : PySem.W.Frag} : SL K (rSlA K) aSlT := by
  intro F O H x lo hi v Q R R0 r h q
  obtain ⟨xs, hx, h⟩ := h
  obtain ⟨p, vs, rfl, h1, h2⟩ := view_t r hx
  refine ⟨p, vs, rfl, seqT_mono R0.fz h1, fun hw => ?_, fun hw l hl => ?_⟩
  · rw [← h2.length] at hw
    rw [cut_whole hw] at h
    exact q _ _ _ _ _ h Step.refl R0 (.mkT h1 h2)
  · obtain ⟨R2, z2, sf⟩ := R0.newF (h := .tup (cutV vs lo hi)) hl
    exact q _ _ _ _ _ h z2 R2 (.mkT (.inl (.inl upd_same)) ((h2.cut lo hi).mono sf))
def aSlS : AL := fun x lo hi O R => ∃ z : Str, x = .d (.str z) ∧ z.length ≤ sizeLine ∧ R (.d (.str (cutS z lo hi))) O
theorem sl_s {K : PySem.W.Frag} : SL K rSlS aSlS := by
  intro F O H x lo hi v Q R R0 r h q
  obtain ⟨z, rfl, hz, h⟩ := h
  rw [r.str_inv]
  exact ⟨z, rfl, hz, q _ _ _ _ _ h Step.refl R0 (.d (.str _))⟩
/-- xs[::-1] of a list -/
def aRevL (T : AE) : AE := fun env O R => T env O fun x O1 => ∃ xs, itemsL O1 x xs ∧ ∀ p, O1 p = none → R (.o p) (updO O1 p (.lst xs.reverse))
theorem qe_revL {e : Expr} {k : Nat} {p1 p2 p3 pos : Pos} {T : AE} (he : QE X W AW e T) : QE X W AW (.Subscript e (.Slice none none (some (.UnaryOp .USub (.Constant (.int 1) k p1) p2)) p3) pos) (aRevL T) := by
  obtain ⟨t, p, s⟩ := he
  refine ⟨_, pe_revL p, ⟨fun R0 rs xl h q => s.run R0 rs xl h fun x O1 F1 H1 v h1 z1 R1 r1 => ?_⟩⟩
  obtain ⟨xs, hx, h1⟩ := h1
  obtain ⟨a, vs, rfl, h2, h3⟩ := view_l R1 r1 hx
  refine ⟨a, vs, rfl, h2, fun l hl => ?_⟩
  obtain ⟨R2, z2⟩ := R1.newO (o := .lst xs.reverse) (h := .lst vs.reverse) hl ⟨_, rfl, h3.reverse⟩
  exact q _ _ _ _ _ (h1 l (R1.ofree hl)) (z1.trans z2) R2 .o

/-! ### + of lists and of tuples, list * int, in -/
def aCat : AR2 := fun x y O R => ∃ xs ys, notS x ∧ notS y ∧ itemsL O x xs ∧ itemsL O y ys ∧ xs.length + ys.length ≤ sizeLine ∧ ∀ p, O p = none → R (.o p) (updO O p (.lst (xs ++ ys)))
theorem sr_cat {K : PySem.W.Frag} : SR K rCat aCat := by
  intro F O H x y vx vy Q R R0 rx ry h q
  obtain ⟨xs, ys, n1, n2, hx, hy, hz, h⟩ := h
  obtain ⟨a, us, rfl, h1, h2⟩ := view_lm R0 rx hx (notS_ne n1)
  obtain ⟨b, ws, rfl, h3, h4⟩ := view_lm R0 ry hy (notS_ne n2)
  refine ⟨a, b, us, ws, rfl, rfl, h1, h3, by rw [← h2.length, ← h4.length]; exact hz, fun l hl => ?_⟩
  obtain ⟨R2, z2⟩ := R0.newO (o := .lst (xs ++ ys)) (h := .lst (us ++ ws)) hl ⟨_, rfl, h2.append h4⟩
  exact q _ _ _ _ _ (h l (R0.ofree hl)) z2 R2 .o
def aCatT : AR2 := fun x y O R => ∃ xs ys, itemsT x xs ∧ itemsT y ys ∧ xs.length + ys.length ≤ sizeLine ∧ R (mkT (xs ++ ys)) O
theorem sr_catT {K : PySem.W.Frag} : SR K (rCatA K) aCatT := by
  intro F O H x y vx vy Q R R0 rx ry h q
  obtain ⟨xs, ys, hx, hy, hz, h⟩ := h
  obtain ⟨a, us, rfl, h1, h2⟩ := view_t rx hx
  obtain ⟨b, ws, rfl, h3, h4⟩ := view_t ry hy
  refine ⟨a, b, us, ws, rfl, rfl, seqT_mono R0.fz h1, seqT_mono R0.fz h3, by rw [← h2.length, ← h4.length]; exact hz, fun e => ?_, fun _ e => ?_, fun _ _ l hl => ?_⟩
  · subst e
    cases h2
    exact q _ _ _ _ _ h Step.refl R0 (.mkT h3 h4)
  · subst e
    cases h4
    rw [List.append_nil] at h
    exact q _ _ _ _ _ h Step.refl R0 (.mkT h1 h2)
  · obtain ⟨R2, z2, sf⟩ := R0.newF (h := .tup (us ++ ws)) hl
    exact q _ _ _ _ _ h z2 R2 (.mkT (.inl (.inl upd_same)) ((h2.append h4).mono sf))
/-- x in xs, data of any depth in a list of data -/
def aInD (neg : Bool) : AR2 := fun x y O R => ∃ d ds, Fz O x d ∧ Fz O y (.list ds) ∧ SeqAt.shaped d = true ∧ SeqAt.shaped (.list ds) = true ∧ R (.d (.bool (neg != ds.any fun z => PyData.eqv z d))) O
/-- x in xs, ints in a list or a tuple of ints -/
def aInI (neg : Bool) : AR2 := fun x y O R => ∃ i ns, x = .d (.int i) ∧ (itemsL O y (Zs ns) ∨ itemsT y (Zs ns)) ∧ R (.d (.bool (neg != ns.contains i))) O
theorem flat_ints : ∀ ns : List Int, (ns.map V.int).all flatV = true
  | [] => rfl
  | n :: ns => by rw [List.map_cons, List.all_cons, flat_ints ns]; rfl
theorem inV_ints (i : Int) : ∀ ns : List Int, inV (.int i) (ns.map V.int) = ns.contains i
  | [] => rfl
  | n :: ns => by
    have ih := inV_ints i ns
    unfold inV at ih ⊢
    rw [List.map_cons, List.any_cons, ih, List.contains_cons]
    have e : eqV (.int n) (.int i) = (i == n) := by
      show (n == i) = (i == n)
      by_cases h : n = i
      · subst h; rfl
      · rw [beq_eq_false_iff_ne.mpr h, beq_eq_false_iff_ne.mpr (fun z => h z.symm)]
    rw [e]
theorem sr_inI {K : PySem.W.Frag} {neg : Bool} : SR K (rIn K neg) (aInI neg) := by
  intro F O H x y vx vy Q R R0 rx ry h q
  obtain ⟨i, ns, rfl, hy, h⟩ := h
  rw [rx.int_inv]
  have fin : ∀ p, vy = .ref p → (SqL K H p (ns.map V.int) ∨ SqT K H p (ns.map V.int)) → rIn K neg (.int i) vy H Q := fun p e hs => by
    refine ⟨p, ns.map V.int, e, hs, rfl, flat_ints ns, ?_⟩
    rw [inV_ints]
    have e2 : (if neg = true then !ns.contains i else ns.contains i) = (neg != ns.contains i) := by cases neg <;> cases ns.contains i <;> rfl
    rw [e2]
    exact q _ _ _ _ _ h Step.refl R0 (.d (.bl _))
  rcases hy with hy | hy
  · obtain ⟨p, us, rfl, h1, h2⟩ := view_l R0 ry hy
    rw [RVs.ints_of h2] at h1
    exact fin p rfl (.inl h1)
  · obtain ⟨p, us, rfl, h1, h2⟩ := view_t ry hy
    rw [RVs.ints_of h2] at h1
    exact fin p rfl (.inr (seqT_mono R0.fz h1))

/-! ### and, or, not, if .. else; tests -/
def aAnd (T U : AE) : AE := fun env O R => T env O fun x O1 => ∃ c, x = .d (.bool c) ∧ if c = true then U env O1 R else R (.d (.bool false)) O1
def aOr (T U : AE) : AE := fun env O R => T env O fun x O1 => ∃ c, x = .d (.bool c) ∧ if c = true then R (.d (.bool true)) O1 else U env O1 R
def aNot (T : AE) : AE := fun env O R => T env O fun x O1 => ∃ c, x = .d (.bool c) ∧ R (.d (.bool (!c))) O1
theorem qe_one {a : Expr} {op} {T : AE} (h : QE X W AW a T) : QE X W AW (.BoolOp op [a] pos) T := by
  obtain ⟨t, p, s⟩ := h
  exact ⟨t, pe_one p, s⟩
theorem qe_and {a b : Expr} {rest : List Expr} {T U : AE} (ha : QE X W AW a T) (hb : QE X W AW (.BoolOp .And (b :: rest) pos) U) : QE X W AW (.BoolOp .And (a :: b :: rest) pos) (aAnd T U) := by
  obtain ⟨t, p, s⟩ := ha
  obtain ⟨t1, p1, s1⟩ := hb
  refine ⟨_, pe_and p p1, ⟨fun R0 rs xl h q => s.run R0 rs xl h fun x O1 F1 H1 v h1 z1 R1 r1 => ?_⟩⟩
  obtain ⟨c, rfl, h1⟩ := h1
  refine ⟨c, r1.bl_inv, ?_⟩
  cases c with
  | true => rw [if_pos rfl] at h1 ⊢; exact s1.run R1 (rs.mono z1.fx) (xl.step z1) h1 fun r O2 F2 H2 w h2 z2 R2 r2 => q r O2 F2 H2 w h2 (z1.trans z2) R2 r2
  | false => rw [if_neg Bool.false_ne_true] at h1 ⊢; exact q _ _ _ _ _ h1 z1 R1 (.d (.bl _))
theorem qe_or {a b : Expr} {rest : List Expr} {T U : AE} (ha : QE X W AW a T) (hb : QE X W AW (.BoolOp .Or (b :: rest) pos) U) : QE X W AW (.BoolOp .Or (a :: b :: rest) pos) (aOr T U) := by
  obtain ⟨t, p, s⟩ := ha
  obtain ⟨t1, p1, s1⟩ := hb
  refine ⟨_, pe_or p p1, ⟨fun R0 rs xl h q => s.run R0 rs xl h fun x O1 F1 H1 v h1 z1 R1 r1 => ?_⟩⟩
  obtain ⟨c, rfl, h1⟩ := h1
  refine ⟨c, r1.bl_inv, ?_⟩
  cases c with
  | false => rw [if_neg Bool.false_ne_true] at h1 ⊢; exact s1.run R1 (rs.mono z1.fx) (xl.step z1) h1 fun r O2 F2 H2 w h2 z2 R2 r2 => q r O2 F2 H2 w h2 (z1.trans z2) R2 r2
  | true => rw [if_pos rfl] at h1 ⊢; exact q _ _ _ _ _ h1 z1 R1 (.d (.bl _))
theorem qe_not {a : Expr} {T : AE} (ha : QE X W AW a T) : QE X W AW (.UnaryOp .Not a pos) (aNot T) := by
  obtain ⟨t, p, s⟩ := ha
  refine ⟨_, pe_not p, ⟨fun R0 rs xl h q => s.run R0 rs xl h fun x O1 F1 H1 v h1 z1 R1 r1 => ?_⟩⟩
  obtain ⟨c, rfl, h1⟩ := h1
  exact ⟨c, r1.bl_inv, q _ _ _ _ _ h1 z1 R1 (.d (.bl _))⟩
def aNeg (T : AE) : AE := fun env O R => T env O fun x O1 => ∃ i, x = .d (.int i) ∧ R (.d (.int (-i))) O1
theorem qe_neg {a : Expr} {T : AE} (ha : QE X W AW a T) : QE X W AW (.UnaryOp .USub a pos) (aNeg T) := by
  obtain ⟨t, p, s⟩ := ha
  refine ⟨_, pe_un un_neg p, ⟨fun R0 rs xl h q => s.run R0 rs xl h fun x O1 F1 H1 v h1 z1 R1 r1 => ?_⟩⟩
  obtain ⟨i, rfl, h1⟩ := h1
  exact ⟨i, r1.int_inv, q _ _ _ _ _ h1 z1 R1 (.d (.int _))⟩
/-- a value as a test -/
def aB (T : AE) : AT := fun env O R => T env O fun x O1 => ∃ c, x = .d (.bool c) ∧ R c O1
theorem st_B {K : PySem.W.Frag} {t : TE} {T : AE} (s : SE K W AW t T) : ST K W AW (tB t) (aB T) := ⟨fun R0 rs xl h q => s.run R0 rs xl h fun x O1 F1 H1 v h1 z1 R1 r1 => by
  obtain ⟨c, rfl, h1⟩ := h1
  exact ⟨c, r1.bl_inv, q _ _ _ _ h1 z1 R1⟩⟩
theorem qt_val {e : Expr} {T : AE} (h : QE X W AW e T) (he : ∀ whole, isTrue e X.env whole = (do let v ← whole; standAt e.pos; holding [v] (truthy v)) := by intro _; rfl) : QT X W AW e (aB T) := by
  obtain ⟨t, p, s⟩ := h
  exact ⟨_, pt_val p he, st_B s⟩
theorem qt_cmp {op : CmpOp} {r : R2} {a : AR2} {ea eb : Expr} {TA TB : AE} (ho : OpR X (compareOp op) r) (hs : SR X.K r a) (ha : QE X W AW ea TA) (hb : QE X W AW eb TB) (hm : behindInMarks op eb = false := by first | exact nomark _ | rfl) : QT X W AW (.Compare ea [op] [eb] pos) (aB (aOp a TA TB)) := by
  obtain ⟨ta, p1, s1⟩ := ha
  obtain ⟨tb, p2, s2⟩ := hb
  exact ⟨_, pt_cmpR ho p1 p2 hm, st_B (se_op hs s1 s2)⟩
def aTAnd (T U : AT) : AT := fun env O R => T env O fun c O1 => if c = true then U env O1 R else R false O1
def aTOr (T U : AT) : AT := fun env O R => T env O fun c O1 => if c = true then R true O1 else U env O1 R
def aTNot (T : AT) : AT := fun env O R => T env O fun c O1 => R (!c) O1
theorem qw_and1 {a : Expr} {T : AT} (h : QT X W AW a T) : QW X W AW (.BoolOp .And [a] pos) T := by
  obtain ⟨t, p, s⟩ := h
  exact ⟨t, pw_and1 p, s⟩
theorem qw_or1 {a : Expr} {T : AT} (h : QT X W AW a T) : QW X W AW (.BoolOp .Or [a] pos) T := by
  obtain ⟨t, p, s⟩ := h
  exact ⟨t, pw_or1 p, s⟩
theorem qw_and {a b : Expr} {rest : List Expr} {T U : AT} (ha : QT X W AW a T) (hb : QW X W AW (.BoolOp .And (b :: rest) pos) U) : QW X W AW (.BoolOp .And (a :: b :: rest) pos) (aTAnd T U) := by
  obtain ⟨t, p, s⟩ := ha
  obtain ⟨t1, p1, s1⟩ := hb
  refine ⟨_, pw_and p p1, ⟨fun R0 rs xl h q => s.run R0 rs xl h fun c O1 F1 H1 h1 z1 R1 => ?_⟩⟩
  cases c with
  | true => rw [if_pos rfl] at h1 ⊢; exact s1.run R1 (rs.mono z1.fx) (xl.step z1) h1 fun r O2 F2 H2 h2 z2 R2 => q r O2 F2 H2 h2 (z1.trans z2) R2
  | false => rw [if_neg Bool.false_ne_true] at h1 ⊢; exact q _ _ _ _ h1 z1 R1
theorem qw_or {a b : Expr} {rest : List Expr} {T U : AT} (ha : QT X W AW a T) (hb : QW X W AW (.BoolOp .Or (b :: rest) pos) U) : QW X W AW (.BoolOp .Or (a :: b :: rest) pos) (aTOr T U) := by
  obtain ⟨t, p, s⟩ := ha
  obtain ⟨t1, p1, s1⟩ := hb
  refine ⟨_, pw_or p p1, ⟨fun R0 rs xl h q => s.run R0 rs xl h fun c O1 F1 H1 h1 z1 R1 => ?_⟩⟩
  cases c with
  | false => rw [if_neg Bool.false_ne_true] at h1 ⊢; exact s1.run R1 (rs.mono z1.fx) (xl.step z1) h1 fun r O2 F2 H2 h2 z2 R2 => q r O2 F2 H2 h2 (z1.trans z2) R2
  | true => rw [if_pos rfl] at h1 ⊢; exact q _ _ _ _ h1 z1 R1
theorem qw_pt {e : Expr} {T : AT} (h : QW X W AW e T) : QT X W AW e T := by
  obtain ⟨t, p, s⟩ := h
  exact ⟨t, p.pt, s⟩
theorem qt_not {a : Expr} {T : AT} (h : QT X W AW a T) : QT X W AW (.UnaryOp .Not a pos) (aTNot T) := by
  obtain ⟨t, p, s⟩ := h
  exact ⟨_, pt_not p, ⟨fun R0 rs xl h q => s.run R0 rs xl h fun c O1 F1 H1 h1 z1 R1 => q _ _ _ _ h1 z1 R1⟩⟩
/-- a value of any kind as a test: an int, a text, a list -/
def aIf (T : AT) (U V : AE) : AE := fun env O R => T env O fun c O1 => if c = true then U env O1 R else V env O1 R
theorem qe_ifExp {c a b : Expr} {T : AT} {U V : AE} (hc : QT X W AW c T) (ha : QE X W AW a U) (hb : QE X W AW b V) : QE X W AW (.IfExp c a b pos) (aIf T U V) := by
  obtain ⟨t, p, s⟩ := hc
  obtain ⟨t1, p1, s1⟩ := ha
  obtain ⟨t2, p2, s2⟩ := hb
  refine ⟨_, pe_ifExp p p1 p2, ⟨fun R0 rs xl h q => s.run R0 rs xl h fun c O1 F1 H1 h1 z1 R1 => ?_⟩⟩
  cases c with
  | true => rw [if_pos rfl] at h1 ⊢; exact s1.run R1 (rs.mono z1.fx) (xl.step z1) h1 fun r O2 F2 H2 w h2 z2 R2 r2 => q r O2 F2 H2 w h2 (z1.trans z2) R2 r2
  | false => rw [if_neg Bool.false_ne_true] at h1 ⊢; exact s2.run R1 (rs.mono z1.fx) (xl.step z1) h1 fun r O2 F2 H2 w h2 z2 R2 r2 => q r O2 F2 H2 w h2 (z1.trans z2) R2 r2
end
end Y
/-! Y: what is walked, comprehensions, statements, defs and calls. -/
namespace Y
open PySem PySem.Spec L2

/-! ### what is walked -/
structure PIt where
  go : Nat → Oh → OV → Prop
  stop : Nat → Oh → Prop
structure SIt (K : PySem.W.Frag) (F : Hp) (J : It) (PJ : PIt) : Prop where
  go : ∀ i F' O' H' x, Same F F' → Rep K F' O' H' → PJ.go i O' x → J.go i H'
  yld : ∀ i F' O' H' x v H2, Same F F' → Rep K F' O' H' → PJ.go i O' x → J.yld i H' v H2 → ∃ F2, Step F' O' H' F2 O' H2 ∧ Rep K F2 O' H2 ∧ RV K F2 x v
  stop : ∀ i F' O' H', Same F F' → Rep K F' O' H' → PJ.stop i O' → J.stop i H'
abbrev AI := En → Oh → (PIt → Oh → Prop) → Prop
structure SI (K : PySem.W.Frag) (W : WX) (AW : AX) (t : TI) (T : AI) : Prop where
  run : ∀ {F : Hp} {O : Oh} {H : Hp} {st : L2.St} {env : En} {Q : It → Hp → Prop} {R : PIt → Oh → Prop}, Rep K F O H → RS K F env st → XL K F O H AW W → T env O R →
    (∀ PJ O' F' H' J, R PJ O' → Step F O H F' O' H' → Rep K F' O' H' → SIt K F' J PJ → Q J H') → t st H Q
def QI (X : Cx) (W : WX) (AW : AX) (tg e : Expr) (T : AI) : Prop := ∃ t, PI X tg e t ∧ SI X.K W AW t T
def pitL (x : OV) : PIt := ⟨fun i O z => ∃ ys, itemsL O x ys ∧ ys[i]? = some z, fun i O => ∃ ys, itemsL O x ys ∧ ys.length ≤ i⟩
def pitT (x : OV) : PIt := ⟨fun i _ z => ∃ ys, itemsT x ys ∧ ys[i]? = some z, fun i _ => ∃ ys, itemsT x ys ∧ ys.length ≤ i⟩
def pitR (lo : Int) (n : Nat) : PIt := ⟨fun i _ z => i < n ∧ z = .d (.int (lo + i)), fun i _ => n ≤ i⟩
def pitC (lo c : Int) (n : Nat) : PIt := ⟨fun i _ z => i < n ∧ z = .d (.int (lo + (i : Nat) * c)), fun i _ => n ≤ i⟩
def pitS (s : Str) : PIt := ⟨fun i _ z => ∃ c, s.cps[i]? = some c ∧ z = .d (.str ⟨#[c]⟩), fun i _ => s.cps.size ≤ i⟩
section
variable {K : PySem.W.Frag} {F : Hp}
theorem sit_l {x : OV} {a : Addr} (r : RV K F x (.ref a)) : SIt K F (Itl K a) (pitL x) := by
  refine ⟨fun i F' O' H' z sf R g => ?_, fun i F' O' H' z v H2 sf R g y => ?_, fun i F' O' H' sf R g => ?_⟩
  · obtain ⟨ys, h1, h2⟩ := g
    obtain ⟨p, vs, e, h3, h4⟩ := view_l R (r.mono sf) h1
    cases e
    obtain ⟨v, h5, _⟩ := h4.get h2
    exact ⟨vs, v, h3, h5⟩
  · obtain ⟨ys, h1, h2⟩ := g
    obtain ⟨p, vs, e, h3, h4⟩ := view_l R (r.mono sf) h1
    cases e
    obtain ⟨w, h5, h6⟩ := h4.get h2
    obtain ⟨rfl, hy⟩ := y
    have := hy vs h3
    rw [h5] at this
    cases this
    exact ⟨F', Step.refl, R, h6⟩
  · obtain ⟨ys, h1, h2⟩ := g
    obtain ⟨p, vs, e, h3, h4⟩ := view_l R (r.mono sf) h1
    cases e
    exact ⟨vs, h3, by rw [← h4.length]; exact h2⟩
theorem sit_t {x : OV} {a : Addr} (r : RV K F x (.ref a)) : SIt K F (Itt K a) (pitT x) := by
  refine ⟨fun i F' O' H' z sf R g => ?_, fun i F' O' H' z v H2 sf R g y => ?_, fun i F' O' H' sf R g => ?_⟩
  · obtain ⟨ys, h1, h2⟩ := g
    obtain ⟨p, vs, e, h3, h4⟩ := view_t (r.mono sf) h1
    cases e
    obtain ⟨v, h5, _⟩ := h4.get h2
    exact ⟨vs, v, seqT_mono R.fz h3, h5⟩
  · obtain ⟨ys, h1, h2⟩ := g
    obtain ⟨p, vs, e, h3, h4⟩ := view_t (r.mono sf) h1
    cases e
    obtain ⟨w, h5, h6⟩ := h4.get h2
    obtain ⟨rfl, hy⟩ := y
    have := hy vs (seqT_mono R.fz h3)
    rw [h5] at this
    cases this
    exact ⟨F', Step.refl, R, h6⟩
  · obtain ⟨ys, h1, h2⟩ := g
    obtain ⟨p, vs, e, h3, h4⟩ := view_t (r.mono sf) h1
    cases e
    exact ⟨vs, seqT_mono R.fz h3, by rw [← h4.length]; exact h2⟩
theorem sit_r {lo : Int} {n : Nat} : SIt K F (Itr lo n) (pitR lo n) :=
  ⟨fun _ _ _ _ _ _ _ g => g.1, fun i F' O' H' z v H2 sf R g y => by
    obtain ⟨_, rfl⟩ := g
    obtain ⟨rfl, rfl⟩ := y
    exact ⟨F', Step.refl, R, .d (.int _)⟩, fun _ _ _ _ _ _ g => g⟩
theorem sit_c {lo c : Int} {n : Nat} : SIt K F (Itc lo c n) (pitC lo c n) :=
  ⟨fun _ _ _ _ _ _ _ g => g.1, fun i F' O' H' z v H2 sf R g y => by
    obtain ⟨_, rfl⟩ := g
    obtain ⟨rfl, rfl⟩ := y
    exact ⟨F', Step.refl, R, .d (.int _)⟩, fun _ _ _ _ _ _ g => g⟩
theorem sit_s {s : Str} : SIt K F (Its s) (pitS s) :=
  ⟨fun i _ _ _ _ _ _ g => by
    obtain ⟨c, h, _⟩ := g
    exact (Array.getElem?_eq_some_iff.mp h).1, fun i F' O' H' z v H2 sf R g y => by
    obtain ⟨c, h, rfl⟩ := g
    obtain ⟨rfl, c', h', rfl⟩ := y
    rw [h] at h'
    cases h'
    exact ⟨F', Step.refl, R, .d (.str _)⟩, fun _ _ _ _ _ _ g => g⟩
end
section
variable {X : Cx} {W : WX} {AW : AX} {pos : Pos} {tg e : Expr}
def aItL (T : AE) : AI := fun env O R => T env O fun x O1 => (∃ ys, itemsL O1 x ys) ∧ R (pitL x) O1
def aItT (T : AE) : AI := fun env O R => T env O fun x O1 => (∃ ys, itemsT x ys) ∧ R (pitT x) O1
def aItS (T : AE) : AI := fun env O R => T env O fun x O1 => ∃ z, x = .d (.str z) ∧ R (pitS z) O1
theorem qi_list {T : AE} (h : QE X W AW e T) : QI X W AW tg e (aItL T) := by
  obtain ⟨t, p, s⟩ := h
  refine ⟨_, pi_list p, ⟨fun R0 rs xl h q => s.run R0 rs xl h fun x O1 F1 H1 v h1 z1 R1 r1 => ?_⟩⟩
  obtain ⟨⟨ys, hy⟩, h1⟩ := h1
  obtain ⟨a, vs, rfl, h2, h3⟩ := view_l R1 r1 hy
  exact ⟨a, rfl, ⟨vs, h2⟩, q _ _ _ _ _ h1 z1 R1 (sit_l r1)⟩
theorem qi_tup {T : AE} (h : QE X W AW e T) : QI X W AW tg e (aItT T) := by
  obtain ⟨t, p, s⟩ := h
  refine ⟨_, pi_tup p, ⟨fun R0 rs xl h q => s.run R0 rs xl h fun x O1 F1 H1 v h1 z1 R1 r1 => ?_⟩⟩
  obtain ⟨⟨ys, hy⟩, h1⟩ := h1
  obtain ⟨a, vs, rfl, h2, h3⟩ := view_t r1 hy
  exact ⟨a, rfl, ⟨vs, seqT_mono R1.fz h2⟩, q _ _ _ _ _ h1 z1 R1 (sit_t r1)⟩
theorem qi_str {T : AE} (h : QE X W AW e T) : QI X W AW tg e (aItS T) := by
  obtain ⟨t, p, s⟩ := h
  refine ⟨_, pi_str p, ⟨fun R0 rs xl h q => s.run R0 rs xl h fun x O1 F1 H1 v h1 z1 R1 r1 => ?_⟩⟩
  obtain ⟨z, rfl, h1⟩ := h1
  exact ⟨z, r1.str_inv, q _ _ _ _ _ h1 z1 R1 sit_s⟩
def aItR1 (U : AA) : AI := fun env O R => U env O fun xs O1 => ∃ j : Int, xs = [.d (.int j)] ∧ -(2 ^ 62) ≤ j ∧ j < 2 ^ 62 ∧ R (pitR 0 j.toNat) O1
def aItR2 (U : AA) : AI := fun env O R => U env O fun xs O2 => ∃ i j : Int, xs = [.d (.int i), .d (.int j)] ∧ (-(2 ^ 62) ≤ i ∧ i < 2 ^ 62 ∧ -(2 ^ 62) ≤ j ∧ j < 2 ^ 62) ∧ R (pitR i (j - i).toNat) O2
def aItR3 (U : AA) : AI := fun env O R => U env O fun xs O3 => ∃ (i j c : Int) (n : Nat), xs = [.d (.int i), .d (.int j), .d (.int c)] ∧ RgC i j c n ∧ R (pitC i c n) O3
theorem rvs3 {K : PySem.W.Frag} {F : Hp} {x y z : OV} {vs : List V} (h : RVs K F [x, y, z] vs) : ∃ v w u, vs = [v, w, u] ∧ RV K F x v ∧ RV K F y w ∧ RV K F z u := by
  cases h with | cons r t => cases t with | cons r' t => cases t with | cons r'' t => cases t; exact ⟨_, _, _, rfl, r, r', r''⟩
theorem qi_range1 {a : Expr} {p : Pos} {U : AA} (hm : X.mg "range" = none) (ha : QA X W AW [a] U) (hg : Gl X "range" := by rfl) (hs : starEach [a] X.env = [(false, eval a X.env)] := by rfl) : QI X W AW tg (.Call (.Name "range" p) [a] [] pos) (aItR1 U) := by
  obtain ⟨t, p, s⟩ := ha
  refine ⟨_, pi_range1 hg hm p hs, ⟨fun R0 rs xl h q => s.run R0 rs xl h fun x O1 F1 H1 v h1 z1 R1 r1 => ?_⟩⟩
  obtain ⟨j, rfl, b1, b2, h1⟩ := h1
  obtain ⟨v, rfl, r2⟩ := rvs1 r1
  exact ⟨j, by rw [r2.int_inv], b1, b2, q _ _ _ _ _ h1 z1 R1 sit_r⟩
theorem qi_range2 {a b : Expr} {p : Pos} {U : AA} (hm : X.mg "range" = none) (ha : QA X W AW [a, b] U) (hg : Gl X "range" := by rfl) (hs : starEach [a, b] X.env = [(false, eval a X.env), (false, eval b X.env)] := by rfl) (hs2 : starEach [b] X.env = [(false, eval b X.env)] := by rfl) : QI X W AW tg (.Call (.Name "range" p) [a, b] [] pos) (aItR2 U) := by
  obtain ⟨t, p, s⟩ := ha
  refine ⟨_, pi_range2 hg hm p hs hs2, ⟨fun R0 rs xl h q => s.run R0 rs xl h fun x O1 F1 H1 v h1 z1 R1 r1 => ?_⟩⟩
  obtain ⟨i, j, rfl, b, h2⟩ := h1
  obtain ⟨v, w, rfl, r2, r3⟩ := rvs2 r1
  exact ⟨i, j, by rw [r2.int_inv, r3.int_inv], b, q _ _ _ _ _ h2 z1 R1 sit_r⟩
theorem qi_range3 {a b c : Expr} {p : Pos} {U : AA} (hm : X.mg "range" = none) (ha : QA X W AW [a, b, c] U) (hg : Gl X "range" := by rfl) (hs : starEach [a, b, c] X.env = (false, eval a X.env) :: starEach [b, c] X.env := by rfl) (hpl : (backTo pos (starEach [b, c] X.env)).any (·.1) = false := by rfl) : QI X W AW tg (.Call (.Name "range" p) [a, b, c] [] pos) (aItR3 U) := by
  obtain ⟨t, p, s⟩ := ha
  refine ⟨_, pi_range3 hg hm p hs hpl, ⟨fun R0 rs xl h q => s.run R0 rs xl h fun x O1 F1 H1 v h1 z1 R1 r1 => ?_⟩⟩
  obtain ⟨i, j, c, n, rfl, b, h3⟩ := h1
  obtain ⟨v, w, u, rfl, r2, r3, r4⟩ := rvs3 r1
  exact ⟨i, j, c, n, by rw [r2.int_inv, r3.int_inv, r4.int_inv], b, q _ _ _ _ _ h3 z1 R1 sit_c⟩

/-! ### targets -/
abbrev AG := OV → En → Oh → (En → Oh → Prop) → Prop
structure SG (K : PySem.W.Frag) (W : WX) (AW : AX) (g : TG) (G : AG) : Prop where
  run : ∀ {F : Hp} {O : Oh} {H : Hp} {st : L2.St} {env : En} {x : OV} {v : V} {Q : L2.St → Hp → Prop} {R : En → Oh → Prop}, Rep K F O H → RS K F env st → XL K F O H AW W → RV K F x v → G x env O R →
    (∀ env' O' F' H' st', R env' O' → Step F O H F' O' H' → Rep K F' O' H' → RS K F' env' st' → Q st' H') → g v st H Q
def QG (X : Cx) (W : WX) (AW : AX) (tg : Expr) (G : AG) : Prop := ∃ g, PG X tg g ∧ SG X.K W AW g G
def gVar (i : Nat) : AG := fun x env O R => R (env.set i (some x)) O
theorem sg_name {K : PySem.W.Frag} {i : Nat} : SG K W AW (gName i) (gVar i) := ⟨fun R0 rs _ r h q => q _ _ _ _ _ h Step.refl R0 (rs.set r i)⟩
theorem qg_name {i : Nat} {x : Str} (hN : X.N.Nodup) (hi : X.N[i]? = some x := by rfl) (hx : Loc X.env.scope x := by first | exact Or.inl rfl | exact Or.inr rfl) (hf : X.fn x = true ∨ X.env.scope.names.lookup x = some .local := by first | exact .inl rfl | exact .inr rfl | assumption) : QG X W AW (.Name x pos) (gVar i) :=
  ⟨_, pg_name hN hi hx hf, sg_name⟩
abbrev AGs := List OV → En → Oh → (En → Oh → Prop) → Prop
structure SGs (K : PySem.W.Frag) (W : WX) (AW : AX) (g : TGs) (G : AGs) : Prop where
  run : ∀ {F : Hp} {O : Oh} {H : Hp} {st : L2.St} {env : En} {x : List OV} {v : List V} {Q : L2.St → Hp → Prop} {R : En → Oh → Prop}, Rep K F O H → RS K F env st → XL K F O H AW W → RVs K F x v → G x env O R →
    (∀ env' O' F' H' st', R env' O' → Step F O H F' O' H' → Rep K F' O' H' → RS K F' env' st' → Q st' H') → g v st H Q
def QGs (X : Cx) (W : WX) (AW : AX) (tg : List Expr) (G : AGs) : Prop := ∃ g, PGs X tg g ∧ SGs X.K W AW g G
def agNil : AGs := fun xs env O R => xs = [] ∧ R env O
def agCons (G : AG) (Gs : AGs) : AGs := fun xs env O R => ∃ x r, xs = x :: r ∧ G x env O fun env1 O1 => Gs r env1 O1 R
theorem sgs_nil {K : PySem.W.Frag} : SGs K W AW gNil agNil := ⟨fun R0 rs _ r h q => by
  obtain ⟨rfl, h⟩ := h
  exact ⟨r.nil_inv, q _ _ _ _ _ h Step.refl R0 rs⟩⟩
theorem sgs_cons {K : PySem.W.Frag} {g : TG} {G : AG} {gs : TGs} {Gs : AGs} (s : SG K W AW g G) (ss : SGs K W AW gs Gs) : SGs K W AW (gCons g gs) (agCons G Gs) := ⟨fun R0 rs xl r h q => by
  obtain ⟨x, t, rfl, h⟩ := h
  cases r with
  | cons r1 r2 => exact ⟨_, _, rfl, s.run R0 rs xl r1 h fun env1 O1 F1 H1 st1 h1 z1 R1 rs1 => ss.run R1 rs1 (xl.step z1) (r2.mono z1.fx) h1 fun env2 O2 F2 H2 st2 h2 z2 R2 rs2 => q _ _ _ _ _ h2 (z1.trans z2) R2 rs2⟩⟩
def agTup (n : Nat) (Gs : AGs) : AG := fun x env O R => ∃ xs, itemsT x xs ∧ xs.length = n ∧ Gs xs env O R
theorem sg_tup {n : Nat} {K : PySem.W.Frag} {gs : TGs} {Gs : AGs} (ss : SGs K W AW gs Gs) : SG K W AW (gTup K n gs) (agTup n Gs) := ⟨fun R0 rs xl r h q => by
  obtain ⟨xs, h1, h2, h3⟩ := h
  obtain ⟨p, vs, rfl, h4, h5⟩ := view_t r h1
  exact ⟨p, vs, rfl, seqT_mono R0.fz h4, by rw [← h5.length]; exact h2, ss.run R0 rs xl h5 h3 q⟩⟩
theorem qgs_nil : QGs X W AW [] agNil := ⟨_, pgs_nil, sgs_nil⟩
theorem qgs_name {i : Nat} {x : Str} {es : List Expr} {Gs : AGs} (hN : X.N.Nodup) (h2 : QGs X W AW es Gs) (hi : X.N[i]? = some x := by rfl) (hx : Loc X.env.scope x := by first | exact Or.inl rfl | exact Or.inr rfl) (hf : X.fn x = true ∨ X.env.scope.names.lookup x = some .local := by first | exact .inl rfl | exact .inr rfl | assumption)
    (hs : (assignEach (.Name x pos :: es) X.env).map (·.2) = assign (.Name x pos) X.env :: (assignEach es X.env).map (·.2) := by rfl) : QGs X W AW (.Name x pos :: es) (agCons (gVar i) Gs) := by
  obtain ⟨t, p, s⟩ := h2
  exact ⟨_, pgs_cons (pg_name hN hi hx hf) p hs, sgs_cons sg_name s⟩
theorem qg_tup {es : List Expr} {k : Nat} {G : AGs} {n : Nat} (hc : X.calm = true) (h : QGs X W AW es G) (hn : (assignEach es X.env).length = n := by rfl) (hst : (assignEach es X.env).findIdx? (·.1) = none := by rfl) : QG X W AW (.Tuple es k pos) (agTup n G) := by
  obtain ⟨t, p, s⟩ := h
  exact ⟨_, pg_tup hc p hn hst, sg_tup s⟩
/-- o[i] = e -/
abbrev ASet := OV → OV → OV → Oh → (Oh → Prop) → Prop
def aSetL : ASet := fun o i v O R => ∃ p xs k j, o = .o p ∧ i = .d (.int k) ∧ O p = some (.lst xs) ∧ ixN xs.length k = some j ∧ R (updO O p (.lst (xs.set j v)))
def gSubL (TO TI : AE) : AG := fun x env O R => TO env O fun o O1 => TI env O1 fun i O2 => aSetL o i x O2 fun O3 => R env O3
theorem qg_subL {o i : Expr} {TO TI : AE} (ho : QE X W AW o TO) (hi : QE X W AW i TI) (hp : ∀ v, assign (.Subscript o i pos) X.env v = (do
        let ov ← holding [v] (eval o X.env); let iv ← holding [v, ov] (eval i X.env); standAt pos; holding [v, ov, iv] (setItem ov iv v); release [v, ov, iv] []) := by intro _; rfl) : QG X W AW (.Subscript o i pos) (gSubL TO TI) := by
  obtain ⟨t, p, s⟩ := ho
  obtain ⟨t1, p1, s1⟩ := hi
  refine ⟨_, pg_sub p p1 set_list hp, ⟨fun R0 rs xl r h q => s.run R0 rs xl h fun x O1 F1 H1 v h1 z1 R1 r1 => s1.run R1 (rs.mono z1.fx) (xl.step z1) h1 fun y O2 F2 H2 w h2 z2 R2 r2 => ?_⟩⟩
  obtain ⟨p, xs, k, j, rfl, rfl, hl, hj, h2⟩ := h2
  cases r1
  obtain ⟨us, h3, h4⟩ := R2.lst hl
  obtain ⟨R3, z3⟩ := R2.write (o := .lst (xs.set j _)) (h := .lst (us.set j _)) hl ⟨_, rfl, h4.set ((r.mono z1.fx).mono z2.fx) j⟩
  exact ⟨p, us, k, j, rfl, r2.int_inv, h3, by rw [← h4.length]; exact hj, q _ _ _ _ _ h2 (z1.trans (z2.trans z3)) R3 (((rs.mono z1.fx).mono z2.fx).mono z3.fx)⟩

/-! ### comprehensions -/
def wipeE (env : En) : List Nat → En
  | [] => env
  | v :: vs => (wipeE env vs).set v none
theorem RS.wipes {K : PySem.W.Frag} {F : Hp} {env : En} {st : L2.St} (r : RS K F env st) : ∀ vs : List Nat, RS K F (wipeE env vs) (L2.wipe st vs)
  | [] => r
  | v :: vs => (RS.wipes r vs).wipe v
theorem wipe_set {st : L2.St} {x : Option V} {i : Nat} : ∀ {vs : List Nat}, i ∈ vs → L2.wipe (st.set i x) vs = L2.wipe st vs
  | v :: vs, h => by
    unfold L2.wipe
    by_cases hv : v = i
    · subst hv
      by_cases hm : v ∈ vs
      · rw [wipe_set hm]
      · have e : ∀ ws : List Nat, v ∉ ws → (L2.wipe (st.set v x) ws).set v none = (L2.wipe st ws).set v none := by
          intro ws
          induction ws with
          | nil => intro _; show (st.set v x).set v none = st.set v none; rw [List.set_set]
          | cons w ws ih =>
            intro hw
            have hne : w ≠ v := fun z => hw (z ▸ List.mem_cons_self)
            unfold L2.wipe
            rw [List.set_comm _ _ hne, ih (fun z => hw (List.mem_cons_of_mem _ z)), List.set_comm _ _ hne]
        exact e vs hm
    · rcases List.mem_cons.mp h with h | h
      · exact absurd h.symm hv
      · rw [wipe_set h]
theorem wipe_wipe {st : L2.St} : ∀ {vs : List Nat}, L2.wipe (L2.wipe st vs) vs = L2.wipe st vs := by
  intro vs
  have gen : ∀ ws : List Nat, (∀ w ∈ ws, w ∈ vs) → L2.wipe (L2.wipe st ws) vs = L2.wipe st vs := by
    intro ws
    induction ws with
    | nil => intro _; rfl
    | cons w ws ih =>
      intro hw
      show L2.wipe ((L2.wipe st ws).set w none) vs = L2.wipe st vs
      rw [wipe_set (hw w List.mem_cons_self), ih fun z hz => hw z (List.mem_cons_of_mem _ hz)]
  exact gen vs fun _ h => h
/-- a target stores in these slots alone -/
def GIn (g : TG) (vs : List Nat) : Prop := ∀ v st H Q, g v st H Q → g v st H fun st2 H2 => L2.wipe st2 vs = L2.wipe st vs ∧ Q st2 H2
def GsIn (g : TGs) (vs : List Nat) : Prop := ∀ v st H Q, g v st H Q → g v st H fun st2 H2 => L2.wipe st2 vs = L2.wipe st vs ∧ Q st2 H2
theorem gin_name {i : Nat} {vs : List Nat} (h : i ∈ vs) : GIn (gName i) vs := fun v st H Q q => ⟨wipe_set h, q⟩
theorem gsin_nil {vs : List Nat} : GsIn gNil vs := fun v st H Q q => ⟨q.1, rfl, q.2⟩
structure GMono (g : TG) : Prop where
  mono : ∀ v st H (Q Q' : L2.St → Hp → Prop), (∀ a b, Q a b → Q' a b) → g v st H Q → g v st H Q'
theorem gsin_cons {i : Nat} {g : TGs} {vs : List Nat} (h : i ∈ vs) (h2 : GsIn g vs) : GsIn (gCons (gName i) g) vs := fun v st H Q q => by
  obtain ⟨x, r, rfl, q⟩ := q
  refine ⟨x, r, rfl, ?_⟩
  have := h2 r _ H Q q
  have e : L2.wipe (st.set i (some x)) vs = L2.wipe st vs := wipe_set h
  show g r (st.set i (some x)) H _
  rw [e] at this
  exact this
theorem gin_tup {K : PySem.W.Frag} {n : Nat} {g : TGs} {vs : List Nat} (h2 : GsIn g vs) : GIn (gTup K n g) vs := fun v st H Q q => by
  obtain ⟨a, xs, rfl, h, hn, q⟩ := q
  exact ⟨a, xs, rfl, h, hn, h2 xs st H Q q⟩
def aLcB (PJ : PIt) (G : AG) (TT : AT) (TE : AE) (vs : List Nat) : AE := fun env O1 R => ∀ D, O1 D = none → ∃ PW : Nat → Nat → Oh → Prop, (∃ m, PW 0 m (updO O1 D (.lst []))) ∧ ∀ i m O, PW i m O →
  (PJ.stop i O ∧ R (.o D) O) ∨ (∃ x, PJ.go i O x ∧ G x (wipeE env vs) O fun env2 O2 => TT env2 O2 fun b O3 =>
    if b = true then TE env2 O3 fun y O4 => ∃ acc, O4 D = some (.lst acc) ∧ acc.length < sizeLine ∧ ∃ m', m' < m ∧ PW (i + 1) m' (updO O4 D (.lst (acc ++ [y]))) else ∃ m', m' < m ∧ PW (i + 1) m' O3)
def aLc (WI : AI) (G : AG) (TT : AT) (TE : AE) (vs : List Nat) : AE := fun env O R => WI env O fun PJ O1 => aLcB PJ G TT TE vs env O1 R
theorem se_lc {K : PySem.W.Frag} {wi : TI} {g : TG} {tt : TT} {te : TE} {WI : AI} {G : AG} {TT : AT} {TE : AE} {vs : List Nat} (si : SI K W AW wi WI) (hg : GIn g vs) (sg : SG K (fun _ _ _ _ => False) (fun _ _ _ _ => False) g G) (stt : ST K (fun _ _ _ _ => False) (fun _ _ _ _ => False) tt TT) (se : SE K (fun _ _ _ _ => False) (fun _ _ _ _ => False) te TE) :
    SE K W AW (tLc wi g tt te vs) (aLc WI G TT TE vs) := ⟨fun {F O H st env Q R} R0 rs xl h q => si.run R0 rs xl h fun PJ O1 F1 H1 J h1 z1 R1 sj D hD => by
  obtain ⟨PW, ⟨m0, w0⟩, turn⟩ := h1 D (R1.ofree hD)
  obtain ⟨R2, z2⟩ := R1.newO (o := .lst []) (h := .lst []) hD ⟨_, rfl, .nil⟩
  have xf : ∀ {F : Hp} {O : Oh} {H : Hp}, XL K F O H (fun _ _ _ _ => False) (fun _ _ _ _ => False) := fun _ _ _ _ _ _ _ z => z.elim
  refine ⟨fun i m H' => ∃ F' O', Step F O H F' O' H' ∧ Rep K F' O' H' ∧ Same F1 F' ∧ PW i m O', ⟨m0, F1, _, z1.trans z2, R2, Same.refl _, w0⟩, ?_⟩
  rintro i m H' ⟨F', O', z3, R3, sf, w⟩
  rcases turn i m O' w with ⟨hs, hq⟩ | ⟨x, hgo, ht⟩
  · exact .inl ⟨sj.stop i F' O' H' sf R3 hs, q _ _ _ _ _ hq z3 R3 .o⟩
  · refine .inr ⟨sj.go i F' O' H' x sf R3 hgo, fun H'' => ∃ F' O', Step F O H F' O' H'' ∧ Rep K F' O' H'' ∧ Same F1 F' ∧ ∃ m', m' < m ∧ PW (i + 1) m' O', ?_, fun v H2 y => ?_⟩
    · rintro H'' ⟨F'', O'', a, b, c, d⟩
      obtain ⟨m', hm, d⟩ := d
      exact ⟨m', hm, F'', O'', a, b, c, d⟩
    · obtain ⟨F2, z4, R4, r4⟩ := sj.yld i F' O' H' x v H2 sf R3 hgo y
      refine (show g v (L2.wipe st vs) H2 _ from ?_)
      have key := sg.run (Q := fun st2 H2 => tt st2 H2 fun b H3 => if b = true then te st2 H3 fun y H4 => ∃ acc, H4 D = some (.lst acc) ∧ acc.length < sizeLine ∧ (∃ F' O', Step F O H F' O' (upd H4 D (.lst (acc ++ [y]))) ∧ Rep K F' O' (upd H4 D (.lst (acc ++ [y]))) ∧ Same F1 F' ∧ ∃ m', m' < m ∧ PW (i + 1) m' O') else ∃ F' O', Step F O H F' O' H3 ∧ Rep K F' O' H3 ∧ Same F1 F' ∧ ∃ m', m' < m ∧ PW (i + 1) m' O')
        R4 ((rs.mono (z3.trans z4).fx).wipes vs) xf r4 ht fun env2 O5 F5 H5 st5 h5 z5 R5 rs5 => stt.run R5 rs5 xf h5 fun b O6 F6 H6 h6 z6 R6 => ?_
      · have := hg v (L2.wipe st vs) H2 _ key
        rw [wipe_wipe] at this
        exact this
      · have z36 := z3.trans (z4.trans (z5.trans z6))
        have sf6 : Same F1 F6 := sf.trans (z4.trans (z5.trans z6)).fx
        cases b with
        | false =>
          rw [if_neg Bool.false_ne_true] at h6 ⊢
          exact ⟨F6, O6, z36, R6, sf6, h6⟩
        | true =>
          rw [if_pos rfl] at h6 ⊢
          refine se.run R6 (rs5.mono z6.fx) xf h6 fun y O7 F7 H7 w7 h7 z7 R7 r7 => ?_
          obtain ⟨acc, ha, hz, h7⟩ := h7
          obtain ⟨us, h8, h9⟩ := R7.lst ha
          obtain ⟨R8, z8⟩ := R7.write (o := .lst (acc ++ [y])) (h := .lst (us ++ [w7])) ha ⟨_, rfl, h9.append (.cons r7 .nil)⟩
          exact ⟨us, h8, by rw [← h9.length]; exact hz, F7, _, z36.trans (z7.trans z8), R8, sf6.trans (z7.trans z8).fx, h7⟩⟩
def QTs (X : Cx) (W : WX) (AW : AX) (es : List Expr) (T : AT) : Prop := ∃ t, PTs X es t ∧ ST X.K W AW t T
def aYes : AT := fun _ O R => R true O
theorem qts_nil : QTs X W AW [] aYes := ⟨_, pts_nil, ⟨fun R _ _ h q => q _ _ _ _ h Step.refl R⟩⟩
theorem qts_one {c : Expr} {T : AT} (h : QT X W AW c T) : QTs X W AW [c] T := by
  obtain ⟨t, p, s⟩ := h
  exact ⟨t, pts_one p, s⟩
abbrev NW : WX := fun _ _ _ _ => False
abbrev NAW : AX := fun _ _ _ _ => False
/-- the readings that the abstract ones give by themselves -/
def canE (K : PySem.W.Frag) (W : WX) (AW : AX) (T : AE) : TE := fun st H Q => ∃ F O env R, Rep K F O H ∧ RS K F env st ∧ XL K F O H AW W ∧ T env O R ∧ ∀ r O' F' H' v, R r O' → Step F O H F' O' H' → Rep K F' O' H' → RV K F' r v → Q v H'
def canT (K : PySem.W.Frag) (W : WX) (AW : AX) (T : AT) : L2.TT := fun st H Q => ∃ F O env R, Rep K F O H ∧ RS K F env st ∧ XL K F O H AW W ∧ T env O R ∧ ∀ r O' F' H', R r O' → Step F O H F' O' H' → Rep K F' O' H' → Q r H'
theorem se_can {K : PySem.W.Frag} {T : AE} : SE K W AW (canE K W AW T) T := ⟨fun R0 rs xl h q => ⟨_, _, _, _, R0, rs, xl, h, q⟩⟩
theorem st_can {K : PySem.W.Frag} {T : AT} : ST K W AW (canT K W AW T) T := ⟨fun R0 rs xl h q => ⟨_, _, _, _, R0, rs, xl, h, q⟩⟩
theorem pe_can {e : Expr} {T : AE} (h : QE X W AW e T) : PE X e (canE X.K W AW T) := by
  obtain ⟨t, p, s⟩ := h
  exact ⟨fun pins sh st H Q I ⟨F, O, env, R, R0, rs, xl, h, q⟩ => p.run pins sh st H Q I (s.run R0 rs xl h q)⟩
theorem pts_can {es : List Expr} {T : AT} (h : QTs X W AW es T) : PTs X es (canT X.K W AW T) := by
  obtain ⟨t, p, s⟩ := h
  exact ⟨fun pins sh st H Q I ⟨F, O, env, R, R0, rs, xl, h, q⟩ => p.run pins sh st H Q I (s.run R0 rs xl h q)⟩
/-- [elt for target in iter if ..] -/
theorem qe_lc {elt tg iter : Expr} {ifs : List Expr} {scope : Scope} {own : List (Str × Nat)} {WI : AI} {G : AG} {TT : AT} {TE : AE} {g : TG} (hc : X.calm = true) (hN : X.N.Nodup) (hi : QI X W AW tg iter WI) (ok : blkC X.N X.env.scope scope own = true)
    (hgi : GIn g (own.map (·.2))) (sg : SG X.K NW NAW g G)
    (hg : ∀ (s : Shared) (H : Hp) (C : Addr) (cl : List (Str × Addr)) (fp : List Addr), PG (X.blk s H scope (compEnvC scope cl C X.env) fp) tg g)
    (ht : ∀ (s : Shared) (H : Hp) (C : Addr) (cl : List (Str × Addr)) (fp : List Addr), QTs (X.blk s H scope (compEnvC scope cl C X.env) fp) NW NAW ifs TT)
    (he : ∀ (s : Shared) (H : Hp) (C : Addr) (cl : List (Str × Addr)) (fp : List Addr), QE (X.blk s H scope (compEnvC scope cl C X.env) fp) NW NAW elt TE) (hs : ∀ x, foldedSetIterable iter X.env x = pure x := by intro _; rfl) :
    QE X W AW (.ListComp elt [⟨tg, iter, ifs, 0⟩] scope pos) (aLc WI G TT TE (own.map (·.2))) := by
  obtain ⟨wi, pi, si⟩ := hi
  exact ⟨_, pe_lc hc hN pi (blkOk_by ok) hg (fun s H C cl fp => pts_can (ht s H C cl fp)) (fun s H C cl fp => pe_can (he s H C cl fp)) hs, se_lc si hgi sg st_can se_can⟩
end
end Y
/-! Y: statements, defs, calls. -/
namespace Y
open PySem PySem.Spec L2
section
variable {X : Cx} {W : WX} {AW : AX} {pos : Pos}
def aNext : AS := fun P env O => P.nx env O
def aSeq (T U : AS) : AS := fun P env O => T { P with nx := U P } env O
theorem qss_nil : QSs X W AW [] aNext := ⟨_, pss_nil, ⟨fun R rs _ h l => l.nx _ _ _ _ _ h Step.refl R rs⟩⟩
theorem qss_one {s : Stmt} {T : AS} (h : QS X W AW s T) : QSs X W AW [s] T := by
  obtain ⟨t, p, q⟩ := h
  exact ⟨t, pss_one p, q⟩
theorem qss_cons {s : Stmt} {rest : List Stmt} {T U : AS} (h : QS X W AW s T) (h2 : QSs X W AW rest U) : QSs X W AW (s :: rest) (aSeq T U) := by
  obtain ⟨t, p, q⟩ := h
  obtain ⟨u, p2, q2⟩ := h2
  exact ⟨_, pss_cons p p2, ⟨fun R rs xl h l => q.run R rs xl h ⟨fun e o f hh st' a z R1 rs1 => q2.run R1 rs1 (xl.step z) a (l.step z), l.rt, l.bk, l.ct⟩⟩⟩
def aBrk : AS := fun P env O => P.bk env O
def aCnt : AS := fun P env O => P.ct env O
theorem qs_pass : QS X W AW (.Pass pos) aNext := ⟨_, ps_pass, ⟨fun R rs _ h l => l.nx _ _ _ _ _ h Step.refl R rs⟩⟩
theorem qs_break : QS X W AW (.Break pos) aBrk := ⟨_, ps_break, ⟨fun R rs _ h l => l.bk _ _ _ _ _ h Step.refl R rs⟩⟩
theorem qs_continue : QS X W AW (.Continue pos) aCnt := ⟨_, ps_continue, ⟨fun R rs _ h l => l.ct _ _ _ _ _ h Step.refl R rs⟩⟩
theorem qs_doc {x j pos'} : QS X W AW (.Expr (.Constant (.str x) j pos) pos') aNext := ⟨_, ps_doc, ⟨fun R rs _ h l => l.nx _ _ _ _ _ h Step.refl R rs⟩⟩
def aDrop (T : AE) : AS := fun P env O => T env O fun _ O1 => P.nx env O1
theorem qs_expr {e : Expr} {T : AE} (he : QE X W AW e T) (hs : swapsWith e none pos.line X.env = pure false := by rfl) : QS X W AW (.Expr e pos) (aDrop T) := by
  obtain ⟨t, p, q⟩ := he
  exact ⟨_, ps_expr p hs, ⟨fun R rs xl h l => q.run R rs xl h fun x O1 F1 H1 v h1 z1 R1 r1 => l.nx _ _ _ _ _ h1 z1 R1 (rs.mono z1.fx)⟩⟩
def aRet (T : AE) : AS := fun P env O => T env O P.rt
theorem qs_ret {e : Expr} {T : AE} (he : QE X W AW e T) : QS X W AW (.Return (some e) pos) (aRet T) := by
  obtain ⟨t, p, q⟩ := he
  exact ⟨_, ps_ret p, ⟨fun R rs xl h l => q.run R rs xl h fun x O1 F1 H1 v h1 z1 R1 r1 => l.rt _ _ _ _ _ h1 z1 R1 r1⟩⟩
def aRetN : AS := fun P _ O => P.rt (.d .none) O
theorem qs_retN : QS X W AW (.Return none pos) aRetN := ⟨_, ps_retN, ⟨fun R rs _ h l => l.rt _ _ _ _ _ h Step.refl R (.d .non)⟩⟩
def aIfS (T : AT) (U V : AS) : AS := fun P env O => T env O fun b O1 => if b = true then U P env O1 else V P env O1
theorem qs_if {c : Expr} {a b : List Stmt} {T : AT} {U V : AS} (hc : QT X W AW c T) (ha : QSs X W AW a U) (hb : QSs X W AW b V) : QS X W AW (.If c a b pos) (aIfS T U V) := by
  obtain ⟨t, p, s⟩ := hc
  obtain ⟨t1, p1, s1⟩ := ha
  obtain ⟨t2, p2, s2⟩ := hb
  refine ⟨_, ps_if p p1 p2, ⟨fun R0 rs xl h l => s.run R0 rs xl h fun c O1 F1 H1 h1 z1 R1 => ?_⟩⟩
  cases c with
  | true => rw [if_pos rfl] at h1 ⊢; exact s1.run R1 (rs.mono z1.fx) (xl.step z1) h1 (l.step z1)
  | false => rw [if_neg Bool.false_ne_true] at h1 ⊢; exact s2.run R1 (rs.mono z1.fx) (xl.step z1) h1 (l.step z1)
def aSet (i : Nat) (T : AE) : AS := fun P env O => T env O fun x O1 => P.nx (env.set i (some x)) O1
theorem qs_set {i : Nat} {x : Str} {e : Expr} {T : AE} {pos' : Pos} (hN : X.N.Nodup) (he : QE X W AW e T) (hi : X.N[i]? = some x := by rfl) (hx : Loc X.env.scope x := by first | exact Or.inl rfl | exact Or.inr rfl) (hs : swapsWith e (some (.Name x pos')) pos.line X.env = pure false := by rfl) (hf : X.fn x = true ∨ X.env.scope.names.lookup x = some .local := by first | exact .inl rfl | exact .inr rfl | assumption) :
    QS X W AW (.Assign [.Name x pos'] e pos) (aSet i T) := by
  obtain ⟨t, p, q⟩ := he
  exact ⟨_, ps_set hN hi hx p hs hf, ⟨fun R rs xl h l => q.run R rs xl h fun x O1 F1 H1 v h1 z1 R1 r1 => l.nx _ _ _ _ _ h1 z1 R1 ((rs.mono z1.fx).set r1 i)⟩⟩
def aAsg (T : AE) (G : AG) : AS := fun P env O => T env O fun x O1 => G x env O1 P.nx
theorem qs_asg {tg e : Expr} {T : AE} {G : AG} (he : QE X W AW e T) (hg : QG X W AW tg G) (hs : swapsWithSole [tg] e pos.line X.env = pure false := by rfl) (hw : swappedStores [tg] e X.env = pure none := by rfl) (hz : (assignEach [tg] X.env).map (·.2) = [assign tg X.env] := by rfl) : QS X W AW (.Assign [tg] e pos) (aAsg T G) := by
  obtain ⟨t, p, q⟩ := he
  obtain ⟨g, p2, q2⟩ := hg
  refine ⟨_, ps_asg p p2 hs hw hz, ⟨fun R rs xl h l => q.run R rs xl h fun x O1 F1 H1 v h1 z1 R1 r1 => ?_⟩⟩
  exact q2.run R1 (rs.mono z1.fx) (xl.step z1) r1 h1 fun e O2 F2 H2 st2 h2 z2 R2 rs2 => l.nx _ _ _ _ _ h2 (z1.trans z2) R2 rs2
def aPar (i j : Nat) (U : AA) : AS := fun P env O => U env O fun xs O1 => ∃ x y, xs = [x, y] ∧ P.nx ((env.set i (some x)).set j (some y)) O1
theorem qs_par {i j : Nat} {x y : Str} {a b : Expr} {U : AA} {px py pt pos : Pos} {kt k2 pt2} (hc : X.calm = true) (hN : X.N.Nodup) (hi : X.N[i]? = some x) (hj : X.N[j]? = some y) (ha : QA X W AW [a, b] U)
    (hp : ∀ {ta : TA}, PA X [a, b] ta → PS X (.Assign [.Tuple [.Name x px, .Name y py] kt pt] (.Tuple [a, b] k2 pt2) pos) (tPar i j ta)) : QS X W AW (.Assign [.Tuple [.Name x px, .Name y py] kt pt] (.Tuple [a, b] k2 pt2) pos) (aPar i j U) := by
  obtain ⟨t, p, q⟩ := ha
  refine ⟨_, hp p, ⟨fun R rs xl h l => q.run R rs xl h fun xs O1 F1 H1 vs h1 z1 R1 r1 => ?_⟩⟩
  obtain ⟨x, y, rfl, h1⟩ := h1
  obtain ⟨v, w, rfl, r1, r2⟩ := rvs2 r1
  exact ⟨v, w, rfl, l.nx _ _ _ _ _ h1 z1 R1 (((rs.mono z1.fx).set r1 i).set r2 j)⟩
def aAug (i : Nat) (g : Int → Int → Int) (T : AE) : AS := fun P env O => ∃ n, env[i]? = some (some (.d (.int n))) ∧ T env O fun y O1 => ∃ m, y = .d (.int m) ∧ P.nx (env.set i (some (.d (.int (g n m))))) O1
theorem qs_aug {i : Nat} {x : Str} {e : Expr} {T : AE} {op : Operator} {g : Int → Int → Int} {pos' : Pos} (ho : PIp X op (ipI g)) (hN : X.N.Nodup) (he : QE X W AW e T) (hi : X.N[i]? = some x := by rfl) (hx : Loc X.env.scope x := by first | exact Or.inl rfl | exact Or.inr rfl)
    (hf : X.fn x = true ∨ X.env.scope.names.lookup x = some .local := by first | exact .inl rfl | exact .inr rfl | assumption) (hp : ∀ {te : TE}, PE X e te → PS X (.AugAssign (.Name x pos') op e pos) (tAug i te (ipI g))) : QS X W AW (.AugAssign (.Name x pos') op e pos) (aAug i g T) := by
  obtain ⟨t, p, q⟩ := he
  refine ⟨_, hp p, ⟨fun R rs xl h l => ?_⟩⟩
  obtain ⟨n, hn, h⟩ := h
  obtain ⟨v, hv, rv⟩ := rs.2 i _ hn
  refine ⟨v, hv, q.run R rs xl h fun x O1 F1 H1 w h1 z1 R1 r1 => ?_⟩
  obtain ⟨m, rfl, h1⟩ := h1
  exact ⟨n, m, rv.int_inv, r1.int_inv, l.nx _ _ _ _ _ h1 z1 R1 ((rs.mono z1.fx).set (.d (.int _)) i)⟩
/-- name = [..] on one line -/
theorem qs_setLc {i : Nat} {y : Str} {py : Pos} {elt tg iter : Expr} {ifs : List Expr} {scope : Scope} {own : List (Str × Nat)} {pos spos : Pos} {WI : AI} {G : AG} {TT : AT} {TE : AE} {g : TG} (hc : X.calm = true) (hN : X.N.Nodup) (hi : QI X W AW tg iter WI) (ok : blkC X.N X.env.scope scope own = true)
    (hgi : GIn g (own.map (·.2))) (sg : SG X.K NW NAW g G)
    (hg : ∀ (s : Shared) (H : Hp) (C : Addr) (cl : List (Str × Addr)) (fp : List Addr), PG (X.blk s H scope (compEnvC scope cl C X.env) fp) tg g)
    (ht : ∀ (s : Shared) (H : Hp) (C : Addr) (cl : List (Str × Addr)) (fp : List Addr), QTs (X.blk s H scope (compEnvC scope cl C X.env) fp) NW NAW ifs TT)
    (he : ∀ (s : Shared) (H : Hp) (C : Addr) (cl : List (Str × Addr)) (fp : List Addr), QE (X.blk s H scope (compEnvC scope cl C X.env) fp) NW NAW elt TE)
    (hy : X.N[i]? = some y := by rfl) (hyl : X.env.scope.names.lookup y = some .local := by rfl) (hsw : swapsWith (.ListComp elt [⟨tg, iter, ifs, 0⟩] scope pos) (some (.Name y py)) spos.line X.env = pure true := by exact sw_true rfl rfl rfl (by decide +kernel)) (hs : ∀ x, foldedSetIterable iter X.env x = pure x := by intro _; rfl) :
    QS X W AW (.Assign [.Name y py] (.ListComp elt [⟨tg, iter, ifs, 0⟩] scope pos) spos) (aSet i (aLc WI G TT TE (own.map (·.2)))) := by
  obtain ⟨wi, pi, si⟩ := hi
  refine ⟨_, ps_setLc (te := canE X.K NW NAW TE) (tt := canT X.K NW NAW TT) hc hN hy hyl hsw pi (blkOk_by ok) hg (fun s H C cl fp => pts_can (ht s H C cl fp)) (fun s H C cl fp => pe_can (he s H C cl fp)) hs, ⟨fun R rs xl h l => ?_⟩⟩
  exact (se_lc si hgi sg st_can se_can).run R rs xl h fun x O1 F1 H1 v h1 z1 R1 r1 => l.nx _ _ _ _ _ h1 z1 R1 ((rs.mono z1.fx).set r1 i)
theorem se_wk {K : PySem.W.Frag} {t : TE} {T : AE} (s : SE K W AW t T) : SE K W AW t (aWk T) := ⟨fun R0 rs xl h q => s.run R0 rs xl h fun r O1 F1 H1 v h1 z1 R1 r1 => by
  obtain ⟨r', O', w, h2⟩ := h1
  obtain ⟨F2, z2, R2, r2⟩ := w _ F1 H1 v R1 r1
  exact q _ _ _ _ _ h2 (z1.trans z2) R2 r2⟩
/-- the same, the new list frozen at once -/
theorem qs_setLcW {i : Nat} {y : Str} {py : Pos} {elt tg iter : Expr} {ifs : List Expr} {scope : Scope} {own : List (Str × Nat)} {pos spos : Pos} {WI : AI} {G : AG} {TT : AT} {TE : AE} {g : TG} (hc : X.calm = true) (hN : X.N.Nodup) (hi : QI X W AW tg iter WI) (ok : blkC X.N X.env.scope scope own = true)
    (hgi : GIn g (own.map (·.2))) (sg : SG X.K NW NAW g G)
    (hg : ∀ (s : Shared) (H : Hp) (C : Addr) (cl : List (Str × Addr)) (fp : List Addr), PG (X.blk s H scope (compEnvC scope cl C X.env) fp) tg g)
    (ht : ∀ (s : Shared) (H : Hp) (C : Addr) (cl : List (Str × Addr)) (fp : List Addr), QTs (X.blk s H scope (compEnvC scope cl C X.env) fp) NW NAW ifs TT)
    (he : ∀ (s : Shared) (H : Hp) (C : Addr) (cl : List (Str × Addr)) (fp : List Addr), QE (X.blk s H scope (compEnvC scope cl C X.env) fp) NW NAW elt TE)
    (hy : X.N[i]? = some y := by rfl) (hyl : X.env.scope.names.lookup y = some .local := by rfl) (hsw : swapsWith (.ListComp elt [⟨tg, iter, ifs, 0⟩] scope pos) (some (.Name y py)) spos.line X.env = pure true := by exact sw_true rfl rfl rfl (by decide +kernel)) (hs : ∀ x, foldedSetIterable iter X.env x = pure x := by intro _; rfl) :
    QS X W AW (.Assign [.Name y py] (.ListComp elt [⟨tg, iter, ifs, 0⟩] scope pos) spos) (aSet i (aWk (aLc WI G TT TE (own.map (·.2))))) := by
  obtain ⟨wi, pi, si⟩ := hi
  refine ⟨_, ps_setLc (te := canE X.K NW NAW TE) (tt := canT X.K NW NAW TT) hc hN hy hyl hsw pi (blkOk_by ok) hg (fun s H C cl fp => pts_can (ht s H C cl fp)) (fun s H C cl fp => pe_can (he s H C cl fp)) hs, ⟨fun R rs xl h l => ?_⟩⟩
  exact (se_wk (se_lc si hgi sg st_can se_can)).run R rs xl h fun x O1 F1 H1 v h1 z1 R1 r1 => l.nx _ _ _ _ _ h1 z1 R1 ((rs.mono z1.fx).set r1 i)
/-- a ghost step ahead of a statement: the slots and the owned objects are weakened -/
def WkS (env : En) (O : Oh) (env' : En) (O' : Oh) : Prop := ∀ (K : PySem.W.Frag) (F H : Hp) (st : L2.St), Rep K F O H → RS K F env st → ∃ F', Step F O H F' O' H ∧ Rep K F' O' H ∧ RS K F' env' st
def aPre (T : AS) : AS := fun P env O => ∃ env' O', WkS env O env' O' ∧ T P env' O'
theorem qs_pre {s : Stmt} {T : AS} (h : QS X W AW s T) : QS X W AW s (aPre T) := by
  obtain ⟨t, p, q⟩ := h
  refine ⟨t, p, ⟨fun R rs xl h l => ?_⟩⟩
  obtain ⟨env', O', w, h⟩ := h
  obtain ⟨F', z, R1, rs1⟩ := w _ _ _ _ R rs
  exact q.run R1 rs1 (xl.step z) h (l.step z)
theorem WkS.refl (env : En) (O : Oh) : WkS env O env O := fun K F H st R rs => ⟨F, Step.refl, R, rs⟩
theorem WkS.trans {env env1 env2 : En} {O O1 O2 : Oh} (a : WkS env O env1 O1) (b : WkS env1 O1 env2 O2) : WkS env O env2 O2 := fun K F H st R rs => by
  obtain ⟨F1, z1, R1, rs1⟩ := a K F H st R rs
  obtain ⟨F2, z2, R2, rs2⟩ := b K F1 H st R1 rs1
  exact ⟨F2, z1.trans z2, R2, rs2⟩
/-- the value of a slot is weakened -/
theorem WkS.slot {env : En} {O O' : Oh} {i : Nat} {x x' : OV} (h : env[i]? = some (some x)) (w : Wk O x O' x') : WkS env O (env.set i (some x')) O' := fun K F H st R rs => by
  obtain ⟨v, hv, rv⟩ := rs.2 i x h
  obtain ⟨F', z, R1, r1⟩ := w K F H v R rv
  have e : st.set i (some v) = st := by
    apply List.ext_getElem?
    intro j
    by_cases hj : i = j
    · subst hj
      rw [hv, List.getElem?_set_self (List.getElem?_eq_some_iff.mp hv).1]
    · rw [List.getElem?_set_ne hj]
  refine ⟨F', z, R1, ?_⟩
  have := (rs.mono z.fx).set r1 i
  rw [e] at this
  exact this
theorem WkS.drop {env : En} {O O' : Oh} (s : ∀ a o, O' a = some o → O a = some o) : WkS env O env O' := fun K F H st R rs => ⟨F, (R.drop s).2, (R.drop s).1, rs⟩
theorem WkS.forget {env : En} {O : Oh} (i : Nat) : WkS env O (env.set i none) O := fun K F H st R rs => ⟨F, Step.refl, R, rs.wipe0 i⟩

/-- two statements with what holds between, named by the proof -/
def aCut (T U : AS) : AS := fun P env O => ∃ J : En → Oh → Prop, T { P with nx := fun env' O' => ∃ env2 O2, WkS env' O' env2 O2 ∧ J env2 O2 } env O ∧ ∀ env' O', J env' O' → U P env' O'
theorem qss_cut {s : Stmt} {rest : List Stmt} {T U : AS} (h : QS X W AW s T) (h2 : QSs X W AW rest U) : QSs X W AW (s :: rest) (aCut T U) := by
  obtain ⟨t, p, q⟩ := h
  obtain ⟨u, p2, q2⟩ := h2
  refine ⟨_, pss_cons p p2, ⟨fun R rs xl h l => ?_⟩⟩
  obtain ⟨J, h1, h2⟩ := h
  refine q.run R rs xl h1 ⟨fun e o f hh st' a z R1 rs1 => ?_, l.rt, l.bk, l.ct⟩
  obtain ⟨e2, o2, wk, a⟩ := a
  obtain ⟨F2, z2, R2, rs2⟩ := wk _ _ _ _ R1 rs1
  exact q2.run R2 rs2 (xl.step (z.trans z2)) (h2 e2 o2 a) (l.step (z.trans z2))

/-! ### loops -/
def aWhile (T : AT) (U : AS) : AS := fun P env O => ∃ J : Nat → En → Oh → Prop, (∃ m env1 O1, WkS env O env1 O1 ∧ J m env1 O1) ∧ ∀ m env O, J m env O →
  T env O fun b O1 => if b = true then U { P with nx := fun env' O' => ∃ m' env2 O2, m' < m ∧ WkS env' O' env2 O2 ∧ J m' env2 O2, ct := fun env' O' => ∃ m' env2 O2, m' < m ∧ WkS env' O' env2 O2 ∧ J m' env2 O2, bk := P.nx } env O1 else P.nx env O1
theorem qs_while {c : Expr} {body : List Stmt} {T : AT} {U : AS} (hp : PassesOwn (model X.prog X.w) X.A X.env X.xe) (hc : QT X W AW c T) (hb : QSs X W AW body U) : QS X W AW (.While c body [] pos) (aWhile T U) := by
  obtain ⟨t, p, s⟩ := hc
  obtain ⟨t1, p1, s1⟩ := hb
  refine ⟨_, ps_while hp p p1, ⟨fun {F O H st env D P} R0 rs xl h l => ?_⟩⟩
  obtain ⟨J, ⟨m0, e1, o1, wk, w0⟩, turn⟩ := h
  obtain ⟨F1, z1, R1, rs1⟩ := wk _ F H st R0 rs
  refine ⟨fun m st' H' => ∃ F' O' env', Step F O H F' O' H' ∧ Rep X.K F' O' H' ∧ RS X.K F' env' st' ∧ J m env' O', ⟨m0, F1, o1, e1, z1, R1, rs1, w0⟩, ?_⟩
  rintro m st' H' ⟨F', O', env', z, R1, rs1, w⟩
  refine s.run R1 rs1 (xl.step z) (turn m env' O' w) fun b O2 F2 H2 h2 z2 R2 => ?_
  cases b with
  | false =>
    rw [if_neg Bool.false_ne_true] at h2 ⊢
    exact l.nx _ _ _ _ _ h2 (z.trans z2) R2 (rs1.mono z2.fx)
  | true =>
    rw [if_pos rfl] at h2 ⊢
    refine ⟨fun st3 H3 => ∃ F3 O3 env3, Step F O H F3 O3 H3 ∧ Rep X.K F3 O3 H3 ∧ RS X.K F3 env3 st3 ∧ ∃ m' env2 O2, m' < m ∧ WkS env3 O3 env2 O2 ∧ J m' env2 O2, ?_, ?_⟩
    · rintro st3 H3 ⟨F3, O3, env3, a, b, c, m', e2, o2, hm, wk2, d⟩
      obtain ⟨F4, z4, R4, rs4⟩ := wk2 _ F3 H3 st3 b c
      exact ⟨m', hm, F4, o2, e2, a.trans z4, R4, rs4, d⟩
    · have l2 := l.step (z.trans z2)
      refine s1.run R2 (rs1.mono z2.fx) (xl.step (z.trans z2)) h2 ⟨fun e o f hh s' a zz Rz rz => ?_, l2.rt, l2.nx, fun e o f hh s' a zz Rz rz => ?_⟩
      · exact ⟨f, o, e, (z.trans z2).trans zz, Rz, rz, a⟩
      · exact ⟨f, o, e, (z.trans z2).trans zz, Rz, rz, a⟩
def aForB (PJ : PIt) (G : AG) (U : AS) : AS := fun P env O1 => ∃ J : Nat → Nat → En → Oh → Prop, (∃ m env1 O2, WkS env O1 env1 O2 ∧ J 0 m env1 O2) ∧ ∀ i m env O, J i m env O →
  (PJ.stop i O ∧ P.nx env O) ∨ (∃ x, PJ.go i O x ∧ G x env O fun env2 O2 => U { P with nx := fun env' O' => ∃ m' env2 O2, m' < m ∧ WkS env' O' env2 O2 ∧ J (i + 1) m' env2 O2, ct := fun env' O' => ∃ m' env2 O2, m' < m ∧ WkS env' O' env2 O2 ∧ J (i + 1) m' env2 O2, bk := P.nx } env2 O2)
def aFor (WI : AI) (G : AG) (U : AS) : AS := fun P env O => WI env O fun PJ O1 => aForB PJ G U P env O1
theorem qs_for {tg iter : Expr} {body : List Stmt} {WI : AI} {G : AG} {U : AS} (hp : PassesOwn (model X.prog X.w) X.A X.env X.xe) (hc : X.calm = true) (hi : QI X W AW tg iter WI) (hg : QG X W AW tg G) (hb : QSs X W AW body U)
    (hf : ∀ {wi : TI} {g : TG} {tb : TS}, PI X tg iter wi → PG X tg g → PSs X body tb → PS X (.For tg iter body [] pos) (tFor wi g tb) := by exact fun a b c => ps_for (by assumption) (by assumption) a b c) : QS X W AW (.For tg iter body [] pos) (aFor WI G U) := by
  obtain ⟨wi, pi, si⟩ := hi
  obtain ⟨g, pg, sg⟩ := hg
  obtain ⟨tb, pb, sb⟩ := hb
  refine ⟨_, hf pi pg pb, ⟨fun {F O H st env D P} R0 rs xl h l => si.run R0 rs xl h fun PJ O1 F1 H1 J h1 z1 R1 sj => ?_⟩⟩
  obtain ⟨PW, ⟨m0, e1, o1, wk, w0⟩, turn⟩ := h1
  obtain ⟨F1', z1', R1', rs1'⟩ := wk _ F1 H1 st R1 (rs.mono z1.fx)
  refine ⟨fun i m st' H' => ∃ F' O' env', Step F O H F' O' H' ∧ Rep X.K F' O' H' ∧ RS X.K F' env' st' ∧ Same F1 F' ∧ PW i m env' O', ⟨m0, F1', o1, e1, z1.trans z1', R1', rs1', z1'.fx, w0⟩, ?_⟩
  rintro i m st' H' ⟨F', O', env', z, R2, rs2, sf, w⟩
  rcases turn i m env' O' w with ⟨hs, hq⟩ | ⟨x, hgo, ht⟩
  · exact .inl ⟨sj.stop i F' O' H' sf R2 hs, l.nx _ _ _ _ _ hq z R2 rs2⟩
  · refine .inr ⟨sj.go i F' O' H' x sf R2 hgo, fun st3 H3 => ∃ F3 O3 env3, Step F O H F3 O3 H3 ∧ Rep X.K F3 O3 H3 ∧ RS X.K F3 env3 st3 ∧ Same F1 F3 ∧ ∃ m' env2 O2, m' < m ∧ WkS env3 O3 env2 O2 ∧ PW (i + 1) m' env2 O2, ?_, fun v H2 y => ?_⟩
    · rintro st3 H3 ⟨F3, O3, env3, a, b, c, sf3, m', e2, o2, hm, wk2, d⟩
      obtain ⟨F4, z4, R4, rs4⟩ := wk2 _ F3 H3 st3 b c
      exact ⟨m', hm, F4, o2, e2, a.trans z4, R4, rs4, sf3.trans z4.fx, d⟩
    · obtain ⟨F2, z4, R4, r4⟩ := sj.yld i F' O' H' x v H2 sf R2 hgo y
      have z5 := z.trans z4
      refine sg.run R4 (rs2.mono z4.fx) (xl.step z5) r4 ht fun env6 O6 F6 H6 st6 h6 z6 R6 rs6 => ?_
      have z7 := z5.trans z6
      have sf6 := (sf.trans z4.fx).trans z6.fx
      have l2 := l.step z7
      refine sb.run R6 rs6 (xl.step z7) h6 ⟨fun e o f hh s' a zz Rz rz => ?_, l2.rt, l2.nx, fun e o f hh s' a zz Rz rz => ?_⟩
      · exact ⟨f, o, e, z7.trans zz, Rz, rz, sf6.trans zz.fx, a⟩
      · exact ⟨f, o, e, z7.trans zz, Rz, rz, sf6.trans zz.fx, a⟩

/-! ### defs -/
/-- what a def keeps: the arguments, the owned objects, what is wanted -/
abbrev Con := List OV → Oh → (OV → Oh → Prop) → Prop
def spOf (K : PySem.W.Frag) (C : Con) : Sp := fun vs H Q _ => ∃ F O xs R, Rep K F O H ∧ RVs K F xs vs ∧ C xs O R ∧ ∀ r O' F' H' v, R r O' → Step F O H F' O' H' → Rep K F' O' H' → RV K F' r v → Q v H'
/-- what a def that may raise keeps -/
abbrev XR := Value → Option Addr → Oh → Prop
abbrev ConX := List OV → Oh → (OV → Oh → Prop) → XR → Prop
def spX (K : PySem.W.Frag) (C : ConX) : Sp := fun vs H Q E => ∃ F O xs R RX, Rep K F O H ∧ RVs K F xs vs ∧ C xs O R RX ∧ (∀ r O' F' H' v, R r O' → Step F O H F' O' H' → Rep K F' O' H' → RV K F' r v → Q v H') ∧
  ∀ c d O' F' H', RX c d O' → Step F O H F' O' H' → Rep K F' O' H' → E c d H'
structure DefAt (K : PySem.W.Frag) (mg : Str → Option Value) (x : Str) (st : Stmt) (ps : List Str) (f : Addr) (fd : FuncData) : Prop where
  fn : Fun K x x st f fd
  gl : mg x = some (.ref f)
  bd : Binds K fd ps []
def FnD (P : Program) (w : World) (K : PySem.W.Frag) (mg : Str → Option Value) (base : Heap) (k : Nat) (x : Str) (ps : List Str) (C : Con) : Prop :=
  ∃ f fd, mg x = some (.ref f) ∧ PySem.W.keepIn K (.ref f) = true ∧ Binds K fd ps [] ∧ FnOk P w K mg base CX0 k f fd ps (spOf K C)
def FnX (P : Program) (w : World) (K : PySem.W.Frag) (mg : Str → Option Value) (base : Heap) (k : Nat) (x : Str) (ps : List Str) (C : ConX) : Prop :=
  ∃ f fd, mg x = some (.ref f) ∧ PySem.W.keepIn K (.ref f) = true ∧ Binds K fd ps [] ∧ FnOk P w K mg base (L2.CX P w) k f fd ps (spX K C)
def RW (R : OV → Oh → Prop) : OV → Oh → Prop := fun r O => ∃ r' O', Wk O r O' r' ∧ R r' O'
def startE (N : List Str) (xs : List OV) : En := xs.map some ++ List.replicate (N.length - xs.length) none
theorem rs_start {K : PySem.W.Frag} {F : Hp} {N : List Str} {xs : List OV} {vs : List V} (r : RVs K F xs vs) : RS K F (startE N xs) (L2.start N vs) := by
  have hl := r.length
  refine ⟨by unfold startE L2.start; rw [List.length_append, List.length_append, List.length_map, List.length_map, List.length_replicate, List.length_replicate, hl], fun i x e => ?_⟩
  unfold startE at e
  unfold L2.start
  by_cases hi : i < xs.length
  · rw [List.getElem?_append_left (by rw [List.length_map]; exact hi), List.getElem?_map] at e
    cases q : xs[i]? with
    | none => rw [q] at e; cases e
    | some y =>
      rw [q] at e
      cases e
      obtain ⟨v, h1, h2⟩ := r.get q
      exact ⟨v, by rw [List.getElem?_append_left (by rw [List.length_map, ← hl]; exact hi), List.getElem?_map, h1]; rfl, h2⟩
  · rw [List.getElem?_append_right (by rw [List.length_map]; omega), List.getElem?_replicate] at e
    split at e <;> cases e
section
variable {P : Program} {w : World} {K : PySem.W.Frag} {mg : Str → Option Value} {base : Heap} {k : Nat} {x : Str} {st : Stmt} {N ps : List Str} {f : Addr} {fd : FuncData}
theorem fnd_at {C : Con} (D : DefAt K mg x st ps f fd) (S : FnScope N ps (defScope st)) (len : ∀ xs O R, C xs O R → xs.length = ps.length)
    (body : ∀ (cdv : Value) (A : Around) (outer : List PySem.Env) (s : Shared) (H : Hp) (E : XK), Room k (A.deeper (PyProof.Rows.envOfC x (defScope st) s.heap.objs.size f cdv)) →
      ∃ T, QSs (cxOf CX0 P w K mg base N x (defScope st) f cdv A outer s H E).nox NW NAW (defBody st) T ∧ ∀ xs O R, C xs O R → T { nx := fun _ O' => RW R (.d .none) O', rt := RW R } (startE N xs) O) :
    FnOk P w K mg base CX0 (k + 1) f fd ps (spOf K C) := by
  refine D.fn.ok S (fun vs H Q E h => ?_) (fun cdv A outer s H vs Q E hr h => ?_)
  · obtain ⟨F, O, xs, R, R0, rv, h, _⟩ := h
    rw [← rv.length]
    exact len _ _ _ h
  · obtain ⟨F, O, xs, R, R0, rv, h, q⟩ := h
    obtain ⟨T, ⟨t, p, s'⟩, hT⟩ := body cdv A outer s H E hr
    have fin : ∀ r O' F' H' v, RW R r O' → Step F O H F' O' H' → Rep K F' O' H' → RV K F' r v → Q v H' := fun r O' F' H' v a z R1 r1 => by
      obtain ⟨r', O'', wk, a⟩ := a
      obtain ⟨F2, z2, R2, r2⟩ := wk K F' H' v R1 r1
      exact q _ _ _ _ _ a (z.trans z2) R2 r2
    exact ⟨t, p, s'.run R0 (rs_start rv) (fun _ _ _ _ _ _ _ z => z.elim) (hT xs O R h) ⟨fun e o f' hh st' a z R1 rs1 => fin _ _ _ _ .non a z R1 (.d .non), fin, fun e o f' hh st' a z R1 rs1 => a.elim, fun e o f' hh st' a z R1 rs1 => a.elim⟩⟩
theorem fnd {C : Con} (D : DefAt K mg x st ps f fd) (S : FnScope N ps (defScope st)) (len : ∀ xs O R, C xs O R → xs.length = ps.length)
    (body : ∀ (cdv : Value) (A : Around) (outer : List PySem.Env) (s : Shared) (H : Hp) (E : XK), Room k (A.deeper (PyProof.Rows.envOfC x (defScope st) s.heap.objs.size f cdv)) →
      ∃ T, QSs (cxOf CX0 P w K mg base N x (defScope st) f cdv A outer s H E).nox NW NAW (defBody st) T ∧ ∀ xs O R, C xs O R → T { nx := fun _ O' => RW R (.d .none) O', rt := RW R } (startE N xs) O) :
    FnD P w K mg base (k + 1) x ps C := ⟨f, fd, D.gl, D.fn.kp, D.bd, fnd_at D S len body⟩
/-- a def that may raise: what is raised is wished for as the promise's RX -/
theorem fnx {C : ConX} (D : DefAt K mg x st ps f fd) (S : FnScope N ps (defScope st)) (len : ∀ xs O R RX, C xs O R RX → xs.length = ps.length)
    (body : ∀ (cdv : Value) (A : Around) (outer : List PySem.Env) (s : Shared) (H : Hp) (E : XK) (RX : XR), Room k (A.deeper (PyProof.Rows.envOfC x (defScope st) s.heap.objs.size f cdv)) →
      ∃ T, QSs (cxOf (L2.CX P w) P w K mg base N x (defScope st) f cdv A outer s H E) (fun c d _ H => E c d H) (fun c d _ O => RX c d O) (defBody st) T ∧ ∀ xs O R, C xs O R RX → T { nx := fun _ O' => RW R (.d .none) O', rt := RW R } (startE N xs) O) :
    FnX P w K mg base (k + 1) x ps C := by
  refine ⟨f, fd, D.gl, D.fn.kp, D.bd, ?_⟩
  refine D.fn.okX S (fun vs H Q E h => ?_) (fun cdv A outer s H vs Q E hr h => ?_)
  · obtain ⟨F, O, xs, R, RX, R0, rv, h, _⟩ := h
    rw [← rv.length]
    exact len _ _ _ _ h
  · obtain ⟨F, O, xs, R, RX, R0, rv, h, q, qx⟩ := h
    obtain ⟨T, ⟨t, p, s'⟩, hT⟩ := body cdv A outer s H E RX hr
    have fin : ∀ r O' F' H' v, RW R r O' → Step F O H F' O' H' → Rep K F' O' H' → RV K F' r v → Q v H' := fun r O' F' H' v a z R1 r1 => by
      obtain ⟨r', O'', wk, a⟩ := a
      obtain ⟨F2, z2, R2, r2⟩ := wk K F' H' v R1 r1
      exact q _ _ _ _ _ a (z.trans z2) R2 r2
    exact ⟨t, p, s'.run R0 (rs_start rv) (fun c d _ O' F' H' _ a z R1 _ => qx c d O' F' H' a z R1) (hT xs O R h) ⟨fun e o f' hh st' a z R1 rs1 => fin _ _ _ _ .non a z R1 (.d .non), fin, fun e o f' hh st' a z R1 rs1 => a.elim, fun e o f' hh st' a z R1 rs1 => a.elim⟩⟩
end

/-! ### calls -/
def aCall (C : Con) (U : AA) : AE := fun env O R => U env O fun xs O1 => C xs O1 R
theorem se_call {K : PySem.W.Frag} {C : Con} {t : TA} {U : AA} (s : SA K W AW t U) : SE K W AW (tCall (spOf K C) [] E0 t) (aCall C U) := ⟨fun R0 rs xl h q => s.run R0 rs xl h fun xs O1 F1 H1 vs h1 z1 R1 r1 => by
  rw [List.append_nil]
  exact ⟨F1, O1, xs, _, R1, r1, h1, fun r O2 F2 H2 v h2 z2 R2 r2 => q r O2 F2 H2 v h2 (z1.trans z2) R2 r2⟩⟩
theorem qe_call {k j : Nat} {x : Str} {p : Pos} {e : Expr} {es : List Expr} {ps : List Str} {C : Con} {U : AA} (D : FnD X.prog X.w X.K X.mg X.base k x ps C) (hr : Room j X.A) (ha : QA X W AW (e :: es) U) (hj : k ≤ j := by decide) (hg : Gl X x := by rfl)
    (hdb : (x == ("__debug__" : Str)) = false := by decide) (he : starEach (e :: es) X.env = (false, eval e X.env) :: starEach es X.env := by rfl) (hpl : (backTo pos (starEach es X.env)).any (·.1) = false := by rfl) : QE X W AW (.Call (.Name x p) (e :: es) [] pos) (aCall C U) := by
  obtain ⟨f, fd, h1, h2, h3, h4⟩ := D
  obtain ⟨t, pp, s⟩ := ha
  exact ⟨_, pe_call h4 (hr.mono hj) hg h1 h2 h3 .nil pass0 pp hdb he hpl, se_call s⟩
theorem qe_call0 {k j : Nat} {x : Str} {p : Pos} {ps : List Str} {C : Con} (D : FnD X.prog X.w X.K X.mg X.base k x ps C) (hr : Room j X.A) (hj : k ≤ j := by decide) (hg : Gl X x := by rfl) (hdb : (x == ("__debug__" : Str)) = false := by decide) : QE X W AW (.Call (.Name x p) [] [] pos) (aCall C aNil) := by
  obtain ⟨f, fd, h1, h2, h3, h4⟩ := D
  exact ⟨_, pe_call0 h4 (hr.mono hj) hg h1 h2 h3 .nil pass0 hdb, se_call ⟨fun R _ _ h q => q _ _ _ _ _ h Step.refl R .nil⟩⟩
/-- a def that may raise, called where it does not -/
def noX : XR := fun _ _ _ => False
def aCallN (C : ConX) (U : AA) : AE := fun env O R => U env O fun xs O1 => C xs O1 R noX
theorem qe_callN {k j : Nat} {x : Str} {p : Pos} {e : Expr} {es : List Expr} {ps : List Str} {C : ConX} {U : AA} (D : FnX X.prog X.w X.K X.mg X.base k x ps C) (hr : Room j X.A) (ha : QA X W AW (e :: es) U) (hj : k ≤ j := by decide) (hg : Gl X x := by rfl)
    (hdb : (x == ("__debug__" : Str)) = false := by decide) (he : starEach (e :: es) X.env = (false, eval e X.env) :: starEach es X.env := by rfl) (hpl : (backTo pos (starEach es X.env)).any (·.1) = false := by rfl) : QE X W AW (.Call (.Name x p) (e :: es) [] pos) (aCallN C U) := by
  obtain ⟨f, fd, h1, h2, h3, h4⟩ := D
  obtain ⟨t, pp, s⟩ := ha
  refine ⟨_, pe_call h4 (hr.mono hj) hg h1 h2 h3 .nil passL pp hdb he hpl, ⟨fun R0 rs xl h q => s.run R0 rs xl h fun xs O1 F1 H1 vs h1 z1 R1 r1 => ?_⟩⟩
  rw [List.append_nil]
  exact ⟨F1, O1, xs, _, noX, R1, r1, h1, fun r O2 F2 H2 v h2 z2 R2 r2 => q r O2 F2 H2 v h2 (z1.trans z2) R2 r2, fun _ _ _ _ _ z => z.elim⟩
/-- .. called where what it raises goes on -/
def aCallX (AW : AX) (C : ConX) (U : AA) : AE := fun env O R => U env O fun xs O1 => C xs O1 R fun c d O' => AW c d env O'
theorem qe_callX {k j : Nat} {x : Str} {p : Pos} {e : Expr} {es : List Expr} {ps : List Str} {C : ConX} {U : AA} (tk : Takes X W) (D : FnX X.prog X.w X.K X.mg X.base k x ps C) (hr : Room j X.A) (ha : QA X W AW (e :: es) U) (hj : k ≤ j := by decide) (hg : Gl X x := by rfl)
    (hdb : (x == ("__debug__" : Str)) = false := by decide) (he : starEach (e :: es) X.env = (false, eval e X.env) :: starEach es X.env := by rfl) (hpl : (backTo pos (starEach es X.env)).any (·.1) = false := by rfl) : QE X W AW (.Call (.Name x p) (e :: es) [] pos) (aCallX AW C U) := by
  obtain ⟨f, fd, h1, h2, h3, h4⟩ := D
  obtain ⟨t, pp, s⟩ := ha
  refine ⟨_, pe_callS h4 (hr.mono hj) hg h1 h2 h3 (fun st => passAt tk st) pp hdb he hpl, ⟨fun R0 rs xl h q => s.run R0 rs xl h fun xs O1 F1 H1 vs h1 z1 R1 r1 => ?_⟩⟩
  exact ⟨F1, O1, xs, _, _, R1, r1, h1, fun r O2 F2 H2 v h2 z2 R2 r2 => q r O2 F2 H2 v h2 (z1.trans z2) R2 r2, fun c d O2 F2 H2 a z2 R2 => xl c d _ O2 F2 H2 _ a (z1.trans z2) R2 (rs.mono (z1.trans z2).fx)⟩
end
end Y
/-! Y: how a reading is run: one lemma a construct. -/
namespace Y
open PySem PySem.Spec L2
/-! ### short data -/
abbrev dI (n : Int) : OV := .d (.int n)
abbrev dB (b : Bool) : OV := .d (.bool b)
abbrev dW (ns : List Int) : OV := .d (.list (ns.map PyData.int))
abbrev pR (ns : List Int) : PyData := .tuple (ns.map PyData.int)
abbrev pW (ns : List Int) : PyData := .list (ns.map PyData.int)
abbrev dR (ns : List Int) : OV := .d (pR ns)
abbrev dT (rows : List (List Int)) : OV := .d (.tuple (rows.map pR))
abbrev dF (fs : List (List Int)) : OV := .d (.list (fs.map pW))
def cutA {α : Type} (xs : List α) (lo hi : Option Int) : List α := (xs.drop (HT.sIx xs.length 0 lo)).take (HT.sIx xs.length xs.length hi - HT.sIx xs.length 0 lo)
theorem cutO_eq (xs : List OV) (lo hi : Option Int) : cutO xs lo hi = cutA xs lo hi := rfl
theorem cutA_map {α β : Type} (f : α → β) (xs : List α) (lo hi : Option Int) : cutA (xs.map f) lo hi = (cutA xs lo hi).map f := by
  unfold cutA
  rw [List.length_map, List.map_take, List.map_drop]
theorem atI_map {α β : Type} (f : α → β) (xs : List α) (i : Int) : atI (xs.map f) i = (atI xs i).map f := by
  unfold atI
  rw [List.length_map]
  cases ixN xs.length i with
  | none => rfl
  | some j => show (xs.map f)[j]? = (xs[j]?).map f; rw [List.getElem?_map]
theorem atI_n {α : Type} {xs : List α} {i : Int} {x : α} (h0 : 0 ≤ i) (h : xs[i.toNat]? = some x) : atI xs i = some x := by
  have hl := (List.getElem?_eq_some_iff.mp h).1
  unfold atI ixN
  rw [if_pos h0, if_pos (by omega)]
  exact h
theorem unD_map : ∀ ds : List PyData, unD (ds.map OV.d) = some ds
  | [] => rfl
  | d :: ds => by show unD (.d d :: ds.map OV.d) = _; unfold unD; rw [unD_map ds]
theorem mkT_map (ds : List PyData) : mkT (ds.map OV.d) = .d (.tuple ds) := by unfold mkT; rw [unD_map]
theorem Zs_eq (ns : List Int) : Zs ns = (ns.map PyData.int).map OV.d := by rw [List.map_map]; rfl
theorem mkT_Zs (ns : List Int) : mkT (Zs ns) = dR ns := by rw [Zs_eq, mkT_map]

theorem sz {n : Nat} (h : n ≤ 10000) : n ≤ sizeLine := Nat.le_trans h (by decide)
theorem szm {n : Nat} (h : n ≤ 1000000) : n ≤ sizeLine := Nat.le_trans h (by decide)
theorem szlm {n : Nat} (h : n < 1000000) : n < sizeLine := Nat.lt_of_lt_of_le h (by decide)
theorem szl {n : Nat} (h : n < 10000) : n < sizeLine := Nat.lt_of_lt_of_le h (by decide)
theorem w_le10 {n : Nat} {Q : Prop} (h : n ≤ 10000) (q : Q) : n ≤ 10000 ∧ Q := ⟨h, q⟩
theorem cutA_take {α : Type} (xs : List α) (k : Nat) : cutA xs none (some (k : Int)) = xs.take k := by
  unfold cutA
  rw [HT.sIx_none, HT.sIx_nat, List.drop_zero, Nat.sub_zero]
  by_cases h : k ≤ xs.length
  · rw [Nat.min_eq_left h]
  · rw [Nat.min_eq_right (by omega), List.take_length, List.take_of_length_le (by omega)]
theorem cutA_drop {α : Type} (xs : List α) (k : Nat) : cutA xs (some (k : Int)) none = xs.drop k := by
  unfold cutA
  rw [HT.sIx_none, HT.sIx_nat]
  by_cases h : k ≤ xs.length
  · rw [Nat.min_eq_left h, List.take_of_length_le (by rw [List.length_drop]; omega)]
  · rw [Nat.min_eq_right (by omega), Nat.sub_self, List.take_zero, List.drop_eq_nil_of_le (by omega)]
theorem cutA_mid {α : Type} (xs : List α) (i j : Nat) : cutA xs (some (i : Int)) (some (j : Int)) = (xs.take j).drop i := by
  unfold cutA
  rw [HT.sIx_nat, HT.sIx_nat]
  rw [List.drop_take]
  by_cases h : i ≤ xs.length
  · rw [Nat.min_eq_left h]
    by_cases h2 : j ≤ xs.length
    · rw [Nat.min_eq_left h2]
    · rw [Nat.min_eq_right (by omega)]
      rw [List.take_of_length_le (by rw [List.length_drop]; omega), List.take_of_length_le (by rw [List.length_drop]; omega)]
  · rw [Nat.min_eq_right (by omega : xs.length ≤ i), List.drop_eq_nil_of_le (Nat.le_refl _), List.drop_eq_nil_of_le (by omega), List.take_nil, List.take_nil]
/-- the value is frozen -/
def frz (R : OV → Oh → Prop) : OV → Oh → Prop := fun r O => ∃ r' O', Wk O r O' r' ∧ R r' O'
theorem frz_id {R : OV → Oh → Prop} {r : OV} {O : Oh} (h : R r O) : frz R r O := ⟨r, O, Wk.refl O r, h⟩
theorem frz_new {R : OV → Oh → Prop} {O : Oh} {p : Addr} {xs : List OV} {ds : List PyData} (e : xs = ds.map OV.d) (hp : O p = none) (h : R (.d (.list ds)) O) : frz R (.o p) (updO O p (.lst xs)) := by
  subst e
  exact ⟨_, _, Wk.flat hp, h⟩
theorem frz_all {R : OV → Oh → Prop} {O : Oh} {xs : List OV} {ds : List PyData} (e : xs = ds.map OV.d) (h : R (.d (.list ds)) O) : ∀ p, O p = none → frz R (.o p) (updO O p (.lst xs)) := fun p hp => frz_new e hp h

section
variable {env : En} {O : Oh} {P : AEnds} {T U V TA TB TC : AE} {R : OV → Oh → Prop} {i j k : Int} {S S2 : AS}
/-! ### expressions -/
theorem w_var {n : Nat} {x : OV} (h : env[n]? = some (some x)) (q : R x O) : aVar n env O R := ⟨x, h, q⟩
theorem w_c {d : PyData} (q : R (.d d) O) : aC d env O R := q
theorem w_ty {n : String} (q : R (.ty n) O) : aTyC n env O R := q
theorem w_op {a : AR2} (q : TA env O fun x O1 => TB env O1 fun y O2 => a x y O2 R) : aOp a TA TB env O R := q
theorem w_I {C : Int → Int → Prop} {g : Int → Int → PyData} (c : C i j) (q : R (.d (g i j)) O) : aI C g (dI i) (dI j) O R := ⟨i, j, rfl, rfl, c, q⟩
theorem w_I0 {g : Int → Int → PyData} (q : R (.d (g i j)) O) : aI0 g (dI i) (dI j) O R := ⟨i, j, rfl, rfl, q⟩
theorem w_str2 {C : Str → Str → Prop} {g : Str → Str → PyData} {x y : Str} (c : C x y) (q : R (.d (g x y)) O) : aStr2 C g (.d (.str x)) (.d (.str y)) O R := ⟨x, y, rfl, rfl, c, q⟩
theorem w_chain {a a' : AR2} (q : TA env O fun x O1 => TB env O1 fun y O2 => a x y O2 fun z O3 => ∃ k, z = .d (.bool k) ∧ if k = true then TC env O3 fun w O4 => a' y w O4 R else R (.d (.bool false)) O3) : aChain a a' TA TB TC env O R := q
theorem w_ixR {ns : List Int} {n : Int} (h : atI ns i = some n) (q : R (dI n) O) : aIxT (dR ns) (dI i) O R := ⟨_, i, dI n, rfl, rfl, by rw [atI_map, atI_map, h]; rfl, q⟩
theorem w_ixW {ns : List Int} {n : Int} (h : atI ns i = some n) (q : R (dI n) O) : aIxL (dW ns) (dI i) O R := ⟨_, i, dI n, rfl, rfl, by rw [atI_map, atI_map, h]; rfl, q⟩
theorem w_ixL {ds : List PyData} {d : PyData} (h : atI ds i = some d) (q : R (.d d) O) : aIxL (.d (.list ds)) (dI i) O R := ⟨_, i, .d d, rfl, rfl, by rw [atI_map, h]; rfl, q⟩
theorem w_ixT {ds : List PyData} {d : PyData} (h : atI ds i = some d) (q : R (.d d) O) : aIxT (.d (.tuple ds)) (dI i) O R := ⟨_, i, .d d, rfl, rfl, by rw [atI_map, h]; rfl, q⟩
theorem w_ixF {fs : List (List Int)} {l : List Int} (h : atI fs i = some l) (q : R (dW l) O) : aIxL (dF fs) (dI i) O R := w_ixL (by rw [atI_map, h]; rfl) q
theorem w_ixTT {fs : List (List Int)} {l : List Int} (h : atI fs i = some l) (q : R (dR l) O) : aIxT (dT fs) (dI i) O R := w_ixT (by rw [atI_map, h]; rfl) q
theorem w_ixO {p : Addr} {xs : List OV} {x : OV} (hp : O p = some (.lst xs)) (h : atI xs i = some x) (q : R x O) : aIxL (.o p) (dI i) O R := ⟨xs, i, x, hp, rfl, h, q⟩
theorem w_ixt {xs : List OV} {x : OV} (h : atI xs i = some x) (q : R x O) : aIxT (.t xs) (dI i) O R := ⟨xs, i, x, rfl, rfl, h, q⟩
theorem w_ixs {ns : List Int} {n : Int} (h : atI ns i = some n) (q : R (dI n) O) : aIxL (.s ns) (dI i) O R := ⟨_, i, dI n, rfl, rfl, by rw [atI_map, h]; rfl, q⟩
theorem w_ixS {z : Str} {c : Nat} (hz : z.length ≤ sizeLine) (h : atI z.cps.toList i = some c) (q : R (.d (.str ⟨#[c]⟩)) O) : aIxS (.d (.str z)) (dI i) O R := ⟨z, i, c, rfl, rfl, hz, h, q⟩
/-- == of data -/
theorem w_eq {neg : Bool} {d e : PyData} (h1 : SeqAt.shaped d = true) (h2 : SeqAt.shaped e = true) (q : R (dB (neg != PyData.eqv d e)) O) : aEq neg (.d d) (.d e) O R := ⟨d, e, .d d, .d e, h1, h2, q⟩
theorem w_eqz {neg : Bool} {x y : OV} {d e : PyData} (z1 : Fz O x d) (z2 : Fz O y e) (h1 : SeqAt.shaped d = true) (h2 : SeqAt.shaped e = true) (q : R (dB (neg != PyData.eqv d e)) O) : aEq neg x y O R := ⟨d, e, z1, z2, h1, h2, q⟩
theorem w_isN {neg : Bool} {x : OV} (q : R (dB (neg != isNon x)) O) : aIsN neg x (.d .none) O R := ⟨rfl, q⟩
theorem w_nil {Q : List OV → Oh → Prop} (q : Q [] O) : aNil env O Q := q
theorem w_cons {A : AA} {Q : List OV → Oh → Prop} (q : T env O fun x O1 => A env O1 fun xs O2 => Q (x :: xs) O2) : aCons T A env O Q := q
theorem w_tup {A : AA} (q : A env O fun xs O1 => ∃ ds, unD xs = some ds ∧ xs.length ≤ 10000 ∧ R (.d (.tuple ds)) O1) : aTup A env O R := q
theorem w_lstF {A : AA} (q : A env O fun xs O1 => ∃ ds, unD xs = some ds ∧ xs.length ≤ 10000 ∧ R (.d (.list ds)) O1) : aLstF A env O R := q
theorem w_tupO {A : AA} (q : A env O fun xs O1 => xs.length ≤ 10000 ∧ R (.t xs) O1) : aTupO A env O R := q
theorem w_lst {A : AA} (q : A env O fun xs O1 => xs.length ≤ 10000 ∧ ∀ p, O1 p = none → R (.o p) (updO O1 p (.lst xs))) : aLst A env O R := q
theorem w_wk (q : T env O (frz R)) : aWk T env O R := q
theorem w_cb {a : AN} {A : AA} (q : A env O fun xs O1 => a xs O1 R) : aCB a A env O R := q
theorem w_lenW {ns : List Int} (q : R (dI ns.length) O) : aLen [dW ns] O R := ⟨dW ns, _, rfl, .inl rfl, by rw [List.length_map, List.length_map]; exact q⟩
theorem w_lenR {ns : List Int} (q : R (dI ns.length) O) : aLen [dR ns] O R := ⟨dR ns, _, rfl, .inr rfl, by rw [List.length_map, List.length_map]; exact q⟩
theorem w_lenF {fs : List (List Int)} (q : R (dI fs.length) O) : aLen [dF fs] O R := ⟨dF fs, _, rfl, .inl rfl, by rw [List.length_map, List.length_map]; exact q⟩
theorem w_lenT {fs : List (List Int)} (q : R (dI fs.length) O) : aLen [dT fs] O R := ⟨dT fs, _, rfl, .inr rfl, by rw [List.length_map, List.length_map]; exact q⟩
theorem w_lenL {ds : List PyData} (q : R (dI ds.length) O) : aLen [.d (.list ds)] O R := ⟨_, _, rfl, .inl rfl, by rw [List.length_map]; exact q⟩
theorem w_lenU {ds : List PyData} (q : R (dI ds.length) O) : aLen [.d (.tuple ds)] O R := ⟨_, _, rfl, .inr rfl, by rw [List.length_map]; exact q⟩
theorem w_lens {ns : List Int} (q : R (dI ns.length) O) : aLen [.s ns] O R := ⟨_, _, rfl, .inl rfl, by rw [List.length_map]; exact q⟩
theorem w_lent {xs : List OV} (q : R (dI xs.length) O) : aLen [.t xs] O R := ⟨_, xs, rfl, .inr rfl, q⟩
theorem w_lenO {p : Addr} {xs : List OV} (hp : O p = some (.lst xs)) (q : R (dI xs.length) O) : aLen [.o p] O R := ⟨_, xs, rfl, .inl hp, q⟩
theorem w_lenS {z : Str} (hz : z.length ≤ sizeLine) (q : R (dI z.length) O) : aLenS [.d (.str z)] O R := ⟨z, rfl, hz, q⟩
theorem w_listW {ds : List PyData} (q : ∀ p, O p = none → R (.o p) (updO O p (.lst (ds.map OV.d)))) : aList [.d (.list ds)] O R := ⟨_, _, rfl, .inl rfl, q⟩
theorem w_listR {ds : List PyData} (q : ∀ p, O p = none → R (.o p) (updO O p (.lst (ds.map OV.d)))) : aList [.d (.tuple ds)] O R := ⟨_, _, rfl, .inr rfl, q⟩
theorem w_listO {p : Addr} {xs : List OV} (hp : O p = some (.lst xs)) (q : ∀ p, O p = none → R (.o p) (updO O p (.lst xs))) : aList [.o p] O R := ⟨_, xs, rfl, .inl hp, q⟩
theorem w_tupleL {ds : List PyData} (q : R (.d (.tuple ds)) O) : aTuple [.d (.list ds)] O R := ⟨_, _, rfl, .inl ⟨rfl, by rw [mkT_map]; exact q⟩⟩
theorem w_tupleT {ds : List PyData} (q : R (.d (.tuple ds)) O) : aTuple [.d (.tuple ds)] O R := ⟨_, _, rfl, .inr ⟨rfl, q⟩⟩
theorem w_tupleO {p : Addr} {xs : List OV} (hp : O p = some (.lst xs)) (q : R (mkT xs) O) : aTuple [.o p] O R := ⟨_, xs, rfl, .inl ⟨hp, q⟩⟩
theorem w_int1 {g : Int → PyData} (q : R (.d (g i)) O) : aInt1 g [dI i] O R := ⟨i, rfl, q⟩
theorem w_int2 {g : Int → Int → PyData} (q : R (.d (g i j)) O) : aInt2 g [dI i, dI j] O R := ⟨i, j, rfl, q⟩
theorem w_intI (q : R (dI i) O) : aIntOf [dI i] O R := .inl ⟨i, rfl, q⟩
theorem w_intB {b : Bool} (q : R (dI (if b then 1 else 0)) O) : aIntOf [dB b] O R := .inr ⟨b, rfl, q⟩
theorem w_sumW {ns : List Int} (q : R (dI ns.sum) O) : aSum [dW ns] O R := ⟨_, ns, rfl, (Zs_eq ns).trans rfl, q⟩
theorem w_sumO {p : Addr} {ns : List Int} (hp : O p = some (.lst (Zs ns))) (q : R (dI ns.sum) O) : aSum [.o p] O R := ⟨_, ns, rfl, hp, q⟩
theorem w_isi {x : OV} {n t : String} {b : Bool} (h : tyOf O x t) (hb : kitB t n = some b) (q : R (dB b) O) : aIsi [x, .ty n] O R := ⟨x, n, t, b, rfl, h, hb, q⟩
theorem w_bm {ty : String} {a : AM} {A : AA} (q : T env O fun x O1 => tyM ty O1 x ∧ A env O1 fun xs O2 => a x xs O2 R) : aBM ty a T A env O R := q
theorem w_bm0 {ty : String} {a : AM} (q : T env O fun x O1 => tyM ty O1 x ∧ a x [] O1 R) : aBM0 ty a T env O R := q
theorem tym_o {p : Addr} {xs : List OV} (hp : O p = some (.lst xs)) : tyM "list" O (.o p) := .inl ⟨rfl, xs, hp⟩
theorem tym_l {ds : List PyData} : tyM "list" O (.d (.list ds)) := .inl ⟨rfl, _, rfl⟩
theorem tym_s {z : Str} : tyM "str" O (.d (.str z)) := .inr ⟨rfl, z, rfl⟩
theorem w_append {p : Addr} {xs : List OV} {y : OV} (hp : O p = some (.lst xs)) (hz : xs.length < sizeLine) (q : R (.d .none) (updO O p (.lst (xs ++ [y])))) : aAppend (.o p) [y] O R := ⟨p, xs, y, rfl, rfl, hp, hz, q⟩
theorem w_extend {p : Addr} {xs : List OV} {ds : List PyData} (hp : O p = some (.lst xs)) (hz : xs.length + ds.length ≤ sizeLine) (q : R (.d .none) (updO O p (.lst (xs ++ ds.map OV.d)))) : aExtend (.o p) [.d (.list ds)] O R := ⟨p, xs, _, _, rfl, rfl, hp, trivial, rfl, by rw [List.length_map]; exact hz, q⟩
theorem w_extendT {p : Addr} {xs : List OV} {ds : List PyData} (hp : O p = some (.lst xs)) (hz : xs.length + ds.length ≤ sizeLine) (q : R (.d .none) (updO O p (.lst (xs ++ ds.map OV.d)))) : aExtendT (.o p) [.d (.tuple ds)] O R := ⟨p, xs, _, _, rfl, rfl, hp, rfl, by rw [List.length_map]; exact hz, q⟩
theorem w_pop {p : Addr} {xs : List OV} {y : OV} (hp : O p = some (.lst (xs ++ [y]))) (q : R y (updO O p (.lst xs))) : aPop (.o p) [] O R := ⟨p, xs, y, rfl, rfl, hp, q⟩
theorem w_sl {a : AL} {TL TH : AO} (q : T env O fun x O1 => TL env O1 fun l O2 => TH env O2 fun u O3 => a x l u O3 R) : aSl a T TL TH env O R := q
theorem w_noPart {Q : Option Int → Oh → Prop} (q : Q none O) : aNoPart env O Q := q
theorem w_part {Q : Option Int → Oh → Prop} (q : T env O fun x O1 => ∃ i, x = .d (.int i) ∧ Q (some i) O1) : aPart T env O Q := q
theorem w_slR {ns : List Int} {lo hi : Option Int} (q : R (dR (cutA ns lo hi)) O) : aSlT (dR ns) lo hi O R := ⟨_, rfl, by rw [cutO_eq, cutA_map, cutA_map, mkT_map]; exact q⟩
theorem w_slT {ds : List PyData} {lo hi : Option Int} (q : R (.d (.tuple (cutA ds lo hi))) O) : aSlT (.d (.tuple ds)) lo hi O R := ⟨_, rfl, by rw [cutO_eq, cutA_map, mkT_map]; exact q⟩
theorem w_slTT {fs : List (List Int)} {lo hi : Option Int} (q : R (dT (cutA fs lo hi)) O) : aSlT (dT fs) lo hi O R := w_slT (by rw [cutA_map]; exact q)
theorem w_slL {ds : List PyData} {lo hi : Option Int} (q : ∀ p, O p = none → R (.o p) (updO O p (.lst ((cutA ds lo hi).map OV.d)))) : aSlL (.d (.list ds)) lo hi O R := ⟨_, rfl, by rw [cutO_eq, cutA_map]; exact q⟩
theorem w_slW {ns : List Int} {lo hi : Option Int} (q : R (dW (cutA ns lo hi)) O) : aSlL (dW ns) lo hi O (frz R) := w_slL (by rw [cutA_map]; exact frz_all rfl q)
theorem w_slF {fs : List (List Int)} {lo hi : Option Int} (q : R (dF (cutA fs lo hi)) O) : aSlL (dF fs) lo hi O (frz R) := w_slL (by rw [cutA_map]; exact frz_all rfl q)
theorem w_slO {p : Addr} {xs : List OV} {lo hi : Option Int} (hp : O p = some (.lst xs)) (q : ∀ p, O p = none → R (.o p) (updO O p (.lst (cutA xs lo hi)))) : aSlL (.o p) lo hi O R := ⟨xs, hp, q⟩
theorem w_slS {z : Str} {lo hi : Option Int} (hz : z.length ≤ sizeLine) (q : R (.d (.str (cutS z lo hi))) O) : aSlS (.d (.str z)) lo hi O R := ⟨z, rfl, hz, q⟩
theorem w_revL (q : T env O fun x O1 => ∃ xs, itemsL O1 x xs ∧ ∀ p, O1 p = none → R (.o p) (updO O1 p (.lst xs.reverse))) : aRevL T env O R := q
theorem w_cat {ds es : List PyData} (hz : ds.length + es.length ≤ sizeLine) (q : ∀ p, O p = none → R (.o p) (updO O p (.lst ((ds ++ es).map OV.d)))) : aCat (.d (.list ds)) (.d (.list es)) O R := ⟨_, _, trivial, trivial, rfl, rfl, by rw [List.length_map, List.length_map]; exact hz, by rw [← List.map_append]; exact q⟩
theorem w_catT {ds es : List PyData} (hz : ds.length + es.length ≤ sizeLine) (q : R (.d (.tuple (ds ++ es))) O) : aCatT (.d (.tuple ds)) (.d (.tuple es)) O R := ⟨_, _, rfl, rfl, by rw [List.length_map, List.length_map]; exact hz, by rw [← List.map_append, mkT_map]; exact q⟩
theorem w_and (q : T env O fun x O1 => ∃ c, x = .d (.bool c) ∧ if c = true then U env O1 R else R (.d (.bool false)) O1) : aAnd T U env O R := q
theorem w_or (q : T env O fun x O1 => ∃ c, x = .d (.bool c) ∧ if c = true then R (.d (.bool true)) O1 else U env O1 R) : aOr T U env O R := q
theorem w_not (q : T env O fun x O1 => ∃ c, x = .d (.bool c) ∧ R (.d (.bool (!c))) O1) : aNot T env O R := q
theorem w_neg (q : T env O fun x O1 => ∃ i, x = .d (.int i) ∧ R (.d (.int (-i))) O1) : aNeg T env O R := q
theorem w_B {Q : Bool → Oh → Prop} (q : T env O fun x O1 => ∃ c, x = .d (.bool c) ∧ Q c O1) : aB T env O Q := q
theorem w_tAnd {A B : AT} {Q : Bool → Oh → Prop} (q : A env O fun c O1 => if c = true then B env O1 Q else Q false O1) : aTAnd A B env O Q := q
theorem w_tOr {A B : AT} {Q : Bool → Oh → Prop} (q : A env O fun c O1 => if c = true then Q true O1 else B env O1 Q) : aTOr A B env O Q := q
theorem w_tNot {A : AT} {Q : Bool → Oh → Prop} (q : A env O fun c O1 => Q (!c) O1) : aTNot A env O Q := q
theorem w_if {A : AT} (q : A env O fun c O1 => if c = true then U env O1 R else V env O1 R) : aIf A U V env O R := q
theorem w_yes {Q : Bool → Oh → Prop} (q : Q true O) : aYes env O Q := q
theorem w_call {C : Con} {A : AA} (q : A env O fun xs O1 => C xs O1 R) : aCall C A env O R := q
theorem w_callN {C : ConX} {A : AA} (q : A env O fun xs O1 => C xs O1 R noX) : aCallN C A env O R := q
theorem w_callX {AW : AX} {C : ConX} {A : AA} (q : A env O fun xs O1 => C xs O1 R fun c d O' => AW c d env O') : aCallX AW C A env O R := q
theorem w_inI {neg : Bool} {ns : List Int} (q : R (dB (neg != ns.contains i)) O) : aInI neg (dI i) (dW ns) O R := ⟨i, ns, rfl, .inl (Zs_eq ns), q⟩
theorem w_inO {neg : Bool} {p : Addr} {ns : List Int} (hp : O p = some (.lst (Zs ns))) (q : R (dB (neg != ns.contains i)) O) : aInI neg (dI i) (.o p) O R := ⟨i, ns, rfl, .inl hp, q⟩

/-! ### statements -/
theorem w_next (q : P.nx env O) : aNext P env O := q
theorem w_seq (q : S { P with nx := S2 P } env O) : aSeq S S2 P env O := q
theorem w_brk (q : P.bk env O) : aBrk P env O := q
theorem w_cnt (q : P.ct env O) : aCnt P env O := q
theorem w_drop (q : T env O fun _ O1 => P.nx env O1) : aDrop T P env O := q
theorem w_ret (q : T env O P.rt) : aRet T P env O := q
theorem w_retN (q : P.rt (.d .none) O) : aRetN P env O := q
theorem w_ifS {A : AT} (q : A env O fun b O1 => if b = true then S P env O1 else S2 P env O1) : aIfS A S S2 P env O := q
theorem w_set {n : Nat} (q : T env O fun x O1 => P.nx (env.set n (some x)) O1) : aSet n T P env O := q
theorem w_asg {G : AG} (q : T env O fun x O1 => G x env O1 P.nx) : aAsg T G P env O := q
theorem w_par {n m : Nat} {A : AA} (q : A env O fun xs O1 => ∃ x y, xs = [x, y] ∧ P.nx ((env.set n (some x)).set m (some y)) O1) : aPar n m A P env O := q
theorem w_aug {n : Nat} {g : Int → Int → Int} (h : env[n]? = some (some (dI i))) (q : T env O fun y O1 => ∃ m, y = .d (.int m) ∧ P.nx (env.set n (some (.d (.int (g i m))))) O1) : aAug n g T P env O := ⟨i, h, q⟩
theorem w_gvar {n : Nat} {x : OV} {Q : En → Oh → Prop} (q : Q (env.set n (some x)) O) : gVar n x env O Q := q
theorem w_gtup {n : Nat} {Gs : AGs} {ds : List PyData} {Q : En → Oh → Prop} (hn : ds.length = n) (q : Gs (ds.map OV.d) env O Q) : agTup n Gs (.d (.tuple ds)) env O Q := ⟨_, rfl, by rw [List.length_map]; exact hn, q⟩
theorem w_gtupt {n : Nat} {Gs : AGs} {xs : List OV} {Q : En → Oh → Prop} (hn : xs.length = n) (q : Gs xs env O Q) : agTup n Gs (.t xs) env O Q := ⟨xs, rfl, hn, q⟩
theorem w_gnil {Q : En → Oh → Prop} (q : Q env O) : agNil [] env O Q := ⟨rfl, q⟩
theorem w_gcons {G : AG} {Gs : AGs} {x : OV} {xs : List OV} {Q : En → Oh → Prop} (q : G x env O fun env1 O1 => Gs xs env1 O1 Q) : agCons G Gs (x :: xs) env O Q := ⟨x, xs, rfl, q⟩
theorem w_gsub {x : OV} {Q : En → Oh → Prop} (q : T env O fun o O1 => U env O1 fun i O2 => aSetL o i x O2 fun O3 => Q env O3) : gSubL T U x env O Q := q
theorem w_setL {p : Addr} {xs : List OV} {v : OV} {n : Nat} {Q : Oh → Prop} (hp : O p = some (.lst xs)) (hn : ixN xs.length i = some n) (q : Q (updO O p (.lst (xs.set n v)))) : aSetL (.o p) (dI i) v O Q := ⟨p, xs, i, n, rfl, rfl, hp, hn, q⟩
theorem w_pre {env' : En} {O' : Oh} (w : WkS env O env' O') (q : S P env' O') : aPre S P env O := ⟨env', O', w, q⟩
theorem ixN_n {n k : Nat} (h : k < n) : ixN n (k : Int) = some k := by
  unfold ixN
  rw [if_pos (by omega), if_pos (by omega)]
  simp

/-! ### what may be forgotten of the slots -/
def EnLe : En → En → Prop
  | [], [] => True
  | none :: r, _ :: r' => EnLe r r'
  | some x :: r, y :: r' => y = some x ∧ EnLe r r'
  | _, _ => False
theorem EnLe.rs {K : PySem.W.Frag} {F : Hp} : ∀ {e e' : En} {st : L2.St}, EnLe e e' → RS K F e' st → RS K F e st := by
  intro e
  induction e with
  | nil => intro e' st h r; cases e' with
    | nil => exact r
    | cons _ _ => exact h.elim
  | cons x e ih =>
    intro e' st h r
    cases e' with
    | nil => cases x <;> exact False.elim h
    | cons y e' =>
      have hst : st.length = e'.length + 1 := r.1.symm
      cases st with
      | nil => simp at hst
      | cons s st =>
        have r' : RS K F e' st := ⟨by simpa using hst.symm, fun i z q => r.2 (i + 1) z (by simpa using q)⟩
        have h2 : EnLe e e' := by
          cases x with
          | none => exact h
          | some x => exact h.2
        have r2 := ih h2 r'
        refine ⟨by rw [List.length_cons, List.length_cons, r2.1], fun i z q => ?_⟩
        cases i with
        | zero =>
          cases x with
          | none => cases q
          | some x =>
            cases q
            exact r.2 0 z (by rw [h.1]; rfl)
        | succ i => exact r2.2 i z (by simpa using q)
theorem EnLe.refl : ∀ e : En, EnLe e e
  | [] => trivial
  | none :: r => EnLe.refl r
  | some _ :: r => ⟨rfl, EnLe.refl r⟩
theorem EnLe.wk {e e' : En} {O O' : Oh} (h : EnLe e e') (s : ∀ a o, O' a = some o → O a = some o) : WkS e' O e O' := fun K F H st R rs => ⟨F, (R.drop s).2, (R.drop s).1, h.rs rs⟩
theorem EnLe.wk0 {e e' : En} {O : Oh} (h : EnLe e e') : WkS e' O e O := h.wk fun _ _ q => q

/-! ### loops -/
theorem w_while {α : Type} {A : AT} (f : α → En) (g : α → Oh) (I : α → Prop) (mu : α → Nat) (a0 : α) (h0 : WkS env O (f a0) (g a0)) (hI : I a0)
    (hs : ∀ a, I a → A (f a) (g a) fun b O1 => if b = true then S { P with nx := fun env' O' => ∃ a', WkS env' O' (f a') (g a') ∧ I a' ∧ mu a' < mu a, ct := fun env' O' => ∃ a', WkS env' O' (f a') (g a') ∧ I a' ∧ mu a' < mu a, bk := P.nx } (f a) O1 else P.nx (f a) O1) : aWhile A S P env O := by
  refine ⟨fun m e o => ∃ a, e = f a ∧ o = g a ∧ I a ∧ m = mu a, ⟨mu a0, f a0, g a0, h0, a0, rfl, rfl, hI, rfl⟩, ?_⟩
  rintro m e o ⟨a, rfl, rfl, ia, rfl⟩
  have e1 : (fun (env' : En) (O' : Oh) => ∃ m' env2 O2, m' < mu a ∧ WkS env' O' env2 O2 ∧ ∃ a', env2 = f a' ∧ O2 = g a' ∧ I a' ∧ m' = mu a') = fun env' O' => ∃ a', WkS env' O' (f a') (g a') ∧ I a' ∧ mu a' < mu a := by
    funext env' O'
    apply propext
    constructor
    · rintro ⟨_, _, _, hm, w, a', rfl, rfl, i, rfl⟩
      exact ⟨a', w, i, hm⟩
    · rintro ⟨a', w, i, hm⟩
      exact ⟨_, _, _, hm, w, a', rfl, rfl, i, rfl⟩
  rw [e1]
  exact hs a ia
/-- what holds between two statements: a family of states -/
theorem w_cut {α : Type} (f : α → En) (g : α → Oh) (I : α → Prop) (q : S { P with nx := fun env' O' => ∃ a, WkS env' O' (f a) (g a) ∧ I a } env O) (h : ∀ a, I a → S2 P (f a) (g a)) : aCut S S2 P env O := by
  refine ⟨fun e o => ∃ a, e = f a ∧ o = g a ∧ I a, ?_, ?_⟩
  · have e1 : (fun (env' : En) (O' : Oh) => ∃ env2 O2, WkS env' O' env2 O2 ∧ ∃ a, env2 = f a ∧ O2 = g a ∧ I a) = fun env' O' => ∃ a, WkS env' O' (f a) (g a) ∧ I a := by
      funext env' O'
      apply propext
      constructor
      · rintro ⟨_, _, w, a', rfl, rfl, i⟩
        exact ⟨a', w, i⟩
      · rintro ⟨a', w, i⟩
        exact ⟨_, _, w, a', rfl, rfl, i⟩
    rw [e1]
    exact q
  · rintro e o ⟨a, rfl, rfl, i⟩
    exact h a i
theorem w_for {WI : AI} {G : AG} (q : WI env O fun PJ O1 => aForB PJ G S P env O1) : aFor WI G S P env O := q
/-- n turns -/
theorem forB_n {α : Type} {PJ : PIt} {G : AG} (n : Nat) (f : α → En) (g : α → Oh) (I : Nat → α → Prop) (a0 : α) (h0 : WkS env O (f a0) (g a0)) (hI : I 0 a0)
    (hs : ∀ i a, i < n → I i a → ∃ x, PJ.go i (g a) x ∧ G x (f a) (g a) fun env2 O2 => S { P with nx := fun env' O' => ∃ a', WkS env' O' (f a') (g a') ∧ I (i + 1) a', ct := fun env' O' => ∃ a', WkS env' O' (f a') (g a') ∧ I (i + 1) a', bk := P.nx } env2 O2)
    (hd : ∀ a, I n a → PJ.stop n (g a) ∧ P.nx (f a) (g a)) : aForB PJ G S P env O := by
  refine ⟨fun i m e o => ∃ a, e = f a ∧ o = g a ∧ I i a ∧ i + m = n, ⟨n, f a0, g a0, h0, a0, rfl, rfl, hI, Nat.zero_add _⟩, ?_⟩
  rintro i m e o ⟨a, rfl, rfl, ia, hm⟩
  by_cases hi : i = n
  · subst hi
    exact .inl (hd a ia)
  · refine .inr ?_
    have e1 : (fun (env' : En) (O' : Oh) => ∃ m' env2 O2, m' < m ∧ WkS env' O' env2 O2 ∧ ∃ a', env2 = f a' ∧ O2 = g a' ∧ I (i + 1) a' ∧ i + 1 + m' = n) = fun env' O' => ∃ a', WkS env' O' (f a') (g a') ∧ I (i + 1) a' := by
      funext env' O'
      apply propext
      constructor
      · rintro ⟨_, _, _, _, w, a', rfl, rfl, i', _⟩
        exact ⟨a', w, i'⟩
      · rintro ⟨a', w, i'⟩
        exact ⟨m - 1, _, _, by omega, w, a', rfl, rfl, i', by omega⟩
    rw [e1]
    exact hs i a (by omega) ia
theorem w_forR {α : Type} {lo : Int} {n : Nat} {G : AG} (f : α → En) (g : α → Oh) (I : Nat → α → Prop) (a0 : α) (h0 : WkS env O (f a0) (g a0)) (hI : I 0 a0)
    (hs : ∀ i a, i < n → I i a → G (dI (lo + i)) (f a) (g a) fun env2 O2 => S { P with nx := fun env' O' => ∃ a', WkS env' O' (f a') (g a') ∧ I (i + 1) a', ct := fun env' O' => ∃ a', WkS env' O' (f a') (g a') ∧ I (i + 1) a', bk := P.nx } env2 O2)
    (hd : ∀ a, I n a → P.nx (f a) (g a)) : aForB (pitR lo n) G S P env O :=
  forB_n n f g I a0 h0 hI (fun i a hi ia => ⟨_, ⟨hi, rfl⟩, hs i a hi ia⟩) fun a ia => ⟨Nat.le_refl n, hd a ia⟩
theorem w_forC {α : Type} {lo c : Int} {n : Nat} {G : AG} (f : α → En) (g : α → Oh) (I : Nat → α → Prop) (a0 : α) (h0 : WkS env O (f a0) (g a0)) (hI : I 0 a0)
    (hs : ∀ i a, i < n → I i a → G (dI (lo + (i : Nat) * c)) (f a) (g a) fun env2 O2 => S { P with nx := fun env' O' => ∃ a', WkS env' O' (f a') (g a') ∧ I (i + 1) a', ct := fun env' O' => ∃ a', WkS env' O' (f a') (g a') ∧ I (i + 1) a', bk := P.nx } env2 O2)
    (hd : ∀ a, I n a → P.nx (f a) (g a)) : aForB (pitC lo c n) G S P env O :=
  forB_n n f g I a0 h0 hI (fun i a hi ia => ⟨_, ⟨hi, rfl⟩, hs i a hi ia⟩) fun a ia => ⟨Nat.le_refl n, hd a ia⟩
/-- over a list of data -/
theorem w_forL {α : Type} {ds : List PyData} {G : AG} (f : α → En) (g : α → Oh) (I : Nat → α → Prop) (a0 : α) (h0 : WkS env O (f a0) (g a0)) (hI : I 0 a0)
    (hs : ∀ i a d, ds[i]? = some d → I i a → G (.d d) (f a) (g a) fun env2 O2 => S { P with nx := fun env' O' => ∃ a', WkS env' O' (f a') (g a') ∧ I (i + 1) a', ct := fun env' O' => ∃ a', WkS env' O' (f a') (g a') ∧ I (i + 1) a', bk := P.nx } env2 O2)
    (hd : ∀ a, I ds.length a → P.nx (f a) (g a)) : aForB (pitL (.d (.list ds))) G S P env O :=
  forB_n ds.length f g I a0 h0 hI (fun i a hi ia => ⟨.d ds[i], ⟨_, rfl, by rw [List.getElem?_map, List.getElem?_eq_getElem hi]; rfl⟩, hs i a _ (List.getElem?_eq_getElem hi) ia⟩) fun a ia => ⟨⟨_, rfl, by rw [List.length_map]; exact Nat.le_refl _⟩, hd a ia⟩
theorem w_forT {α : Type} {ds : List PyData} {G : AG} (f : α → En) (g : α → Oh) (I : Nat → α → Prop) (a0 : α) (h0 : WkS env O (f a0) (g a0)) (hI : I 0 a0)
    (hs : ∀ i a d, ds[i]? = some d → I i a → G (.d d) (f a) (g a) fun env2 O2 => S { P with nx := fun env' O' => ∃ a', WkS env' O' (f a') (g a') ∧ I (i + 1) a', ct := fun env' O' => ∃ a', WkS env' O' (f a') (g a') ∧ I (i + 1) a', bk := P.nx } env2 O2)
    (hd : ∀ a, I ds.length a → P.nx (f a) (g a)) : aForB (pitT (.d (.tuple ds))) G S P env O :=
  forB_n ds.length f g I a0 h0 hI (fun i a hi ia => ⟨.d ds[i], ⟨_, rfl, by rw [List.getElem?_map, List.getElem?_eq_getElem hi]; rfl⟩, hs i a _ (List.getElem?_eq_getElem hi) ia⟩) fun a ia => ⟨⟨_, rfl, by rw [List.length_map]; exact Nat.le_refl _⟩, hd a ia⟩
/-- over an owned list that stands still -/
theorem w_forO {α : Type} {p : Addr} {xs : List OV} {G : AG} (f : α → En) (g : α → Oh) (I : Nat → α → Prop) (a0 : α) (h0 : WkS env O (f a0) (g a0)) (hI : I 0 a0) (hp : ∀ i a, I i a → g a p = some (.lst xs))
    (hs : ∀ i a x, xs[i]? = some x → I i a → G x (f a) (g a) fun env2 O2 => S { P with nx := fun env' O' => ∃ a', WkS env' O' (f a') (g a') ∧ I (i + 1) a', ct := fun env' O' => ∃ a', WkS env' O' (f a') (g a') ∧ I (i + 1) a', bk := P.nx } env2 O2)
    (hd : ∀ a, I xs.length a → P.nx (f a) (g a)) : aForB (pitL (.o p)) G S P env O :=
  forB_n xs.length f g I a0 h0 hI (fun i a hi ia => ⟨xs[i], ⟨xs, hp i a ia, List.getElem?_eq_getElem hi⟩, hs i a _ (List.getElem?_eq_getElem hi) ia⟩) fun a ia => ⟨⟨xs, hp _ a ia, Nat.le_refl _⟩, hd a ia⟩
theorem w_itL {Q : PIt → Oh → Prop} (q : T env O fun x O1 => (∃ ys, itemsL O1 x ys) ∧ Q (pitL x) O1) : aItL T env O Q := q
theorem w_itT {Q : PIt → Oh → Prop} (q : T env O fun x O1 => (∃ ys, itemsT x ys) ∧ Q (pitT x) O1) : aItT T env O Q := q
theorem w_itS {Q : PIt → Oh → Prop} (q : T env O fun x O1 => ∃ z, x = .d (.str z) ∧ Q (pitS z) O1) : aItS T env O Q := q
theorem w_itR1 {A : AA} {Q : PIt → Oh → Prop} (q : A env O fun xs O1 => ∃ j : Int, xs = [.d (.int j)] ∧ -(2 ^ 62) ≤ j ∧ j < 2 ^ 62 ∧ Q (pitR 0 j.toNat) O1) : aItR1 A env O Q := q
theorem w_itR2 {A : AA} {Q : PIt → Oh → Prop} (q : A env O fun xs O2 => ∃ i j : Int, xs = [.d (.int i), .d (.int j)] ∧ (-(2 ^ 62) ≤ i ∧ i < 2 ^ 62 ∧ -(2 ^ 62) ≤ j ∧ j < 2 ^ 62) ∧ Q (pitR i (j - i).toNat) O2) : aItR2 A env O Q := q
theorem w_itR3 {A : AA} {Q : PIt → Oh → Prop} (q : A env O fun xs O3 => ∃ (i j c : Int) (n : Nat), xs = [.d (.int i), .d (.int j), .d (.int c)] ∧ RgC i j c n ∧ Q (pitC i c n) O3) : aItR3 A env O Q := q

/-! ### comprehensions -/
theorem w_lc {WI : AI} {G : AG} {A : AT} {vs : List Nat} (q : WI env O fun PJ O1 => aLcB PJ G A T vs env O1 R) : aLc WI G A T vs env O R := q
/-- n turns: out is what stands in the new list before the i-th turn -/
def LcAt (O : Oh) (D : Addr) (out : List OV) (y : OV) (O4 : Oh) : Prop := ∃ acc, O4 D = some (.lst acc) ∧ acc.length < sizeLine ∧ updO O4 D (.lst (acc ++ [y])) = updO O D (.lst out)
theorem lc_leaf {O : Oh} {D : Addr} {xs out : List OV} {y : OV} (hz : xs.length < sizeLine) (h : out = xs ++ [y]) : LcAt O D out y (updO O D (.lst xs)) := ⟨xs, updO_same, hz, by rw [updO_updO, h]⟩
theorem lcB_n {PJ : PIt} {G : AG} {A : AT} {vs : List Nat} (n : Nat) (out : Nat → List OV) (h0 : out 0 = [])
    (hs : ∀ i D, i < n → O D = none → ∃ x, PJ.go i (updO O D (.lst (out i))) x ∧ G x (wipeE env vs) (updO O D (.lst (out i))) fun env2 O2 => A env2 O2 fun b O3 =>
      if b = true then T env2 O3 fun y O4 => LcAt O D (out (i + 1)) y O4 else O3 = updO O D (.lst (out (i + 1))))
    (hd : ∀ D, O D = none → PJ.stop n (updO O D (.lst (out n))) ∧ R (.o D) (updO O D (.lst (out n)))) : aLcB PJ G A T vs env O R := by
  intro D hD
  refine ⟨fun i m o => o = updO O D (.lst (out i)) ∧ i + m = n, ⟨n, by rw [h0], Nat.zero_add _⟩, ?_⟩
  rintro i m o ⟨rfl, hm⟩
  by_cases hi : i = n
  · subst hi
    exact .inl (hd D hD)
  · refine .inr ?_
    obtain ⟨x, h1, h2⟩ := hs i D (by omega) hD
    refine ⟨x, h1, ?_⟩
    have e1 : (fun (y : OV) (O4 : Oh) => ∃ acc, O4 D = some (.lst acc) ∧ acc.length < sizeLine ∧ ∃ m', m' < m ∧ updO O4 D (.lst (acc ++ [y])) = updO O D (.lst (out (i + 1))) ∧ i + 1 + m' = n) =
        fun y O4 => LcAt O D (out (i + 1)) y O4 := by
      funext y O4
      apply propext
      constructor
      · rintro ⟨acc, a, b, _, _, c, _⟩
        exact ⟨acc, a, b, c⟩
      · rintro ⟨acc, a, b, c⟩
        exact ⟨acc, a, b, m - 1, by omega, c, by omega⟩
    have e2 : (fun (O3 : Oh) => ∃ m', m' < m ∧ O3 = updO O D (.lst (out (i + 1))) ∧ i + 1 + m' = n) = fun O3 => O3 = updO O D (.lst (out (i + 1))) := by
      funext O3
      apply propext
      constructor
      · rintro ⟨_, _, c, _⟩
        exact c
      · intro c
        exact ⟨m - 1, by omega, c, by omega⟩
    have e3 : (fun (env2 : En) (b : Bool) (O3 : Oh) => if b = true then T env2 O3 (fun (y : OV) (O4 : Oh) => ∃ acc, O4 D = some (.lst acc) ∧ acc.length < sizeLine ∧ ∃ m', m' < m ∧ updO O4 D (.lst (acc ++ [y])) = updO O D (.lst (out (i + 1))) ∧ i + 1 + m' = n)
        else (fun (O3 : Oh) => ∃ m', m' < m ∧ O3 = updO O D (.lst (out (i + 1))) ∧ i + 1 + m' = n) O3) = fun env2 b O3 => if b = true then T env2 O3 fun y O4 => LcAt O D (out (i + 1)) y O4 else O3 = updO O D (.lst (out (i + 1))) := by
      rw [e1, e2]
    show G x (wipeE env vs) (updO O D (.lst (out i))) fun env2 O2 => A env2 O2 ((fun (env2 : En) (b : Bool) (O3 : Oh) => if b = true then T env2 O3 (fun (y : OV) (O4 : Oh) => ∃ acc, O4 D = some (.lst acc) ∧ acc.length < sizeLine ∧ ∃ m', m' < m ∧ updO O4 D (.lst (acc ++ [y])) = updO O D (.lst (out (i + 1))) ∧ i + 1 + m' = n)
        else (fun (O3 : Oh) => ∃ m', m' < m ∧ O3 = updO O D (.lst (out (i + 1))) ∧ i + 1 + m' = n) O3) env2)
    rw [e3]
    exact h2
/-- over a range, all kept -/
theorem w_lcR {lo : Int} {n m : Nat} {A : AT} {vs : List Nat} (out : Nat → List OV) (h0 : out 0 = [])
    (hs : ∀ i D, i < n → O D = none → A ((wipeE env vs).set m (some (dI (lo + i)))) (updO O D (.lst (out i))) fun b O3 =>
      if b = true then T ((wipeE env vs).set m (some (dI (lo + i)))) O3 fun y O4 => LcAt O D (out (i + 1)) y O4 else O3 = updO O D (.lst (out (i + 1))))
    (hd : ∀ D, O D = none → R (.o D) (updO O D (.lst (out n)))) : aLcB (pitR lo n) (gVar m) A T vs env O R :=
  lcB_n n out h0 (fun i D hi hD => ⟨_, ⟨hi, rfl⟩, hs i D hi hD⟩) fun D hD => ⟨Nat.le_refl n, hd D hD⟩
theorem w_lcL {ds : List PyData} {m : Nat} {A : AT} {vs : List Nat} (out : Nat → List OV) (h0 : out 0 = [])
    (hs : ∀ i d D, ds[i]? = some d → O D = none → A ((wipeE env vs).set m (some (.d d))) (updO O D (.lst (out i))) fun b O3 =>
      if b = true then T ((wipeE env vs).set m (some (.d d))) O3 fun y O4 => LcAt O D (out (i + 1)) y O4 else O3 = updO O D (.lst (out (i + 1))))
    (hd : ∀ D, O D = none → R (.o D) (updO O D (.lst (out ds.length)))) : aLcB (pitL (.d (.list ds))) (gVar m) A T vs env O R :=
  lcB_n ds.length out h0 (fun i D hi hD => ⟨.d ds[i], ⟨_, rfl, by rw [List.getElem?_map, List.getElem?_eq_getElem hi]; rfl⟩, hs i _ D (List.getElem?_eq_getElem hi) hD⟩) fun D hD => ⟨⟨_, rfl, by rw [List.length_map]; exact Nat.le_refl _⟩, hd D hD⟩
theorem w_lcT {ds : List PyData} {m : Nat} {A : AT} {vs : List Nat} (out : Nat → List OV) (h0 : out 0 = [])
    (hs : ∀ i d D, ds[i]? = some d → O D = none → A ((wipeE env vs).set m (some (.d d))) (updO O D (.lst (out i))) fun b O3 =>
      if b = true then T ((wipeE env vs).set m (some (.d d))) O3 fun y O4 => LcAt O D (out (i + 1)) y O4 else O3 = updO O D (.lst (out (i + 1))))
    (hd : ∀ D, O D = none → R (.o D) (updO O D (.lst (out ds.length)))) : aLcB (pitT (.d (.tuple ds))) (gVar m) A T vs env O R :=
  lcB_n ds.length out h0 (fun i D hi hD => ⟨.d ds[i], ⟨_, rfl, by rw [List.getElem?_map, List.getElem?_eq_getElem hi]; rfl⟩, hs i _ D (List.getElem?_eq_getElem hi) hD⟩) fun D hD => ⟨⟨_, rfl, by rw [List.length_map]; exact Nat.le_refl _⟩, hd D hD⟩
theorem w_lcO {p : Addr} {xs : List OV} {m : Nat} {A : AT} {vs : List Nat} (hp : O p = some (.lst xs)) (out : Nat → List OV) (h0 : out 0 = [])
    (hs : ∀ i x D, xs[i]? = some x → O D = none → A ((wipeE env vs).set m (some x)) (updO O D (.lst (out i))) fun b O3 =>
      if b = true then T ((wipeE env vs).set m (some x)) O3 fun y O4 => LcAt O D (out (i + 1)) y O4 else O3 = updO O D (.lst (out (i + 1))))
    (hd : ∀ D, O D = none → R (.o D) (updO O D (.lst (out xs.length)))) : aLcB (pitL (.o p)) (gVar m) A T vs env O R := by
  have np : ∀ D, O D = none → p ≠ D := fun D hD e => by rw [e, hD] at hp; cases hp
  exact lcB_n xs.length out h0 (fun i D hi hD => ⟨xs[i], ⟨_, by show updO O D _ p = _; rw [updO_ne (np D hD)]; exact hp, List.getElem?_eq_getElem hi⟩, hs i _ D (List.getElem?_eq_getElem hi) hD⟩) fun D hD => ⟨⟨_, by show updO O D _ p = _; rw [updO_ne (np D hD)]; exact hp, Nat.le_refl _⟩, hd D hD⟩
end
end Y
/-! Y: more operations. -/
namespace Y
open PySem PySem.Spec L2
section
variable {X : Cx} {W : WX} {AW : AX} {pos : Pos}
theorem sr_eqI {K : PySem.W.Frag} : SR K rEq (aI0 fun i j => .bool (decide (i = j))) := by
  intro F O H x y vx vy Q R R0 rx ry h q
  obtain ⟨i, j, rfl, rfl, h⟩ := h
  rw [rx.int_inv, ry.int_inv]
  refine ⟨rfl, q _ _ _ _ _ h Step.refl R0 ?_⟩
  rw [dec_int, Bool.beq_eq_decide_eq]
  exact .d (.bl _)
theorem sr_neI {K : PySem.W.Frag} : SR K rNe (aI0 fun i j => .bool (!decide (i = j))) := by
  intro F O H x y vx vy Q R R0 rx ry h q
  obtain ⟨i, j, rfl, rfl, h⟩ := h
  rw [rx.int_inv, ry.int_inv]
  refine ⟨rfl, q _ _ _ _ _ h Step.refl R0 ?_⟩
  rw [dec_int, Bool.beq_eq_decide_eq]
  exact .d (.bl _)
def aS0 (g : Str → Str → PyData) : AR2 := fun x y O R => ∃ i j, x = .d (.str i) ∧ y = .d (.str j) ∧ R (.d (g i j)) O
theorem sr_eqS {K : PySem.W.Frag} : SR K rEq (aS0 fun i j => .bool (decide (i = j))) := by
  intro F O H x y vx vy Q R R0 rx ry h q
  obtain ⟨i, j, rfl, rfl, h⟩ := h
  rw [rx.str_inv, ry.str_inv]
  refine ⟨rfl, q _ _ _ _ _ h Step.refl R0 ?_⟩
  have e : decide (V.str i = V.str j) = decide (i = j) := by
    rw [Bool.eq_iff_iff]
    simp
  rw [e]
  exact .d (.bl _)
theorem sr_neS {K : PySem.W.Frag} : SR K rNe (aS0 fun i j => .bool (!decide (i = j))) := by
  intro F O H x y vx vy Q R R0 rx ry h q
  obtain ⟨i, j, rfl, rfl, h⟩ := h
  rw [rx.str_inv, ry.str_inv]
  refine ⟨rfl, q _ _ _ _ _ h Step.refl R0 ?_⟩
  have e : decide (V.str i = V.str j) = decide (i = j) := by
    rw [Bool.eq_iff_iff]
    simp
  rw [e]
  exact .d (.bl _)
def aB0 (g : Bool → Bool → PyData) : AR2 := fun x y O R => ∃ i j, x = .d (.bool i) ∧ y = .d (.bool j) ∧ R (.d (g i j)) O
theorem sr_eqB {K : PySem.W.Frag} : SR K rEq (aB0 fun i j => .bool (i == j)) := by
  intro F O H x y vx vy Q R R0 rx ry h q
  obtain ⟨i, j, rfl, rfl, h⟩ := h
  rw [rx.bl_inv, ry.bl_inv]
  refine ⟨rfl, q _ _ _ _ _ h Step.refl R0 ?_⟩
  rw [dec_bl]
  exact .d (.bl _)
theorem sr_neB {K : PySem.W.Frag} : SR K rNe (aB0 fun i j => .bool (i != j)) := by
  intro F O H x y vx vy Q R R0 rx ry h q
  obtain ⟨i, j, rfl, rfl, h⟩ := h
  rw [rx.bl_inv, ry.bl_inv]
  refine ⟨rfl, q _ _ _ _ _ h Step.refl R0 ?_⟩
  rw [dec_bl]
  exact .d (.bl _)
theorem sr_isB {K : PySem.W.Frag} : SR K rIsB (aB0 fun i j => .bool (decide (i = j))) := by
  intro F O H x y vx vy Q R R0 rx ry h q
  obtain ⟨i, j, rfl, rfl, h⟩ := h
  exact ⟨i, j, rx.bl_inv, ry.bl_inv, q _ _ _ _ _ h Step.refl R0 (.d (.bl _))⟩
theorem sr_notB {K : PySem.W.Frag} : SR K rNotB (aB0 fun i j => .bool (!decide (i = j))) := by
  intro F O H x y vx vy Q R R0 rx ry h q
  obtain ⟨i, j, rfl, rfl, h⟩ := h
  exact ⟨i, j, rx.bl_inv, ry.bl_inv, q _ _ _ _ _ h Step.refl R0 (.d (.bl _))⟩
/-- sorted(xs) of any number of ints -/
def aSortedI : AN := fun xs O R => ∃ x ns, xs = [x] ∧ itemsL O x (Zs ns) ∧ ∀ ns' p, ns'.Perm ns → ns'.Pairwise (· ≤ ·) → O p = none → R (.o p) (updO O p (.lst (Zs ns')))
theorem sn_sortedI {K : PySem.W.Frag} : SN K (rSortedI K) aSortedI := by
  intro F O H xs vs Q R R0 rv h q
  obtain ⟨x, ns, rfl, hx, h⟩ := h
  obtain ⟨v, rfl, r⟩ := rvs1 rv
  obtain ⟨p, ws, rfl, h1, h2⟩ := view_l R0 r hx
  rw [h2.ints_of] at h1
  refine ⟨p, ns, rfl, h1, fun ns' l hp hs hl => ?_⟩
  obtain ⟨R2, z2⟩ := R0.newO (o := .lst (Zs ns')) (h := .lst (ns'.map V.int)) hl ⟨_, rfl, RVs.zs⟩
  exact q _ _ _ _ _ (h ns' l hp hs (R0.ofree hl)) z2 R2 .o
/-- x in xs, x not in xs: data in a list of data -/
theorem Fz.dpl {K : PySem.W.Frag} {F H : Hp} {O : Oh} {r : OV} {ds : List PyData} {v : V} (R : Rep K F O H) (h : Fz O r (.list ds)) (rv : RV K F r v) : Dp K H v (.list ds) := h.dp R rv
theorem sr_inD {K : PySem.W.Frag} : SR K (rInD K) (aInD false) := by
  intro F O H x y vx vy Q R R0 rx ry h q
  obtain ⟨d, ds, hd, he, s1, s2, h⟩ := h
  refine ⟨d, ds, hd.dp R0 rx, he.dp R0 ry, s1, s2, q _ _ _ _ _ h Step.refl R0 ?_⟩
  rw [Bool.false_bne]
  exact .d (.bl _)
theorem sr_ninD {K : PySem.W.Frag} : SR K (rNotInD K) (aInD true) := by
  intro F O H x y vx vy Q R R0 rx ry h q
  obtain ⟨d, ds, hd, he, s1, s2, h⟩ := h
  refine ⟨d, ds, hd.dp R0 rx, he.dp R0 ry, s1, s2, q _ _ _ _ _ h Step.refl R0 ?_⟩
  rw [Bool.true_bne]
  exact .d (.bl _)
/-- list(range(..)) -/
def rgI (a b : Int) : List Int := (List.range (b - a).toNat).map fun i => a + (i : Nat)
theorem rgV_eq (a b : Int) : rgV a b = (rgI a b).map V.int := by
  unfold rgV rgI
  rw [List.map_map]
  rfl
def aListR1 (T : AE) : AE := fun env O R => T env O fun x O1 => ∃ n, x = .d (.int n) ∧ RgOk 0 n ∧ ∀ p, O1 p = none → R (.o p) (updO O1 p (.lst (Zs (rgI 0 n))))
def aListR2 (T U : AE) : AE := fun env O R => T env O fun x O1 => U env O1 fun y O2 => ∃ n m, x = .d (.int n) ∧ y = .d (.int m) ∧ RgOk n m ∧ ∀ p, O2 p = none → R (.o p) (updO O2 p (.lst (Zs (rgI n m))))
theorem qe_listR1 {a : Expr} {p pos p2 : Pos} {T : AE} (hml : X.mg "list" = none) (hm : X.mg "range" = none) (ha : QE X W AW a T) (hc : X.calm = true := by rfl) (hgl : Gl X "list" := by rfl) (hg : Gl X "range" := by rfl)
    (na : starEach [a] X.env = (false, eval a X.env) :: starEach [] X.env := by rfl) (na2 : starEach [.Call (.Name "range" p2) [a] [] pos] X.env = (false, eval (.Call (.Name "range" p2) [a] [] pos) X.env) :: starEach [] X.env := by rfl) {pos2 : Pos} : QE X W AW (.Call (.Name "list" p) [.Call (.Name "range" p2) [a] [] pos] [] pos2) (aListR1 T) := by
  obtain ⟨t, p, s⟩ := ha
  refine ⟨_, pe_listRg hc hgl hml (prg_1 hg hm p na) na2, ⟨fun R0 rs xl h q => s.run R0 rs xl h fun x O1 F1 H1 v h1 z1 R1 r1 => ?_⟩⟩
  obtain ⟨n, rfl, hok, h1⟩ := h1
  refine ⟨n, r1.int_inv, hok, fun l hl => ?_⟩
  obtain ⟨R2, z2⟩ := R1.newO (o := .lst (Zs (rgI 0 n))) (h := .lst (rgV 0 n)) hl ⟨_, rfl, by rw [rgV_eq]; exact RVs.zs⟩
  exact q _ _ _ _ _ (h1 l (R1.ofree hl)) (z1.trans z2) R2 .o
theorem qe_listR2 {a b : Expr} {p pos p2 : Pos} {T U : AE} (hml : X.mg "list" = none) (hm : X.mg "range" = none) (ha : QE X W AW a T) (hb : QE X W AW b U) (hc : X.calm = true := by rfl) (hgl : Gl X "list" := by rfl) (hg : Gl X "range" := by rfl)
    (na : starEach [a, b] X.env = (false, eval a X.env) :: starEach [b] X.env := by rfl) (nb : starEach [b] X.env = (false, eval b X.env) :: starEach [] X.env := by rfl) (hp : (backTo pos (starEach [b] X.env)).any (·.1) = false := by rfl) (na2 : starEach [.Call (.Name "range" p2) [a, b] [] pos] X.env = (false, eval (.Call (.Name "range" p2) [a, b] [] pos) X.env) :: starEach [] X.env := by rfl) {pos2 : Pos} : QE X W AW (.Call (.Name "list" p) [.Call (.Name "range" p2) [a, b] [] pos] [] pos2) (aListR2 T U) := by
  obtain ⟨t, p, s⟩ := ha
  obtain ⟨t2, p2, s2⟩ := hb
  refine ⟨_, pe_listRg hc hgl hml (prg_2 hg hm p p2 na nb hp) na2, ⟨fun R0 rs xl h q => s.run R0 rs xl h fun x O1 F1 H1 v h1 z1 R1 r1 => s2.run R1 (rs.mono z1.fx) (xl.step z1) h1 fun y O2 F2 H2 w h2 z2 R2 r2 => ?_⟩⟩
  obtain ⟨n, m, rfl, rfl, hok, h2⟩ := h2
  refine ⟨n, m, r1.int_inv, r2.int_inv, hok, fun l hl => ?_⟩
  obtain ⟨R3, z3⟩ := R2.newO (o := .lst (Zs (rgI n m))) (h := .lst (rgV n m)) hl ⟨_, rfl, by rw [rgV_eq]; exact RVs.zs⟩
  exact q _ _ _ _ _ (h2 l (R2.ofree hl)) (z1.trans (z2.trans z3)) R3 .o
/-- further targets -/
theorem qgs_cons {e : Expr} {es : List Expr} {G : AG} {Gs : AGs} (h1 : QG X W AW e G) (h2 : QGs X W AW es Gs) (hs : (assignEach (e :: es) X.env).map (·.2) = assign e X.env :: (assignEach es X.env).map (·.2) := by rfl) : QGs X W AW (e :: es) (agCons G Gs) := by
  obtain ⟨t, p, s⟩ := h1
  obtain ⟨u, p2, s2⟩ := h2
  exact ⟨_, pgs_cons p p2 hs, sgs_cons s s2⟩
/-- raise of an own class -/
def aRaise (AW : AX) (C : Addr) : AS := fun _ env O => AW (.ref C) none env O
theorem qs_raise {x m : Str} {j : Nat} {p p2 pos pos2 : Pos} {C : Addr} {bm : List Value} {B ni ii : String} (tk : Takes X W) (F : ExcBaseFacts B ni ii bm) (q : PySem.W.excIn X.K C bm ni = true) (gC : X.mg x = some (.ref C)) (kC : PySem.W.keepIn X.K (.ref C) = true) (r : Raises X (.ref C)) (hc : X.calm = true := by rfl) (hg : Gl X x := by rfl) (hdb : (x == ("__debug__" : Str)) = false := by decide) :
    QS X W AW (.Raise (some (.Call (.Name x p) [.Constant (.str m) j p2] [] pos)) none pos2) (aRaise AW C) :=
  ⟨_, ps_raise hc tk (pmk_own F q gC kC r hg hdb), ⟨fun R rs xl h l => xl _ _ _ _ _ _ _ h Step.refl R rs⟩⟩
end
section
variable {env : En} {O : Oh} {P : AEnds} {T U : AE} {R : OV → Oh → Prop} {i j : Int}
theorem w_S0 {g : Str → Str → PyData} {x y : Str} (q : R (.d (g x y)) O) : aS0 g (.d (.str x)) (.d (.str y)) O R := ⟨x, y, rfl, rfl, q⟩
theorem w_B0 {g : Bool → Bool → PyData} {x y : Bool} (q : R (.d (g x y)) O) : aB0 g (dB x) (dB y) O R := ⟨x, y, rfl, rfl, q⟩
theorem w_sortW {ns : List Int} (q : ∀ ns' : List Int, ns'.Perm ns → ns'.Pairwise (· ≤ ·) → R (dW ns') O) : aSortedI [dW ns] O (frz R) := ⟨_, ns, rfl, Zs_eq ns, fun ns' p h1 h2 hp => frz_new (Zs_eq ns') hp (q ns' h1 h2)⟩
theorem w_inD {neg : Bool} {d : PyData} {ds : List PyData} (h1 : SeqAt.shaped d = true) (h2 : SeqAt.shaped (.list ds) = true) (q : R (dB (neg != ds.any fun z => PyData.eqv z d)) O) : aInD neg (.d d) (.d (.list ds)) O R := ⟨d, ds, .d d, .d _, h1, h2, q⟩
theorem w_listR1 (q : T env O fun x O1 => ∃ n, x = .d (.int n) ∧ RgOk 0 n ∧ ∀ p, O1 p = none → R (.o p) (updO O1 p (.lst (Zs (rgI 0 n))))) : aListR1 T env O R := q
theorem w_listR2 (q : T env O fun x O1 => U env O1 fun y O2 => ∃ n m, x = .d (.int n) ∧ y = .d (.int m) ∧ RgOk n m ∧ ∀ p, O2 p = none → R (.o p) (updO O2 p (.lst (Zs (rgI n m))))) : aListR2 T U env O R := q
theorem w_raise {AW : AX} {C : Addr} (q : AW (.ref C) none env O) : aRaise AW C P env O := q
end
theorem blk_of {N : List Str} {sc scope : Scope} {own : List (Str × Nat)} (h : blkC N sc scope own = true) : blkC N sc scope own = true := h
theorem w_dec {c A B : Prop} [Decidable c] (h1 : c → A) (h2 : ¬ c → B) : if decide c = true then A else B := by
  by_cases h : c
  · rw [decide_eq_true h, if_pos rfl]; exact h1 h
  · rw [decide_eq_false h, if_neg Bool.false_ne_true]; exact h2 h
theorem w_ndec {c A B : Prop} [Decidable c] (h1 : ¬ c → A) (h2 : c → B) : if (!decide c) = true then A else B := by
  by_cases h : c
  · rw [decide_eq_true h]; exact h2 h
  · rw [decide_eq_false h]; exact h1 h
theorem w_ite {b : Bool} {A B : Prop} (h1 : b = true → A) (h2 : b = false → B) : if b = true then A else B := by
  cases b with
  | true => exact h1 rfl
  | false => exact h2 rfl
theorem w_t {b : Bool} {A B : Prop} (e : b = true) (h : A) : if b = true then A else B := by rw [e, if_pos rfl]; exact h
theorem w_f {b : Bool} {A B : Prop} (e : b = false) (h : B) : if b = true then A else B := by rw [e, if_neg Bool.false_ne_true]; exact h
theorem getD_at {α : Type} {l : List α} {i : Nat} (h : i < l.length) (d : α) : l.getD i d = l[i] := by
  rw [List.getD_eq_getElem?_getD, List.getElem?_eq_getElem h]
  rfl
/-! ### shapes and equality of data -/
def Shp (n : Nat) (d : PyData) : Prop := d.canLay0 = true ∧ d.depth ≤ n
theorem Shp.ok {n : Nat} {d : PyData} (h : Shp n d) (hn : n ≤ 64) : SeqAt.shaped d = true := by
  unfold SeqAt.shaped
  rw [h.1, Bool.true_and]
  exact decide_eq_true (Nat.le_trans h.2 hn)
theorem Shp.mono {n m : Nat} {d : PyData} (h : Shp n d) (hn : n ≤ m) : Shp m d := ⟨h.1, Nat.le_trans h.2 hn⟩
theorem shp_int {n : Nat} (i : Int) : Shp n (.int i) := ⟨rfl, by simp [PyData.depth]⟩
theorem shp_bool {n : Nat} (i : Bool) : Shp n (.bool i) := ⟨rfl, by simp [PyData.depth]⟩
theorem shp_none {n : Nat} : Shp n .none := ⟨rfl, by simp [PyData.depth]⟩
theorem shp_all : ∀ {n : Nat} {ds : List PyData}, (∀ d ∈ ds, Shp n d) → PyData.canLayAll0 ds = true ∧ PyData.depthAll ds ≤ n
  | _, [], _ => ⟨rfl, by simp [PyData.depthAll]⟩
  | n, d :: ds, h => by
    have h1 := h d List.mem_cons_self
    have h2 := shp_all (n := n) (ds := ds) fun x hx => h x (List.mem_cons_of_mem _ hx)
    refine ⟨by simp only [PyData.canLayAll0, h1.1, h2.1, Bool.and_self], ?_⟩
    simp only [PyData.depthAll]
    have a := h1.2
    have b := h2.2
    omega
theorem shp_list {n : Nat} {ds : List PyData} (h : ∀ d ∈ ds, Shp n d) : Shp (n + 1) (.list ds) := by
  have := shp_all h
  exact ⟨by simp only [PyData.canLay0]; exact this.1, by simp only [PyData.depth]; omega⟩
theorem shp_tup {n : Nat} {ds : List PyData} (h : ∀ d ∈ ds, Shp n d) : Shp (n + 1) (.tuple ds) := by
  have := shp_all h
  exact ⟨by simp only [PyData.canLay0]; exact this.1, by simp only [PyData.depth]; omega⟩
theorem shp_W (ns : List Int) : Shp 1 (pW ns) := shp_list fun d h => by obtain ⟨n, _, rfl⟩ := List.mem_map.mp h; exact shp_int n
theorem shp_R (ns : List Int) : Shp 1 (pR ns) := shp_tup fun d h => by obtain ⟨n, _, rfl⟩ := List.mem_map.mp h; exact shp_int n
theorem shp_T (rows : List (List Int)) : Shp 2 (.tuple (rows.map pR)) := shp_tup fun d h => by obtain ⟨n, _, rfl⟩ := List.mem_map.mp h; exact shp_R n
theorem shp_F (fs : List (List Int)) : Shp 2 (.list (fs.map pW)) := shp_list fun d h => by obtain ⟨n, _, rfl⟩ := List.mem_map.mp h; exact shp_W n
theorem shp_t2 {n : Nat} {a b : PyData} (h1 : Shp n a) (h2 : Shp n b) : Shp (n + 1) (.tuple [a, b]) := shp_tup fun d h => by
  rcases List.mem_cons.mp h with h | h
  · rw [h]; exact h1
  · rw [List.mem_singleton.mp h]; exact h2
theorem eqv_self {n : Nat} {d : PyData} (h : Shp n d) : PyData.eqv d d = true := SeqAt.eqv_refl d h.1
mutual
def plain : PyData → Bool
  | .none => true
  | .int _ => true
  | .str _ => true
  | .list ds => plainA ds
  | .tuple ds => plainA ds
  | .bool _ => false
  | .dict _ => false
def plainA : List PyData → Bool
  | [] => true
  | d :: ds => plain d && plainA ds
end
mutual
theorem eqv_eq : ∀ (d e : PyData), plain d = true → plain e = true → PyData.eqv d e = true → d = e
  | .none, e, _, h2, h => by cases e <;> simp_all [PyData.eqv, plain]
  | .int i, e, _, h2, h => by cases e <;> simp_all [PyData.eqv, plain]
  | .str i, e, _, h2, h => by cases e <;> simp_all [PyData.eqv, plain]
  | .list ds, e, h1, h2, h => by
    cases e with
    | list es =>
      simp only [PyData.eqv] at h
      simp only [plain] at h1 h2
      rw [eqvA_eq ds es h1 h2 h]
    | _ => simp [PyData.eqv] at h
  | .tuple ds, e, h1, h2, h => by
    cases e with
    | tuple es =>
      simp only [PyData.eqv] at h
      simp only [plain] at h1 h2
      rw [eqvA_eq ds es h1 h2 h]
    | _ => simp [PyData.eqv] at h
  | .bool _, _, h1, _, _ => by simp [plain] at h1
  | .dict _, _, h1, _, _ => by simp [plain] at h1
theorem eqvA_eq : ∀ (ds es : List PyData), plainA ds = true → plainA es = true → PyData.eqvAll ds es = true → ds = es
  | [], [], _, _, _ => rfl
  | [], _ :: _, _, _, h => by simp [PyData.eqvAll] at h
  | _ :: _, [], _, _, h => by simp [PyData.eqvAll] at h
  | d :: ds, e :: es, h1, h2, h => by
    simp only [PyData.eqvAll, Bool.and_eq_true] at h
    simp only [plainA, Bool.and_eq_true] at h1 h2
    rw [eqv_eq d e h1.1 h2.1 h.1, eqvA_eq ds es h1.2 h2.2 h.2]
end
theorem plainA_map {α : Type} {f : α → PyData} (h : ∀ x, plain (f x) = true) : ∀ xs : List α, plainA (xs.map f) = true
  | [] => rfl
  | x :: xs => by
    show (plain (f x) && plainA (xs.map f)) = true
    rw [h x, plainA_map h xs]
    rfl
theorem plain_W (ns : List Int) : plain (pW ns) = true := by unfold pW; simp only [plain]; exact plainA_map (fun _ => rfl) ns
theorem plain_R (ns : List Int) : plain (pR ns) = true := by unfold pR; simp only [plain]; exact plainA_map (fun _ => rfl) ns
theorem kb_ii : kitB "int" "int" = some true := by decide +kernel
theorem kb_bi : kitB "bool" "int" = some true := by decide +kernel
theorem kb_ib : kitB "int" "bool" = some false := by decide +kernel
theorem kb_bb : kitB "bool" "bool" = some true := by decide +kernel
theorem kb_tt : kitB "tuple" "tuple" = some true := by decide +kernel
theorem kb_ll : kitB "list" "list" = some true := by decide +kernel
theorem kb_ss : kitB "str" "str" = some true := by decide +kernel
theorem kb_lt : kitB "list" "tuple" = some false := by decide +kernel
theorem kb_tl : kitB "tuple" "list" = some false := by decide +kernel
theorem kb_ni : kitB "NoneType" "int" = some false := by decide +kernel
theorem kb_nl : kitB "NoneType" "list" = some false := by decide +kernel
theorem kb_nt : kitB "NoneType" "tuple" = some false := by decide +kernel
theorem kb_si : kitB "str" "int" = some false := by decide +kernel
theorem kb_li : kitB "list" "int" = some false := by decide +kernel
theorem kb_ti : kitB "tuple" "int" = some false := by decide +kernel
theorem kb_it : kitB "int" "tuple" = some false := by decide +kernel
theorem kb_il : kitB "int" "list" = some false := by decide +kernel
theorem kb_ls : kitB "list" "str" = some false := by decide +kernel
theorem kb_ts : kitB "tuple" "str" = some false := by decide +kernel
theorem kb_is : kitB "int" "str" = some false := by decide +kernel
theorem kb_st : kitB "str" "tuple" = some false := by decide +kernel
theorem kb_sl : kitB "str" "list" = some false := by decide +kernel
theorem kb_nb : kitB "NoneType" "bool" = some false := by decide +kernel
theorem kb_bt : kitB "bool" "tuple" = some false := by decide +kernel
theorem kb_bl : kitB "bool" "list" = some false := by decide +kernel
theorem kb_tb : kitB "tuple" "bool" = some false := by decide +kernel
theorem kb_lb : kitB "list" "bool" = some false := by decide +kernel
/-- the list that a comprehension over a range makes -/
def outF (c : Nat → Bool) (e : Nat → PyData) (i : Nat) : List OV := (((List.range i).filter c).map e).map OV.d
theorem outF_t {c : Nat → Bool} {e : Nat → PyData} {i : Nat} (h : c i = true) : outF c e (i + 1) = outF c e i ++ [.d (e i)] := by
  unfold outF
  rw [List.range_succ, List.filter_append, List.map_append, List.map_append]
  congr 1
  simp [h]
theorem outF_f {c : Nat → Bool} {e : Nat → PyData} {i : Nat} (h : c i = false) : outF c e (i + 1) = outF c e i := by
  unfold outF
  rw [List.range_succ, List.filter_append]
  simp [h]
theorem outF_len (c : Nat → Bool) (e : Nat → PyData) (i : Nat) : (outF c e i).length ≤ i := by
  unfold outF
  rw [List.length_map, List.length_map]
  exact Nat.le_trans (List.length_filter_le _ _) (by rw [List.length_range]; exact Nat.le_refl _)
/-- what a body hands back -/
theorem rw_id {R : OV → Oh → Prop} {r : OV} {O : Oh} (h : R r O) : RW R r O := ⟨r, O, Wk.refl O r, h⟩
theorem rw_drop {R : OV → Oh → Prop} {r : OV} {O O' : Oh} (s : ∀ a o, O' a = some o → O a = some o) (h : R r O') : RW R r O := ⟨r, O', Wk.drop s, h⟩
theorem sub_upd {O : Oh} {p : Addr} {o : OO} (hp : O p = none) : ∀ a u, O a = some u → updO O p o a = some u := fun a u e => by
  rw [updO_ne (fun z => by rw [z, hp] at e; cases e)]
  exact e
theorem rw_drop1 {R : OV → Oh → Prop} {r : OV} {O : Oh} {p : Addr} {o : OO} (hp : O p = none) (h : R r O) : RW R r (updO O p o) := rw_drop (sub_upd hp) h
theorem rw_flat {R : OV → Oh → Prop} {O : Oh} {p : Addr} {xs : List OV} {ds : List PyData} (e : xs = ds.map OV.d) (hp : O p = none) (h : R (.d (.list ds)) O) : RW R (.o p) (updO O p (.lst xs)) := by
  subst e
  exact ⟨_, _, Wk.flat hp, h⟩
/-- the def that stands in the top -/
theorem defAt_mk {K : PySem.W.Frag} {mg : Str → Option Value} {h : Heap} (X : K.In h) (G : h.Ns mainGlobals mg) {x : Str} {st : Stmt} {ps : List Str} {f : Addr} {oc : Value} {od an : Option Addr} {osl : Array (Option Value)} {kV doc pm cdv ct : Value}
    (a : PySem.W.nsIn K mainGlobals x = some (some (.ref f))) (l : K.lookup f = some ⟨oc, od, .func (PySem.W.fnOf x x (defArgs st) (defBody st) (defScope st) .none kV doc pm an cdv ct), osl⟩) (c : PySem.W.codeIn K cdv x = true) (k : PySem.W.keepIn K (.ref f) = true)
    (hb : ∀ (kV doc pm : Value) (an : Option Addr) (cdv ct : Value) (us : List Value), us.length = ps.length → bindArgs (PySem.W.fnOf x x (defArgs st) (defBody st) (defScope st) .none kV doc pm an cdv ct) ⟨us, []⟩ = pure (ps.zip us)) :
    DefAt K mg x st ps f (PySem.W.fnOf x x (defArgs st) (defBody st) (defScope st) .none kV doc pm an cdv ct) :=
  ⟨fun_mk l c k, PySem.W.mg_of X G a, (fun_mk (st := st) l c k).binds hb⟩
def DefA (K : PySem.W.Frag) (mg : Str → Option Value) (x : Str) (st : Stmt) (ps : List Str) : Prop := ∃ f fd, DefAt K mg x st ps f fd
theorem defA_mk {K : PySem.W.Frag} {mg : Str → Option Value} {h : Heap} (X : K.In h) (G : h.Ns mainGlobals mg) {x : Str} {st : Stmt} {ps : List Str} {f : Addr} {oc : Value} {od an : Option Addr} {osl : Array (Option Value)} {kV doc pm cdv ct : Value}
    (hb : ∀ (kV doc pm : Value) (an : Option Addr) (cdv ct : Value) (us : List Value), us.length = ps.length → bindArgs (PySem.W.fnOf x x (defArgs st) (defBody st) (defScope st) .none kV doc pm an cdv ct) ⟨us, []⟩ = pure (ps.zip us))
    (a : PySem.W.nsIn K mainGlobals x = some (some (.ref f))) (l : K.lookup f = some ⟨oc, od, .func (PySem.W.fnOf x x (defArgs st) (defBody st) (defScope st) .none kV doc pm an cdv ct), osl⟩) (c : PySem.W.codeIn K cdv x = true) (k : PySem.W.keepIn K (.ref f) = true) :
    DefA K mg x st ps := ⟨f, _, defAt_mk X G a l c k hb⟩

theorem law_sp {K : PySem.W.Frag} {H : Hp} {a : Addr} {ns : List Int} {C : Con} (hs : SqL K H a (ns.map V.int)) (h : C [.s ns] (fun _ => none) fun r _ => r = .d (.bool true)) : spOf K C [.ref a] H (fun v _ => v = .bl true) fun _ _ _ => False :=
  ⟨H, fun _ => none, [.s ns], _, ⟨Same.refl H, fun _ _ e => nomatch e⟩, .cons (.s hs) .nil, h, fun r O' F' H' v e _ _ rv => by subst e; exact rv.bl_inv⟩
end Y
/-! Y: try and except, isinstance of a caught error, a dict used as a set of ints, lists of owned lists. -/
namespace Y
open PySem PySem.Spec L2
section
variable {X : Cx} {W : WX} {AW : AX} {pos : Pos}
/-! ### try -/
def canS (K : PySem.W.Frag) (W : WX) (AW : AX) (T : AS) : TS := fun D st H => ∃ F O env P, Rep K F O H ∧ RS K F env st ∧ XL K F O H AW W ∧ T P env O ∧ Lift K F O H P D
theorem pss_can {ss : List Stmt} {T : AS} (h : QSs X W AW ss T) : PSs X ss (canS X.K W AW T) := by
  obtain ⟨t, p, s⟩ := h
  exact ⟨fun pins sh st H D I ⟨F, O, env, P, R0, rs, xl, h, l⟩ => p.run pins sh st H D I (s.run R0 rs xl h l)⟩
theorem xl_no {K : PySem.W.Frag} {F H : Hp} {O : Oh} : XL K F O H NAW NW := fun _ _ _ _ _ _ _ z => z.elim
/-- what the clause wishes of an error -/
def awOnly (K : PySem.W.Frag) (cv : Value) (AW : AX) (TS : Addr → Value → Option Addr → AS) (P : AEnds) : AX := fun cls d env O => ∃ b, PySem.W.exmOne K cls cv = some b ∧ (b = true → ∀ a, TS a cls d P env O) ∧ (b = false → AW cls d env O)
def aTry (K : PySem.W.Frag) (cv : Value) (AW : AX) (TB : AX → AS) (TS : Addr → Value → Option Addr → AS) : AS := fun P env O => TB (awOnly K cv AW TS P) P env O
theorem qs_try {x : Str} {cv : Value} {body suite : List Stmt} {b0 : Stmt} {np pos pos' : Pos} {TB : AX → AS} {TS : Addr → Value → Option Addr → AS} (hc : Names X x cv) (tk : Takes X W)
    (hb : ∀ (W' : WX) (AW' : AX) (pn : List (Addr × Obj)) (xe : Value → Shared → Prop), Takes (X.tr pn xe) W' → PassesOwn (model X.prog X.w) X.A X.env xe → QSs (X.tr pn xe) W' AW' body (TB AW'))
    (hsu : ∀ (a : Addr) (oe : Obj) (cls : Value) (d : Option Addr) (pn : List (Addr × Obj)), Zc cls d oe → (∃ vs, oe.data = .fields vs) → QSs (X.suite a ((a, oe) :: pn)) NW NAW (b0 :: suite) (TS a cls d))
    (hs : X.stack = X.env :: X.outer := by rfl) (hf : X.env.frame = some X.env.locals := by rfl) :
    QS X W AW (.Try body [.ExceptHandler (some (.Name x np)) none (b0 :: suite) pos'] [] [] pos) (aTry X.K cv AW TB TS) := by
  refine ⟨_, ps_try_only (tb := fun W' D st H => ∃ AW', canS X.K W' AW' (TB AW') D st H) (ts := fun a cls d => canS X.K NW NAW (TS a cls d)) hs hf hc tk (fun W' pn xe tk' po => ⟨fun pins sh st H D I hh => ?_⟩) (fun a oe cls d pn hz hv => pss_can (hsu a oe cls d pn hz hv)), ⟨fun {F O H st env D P} R0 rs xl h l => ?_⟩⟩
  · obtain ⟨AW', hh⟩ := hh
    exact (pss_can (hb W' AW' pn xe tk' po)).run pins sh st H D I hh
  · refine ⟨_, F, O, env, P, R0, rs, ?_, h, l⟩
    rintro c d env' O' F' H' st' ⟨b, e, h1, h0⟩ z R1 rs1
    exact ⟨b, e, fun hb a _ => ⟨F', O', env', P, R1, rs1, xl_no, h1 hb a, l.step z⟩, fun hb => xl c d env' O' F' H' st' (h0 hb) z R1 rs1⟩
/-- except .. as n -/
def endsAs (i : Nat) (P : AEnds) : AEnds := { nx := fun env O => P.nx (env.set i none) O, rt := P.rt, bk := fun env O => P.bk (env.set i none) O, ct := fun env O => P.ct (env.set i none) O }
def awAs (K : PySem.W.Frag) (cv : Value) (i : Nat) (AW : AX) (TS : Addr → Value → Option Addr → AS) (P : AEnds) : AX := fun cls d env O => ∃ b, PySem.W.exmOne K cls cv = some b ∧ (b = true → ∀ a, TS a cls d (endsAs i P) (env.set i (some (.cls a))) O) ∧ (b = false → AW cls d env O)
def aTryAs (K : PySem.W.Frag) (cv : Value) (i : Nat) (AW : AX) (TB : AX → AS) (TS : Addr → Value → Option Addr → AS) : AS := fun P env O => TB (awAs K cv i AW TS P) P env O
theorem qs_tryAs {x n : Str} {i : Nat} {cv : Value} {body suite : List Stmt} {b0 : Stmt} {np pos pos' : Pos} {TB : AX → AS} {TS : Addr → Value → Option Addr → AS} (hN : X.N.Nodup) (hc : Names X x cv) (tk : Takes X W)
    (hb : ∀ (W' : WX) (AW' : AX) (pn : List (Addr × Obj)) (xe : Value → Shared → Prop), Takes (X.tr pn xe) W' → PassesOwn (model X.prog X.w) X.A X.env xe → QSs (X.tr pn xe) W' AW' body (TB AW'))
    (hsu : ∀ (a : Addr) (oe : Obj) (cls : Value) (d : Option Addr) (pn : List (Addr × Obj)), Zc cls d oe → (∃ vs, oe.data = .fields vs) → QSs (X.suite a ((a, oe) :: pn)) NW NAW (b0 :: suite) (TS a cls d))
    (hi : X.N[i]? = some n := by rfl) (hln : X.env.kindOf n = some .local := by rfl) (hs : X.stack = X.env :: X.outer := by rfl) (hf : X.env.frame = some X.env.locals := by rfl) :
    QS X W AW (.Try body [.ExceptHandler (some (.Name x np)) (some n) (b0 :: suite) pos'] [] [] pos) (aTryAs X.K cv i AW TB TS) := by
  refine ⟨_, ps_try_as (tb := fun W' D st H => ∃ AW', canS X.K W' AW' (TB AW') D st H) (ts := fun a cls d => canS X.K NW NAW (TS a cls d)) hs hf hN hi hln hc tk (fun W' pn xe tk' po => ⟨fun pins sh st H D I hh => ?_⟩) (fun a oe cls d pn hz hv => pss_can (hsu a oe cls d pn hz hv)), ⟨fun {F O H st env D P} R0 rs xl h l => ?_⟩⟩
  · obtain ⟨AW', hh⟩ := hh
    exact (pss_can (hb W' AW' pn xe tk' po)).run pins sh st H D I hh
  · refine ⟨_, F, O, env, P, R0, rs, ?_, h, l⟩
    rintro c d env' O' F' H' st' ⟨b, e, h1, h0⟩ z R1 rs1
    refine ⟨b, e, fun hb a _ => ⟨F', O', env'.set i (some (.cls a)), endsAs i P, R1, rs1.set .cls i, xl_no, h1 hb a, ?_⟩, fun hb => xl c d env' O' F' H' st' (h0 hb) z R1 rs1⟩
    have l2 := l.step z
    exact ⟨fun e o f h2 s a z2 R2 r2 => l2.nx _ _ _ _ _ a z2 R2 (r2.wipe i), l2.rt, fun e o f h2 s a z2 R2 r2 => l2.bk _ _ _ _ _ a z2 R2 (r2.wipe i), fun e o f h2 s a z2 R2 r2 => l2.ct _ _ _ _ _ a z2 R2 (r2.wipe i)⟩
/-- the facts of an own error class -/
structure XOk (K : PySem.W.Frag) (mg : Str → Option Value) (x : Str) (C : Addr) : Prop where
  g : mg x = some (.ref C)
  x : PySem.W.excIn K C [.type "ValueError", .type "Exception", .type "BaseException", .type "object"] "ValueError.__new__" = true
  k : PySem.W.keepIn K (.ref C) = true
  b : PySem.W.subIn K (.ref C) (.type "BaseException") = some true
  t : PySem.W.typeIn K (.ref C) = some (.type "type")
  e : ExcC K C
theorem XOk.exm {K : PySem.W.Frag} {mg : Str → Option Value} {x : Str} {C : Addr} {cls : Value} {b : Bool} (h : XOk K mg x C) (hs : PySem.W.subIn K cls (.ref C) = some b) : PySem.W.exmOne K cls (.ref C) = some b := PySem.W.exm_ref h.b h.e.hd h.t hs
/-- isinstance(e, C) in the suite: the error is of the class at D -/
def aIsE (cls : Value) (d : Option Addr) (a D : Addr) (b : Bool) (U : AA) : AE := fun env O R => (cls = .ref D ∧ d = none) ∧ U env O fun xs O1 => (∃ c, xs = [.cls a, c]) ∧ R (.d (.bool b)) O1
theorem qe_isE {a D : Addr} {oe : Obj} {cls : Value} {d : Option Addr} {pn : List (Addr × Obj)} {e1 e2 : Expr} {p pos : Pos} {b : Bool} {cv : Value} {T1 : AE} (hz : Zc cls d oe) (hf : ∃ vs, oe.data = .fields vs) (C : ExcC X.K D) (hk : PySem.W.kitOne X.K (.ref D) cv = some b) (hm : X.mg "isinstance" = none)
    (h1 : QE (X.suite a ((a, oe) :: pn)) NW NAW e1 T1) {c : V} (h2 : PE (X.suite a ((a, oe) :: pn)) e2 (tC c)) (hcv : ∀ u, RelV c u → u = cv) {co : OV} (hco : ∀ F, RV X.K F co c) (hg : Gl (X.suite a ((a, oe) :: pn)) "isinstance" := by rfl)
    (he : starEach [e1, e2] (X.suite a ((a, oe) :: pn)).env = (false, eval e1 (X.suite a ((a, oe) :: pn)).env) :: starEach [e2] (X.suite a ((a, oe) :: pn)).env := by rfl) (he2 : starEach [e2] (X.suite a ((a, oe) :: pn)).env = (false, eval e2 (X.suite a ((a, oe) :: pn)).env) :: starEach [] (X.suite a ((a, oe) :: pn)).env := by rfl) (hpl : (backTo pos (starEach [e2] (X.suite a ((a, oe) :: pn)).env)).any (·.1) = false := by rfl) :
    QE (X.suite a ((a, oe) :: pn)) NW NAW (.Call (.Name "isinstance" p) [e1, e2] [] pos) (fun env O R => (cls = .ref D ∧ d = none) ∧ T1 env O fun x O1 => x = .cls a ∧ R (.d (.bool b)) O1) := by
  obtain ⟨t1, p1, s1⟩ := h1
  refine ⟨fun st H Q => (cls = .ref D ∧ d = none) ∧ tCB (rIsE X.K D a) (tCons t1 (tCons (tC c) tNil)) st H Q, ⟨fun pins sh st H Q I hh => ?_⟩, ⟨fun R0 rs xl h q => ⟨h.1, ?_⟩⟩⟩
  · obtain ⟨⟨rfl, rfl⟩, hh⟩ := hh
    exact (pe_callB (call_isE C hz hf) hg hm (by decide +kernel) (pa_cons p1 (pa_cons h2 pa_nil he2) he) (by decide) (by decide) he hpl).run pins sh st H Q I hh
  · refine s1.run R0 rs xl h.2 fun x O1 F1 H1 v hh z1 R1 r1 => ?_
    obtain ⟨rfl, hh⟩ := hh
    cases r1
    exact ⟨c, cv, b, rfl, hcv, hk, q _ _ _ _ _ hh z1 R1 (.d (.bl _))⟩

/-! ### a dict with int keys, all True -/
def dset (ns : List Int) : List (Key × OV) := ns.map fun n => (Sum.inl n, dB true)
theorem RPs.dset_inv {K : PySem.W.Frag} {F : Hp} : ∀ {ns : List Int} {vs : List (Key × V)}, RPs K F (dset ns) vs → vs = ns.map fun n => (Sum.inl n, V.bl true)
  | [], _, .nil => rfl
  | _ :: _, _, .cons (.d (.bl _)) hs => by rw [RPs.dset_inv hs]; rfl
theorem RPs.dset {K : PySem.W.Frag} {F : Hp} : ∀ {ns : List Int}, RPs K F (Y.dset ns) (ns.map fun n => ((Sum.inl n : Key), V.bl true))
  | [] => .nil
  | _ :: _ => .cons (.d (.bl _)) RPs.dset
theorem valV_set (i : Int) : ∀ ns : List Int, (valV (ns.map fun n => ((Sum.inl n : Key), V.bl true)) (Sum.inl i)).isSome = ns.contains i
  | [] => rfl
  | n :: ns => by
    have ih := valV_set i ns
    unfold valV at ih ⊢
    rw [List.map_cons, List.find?_cons, List.contains_cons]
    by_cases h : n = i
    · subst h; simp
    · have e1 : decide ((Sum.inl n : Key) = Sum.inl i) = false := decide_eq_false (fun z => h (Sum.inl.inj z))
      have e2 : (i == n) = false := beq_eq_false_iff_ne.mpr (fun z => h z.symm)
      rw [e2, Bool.false_or]
      dsimp only
      rw [e1]
      exact ih
theorem putK_set {i : Int} {ns : List Int} (h : ns.contains i = false) : putK (ns.map fun n => ((Sum.inl n : Key), V.bl true)) (Sum.inl i) (.bl true) = (ns ++ [i]).map fun n => ((Sum.inl n : Key), V.bl true) := by
  unfold putK
  have e : ((ns.map fun n => ((Sum.inl n : Key), V.bl true)).any fun kv => decide (kv.1 = Sum.inl i)) = false := by
    rw [List.any_map, List.any_eq_false]
    intro n hn q
    have q2 : n = i := Sum.inl.inj (of_decide_eq_true q)
    subst q2
    rw [List.contains_iff_mem.mpr hn] at h
    cases h
  rw [e, if_neg Bool.false_ne_true, List.map_append]
  rfl
def aDNew : AE := fun _ O R => ∀ p, O p = none → R (.o p) (updO O p (.dk (dset [])))
theorem qe_dnew : QE X W AW (.Dict [] [] pos) aDNew := ⟨_, pe_dnewK, ⟨fun R0 rs _ h q p hp => by
  obtain ⟨R2, z2⟩ := R0.newO (o := .dk (dset [])) (h := .dK []) hp ⟨_, rfl, .nil⟩
  exact q _ _ _ _ _ (h p (R0.ofree hp)) z2 R2 .o⟩⟩
def aDIn (T U : AE) : AE := fun env O R => T env O fun x O1 => U env O1 fun y O2 => ∃ i p ns, x = .d (.int i) ∧ y = .o p ∧ O2 p = some (.dk (dset ns)) ∧ R (.d (.bool (ns.contains i))) O2
theorem qt_din {e1 e2 : Expr} {T U : AE} (hu : X.A.units + 1 < cLine) (h1 : QE X W AW e1 T) (h2 : QE X W AW e2 U) (hm : behindInMarks .In e2 = false := by rfl) : QT X W AW (.Compare e1 [.In] [e2] pos) (aB (aDIn T U)) := by
  obtain ⟨t, p, s⟩ := h1
  obtain ⟨t1, p1, s1⟩ := h2
  refine ⟨_, pt_cmp (pc_din hu p p1) hm, st_B ⟨fun R0 rs xl h q => s.run R0 rs xl h fun x O1 F1 H1 v h1 z1 R1 r1 => s1.run R1 (rs.mono z1.fx) (xl.step z1) h1 fun y O2 F2 H2 w h2 z2 R2 r2 => ?_⟩⟩
  obtain ⟨i, p, ns, rfl, rfl, hp, h2⟩ := h2
  cases r2
  obtain ⟨_, hh, h3, vs, rfl, h4⟩ := R2.ow p _ hp
  rw [h4.dset_inv] at h3
  refine ⟨p, _, rfl, by rw [r1.int_inv]; exact DGet.k (k := Sum.inl i) h3, ?_⟩
  rw [valV_set]
  exact q _ _ _ _ _ h2 (z1.trans z2) R2 (.d (.bl _))
def aDPut (TD TY TV : AE) : AS := fun P env O => TV env O fun v O1 => TD env O1 fun d O2 => TY env O2 fun y O3 => ∃ i p ns, v = dB true ∧ d = .o p ∧ y = .d (.int i) ∧ O3 p = some (.dk (dset ns)) ∧ ns.contains i = false ∧ ns.length < 1000000 ∧ P.nx env (updO O3 p (.dk (dset (ns ++ [i]))))
theorem qs_dput {o i value : Expr} {pos' : Pos} {TD TY TV : AE} (hu : X.A.units + 1 < cLine) (ho : QE X W AW o TD) (hi : QE X W AW i TY) (hv : QE X W AW value TV) (hs : swapsWith value (some (.Subscript o i pos')) pos.line X.env = pure false := by rfl) : QS X W AW (.Assign [.Subscript o i pos'] value pos) (aDPut TD TY TV) := by
  obtain ⟨t, p, s⟩ := ho
  obtain ⟨t1, p1, s1⟩ := hi
  obtain ⟨t2, p2, s2⟩ := hv
  refine ⟨_, ps_dput hu p p1 p2 hs, ⟨fun R0 rs xl h l => s2.run R0 rs xl h fun x O1 F1 H1 v h1 z1 R1 r1 => s.run R1 (rs.mono z1.fx) (xl.step z1) h1 fun d O2 F2 H2 w h2 z2 R2 r2 => s1.run R2 (rs.mono (z1.trans z2).fx) (xl.step (z1.trans z2)) h2 fun y O3 F3 H3 u h3 z3 R3 r3 => ?_⟩⟩
  obtain ⟨i, p, ns, rfl, rfl, rfl, hp, hn, hz, h3⟩ := h3
  cases r2
  obtain ⟨_, hh, h4, vs, rfl, h5⟩ := R3.ow p _ hp
  rw [h5.dset_inv] at h4
  obtain ⟨R4, z4⟩ := R3.write (o := .dk (dset (ns ++ [i]))) (h := .dK ((ns ++ [i]).map fun n => ((Sum.inl n : Key), V.bl true))) hp ⟨_, rfl, RPs.dset⟩
  refine ⟨p, _, rfl, by rw [r3.int_inv, r1.bl_inv]; exact DPut.k (k := Sum.inl i) h4 (by rw [List.length_map]; exact Nat.lt_of_lt_of_le hz (by decide)), ?_⟩
  rw [putK_set hn]
  exact l.nx _ _ _ _ _ h3 (z1.trans (z2.trans (z3.trans z4))) R4 (rs.mono (z1.trans (z2.trans (z3.trans z4))).fx)
end
section
variable {env : En} {O : Oh} {P : AEnds} {T U V : AE} {R : OV → Oh → Prop}
theorem w_try {K : PySem.W.Frag} {cv : Value} {AW : AX} {TB : AX → AS} {TS : Addr → Value → Option Addr → AS} (q : TB (awOnly K cv AW TS P) P env O) : aTry K cv AW TB TS P env O := q
theorem w_tryAs {K : PySem.W.Frag} {cv : Value} {i : Nat} {AW : AX} {TB : AX → AS} {TS : Addr → Value → Option Addr → AS} (q : TB (awAs K cv i AW TS P) P env O) : aTryAs K cv i AW TB TS P env O := q
theorem w_dnew (q : ∀ p, O p = none → R (.o p) (updO O p (.dk (dset [])))) : aDNew env O R := q
theorem w_din (q : T env O fun x O1 => U env O1 fun y O2 => ∃ i p ns, x = .d (.int i) ∧ y = .o p ∧ O2 p = some (.dk (dset ns)) ∧ R (.d (.bool (ns.contains i))) O2) : aDIn T U env O R := q
theorem w_dput (q : V env O fun v O1 => T env O1 fun d O2 => U env O2 fun y O3 => ∃ i p ns, v = dB true ∧ d = .o p ∧ y = .d (.int i) ∧ O3 p = some (.dk (dset ns)) ∧ ns.contains i = false ∧ ns.length < 1000000 ∧ P.nx env (updO O3 p (.dk (dset (ns ++ [i]))))) : aDPut T U V P env O := q
end

/-! ### a list of owned lists of ints -/
theorem ne_mem {a b : Addr} {l : List Addr} (h1 : a ∈ l) (h2 : b ∉ l) : a ≠ b := fun e => h2 (e ▸ h1)
theorem ne_mem2 {a b : Addr} {l : List Addr} (h1 : a ∈ l) (h2 : b ∉ l) : b ≠ a := fun e => h2 (e ▸ h1)
def famO (O : Oh) : List Addr → List (List Int) → Oh
  | a :: as, l :: ls => updO (famO O as ls) a (.lst (Zs l))
  | _, _ => O
theorem famO_ne {O : Oh} {b : Addr} : ∀ {as : List Addr} {ls : List (List Int)}, b ∉ as → famO O as ls b = O b
  | [], _, _ => rfl
  | _ :: _, [], _ => rfl
  | a :: as, l :: ls, h => by
    show updO (famO O as ls) a _ b = _
    rw [updO_ne (ne_mem2 List.mem_cons_self h), famO_ne fun z => h (List.mem_cons_of_mem _ z)]
theorem famO_at {O : Oh} : ∀ {as : List Addr} {ls : List (List Int)} {i : Nat} {a : Addr} {l : List Int}, as.Nodup → as[i]? = some a → ls[i]? = some l → famO O as ls a = some (.lst (Zs l))
  | b :: as, k :: ls, 0, a, l, _, h1, h2 => by
    simp at h1 h2
    subst h1 h2
    exact updO_same
  | b :: as, k :: ls, i + 1, a, l, nd, h1, h2 => by
    have nd2 := List.nodup_cons.mp nd
    have h1' : as[i]? = some a := by simpa using h1
    have hm := List.mem_of_getElem? h1'
    show updO (famO O as ls) b _ a = _
    rw [updO_ne (ne_mem hm nd2.1)]
    exact famO_at nd2.2 h1' (by simpa using h2)
  | [], _, _, _, _, _, h1, _ => by simp at h1
  | _ :: _, [], _, _, _, _, _, h2 => by simp at h2
theorem famO_set {O : Oh} : ∀ {as : List Addr} {ls : List (List Int)} {i : Nat} {a : Addr} {l : List Int}, as.Nodup → as.length = ls.length → as[i]? = some a → updO (famO O as ls) a (.lst (Zs l)) = famO O as (ls.set i l)
  | b :: as, k :: ls, 0, a, l, _, _, h1 => by
    simp at h1
    subst h1
    exact updO_updO
  | b :: as, k :: ls, i + 1, a, l, nd, hl, h1 => by
    have nd2 := List.nodup_cons.mp nd
    have h1' : as[i]? = some a := by simpa using h1
    have hm := List.mem_of_getElem? h1'
    show updO (updO (famO O as ls) b _) a _ = updO (famO O as (ls.set i l)) b _
    rw [updO_comm (ne_mem2 hm nd2.1), famO_set nd2.2 (by simpa using hl) h1']
  | [], _, _, _, _, _, _, h1 => by simp at h1
  | _ :: _, [], _, _, _, _, hl, _ => by simp at hl
theorem famO_upd {O : Oh} {p : Addr} {o : OO} : ∀ {as : List Addr} {ls : List (List Int)}, p ∉ as → famO (updO O p o) as ls = updO (famO O as ls) p o
  | [], _, _ => rfl
  | _ :: _, [], _ => rfl
  | a :: as, l :: ls, h => by
    show updO (famO (updO O p o) as ls) a _ = updO (updO (famO O as ls) a _) p o
    rw [famO_upd (fun z => h (List.mem_cons_of_mem _ z)), updO_comm (ne_mem2 List.mem_cons_self h)]
theorem famO_snoc {O : Oh} {a : Addr} {l : List Int} : ∀ {as : List Addr} {ls : List (List Int)}, as.length = ls.length → a ∉ as → famO O (as ++ [a]) (ls ++ [l]) = updO (famO O as ls) a (.lst (Zs l))
  | [], [], _, _ => rfl
  | [], _ :: _, h, _ => by simp at h
  | _ :: _, [], h, _ => by simp at h
  | b :: as, k :: ls, h, hn => by
    show updO (famO O (as ++ [a]) (ls ++ [l])) b _ = updO (updO (famO O as ls) b _) a _
    rw [famO_snoc (by simpa using h) (fun z => hn (List.mem_cons_of_mem _ z)), updO_comm (ne_mem2 List.mem_cons_self hn)]
/-- D holds the lists as, whose items are ls; nothing of it stood in O -/
structure Fam (O : Oh) (D : Addr) (as : List Addr) (ls : List (List Int)) : Prop where
  nd : as.Nodup
  len : as.length = ls.length
  dn : D ∉ as
  d0 : O D = none
  a0 : ∀ a ∈ as, O a = none
def fam (O : Oh) (D : Addr) (as : List Addr) (ls : List (List Int)) : Oh := updO (famO O as ls) D (.lst (as.map OV.o))
theorem Fam.sub {O : Oh} {D : Addr} {as : List Addr} {ls : List (List Int)} (f : Fam O D as ls) : ∀ a o, O a = some o → fam O D as ls a = some o := fun a o e => by
  unfold fam
  rw [updO_ne (fun z => by rw [z, f.d0] at e; cases e), famO_ne (fun z => by rw [f.a0 a z] at e; cases e)]
  exact e
theorem Fam.at {O : Oh} {D : Addr} {as : List Addr} {ls : List (List Int)} (f : Fam O D as ls) {i : Nat} {a : Addr} {l : List Int} (h1 : as[i]? = some a) (h2 : ls[i]? = some l) : fam O D as ls a = some (.lst (Zs l)) := by
  unfold fam
  rw [updO_ne (ne_mem (List.mem_of_getElem? h1) f.dn)]
  exact famO_at f.nd h1 h2
theorem Fam.fz {O : Oh} {D : Addr} {as : List Addr} {ls : List (List Int)} (f : Fam O D as ls) : Wk (fam O D as ls) (.o D) O (dF ls) := by
  have hz : FzA (fam O D as ls) (as.map OV.o) (ls.map pW) := by
    have gen : ∀ (bs : List Addr) (ks : List (List Int)), bs.length = ks.length → (∀ (i : Nat) (b : Addr) (k : List Int), bs[i]? = some b → ks[i]? = some k → fam O D as ls b = some (.lst (Zs k))) → FzA (fam O D as ls) (bs.map OV.o) (ks.map pW) := by
      intro bs
      induction bs with
      | nil => intro ks h _; cases ks with
        | nil => exact .nil
        | cons _ _ => simp at h
      | cons b bs ih =>
        intro ks h g
        cases ks with
        | nil => simp at h
        | cons k ks =>
          refine .cons (.o (g 0 b k rfl rfl) ?_) (ih ks (by simpa using h) fun i b' k' h1 h2 => g (i + 1) b' k' (by simpa using h1) (by simpa using h2))
          rw [Zs_eq]
          exact FzA.ofData _
    exact gen as ls f.len fun i b k h1 h2 => f.at h1 h2
  refine Wk.fz (.o updO_same hz) f.sub fun a r => ?_
  cases r with
  | here _ => exact f.d0
  | o h1 hx h2 =>
    unfold fam at h1
    rw [updO_same] at h1
    cases h1
    obtain ⟨b, hb, rfl⟩ := List.mem_map.mp hx
    obtain ⟨i, hi⟩ := List.getElem?_of_mem hb
    have hi2 := (List.getElem?_eq_some_iff.mp hi).1
    have h3 := f.at hi (List.getElem?_eq_getElem (show i < ls.length by rw [← f.len]; exact hi2))
    rw [Zs_eq] at h3
    rw [h2.flat h3]
    exact f.a0 b hb
theorem Fam.set {O : Oh} {D : Addr} {as : List Addr} {ls : List (List Int)} (f : Fam O D as ls) {i : Nat} {a : Addr} {l : List Int} (h1 : as[i]? = some a) : updO (fam O D as ls) a (.lst (Zs l)) = fam O D as (ls.set i l) ∧ Fam O D as (ls.set i l) := by
  refine ⟨?_, ⟨f.nd, by rw [List.length_set]; exact f.len, f.dn, f.d0, f.a0⟩⟩
  unfold fam
  rw [updO_comm (ne_mem2 (List.mem_of_getElem? h1) f.dn), famO_set f.nd f.len h1]
theorem Fam.snoc {O : Oh} {D b : Addr} {as : List Addr} {ls : List (List Int)} {l : List Int} (f : Fam O D as ls) (hb : fam O D as ls b = none) : updO (updO (fam O D as ls) b (.lst (Zs l))) D (.lst (as.map OV.o ++ [.o b])) = fam O D (as ++ [b]) (ls ++ [l]) ∧ Fam O D (as ++ [b]) (ls ++ [l]) := by
  have nD : b ≠ D := fun z => by rw [z] at hb; unfold fam at hb; rw [updO_same] at hb; cases hb
  have na : b ∉ as := fun z => by
    obtain ⟨i, hi⟩ := List.getElem?_of_mem z
    have hi2 := (List.getElem?_eq_some_iff.mp hi).1
    rw [f.at hi (List.getElem?_eq_getElem (show i < ls.length by rw [← f.len]; exact hi2))] at hb
    cases hb
  have b0 : O b = none := by unfold fam at hb; rw [updO_ne nD, famO_ne na] at hb; exact hb
  refine ⟨?_, ⟨?_, by rw [List.length_append, List.length_append, f.len]; rfl, ?_, f.d0, ?_⟩⟩
  · unfold fam
    rw [updO_comm nD.symm, updO_updO, famO_snoc f.len na, List.map_append]
    rfl
  · rw [List.nodup_append]
    exact ⟨f.nd, List.pairwise_singleton _ _, fun x hx y hy => by rw [List.mem_singleton.mp hy]; exact ne_mem hx na⟩
  · intro h
    rcases List.mem_append.mp h with h | h
    · exact f.dn h
    · exact nD (List.mem_singleton.mp h).symm
  · intro a ha
    rcases List.mem_append.mp ha with h | h
    · exact f.a0 a h
    · rw [List.mem_singleton.mp h]; exact b0
theorem Fam.upd {O : Oh} {D p : Addr} {o : OO} {as : List Addr} {ls : List (List Int)} (f : Fam O D as ls) (hp : O p ≠ none) : updO (fam O D as ls) p o = fam (updO O p o) D as ls ∧ Fam (updO O p o) D as ls := by
  have nD : D ≠ p := fun z => hp (z ▸ f.d0)
  have na : p ∉ as := fun z => hp (f.a0 p z)
  refine ⟨?_, ⟨f.nd, f.len, f.dn, by rw [updO_ne nD]; exact f.d0, fun a ha => by rw [updO_ne (ne_mem ha na)]; exact f.a0 a ha⟩⟩
  unfold fam
  rw [updO_comm nD, famO_upd na]
/-- a comprehension whose items are new owned lists of ints -/
def LcOwn (O : Oh) (D : Addr) (out : List (List Int)) (y : OV) (O4 : Oh) : Prop := ∃ acc, O4 D = some (.lst acc) ∧ acc.length < sizeLine ∧ ∃ as, Fam O D as out ∧ updO O4 D (.lst (acc ++ [y])) = fam O D as out
theorem lcOwn_leaf {O : Oh} {D b : Addr} {as : List Addr} {ls : List (List Int)} {l : List Int} (f : Fam O D as ls) (hb : fam O D as ls b = none) (hz : as.length < 10000) : LcOwn O D (ls ++ [l]) (.o b) (updO (fam O D as ls) b (.lst (Zs l))) := by
  have nD : D ≠ b := fun z => by rw [← z] at hb; unfold fam at hb; rw [updO_same] at hb; cases hb
  have e : fam O D as ls D = some (.lst (as.map OV.o)) := updO_same
  exact ⟨as.map OV.o, by rw [updO_ne nD]; exact e, by rw [List.length_map]; exact szl hz, as ++ [b], (f.snoc hb).2, (f.snoc hb).1⟩
theorem lcB_own {env : En} {O : Oh} {T : AE} {R : OV → Oh → Prop} {PJ : PIt} {m : Nat} {A : AT} {vs : List Nat} (n : Nat) (ls : Nat → List (List Int)) (h0 : ls 0 = [])
    (hs : ∀ i D as, i < n → Fam O D as (ls i) → ∃ x, PJ.go i (fam O D as (ls i)) x ∧ A ((wipeE env vs).set m (some x)) (fam O D as (ls i)) fun b O3 =>
      if b = true then T ((wipeE env vs).set m (some x)) O3 fun y O4 => LcOwn O D (ls (i + 1)) y O4 else ∃ as, Fam O D as (ls (i + 1)) ∧ O3 = fam O D as (ls (i + 1)))
    (hd : ∀ D as, Fam O D as (ls n) → PJ.stop n (fam O D as (ls n)) ∧ R (.o D) (fam O D as (ls n))) : aLcB PJ (gVar m) A T vs env O R := by
  intro D hD
  refine ⟨fun i k o => ∃ as, Fam O D as (ls i) ∧ o = fam O D as (ls i) ∧ i + k = n, ⟨n, [], ⟨List.nodup_nil, by rw [h0]; rfl, by simp, hD, fun a h => by simp at h⟩, by unfold fam; rw [h0]; rfl, Nat.zero_add _⟩, ?_⟩
  rintro i k o ⟨as, f, rfl, hk⟩
  by_cases hi : i = n
  · subst hi
    exact .inl (hd D as f)
  · refine .inr ?_
    obtain ⟨x, h1, h2⟩ := hs i D as (by omega) f
    refine ⟨x, h1, ?_⟩
    have e1 : (fun (y : OV) (O4 : Oh) => ∃ acc, O4 D = some (.lst acc) ∧ acc.length < sizeLine ∧ ∃ m', m' < k ∧ ∃ as, Fam O D as (ls (i + 1)) ∧ updO O4 D (.lst (acc ++ [y])) = fam O D as (ls (i + 1)) ∧ i + 1 + m' = n) =
        fun y O4 => LcOwn O D (ls (i + 1)) y O4 := by
      funext y O4
      apply propext
      constructor
      · rintro ⟨acc, a, b, _, _, as, c, d, _⟩
        exact ⟨acc, a, b, as, c, d⟩
      · rintro ⟨acc, a, b, as, c, d⟩
        exact ⟨acc, a, b, k - 1, by omega, as, c, d, by omega⟩
    have e2 : (fun (O3 : Oh) => ∃ m', m' < k ∧ ∃ as, Fam O D as (ls (i + 1)) ∧ O3 = fam O D as (ls (i + 1)) ∧ i + 1 + m' = n) = fun O3 => ∃ as, Fam O D as (ls (i + 1)) ∧ O3 = fam O D as (ls (i + 1)) := by
      funext O3
      apply propext
      constructor
      · rintro ⟨_, _, as, c, d, _⟩
        exact ⟨as, c, d⟩
      · rintro ⟨as, c, d⟩
        exact ⟨k - 1, by omega, as, c, d, by omega⟩
    show A ((wipeE env vs).set m (some x)) (fam O D as (ls i)) fun b O3 => if b = true then T ((wipeE env vs).set m (some x)) O3 (fun (y : OV) (O4 : Oh) => ∃ acc, O4 D = some (.lst acc) ∧ acc.length < sizeLine ∧ ∃ m', m' < k ∧ ∃ as, Fam O D as (ls (i + 1)) ∧ updO O4 D (.lst (acc ++ [y])) = fam O D as (ls (i + 1)) ∧ i + 1 + m' = n)
        else (fun (O3 : Oh) => ∃ m', m' < k ∧ ∃ as, Fam O D as (ls (i + 1)) ∧ O3 = fam O D as (ls (i + 1)) ∧ i + 1 + m' = n) O3
    rw [e1, e2]
    exact h2
theorem zs_snoc (ns : List Int) (n : Int) : Zs ns ++ [dI n] = Zs (ns ++ [n]) := by unfold Zs; rw [List.map_append]; rfl
theorem zs_set (ns : List Int) (k : Nat) (n : Int) : (Zs ns).set k (dI n) = Zs (ns.set k n) := by unfold Zs; rw [List.map_set]
theorem zs_get {ns : List Int} {i n : Int} (h : atI ns i = some n) : atI (Zs ns) i = some (dI n) := by unfold Zs; rw [atI_map, h]; rfl
theorem zs_len (ns : List Int) : (Zs ns).length = ns.length := by unfold Zs; rw [List.length_map]
theorem sum_take_le (xs : List Nat) (i : Nat) : (xs.take i).sum ≤ xs.sum := by
  have := List.take_append_drop i xs
  have h : xs.sum = (xs.take i).sum + (xs.drop i).sum := by rw [← List.sum_append, this]
  omega
theorem sum_take_succ (xs : List Nat) {i : Nat} (h : i < xs.length) : (xs.take (i + 1)).sum = (xs.take i).sum + xs[i] := by
  rw [List.take_add_one, List.getElem?_eq_getElem h, List.sum_append]
  simp
theorem take_snoc {α : Type} {xs : List α} {i : Nat} {x : α} (h : xs[i]? = some x) : xs.take (i + 1) = xs.take i ++ [x] := by
  rw [List.take_add_one, h]
  rfl
/-- a list of data, one after the other -/
theorem map_snoc {α : Type} (f : α → PyData) {xs : List α} {i : Nat} {x : α} (h : xs[i]? = some x) : ((xs.take (i + 1)).map f).map OV.d = ((xs.take i).map f).map OV.d ++ [.d (f x)] := by
  rw [take_snoc h, List.map_append, List.map_append]
  rfl
theorem ixN_neg {n : Nat} (h : 0 < n) : ixN n (-1) = some (n - 1) := by
  unfold ixN
  rw [if_neg (by omega), if_pos (by omega)]
  congr 1
  omega
theorem atI_last {α : Type} {xs : List α} (h : 0 < xs.length) : atI xs (-1) = some (xs[xs.length - 1]'(by omega)) := by
  unfold atI
  rw [ixN_neg h]
  exact List.getElem?_eq_getElem (by omega)
/-- a comprehension over a range of anything -/
def outO (c : Nat → Bool) (e : Nat → OV) (i : Nat) : List OV := ((List.range i).filter c).map e
theorem outO_t {c : Nat → Bool} {e : Nat → OV} {i : Nat} (h : c i = true) : outO c e (i + 1) = outO c e i ++ [e i] := by
  unfold outO
  rw [List.range_succ, List.filter_append, List.map_append]
  congr 1
  simp [h]
theorem outO_f {c : Nat → Bool} {e : Nat → OV} {i : Nat} (h : c i = false) : outO c e (i + 1) = outO c e i := by
  unfold outO
  rw [List.range_succ, List.filter_append]
  simp [h]
theorem outO_len (c : Nat → Bool) (e : Nat → OV) (i : Nat) : (outO c e i).length ≤ i := by
  unfold outO
  rw [List.length_map]
  exact Nat.le_trans (List.length_filter_le _ _) (by rw [List.length_range]; exact Nat.le_refl _)
theorem outO_at {c : Nat → Bool} {e : Nat → OV} {i j : Nat} (h : j < (outO c e i).length) : ∃ k, k < i ∧ c k = true ∧ (outO c e i)[j]? = some (e k) := by
  have hl : j < ((List.range i).filter c).length := by unfold outO at h; rw [List.length_map] at h; exact h
  have hm := List.getElem_mem hl
  obtain ⟨h1, h2⟩ := List.mem_filter.mp hm
  exact ⟨_, List.mem_range.mp h1, h2, by unfold outO; rw [List.getElem?_map, List.getElem?_eq_getElem hl]; rfl⟩
/-- a stream of draws stands at p -/
def Strm (O : Oh) (p : Addr) : Prop := ∃ a b c, O p = some (.lst (Zs [a, b, c]))
theorem Strm.upd {O : Oh} {p : Addr} {a b c : Int} : Strm (updO O p (.lst (Zs [a, b, c]))) p := ⟨a, b, c, updO_same⟩
theorem Strm.ne {O : Oh} {p q : Addr} {o : OO} (h : Strm O p) (n : p ≠ q) : Strm (updO O q o) p := by
  obtain ⟨a, b, c, h⟩ := h
  exact ⟨a, b, c, by rw [updO_ne n]; exact h⟩
theorem Strm.nn {O : Oh} {p q : Addr} (h : Strm O p) (e : O q = none) : p ≠ q := by
  obtain ⟨a, b, c, h⟩ := h
  intro z
  rw [z, e] at h
  cases h
theorem Fam.new {O : Oh} {D p : Addr} {o : OO} {as : List Addr} {ls : List (List Int)} (f : Fam O D as ls) (hp : fam O D as ls p = none) : updO (fam O D as ls) p o = fam (updO O p o) D as ls ∧ Fam (updO O p o) D as ls := by
  have nD : D ≠ p := fun z => by rw [← z] at hp; unfold fam at hp; rw [updO_same] at hp; cases hp
  have na : p ∉ as := fun z => by
    obtain ⟨i, hi⟩ := List.getElem?_of_mem z
    have hi2 := (List.getElem?_eq_some_iff.mp hi).1
    rw [f.at hi (List.getElem?_eq_getElem (show i < ls.length by rw [← f.len]; exact hi2))] at hp
    cases hp
  refine ⟨?_, ⟨f.nd, f.len, f.dn, by rw [updO_ne nD]; exact f.d0, fun a ha => by rw [updO_ne (ne_mem ha na)]; exact f.a0 a ha⟩⟩
  unfold fam
  rw [updO_comm nD, famO_upd na]
theorem Fam.base {O : Oh} {D p : Addr} {as : List Addr} {ls : List (List Int)} (f : Fam O D as ls) (hp : fam O D as ls p = none) : O p = none := by
  cases e : O p with
  | none => rfl
  | some o => rw [f.sub p o e] at hp; cases hp
theorem w_reverse {p : Addr} {xs : List OV} {O : Oh} {R : OV → Oh → Prop} (hp : O p = some (.lst xs)) (q : R (.d .none) (updO O p (.lst xs.reverse))) : aReverse (.o p) [] O R := ⟨p, xs, rfl, rfl, hp, q⟩
/-- a list of ints that is read only: frozen or owned -/
def Vw (O : Oh) (x : OV) (ns : List Int) : Prop := x = dW ns ∨ ∃ p, x = .o p ∧ O p = some (.lst (Zs ns))
theorem Vw.sub {O O' : Oh} {x : OV} {ns : List Int} (h : Vw O x ns) (s : ∀ a o, O a = some o → O' a = some o) : Vw O' x ns := by
  rcases h with h | ⟨p, h, hp⟩
  · exact .inl h
  · exact .inr ⟨p, h, s p _ hp⟩
theorem Vw.w {O : Oh} {ns : List Int} : Vw O (dW ns) ns := .inl rfl
theorem Vw.o {O : Oh} {p : Addr} {ns : List Int} (h : O p = some (.lst (Zs ns))) : Vw O (.o p) ns := .inr ⟨p, rfl, h⟩
theorem Vw.items {O : Oh} {x : OV} {ns : List Int} (h : Vw O x ns) : itemsL O x (Zs ns) := by
  rcases h with rfl | ⟨p, rfl, hp⟩
  · exact (Zs_eq ns).trans rfl
  · exact hp
theorem Vw.fz {O : Oh} {x : OV} {ns : List Int} (h : Vw O x ns) : Fz O x (pW ns) := by
  rcases h with rfl | ⟨p, rfl, hp⟩
  · exact .d _
  · exact .o (by rw [hp, Zs_eq]) (FzA.ofData _)
theorem w_lenV {O : Oh} {R : OV → Oh → Prop} {x : OV} {ns : List Int} (h : Vw O x ns) (q : R (dI ns.length) O) : aLen [x] O R := by
  rcases h with rfl | ⟨p, rfl, hp⟩
  · exact w_lenW q
  · exact w_lenO hp (by rw [zs_len]; exact q)
theorem w_ixV {O : Oh} {R : OV → Oh → Prop} {x : OV} {ns : List Int} {i n : Int} (h : Vw O x ns) (hi : atI ns i = some n) (q : R (dI n) O) : aIxL x (dI i) O R := by
  rcases h with rfl | ⟨p, rfl, hp⟩
  · exact w_ixW hi q
  · exact w_ixO hp (zs_get hi) q
theorem w_listV {O : Oh} {R : OV → Oh → Prop} {x : OV} {ns : List Int} (h : Vw O x ns) (q : ∀ p, O p = none → R (.o p) (updO O p (.lst (Zs ns)))) : aList [x] O R := by
  rcases h with rfl | ⟨p, rfl, hp⟩
  · exact w_listW (by rw [← Zs_eq]; exact q)
  · exact w_listO hp q
theorem vw_ty {O : Oh} {x : OV} {ns : List Int} (h : Vw O x ns) : tyOf O x "list" := by
  rcases h with rfl | ⟨p, rfl, hp⟩
  · rfl
  · exact ⟨rfl, _, hp⟩
theorem wk_pair {O : Oh} {p q : Addr} {a b : List Int} (hp : O p = none) (hq : O q = none) (n : p ≠ q) : Wk (updO (updO O p (.lst (Zs a))) q (.lst (Zs b))) (.t [.o p, .o q]) O (.d (.tuple [pW a, pW b])) := by
  have e1 : updO (updO O p (.lst (Zs a))) q (.lst (Zs b)) p = some (.lst (Zs a)) := by rw [updO_ne n, updO_same]
  have e2 : updO (updO O p (.lst (Zs a))) q (.lst (Zs b)) q = some (.lst (Zs b)) := updO_same
  rw [Zs_eq a, Zs_eq b] at e1 e2 ⊢
  refine Wk.fz (.t (.cons (.o e1 (FzA.ofData _)) (.cons (.o e2 (FzA.ofData _)) .nil))) (fun z o h => sub_upd (by rw [updO_ne n.symm]; exact hq) _ _ (sub_upd hp _ _ h)) fun z r => ?_
  cases r with
  | t hx r =>
    rcases List.mem_cons.mp hx with h | h
    · rw [h] at r
      rw [r.flat e1]
      exact hp
    · rw [List.mem_singleton.mp h] at r
      rw [r.flat e2]
      exact hq
theorem w_forV {α : Type} {env : En} {O : Oh} {P : AEnds} {S : AS} {x : OV} {ns : List Int} {G : AG} (f : α → En) (g : α → Oh) (I : Nat → α → Prop) (a0 : α) (h0 : WkS env O (f a0) (g a0)) (hI : I 0 a0) (hv : ∀ i a, I i a → Vw (g a) x ns)
    (hs : ∀ i a n, ns[i]? = some n → I i a → G (dI n) (f a) (g a) fun env2 O2 => S { P with nx := fun env' O' => ∃ a', WkS env' O' (f a') (g a') ∧ I (i + 1) a', ct := fun env' O' => ∃ a', WkS env' O' (f a') (g a') ∧ I (i + 1) a', bk := P.nx } env2 O2)
    (hd : ∀ a, I ns.length a → P.nx (f a) (g a)) : aForB (pitL x) G S P env O :=
  forB_n ns.length f g I a0 h0 hI (fun i a hi ia => ⟨dI ns[i], ⟨_, (hv i a ia).items, by unfold Zs; rw [List.getElem?_map, List.getElem?_eq_getElem hi]; rfl⟩, hs i a _ (List.getElem?_eq_getElem hi) ia⟩) fun a ia => ⟨⟨_, (hv _ a ia).items, by rw [zs_len]; exact Nat.le_refl _⟩, hd a ia⟩
/-- a comprehension whose items change the heap -/
def LcTo {α : Type} (g : α → Oh) (out : α → List OV) (I : α → Prop) (D : Addr) (y : OV) (O4 : Oh) : Prop := ∃ acc, O4 D = some (.lst acc) ∧ acc.length < sizeLine ∧ ∃ a, I a ∧ g a D = none ∧ updO O4 D (.lst (acc ++ [y])) = updO (g a) D (.lst (out a))
theorem lcTo_leaf {α : Type} {g : α → Oh} {out : α → List OV} {I : α → Prop} {D : Addr} {y : OV} {xs : List OV} {O : Oh} (a : α) (hz : xs.length < sizeLine) (i : I a) (hg : g a D = none) (e : g a = O) (h : out a = xs ++ [y]) : LcTo g out I D y (updO O D (.lst xs)) := ⟨xs, updO_same, hz, a, i, hg, by rw [updO_updO, h, e]⟩
theorem lcB_st {α : Type} {env : En} {O : Oh} {T : AE} {R : OV → Oh → Prop} {PJ : PIt} {m : Nat} {A : AT} {vs : List Nat} (n : Nat) (g : α → Oh) (out : α → List OV) (I : Nat → α → Prop) (a0 : α) (h0 : g a0 = O) (ho : out a0 = []) (hI : I 0 a0)
    (hs : ∀ i a D, i < n → I i a → g a D = none → ∃ x, PJ.go i (updO (g a) D (.lst (out a))) x ∧ A ((wipeE env vs).set m (some x)) (updO (g a) D (.lst (out a))) fun b O3 =>
      if b = true then T ((wipeE env vs).set m (some x)) O3 fun y O4 => LcTo g out (I (i + 1)) D y O4 else ∃ a, I (i + 1) a ∧ g a D = none ∧ O3 = updO (g a) D (.lst (out a)))
    (hd : ∀ a D, I n a → g a D = none → PJ.stop n (updO (g a) D (.lst (out a))) ∧ R (.o D) (updO (g a) D (.lst (out a)))) : aLcB PJ (gVar m) A T vs env O R := by
  intro D hD
  refine ⟨fun i k o => ∃ a, I i a ∧ g a D = none ∧ o = updO (g a) D (.lst (out a)) ∧ i + k = n, ⟨n, a0, hI, by rw [h0]; exact hD, by rw [h0, ho], Nat.zero_add _⟩, ?_⟩
  rintro i k o ⟨a, ia, ga, rfl, hk⟩
  by_cases hi : i = n
  · subst hi
    exact .inl (hd a D ia ga)
  · refine .inr ?_
    obtain ⟨x, h1, h2⟩ := hs i a D (by omega) ia ga
    refine ⟨x, h1, ?_⟩
    have e1 : (fun (y : OV) (O4 : Oh) => ∃ acc, O4 D = some (.lst acc) ∧ acc.length < sizeLine ∧ ∃ m', m' < k ∧ ∃ a, I (i + 1) a ∧ g a D = none ∧ updO O4 D (.lst (acc ++ [y])) = updO (g a) D (.lst (out a)) ∧ i + 1 + m' = n) =
        fun y O4 => LcTo g out (I (i + 1)) D y O4 := by
      funext y O4
      apply propext
      constructor
      · rintro ⟨acc, a, b, _, _, as, c, d, e, _⟩
        exact ⟨acc, a, b, as, c, d, e⟩
      · rintro ⟨acc, a, b, as, c, d, e⟩
        exact ⟨acc, a, b, k - 1, by omega, as, c, d, e, by omega⟩
    have e2 : (fun (O3 : Oh) => ∃ m', m' < k ∧ ∃ a, I (i + 1) a ∧ g a D = none ∧ O3 = updO (g a) D (.lst (out a)) ∧ i + 1 + m' = n) = fun O3 => ∃ a, I (i + 1) a ∧ g a D = none ∧ O3 = updO (g a) D (.lst (out a)) := by
      funext O3
      apply propext
      constructor
      · rintro ⟨_, _, as, c, d, e, _⟩
        exact ⟨as, c, d, e⟩
      · rintro ⟨as, c, d, e⟩
        exact ⟨k - 1, by omega, as, c, d, e, by omega⟩
    show A ((wipeE env vs).set m (some x)) (updO (g a) D (.lst (out a))) fun b O3 => if b = true then T ((wipeE env vs).set m (some x)) O3 (fun (y : OV) (O4 : Oh) => ∃ acc, O4 D = some (.lst acc) ∧ acc.length < sizeLine ∧ ∃ m', m' < k ∧ ∃ a, I (i + 1) a ∧ g a D = none ∧ updO O4 D (.lst (acc ++ [y])) = updO (g a) D (.lst (out a)) ∧ i + 1 + m' = n)
        else (fun (O3 : Oh) => ∃ m', m' < k ∧ ∃ a, I (i + 1) a ∧ g a D = none ∧ O3 = updO (g a) D (.lst (out a)) ∧ i + 1 + m' = n) O3
    rw [e1, e2]
    exact h2
theorem w_gtup2 {n : Nat} {Gs : AGs} {a b : PyData} {env : En} {O : Oh} {Q : En → Oh → Prop} (h : 2 = n) (q : Gs [.d a, .d b] env O Q) : agTup n Gs (.d (.tuple [a, b])) env O Q := w_gtup h q
theorem w_gtup3 {n : Nat} {Gs : AGs} {a b c : PyData} {env : En} {O : Oh} {Q : En → Oh → Prop} (h : 3 = n) (q : Gs [.d a, .d b, .d c] env O Q) : agTup n Gs (.d (.tuple [a, b, c])) env O Q := w_gtup h q
def cN (l : List Nat) : List Int := l.map fun (k : Nat) => (k : Int)
theorem cN_len (l : List Nat) : (cN l).length = l.length := by unfold cN; rw [List.length_map]
theorem cN_snoc (l : List Nat) (k : Nat) : Zs (cN l) ++ [dI k] = Zs (cN (l ++ [k])) := by rw [zs_snoc]; unfold cN; rw [List.map_append]; rfl
theorem cN_get {l : List Nat} {k x : Nat} (h : l[k]? = some x) : (cN l)[k]? = some (x : Int) := by unfold cN; rw [List.getElem?_map, h]; rfl
theorem cN_take (l : List Nat) (k : Nat) : (cN l).take k = cN (l.take k) := by unfold cN; rw [List.map_take]
theorem cN_drop (l : List Nat) (k : Nat) : (cN l).drop k = cN (l.drop k) := by unfold cN; rw [List.map_drop]
theorem cN_app (l k : List Nat) : (cN l).map PyData.int ++ (cN k).map PyData.int = (cN (l ++ k)).map PyData.int := by unfold cN; rw [List.map_append, List.map_append]
theorem outF_N (c : Nat → Bool) (i : Nat) : outF c (fun k => .int (k : Int)) i = ((cN ((List.range i).filter c)).map PyData.int).map OV.d := by unfold outF cN; rw [List.map_map, List.map_map, List.map_map]; rfl
theorem rgC_down {i : Nat} (h : i ≤ 100000) : RgC ((i : Int) - 1) (-1) (-1) i := by
  refine ⟨by decide, by decide, ?_, ?_⟩
  · unfold Builtin.Range.small Builtin.Range.rangeSize Builtin.Range.rangeFitsLong
    simp
    omega
  · unfold Builtin.Range.rangeSize
    rw [if_neg (by decide)]
    split
    · rw [show -(-1 : Int) = 1 by rfl, Int.ediv_one]
      omega
    · omega
def RR (rows : List (List Int)) : List OV := (rows.map pR).map OV.d
theorem RR_len (rows : List (List Int)) : (RR rows).length = rows.length := by unfold RR; rw [List.length_map, List.length_map]
theorem RR_set (rows : List (List Int)) (i : Nat) (r : List Int) : (RR rows).set i (.d (pR r)) = RR (rows.set i r) := by unfold RR; rw [List.map_set, List.map_set]
theorem RR_get {rows : List (List Int)} {i : Nat} {r : List Int} (h : rows[i]? = some r) : (RR rows)[i]? = some (.d (pR r)) := by unfold RR; rw [List.getElem?_map, List.getElem?_map, h]; rfl
theorem RR_snoc (rows : List (List Int)) (r : List Int) : RR (rows ++ [r]) = RR rows ++ [.d (pR r)] := by unfold RR; rw [List.map_append, List.map_append]; rfl
theorem mkT_R (rows : List (List Int)) : mkT ((rows.map pR).map OV.d) = dT rows := mkT_map _
theorem hu65 {k : Nat} {A : Around} (r : Room k A) : A.units + 65 < cLine := by have := r.un; omega
theorem kit_ref {K : PySem.W.Frag} {t : Value} {C : Addr} (i : PySem.W.isClsIn K C = true) (ty : PySem.W.typeIn K (.ref C) = some (.type "type")) (s : PySem.W.subIn K t (.ref C) = some true) : PySem.W.kitOne K t (.ref C) = some true := by
  unfold PySem.W.kitOne
  split
  · rfl
  · unfold PySem.W.kitCls
    unfold PySem.W.isClsIn at i
    dsimp only
    rw [if_pos (by rw [ty]; simp [i])]
    exact s
theorem kit_tyE {K : PySem.W.Frag} {t : Value} {T : String} (m : PySem.W.kitMeta T = true) (s : PySem.W.subIn K t (.type T) = some true) : PySem.W.kitOne K t (.type T) = some true := by
  unfold PySem.W.kitOne
  split
  · rfl
  · unfold PySem.W.kitCls
    dsimp only
    rw [if_pos m]
    exact s
end Y
namespace Y
open PySem PySem.Spec L2 HT PyProof.Rows
section
variable {prog : Program} {w : World} {A : Around} {E : Value → Shared → Prop} {s : Shared}
theorem applied_rev {sl : Addr} {vl vu vs : Value} {n : Nat} {Q : Int × Int × Nat → Shared → Prop} (hs : s.heap.IsSliceOf sl vl vu vs) (pl : IsPart vl none) (pu : IsPart vu none) (ps : IsPart vs (some (-1)))
    (h : Q ((n : Int) - 1, -1, n) s) : wpAny (model prog w) A (Builtin.Slice.sliceApplied (.ref sl) (pure (n : Int))) Q E s := by
  obtain ⟨os, hos, hcs, hds⟩ := id hs
  unfold Builtin.Slice.sliceApplied Builtin.Slice.sliceFields
  refine wpAny_bind (wpAny_bind (wpAny_field hos hds (x := vl) rfl (wpAny_bind (wpAny_field hos hds (x := vu) rfl (wpAny_bind (wpAny_field hos hds (x := vs) rfl (wpAny_pure ?_)))))))
  refine wpAny_bind (slicePart_ ps ?_)
  show wpAny _ _ (if ((-1 : Int) == 0) = true then _ else _) _ _ s
  rw [if_neg (by decide)]
  refine wpAny_bind (slicePart_ pl (wpAny_bind (slicePart_ pu (wpAny_bind (wpAny_pure ?_)))))
  show wpAny _ _ (match Builtin.Slice.sliceAdjust none none (-1) (n : Int) with | (lo, hi) => pure (lo, (-1 : Int), Builtin.Slice.slicePlaces lo hi (-1))) _ _ s
  have e : Builtin.Slice.sliceAdjust none none (-1) (n : Int) = ((n : Int) - 1, -1) := by
    simp [Builtin.Slice.sliceAdjust]
  rw [e]
  have e2 : Builtin.Slice.slicePlaces ((n : Int) - 1) (-1) (-1) = n := by
    unfold Builtin.Slice.slicePlaces
    simp
    try omega
  show wpAny _ _ (pure ((n : Int) - 1, (-1 : Int), Builtin.Slice.slicePlaces ((n : Int) - 1) (-1) (-1))) _ _ s
  rw [e2]
  exact wpAny_pure h
theorem pick_rev (xs : Array Value) : ((List.range xs.size).filterMap fun (k : Nat) => xs[(((xs.size : Int) - 1) + (k : Int) * (-1)).toNat]?) = xs.toList.reverse := by
  have e : ∀ n, n ≤ xs.size → ((List.range n).filterMap fun (k : Nat) => xs[(((xs.size : Int) - 1) + (k : Int) * (-1)).toNat]?) = (xs.toList.drop (xs.size - n)).reverse := by
    intro n
    induction n with
    | zero => intro _; simp
    | succ n ih =>
      intro h
      have hlt : xs.size - (n + 1) < xs.toList.length := by rw [Array.length_toList]; omega
      have e1 : (((xs.size : Int) - 1) + (n : Int) * (-1)).toNat = xs.size - (n + 1) := by omega
      rw [List.range_succ, List.filterMap_append, ih (by omega), List.drop_eq_getElem_cons hlt, List.reverse_cons, show xs.size - (n + 1) + 1 = xs.size - n by omega]
      congr 1
      have e2 : xs[xs.size - (n + 1)]? = some (xs.toList[xs.size - (n + 1)]'hlt) := by
        rw [Array.getElem?_eq_getElem (by omega)]
        rfl
      rw [List.filterMap_cons, e1, e2]
      rfl
  have := e xs.size (Nat.le_refl _)
  rwa [Nat.sub_self, List.drop_zero] at this
theorem tup_rev {t sl : Addr} {items : Array Value} {vl vu vs : Value} {Q : Value → Shared → Prop} (ht : IsTup s.heap t items) (hs : s.heap.IsSliceOf sl vl vu vs) (pl : IsPart vl none) (pu : IsPart vu none) (ps : IsPart vs (some (-1)))
    (h : Q (.ref s.heap.objs.size) { s with heap := s.heap.push { cls := .type "tuple", data := .seq items.toList.reverse.toArray } })
    (hsz : items.size ≤ sizeLine) : wpAny (model prog w) A (getItem (.ref t) (.ref sl)) Q E s := by
  have htake : sizeOk (.seq items.toList.reverse.toArray) := by
    show items.toList.reverse.toArray.size ≤ sizeLine
    rw [List.size_toArray, List.length_reverse, Array.length_toList]
    exact hsz
  obtain ⟨os, hos, hcs, hds⟩ := id hs
  have hTs : s.TypeIs (.ref sl) "slice" := ⟨os, hos, hcs⟩
  unfold getItem
  try with_reducible refine wpAny_holding ?_
  first | refine wpAny_bind (wpAny_pure ?_) | skip
  refine wpAny_bind (wpAny_sequenceKey ht.typeIs (by decide) ?_)
  refine wpAny_bind (wpAny_callSpecial?_slot (name := Str.ofString "__getitem__") ht.typeIs PyProof.Rows.slot_tuple_getitem
    (wpAny_call_entry PyProof.Rows.slot_tuple_getitem ht.typeIs entry_tuple_getitem ?_ (args_tuple_getitem _ _)))
  show wpAny _ _ (Builtin.Tuple.tupleItemsOf (.ref t) >>= _) _ _ s
  refine wpAny_bind (tupleItemsOf_ ht ?_)
  refine wpAny_bind (wpAny_typeOf hTs ?_)
  rw [if_pos (by decide)]
  refine wpAny_bind (applied_rev hs pl pu ps ?_)
  have hno : ¬ ((((items.size : Int) - 1) == 0 && (-1 : Int) == 1 && items.size == items.size) = true) := by simp
  show wpAny _ _ (if (((items.size : Int) - 1) == 0 && (-1 : Int) == 1 && items.size == items.size) = true then _ else _) _ _ s
  rw [if_neg hno, pick_rev]
  first
    | exact wpAny_bind (m := Builtin.Tuple.tupleExact _) (wpAny_newObj_type (wpAny_pure ⟨_, rfl, wpAny_pure h⟩) htake)
    | exact wpAny_bind (m := Builtin.Tuple.tupleExact _) (wpAny_newObj_type (wpAny_bind (wpAny_pure (wpAny_pure ⟨_, rfl, wpAny_pure h⟩))) htake)
    | exact wpAny_bind (wpAny_bind (m := Builtin.Tuple.tupleExact _) (wpAny_newObj_type (wpAny_pure (wpAny_pure ⟨_, rfl, wpAny_pure h⟩)) htake))
    | exact wpAny_bind (wpAny_bind (m := Builtin.Tuple.tupleExact _) (wpAny_newObj_type (wpAny_pure ⟨_, rfl, wpAny_pure h⟩) htake))
end
section
variable {X : Cx} {W : WX} {AW : AX}
def tRevT (K : PySem.W.Frag) (te : TE) : TE := fun σ H Q => te σ H fun x H1 => ∃ a xs, x = .ref a ∧ SqT K H1 a xs ∧ ∀ p, H1 p = none → Q (.ref p) (upd H1 p (.tup xs.reverse))
theorem pe_revT {e : Expr} {te : TE} {k : Nat} {p1 p2 p3 pos : Pos} (he : PE X e te) : PE X (.Subscript e (.Slice none none (some (.UnaryOp .USub (.Constant (.int 1) k p1) p2)) p3) pos) (tRevT X.K te) := by
  refine ⟨fun pins s σ H Q I h => ?_⟩
  refine Subscript_ (thn (he.run pins s σ H _ I h) fun v s1 ⟨x, H1, I1, r1, q1⟩ => ?_)
  obtain ⟨a, xs, ex, hx, q⟩ := q1
  subst ex
  cases r1
  have hst : PO X (some (.UnaryOp .USub (.Constant (.int 1) k p1) p2)) (tPart (tUn (rU fun i => .int (-i)) (tC (.int 1)))) := po_some (pe_un un_neg pe_int)
  refine wpAny_Slice (thn (po_none.run pins s1 σ H1 (fun o H2 => o = none ∧ H2 = H1) I1 ⟨rfl, rfl⟩) fun vl s2 ⟨l, H2, I2, pl, el, e2⟩ => ?_)
  subst el e2
  refine thn (po_none.run pins s2 σ H2 (fun o H3 => o = none ∧ H3 = H2) I2 ⟨rfl, rfl⟩) fun vu s3 ⟨u, H3, I3, pu, eu, e3⟩ => ?_
  subst eu e3
  refine thn (hst.run pins s3 σ H3 (fun o H4 => o = some (-1) ∧ H4 = H3) I3 ⟨1, rfl, -1, rfl, rfl, rfl⟩) fun vs s4 ⟨o, H4, I4, ps, eo, e4⟩ => ?_
  subst eo e4
  have I5 : Inv X pins σ H4 { s4 with heap := s4.heap.push { cls := .type "slice", data := .fields #[vl, vu, vs] } } := I4.kept (t' := s4.toks) fun b ob q => Heap.get?_push_of_some _ q
  obtain ⟨its, r, ht, hz⟩ := I5.tuple hx
  have hlen := r.length
  show wpAny (model X.prog X.w) X.A (subscriptTail e (.Slice none none (some (.UnaryOp .USub (.Constant (.int 1) k p1) p2)) p3) (.ref a) (.ref s4.heap.objs.size)) (EP X pins σ Q) X.xe { s4 with heap := s4.heap.push { cls := .type "slice", data := .fields #[vl, vu, vs] } }
  refine tail_any (ops := [.ref a, .ref s4.heap.objs.size]) ht.typeIs (PyProof.Rows.slot_tuple_getitem.lookup) ?_ (by with_unfolding_all rfl)
  refine tup_rev ht (Heap.IsSliceOf.new _ vl vu vs) pl pu ps ?_ (by rw [List.size_toArray]; omega)
  refine ⟨.ref _, _, I5.laid (t' := s4.toks) (o := .tup xs.reverse) (fun b ob q => Heap.get?_push_of_some _ q) (Nat.le_refl _) ?_, rfl, q _ (I5.hok.fresh (Nat.le_refl _))⟩
  exact ⟨by rw [List.length_reverse]; exact hz, _, r.reverse, IsTup.new _ _⟩
def aRevT (T : AE) : AE := fun env O R => T env O fun x O1 => ∃ xs, itemsT x xs ∧ R (mkT xs.reverse) O1
theorem qe_revT {e : Expr} {k : Nat} {p1 p2 p3 pos : Pos} {T : AE} (he : QE X W AW e T) : QE X W AW (.Subscript e (.Slice none none (some (.UnaryOp .USub (.Constant (.int 1) k p1) p2)) p3) pos) (aRevT T) := by
  obtain ⟨t, p, s⟩ := he
  refine ⟨_, pe_revT p, ⟨fun R0 rs xl h q => s.run R0 rs xl h fun x O1 F1 H1 v h1 z1 R1 r1 => ?_⟩⟩
  obtain ⟨xs, hx, h1⟩ := h1
  obtain ⟨a, vs, rfl, h2, h3⟩ := view_t r1 hx
  refine ⟨a, vs, rfl, seqT_mono R1.fz h2, fun l hl => ?_⟩
  obtain ⟨R2, z2, sf⟩ := R1.newF (h := .tup vs.reverse) hl
  exact q _ _ _ _ _ h1 (z1.trans z2) R2 (.mkT (.inl (.inl upd_same)) (h3.reverse.mono sf))
theorem w_revT {env : En} {O : Oh} {T : AE} {R : OV → Oh → Prop} (q : T env O fun x O1 => ∃ xs, itemsT x xs ∧ R (mkT xs.reverse) O1) : aRevT T env O R := q
end
end Y
/-! Y: o[i] op= e, comprehensions of two clauses, constants of the module, whole maps. -/
namespace Y
open PySem PySem.Spec L2 HT PyProof.Rows
section
variable {X : Cx} {W : WX} {AW : AX} {pos : Pos}
theorem get_list : PGet X (rIxL X.K) := by
  intro pins s σ H x y v u Q I rx ry h
  obtain ⟨p, xs, i, z, rfl, rfl, hq, he, q⟩ := h
  cases rx
  obtain ⟨t, rfl⟩ := ry
  obtain ⟨its, r, pl, hz⟩ := I.list hq
  obtain ⟨j, h1, h2, h3, h4, h5⟩ := atI_get he
  obtain ⟨w, ew, rw'⟩ := r.get h2
  have hl := r.length
  have hn := line63
  have fin : EP X pins σ Q w s := ⟨z, H, I, rw', q⟩
  by_cases h0 : 0 ≤ i
  · have hj : i.toNat = j := by
      rw [seqIndex_of h0 h5] at h1
      exact Option.some.inj h1
    exact wpAny_getItem_list pl.isList h0 (by omega) (by rw [hj]; simpa using ew) fin
  · have hj : (i + (its.toArray.size : Int)).toNat = j := by
      rw [seqIndex_neg (by omega) h4] at h1
      rw [List.size_toArray, ← hl]
      exact Option.some.inj h1
    exact wpAny_getItem_list_neg pl.isList (by omega) (by rw [List.size_toArray] <;> omega) (by omega) (by rw [hj]; simpa using ew) fin
/-- o[i] op= e, o an owned list -/
def aAugS (TO TI TE : AE) (g : Int → Int → Int) : AS := fun P env O => TO env O fun o O1 => TI env O1 fun i O2 => ∃ p k j, o = .o p ∧ i = .d (.int k) ∧ (∃ xs n, O2 p = some (.lst xs) ∧ ixN xs.length k = some j ∧ xs[j]? = some (.d (.int n)) ∧
  TE env O2 fun y O3 => ∃ m ys, y = .d (.int m) ∧ O3 p = some (.lst ys) ∧ ys.length = xs.length ∧ P.nx env (updO O3 p (.lst (ys.set j (.d (.int (g n m)))))))
theorem qs_augS {o i e : Expr} {TO TI TE : AE} {op : Operator} {g : Int → Int → Int} {tpos : Pos} (hp : PIp X op (ipI g)) (ho : QE X W AW o TO) (hi : QE X W AW i TI) (he : QE X W AW e TE)
    (ha : ∀ ov iv new, augStore i ov iv new = (do holding [new, ov, iv] (setItem ov iv new); release [new, ov, iv] []; pure .next) := by intros; rfl) : QS X W AW (.AugAssign (.Subscript o i tpos) op e pos) (aAugS TO TI TE g) := by
  obtain ⟨to, po, so⟩ := ho
  obtain ⟨ti, pi, si⟩ := hi
  obtain ⟨te, pe, se⟩ := he
  refine ⟨_, ps_augS po pi get_list pe hp set_list ha, ⟨fun {F O H st env D P} R0 rs xl h l => so.run R0 rs xl h fun x O1 F1 H1 v h1 z1 R1 r1 => si.run R1 (rs.mono z1.fx) (xl.step z1) h1 fun y O2 F2 H2 w h2 z2 R2 r2 => ?_⟩⟩
  obtain ⟨p, k, j, rfl, rfl, xs, n, hl, hj, hn, h2⟩ := h2
  cases r1
  obtain ⟨us, h3, h4⟩ := R2.lst hl
  obtain ⟨vn, e1, rn⟩ := h4.get hn
  refine ⟨p, us, k, vn, rfl, r2.int_inv, .inl (.inl h3), ?_, ?_⟩
  · unfold atI
    rw [← h4.length, hj]
    exact e1
  rw [rn.int_inv]
  refine se.run R2 ((rs.mono z1.fx).mono z2.fx) (xl.step (z1.trans z2)) h2 fun y O3 F3 H3 u h3 z3 R3 r3 => ?_
  obtain ⟨m, ys, rfl, hl3, hlen, h3⟩ := h3
  refine ⟨n, m, rfl, r3.int_inv, ?_⟩
  obtain ⟨ws, h5, h6⟩ := R3.lst hl3
  obtain ⟨R4, z4⟩ := R3.write (o := .lst (ys.set j _)) (h := .lst (ws.set j _)) hl3 ⟨_, rfl, h6.set (.d (.int (g n m))) j⟩
  exact ⟨p, ws, k, j, rfl, r2.int_inv, h5, by rw [← h6.length, hlen]; exact hj, l.nx _ _ _ _ _ h3 (z1.trans (z2.trans (z3.trans z4))) R4 (rs.mono (z1.trans (z2.trans (z3.trans z4))).fx)⟩
/-! ### comprehensions of two clauses -/
def canI (K : PySem.W.Frag) (W : WX) (AW : AX) (T : AI) : TI := fun st H Q => ∃ F O env R, Rep K F O H ∧ RS K F env st ∧ XL K F O H AW W ∧ T env O R ∧ ∀ PJ O' F' H' J, R PJ O' → Step F O H F' O' H' → Rep K F' O' H' → SIt K F' J PJ → Q J H'
theorem si_can {K : PySem.W.Frag} {T : AI} : SI K W AW (canI K W AW T) T := ⟨fun R0 rs xl h q => ⟨_, _, _, _, R0, rs, xl, h, q⟩⟩
theorem pi_can {tg e : Expr} {T : AI} (h : QI X W AW tg e T) : PI X tg e (canI X.K W AW T) := by
  obtain ⟨t, p, s⟩ := h
  exact ⟨fun pins sh st H Q I ⟨F, O, env, R, R0, rs, xl, h, q⟩ => p.run pins sh st H Q I (s.run R0 rs xl h q)⟩
def aLc2B (PJ : PIt) (G : AG) (TT : AT) (WI1 : AI) (G1 : AG) (TT1 : AT) (TE : AE) (vs vs1 : List Nat) : AE := fun env O1 R => ∀ D, O1 D = none → ∃ PW : Nat → Nat → Oh → Prop, (∃ m, PW 0 m (updO O1 D (.lst []))) ∧ ∀ i m O, PW i m O →
  (PJ.stop i O ∧ R (.o D) O) ∨ (∃ x, PJ.go i O x ∧ ∃ Nx : Oh → Prop, (∀ O', Nx O' → ∃ m', m' < m ∧ PW (i + 1) m' O') ∧ G x (wipeE env vs) O fun env2 O2 => TT env2 O2 fun b O3 =>
    if b = true then WI1 env2 O3 fun PJ1 O4 => ∃ PW1 : Nat → Nat → Oh → Prop, (∃ m, PW1 0 m O4) ∧ ∀ j k O, PW1 j k O →
      (PJ1.stop j O ∧ Nx O) ∨ (∃ y, PJ1.go j O y ∧ ∃ Nx1 : Oh → Prop, (∀ O', Nx1 O' → ∃ k', k' < k ∧ PW1 (j + 1) k' O') ∧ G1 y (wipeE env2 vs1) O fun env3 O5 => TT1 env3 O5 fun b O6 =>
        if b = true then TE env3 O6 fun z O7 => ∃ acc, O7 D = some (.lst acc) ∧ acc.length < sizeLine ∧ Nx1 (updO O7 D (.lst (acc ++ [z]))) else Nx1 O6)
    else Nx O3)
def aLc2 (WI : AI) (G : AG) (TT : AT) (WI1 : AI) (G1 : AG) (TT1 : AT) (TE : AE) (vs vs1 : List Nat) : AE := fun env O R => WI env O fun PJ O1 => aLc2B PJ G TT WI1 G1 TT1 TE vs vs1 env O1 R
theorem se_lc2 {K : PySem.W.Frag} {wi wi1 : TI} {g g1 : TG} {tt tt1 : TT} {te : TE} {WI WI1 : AI} {G G1 : AG} {TT TT1 : AT} {TE : AE} {vs vs1 : List Nat} (si : SI K W AW wi WI) (hg : GIn g vs) (hg1 : GIn g1 vs1) (sg : SG K NW NAW g G) (sg1 : SG K NW NAW g1 G1) (stt : ST K NW NAW tt TT) (stt1 : ST K NW NAW tt1 TT1) (si1 : SI K NW NAW wi1 WI1) (se : SE K NW NAW te TE) :
    SE K W AW (tLc2 wi g tt wi1 g1 tt1 te vs vs1) (aLc2 WI G TT WI1 G1 TT1 TE vs vs1) := ⟨fun {F O H st env Q R} R0 rs xl h q => si.run R0 rs xl h fun PJ O1 F1 H1 J h1 z1 R1 sj D hD => by
  obtain ⟨PW, ⟨m0, w0⟩, turn⟩ := h1 D (R1.ofree hD)
  obtain ⟨R2, z2⟩ := R1.newO (o := .lst []) (h := .lst []) hD ⟨_, rfl, .nil⟩
  have xf : ∀ {F : Hp} {O : Oh} {H : Hp}, XL K F O H NAW NW := fun _ _ _ _ _ _ _ z => z.elim
  refine ⟨fun i m H' => ∃ F' O', Step F O H F' O' H' ∧ Rep K F' O' H' ∧ Same F1 F' ∧ PW i m O', ⟨m0, F1, _, z1.trans z2, R2, Same.refl _, w0⟩, ?_⟩
  rintro i m H' ⟨F', O', z3, R3, sf, w⟩
  rcases turn i m O' w with ⟨hs, hq⟩ | ⟨x, hgo, Nx, hNx, ht⟩
  · exact .inl ⟨sj.stop i F' O' H' sf R3 hs, q _ _ _ _ _ hq z3 R3 .o⟩
  · refine .inr ⟨sj.go i F' O' H' x sf R3 hgo, fun H'' => ∃ F' O', Step F O H F' O' H'' ∧ Rep K F' O' H'' ∧ Same F1 F' ∧ Nx O', ?_, fun v H2 y => ?_⟩
    · rintro H'' ⟨F'', O'', a, b, c, d⟩
      obtain ⟨m', hm, d⟩ := hNx _ d
      exact ⟨m', hm, F'', O'', a, b, c, d⟩
    · obtain ⟨F2, z4, R4, r4⟩ := sj.yld i F' O' H' x v H2 sf R3 hgo y
      refine (show g v (L2.wipe st vs) H2 _ from ?_)
      have key := sg.run (Q := fun σ2 H2 => tt σ2 H2 fun b H3 => if b = true then wi1 σ2 H3 fun J1 H4 => ∃ W1 : Nat → Nat → Hp → Prop, (∃ m, W1 0 m H4) ∧ ∀ j k H5, W1 j k H5 →
          (J1.stop j H5 ∧ ∃ F' O', Step F O H F' O' H5 ∧ Rep K F' O' H5 ∧ Same F1 F' ∧ Nx O') ∨ (J1.go j H5 ∧ ∃ Nx1 : Hp → Prop, (∀ H', Nx1 H' → ∃ k', k' < k ∧ W1 (j + 1) k' H') ∧ ∀ x H', J1.yld j H5 x H' → g1 x (wipe σ2 vs1) H' fun σ3 H6 => wipe σ3 vs1 = wipe σ2 vs1 ∧ tt1 σ3 H6 fun b H7 =>
            if b = true then te σ3 H7 fun y H8 => ∃ acc, H8 D = some (.lst acc) ∧ acc.length < sizeLine ∧ Nx1 (upd H8 D (.lst (acc ++ [y]))) else Nx1 H7)
          else ∃ F' O', Step F O H F' O' H3 ∧ Rep K F' O' H3 ∧ Same F1 F' ∧ Nx O')
        R4 ((rs.mono (z3.trans z4).fx).wipes vs) xf r4 ht fun env2 O5 F5 H5 st5 h5 z5 R5 rs5 => stt.run R5 rs5 xf h5 fun b O6 F6 H6 h6 z6 R6 => ?_
      · have := hg v (L2.wipe st vs) H2 _ key
        rw [wipe_wipe] at this
        exact this
      · have z36 := z3.trans (z4.trans (z5.trans z6))
        have sf6 : Same F1 F6 := sf.trans (z4.trans (z5.trans z6)).fx
        cases b with
        | false =>
          rw [if_neg Bool.false_ne_true] at h6 ⊢
          exact ⟨F6, O6, z36, R6, sf6, h6⟩
        | true =>
          rw [if_pos rfl] at h6 ⊢
          have rs6 := rs5.mono z6.fx
          refine si1.run R6 rs6 xf h6 fun PJ1 O7 F7 H7 J1 h7 z7 R7 sj1 => ?_
          obtain ⟨PW1, ⟨k0, p0⟩, turn1⟩ := h7
          have z37 := z36.trans z7
          refine ⟨fun j k H8 => ∃ F' O', Step F O H F' O' H8 ∧ Rep K F' O' H8 ∧ Same F7 F' ∧ PW1 j k O', ⟨k0, F7, O7, z37, R7, Same.refl _, p0⟩, ?_⟩
          rintro j k H8 ⟨F8, O8, z8, R8, sf8, w8⟩
          have sfA : Same F1 F8 := (sf6.trans z7.fx).trans sf8
          rcases turn1 j k O8 w8 with ⟨hs1, hq1⟩ | ⟨y1, hgo1, Nx1, hNx1, ht1⟩
          · exact .inl ⟨sj1.stop j F8 O8 H8 sf8 R8 hs1, F8, O8, z8, R8, sfA, hq1⟩
          · refine .inr ⟨sj1.go j F8 O8 H8 y1 sf8 R8 hgo1, fun H'' => ∃ F' O', Step F O H F' O' H'' ∧ Rep K F' O' H'' ∧ Same F7 F' ∧ Nx1 O', ?_, fun v1 H9 yy => ?_⟩
            · rintro H'' ⟨F'', O'', a, b, c, d⟩
              obtain ⟨m', hm, d⟩ := hNx1 _ d
              exact ⟨m', hm, F'', O'', a, b, c, d⟩
            · obtain ⟨F9, z9, R9, r9⟩ := sj1.yld j F8 O8 H8 y1 v1 H9 sf8 R8 hgo1 yy
              refine (show g1 v1 (L2.wipe st5 vs1) H9 _ from ?_)
              have key1 := sg1.run (Q := fun σ3 H6 => tt1 σ3 H6 fun b H7 => if b = true then te σ3 H7 fun y H8 => ∃ acc, H8 D = some (.lst acc) ∧ acc.length < sizeLine ∧ (∃ F' O', Step F O H F' O' (upd H8 D (.lst (acc ++ [y]))) ∧ Rep K F' O' (upd H8 D (.lst (acc ++ [y]))) ∧ Same F7 F' ∧ Nx1 O') else ∃ F' O', Step F O H F' O' H7 ∧ Rep K F' O' H7 ∧ Same F7 F' ∧ Nx1 O')
                R9 (((rs6.mono (z7.fx.trans sf8)).mono z9.fx).wipes vs1) xf r9 ht1 fun env3 O10 F10 H10 st10 h10 z10 R10 rs10 => stt1.run R10 rs10 xf h10 fun b O11 F11 H11 h11 z11 R11 => ?_
              · have := hg1 v1 (L2.wipe st5 vs1) H9 _ key1
                rw [wipe_wipe] at this
                exact this
              · have zA := z8.trans (z9.trans (z10.trans z11))
                have sfB : Same F7 F11 := sf8.trans (z9.trans (z10.trans z11)).fx
                cases b with
                | false =>
                  rw [if_neg Bool.false_ne_true] at h11 ⊢
                  exact ⟨F11, O11, zA, R11, sfB, h11⟩
                | true =>
                  rw [if_pos rfl] at h11 ⊢
                  refine se.run R11 (rs10.mono z11.fx) xf h11 fun y O12 F12 H12 w12 h12 z12 R12 r12 => ?_
                  obtain ⟨acc, ha, hz, h12⟩ := h12
                  obtain ⟨us, h13, h14⟩ := R12.lst ha
                  obtain ⟨R13, z13⟩ := R12.write (o := .lst (acc ++ [y])) (h := .lst (us ++ [w12])) ha ⟨_, rfl, h14.append (.cons r12 .nil)⟩
                  exact ⟨us, h13, by rw [← h14.length]; exact hz, F12, _, zA.trans (z12.trans z13), R13, sfB.trans (z12.trans z13).fx, h12⟩⟩
theorem qs_setLc2W {i : Nat} {y : Str} {py : Pos} {elt tg iter tg1 iter1 : Expr} {ifs ifs1 : List Expr} {scope : Scope} {own : List (Str × Nat)} {vs1 : List Nat} {pos spos : Pos} {WI WI1 : AI} {G G1 : AG} {TT TT1 : AT} {TE : AE} {g g1 : TG} (hc : X.calm = true) (hN : X.N.Nodup) (hi : QI X W AW tg iter WI) (ok : blkC X.N X.env.scope scope own = true)
    (hv : ∀ i ∈ vs1, i ∈ own.map (·.2)) (hgi : GIn g (own.map (·.2))) (hgi1 : GIn g1 vs1) (sg : SG X.K NW NAW g G) (sg1 : SG X.K NW NAW g1 G1)
    (hg : ∀ (s : Shared) (H : Hp) (C : Addr) (cl : List (Str × Addr)) (fp : List Addr), PG (X.blk s H scope (compEnvC scope cl C X.env) fp) tg g)
    (ht : ∀ (s : Shared) (H : Hp) (C : Addr) (cl : List (Str × Addr)) (fp : List Addr), QTs (X.blk s H scope (compEnvC scope cl C X.env) fp) NW NAW ifs TT)
    (hi1 : ∀ (s : Shared) (H : Hp) (C : Addr) (cl : List (Str × Addr)) (fp : List Addr), QI (X.blk s H scope (compEnvC scope cl C X.env) fp) NW NAW tg1 iter1 WI1)
    (hg1 : ∀ (s : Shared) (H : Hp) (C : Addr) (cl : List (Str × Addr)) (fp : List Addr), PG (X.blk s H scope (compEnvC scope cl C X.env) fp) tg1 g1)
    (ht1 : ∀ (s : Shared) (H : Hp) (C : Addr) (cl : List (Str × Addr)) (fp : List Addr), QTs (X.blk s H scope (compEnvC scope cl C X.env) fp) NW NAW ifs1 TT1)
    (he : ∀ (s : Shared) (H : Hp) (C : Addr) (cl : List (Str × Addr)) (fp : List Addr), QE (X.blk s H scope (compEnvC scope cl C X.env) fp) NW NAW elt TE)
    (hy : X.N[i]? = some y := by rfl) (hyl : X.env.scope.names.lookup y = some .local := by rfl) (hsw : swapsWith (.ListComp elt [⟨tg, iter, ifs, 0⟩, ⟨tg1, iter1, ifs1, 0⟩] scope pos) (some (.Name y py)) spos.line X.env = pure true := by exact sw_true rfl rfl rfl (by decide +kernel)) (hs : ∀ x, foldedSetIterable iter X.env x = pure x := by intro _; rfl) (hs1 : ∀ env x, foldedSetIterable iter1 env x = pure x := by intro _ _; rfl) :
    QS X W AW (.Assign [.Name y py] (.ListComp elt [⟨tg, iter, ifs, 0⟩, ⟨tg1, iter1, ifs1, 0⟩] scope pos) spos) (aSet i (aWk (aLc2 WI G TT WI1 G1 TT1 TE (own.map (·.2)) vs1))) := by
  obtain ⟨wi, pi, si⟩ := hi
  refine ⟨_, ps_setLc2 (te := canE X.K NW NAW TE) (tt := canT X.K NW NAW TT) (tt1 := canT X.K NW NAW TT1) (wi1 := canI X.K NW NAW WI1) hc hN hy hyl hsw pi (blkOk_by ok) hv hg (fun s H C cl fp => pts_can (ht s H C cl fp)) (fun s H C cl fp => pi_can (hi1 s H C cl fp)) hg1 (fun s H C cl fp => pts_can (ht1 s H C cl fp)) (fun s H C cl fp => pe_can (he s H C cl fp)) hs hs1, ⟨fun R rs xl h l => ?_⟩⟩
  exact (se_wk (se_lc2 si hgi hgi1 sg sg1 st_can st_can si_can se_can)).run R rs xl h fun x O1 F1 H1 v h1 z1 R1 r1 => l.nx _ _ _ _ _ h1 z1 R1 ((rs.mono z1.fx).set r1 i)
/-- (a, b, ..) = a list of that length -/
def agUnl (n : Nat) (Gs : AGs) : AG := fun x env O R => ∃ xs, itemsL O x xs ∧ xs.length = n ∧ Gs xs env O R
theorem qg_unl {es : List Expr} {k : Nat} {G : AGs} {n : Nat} (hc : X.calm = true) (h : QGs X W AW es G) (hn : (assignEach es X.env).length = n := by rfl) (hst : (assignEach es X.env).findIdx? (·.1) = none := by rfl) : QG X W AW (.Tuple es k pos) (agUnl n G) := by
  obtain ⟨t, p, s⟩ := h
  refine ⟨_, pg_unl hc p hn hst, ⟨fun R0 rs xl r h q => ?_⟩⟩
  obtain ⟨xs, h1, h2, h3⟩ := h
  obtain ⟨p, vs, rfl, h4, h5⟩ := view_l R0 r h1
  exact ⟨p, vs, rfl, h4, by rw [← h5.length]; exact h2, s.run R0 rs xl h5 h3 q⟩
/-! ### constants of the module -/
def GlobD (K : PySem.W.Frag) (mg : Str → Option Value) (x : Str) (d : PyData) : Prop := ∃ u v, mg x = some u ∧ RelV v u ∧ ∀ F, Dq K F d v
theorem qe_globD {x : Str} {d : PyData} (h : GlobD X.K X.mg x d) (hg : Gl X x := by rfl) (hd : (x == ("__debug__" : Str)) = false := by decide) : QE X W AW (.Name x pos) (aC d) := by
  obtain ⟨u, v, h1, h2, h3⟩ := h
  exact qe_glob hg h1 h2 h3 hd
theorem globD_strs {K : PySem.W.Frag} {mg : Str → Option Value} {x : Str} {a : Addr} {o : Obj} {its : Array Value} {n : Nat} {zs : List Str} (hm : mg x = some (.ref a)) (hl : K.lookup a = some o) (hc : o.cls = .type "tuple") (hd : o.data = .seq its n) (hz : its.size ≤ sizeLine) (hv : Vals (zs.map V.str) its.toList) : GlobD K mg x (.tuple (zs.map PyData.str)) := by
  refine ⟨.ref a, .ref a, hm, rfl, fun F => .tup (vs := zs.map V.str) (.inr ⟨o, its, n, hl, hc, hd, hz, hv⟩) ?_⟩
  clear hv hz
  induction zs with
  | nil => exact .nil
  | cons z zs ih => exact .cons (.str z) ih
theorem globD_int {K : PySem.W.Frag} {mg : Str → Option Value} {x : Str} {i : Int} {t : Tok} (hm : mg x = some (.int i t)) : GlobD K mg x (.int i) := ⟨_, .int i, hm, ⟨t, rfl⟩, fun F => .int i⟩
theorem globD_str {K : PySem.W.Frag} {mg : Str → Option Value} {x : Str} {i : Str} {t : Tok} (hm : mg x = some (.str i t)) : GlobD K mg x (.str i) := ⟨_, .str i, hm, ⟨t, rfl⟩, fun F => .str i⟩
/-- x in xs, strings in a list or a tuple of strings -/
def aInSs (neg : Bool) : AR2 := fun x y O R => ∃ (i : Str) (ns : List Str), x = .d (.str i) ∧ (y = .d (.list (ns.map PyData.str)) ∨ y = .d (.tuple (ns.map PyData.str))) ∧ R (.d (.bool (neg != ns.contains i))) O
theorem DqA.strs_inv {K : PySem.W.Frag} {F : Hp} : ∀ {ns : List Str} {vs : List V}, RVs K F ((ns.map PyData.str).map OV.d) vs → vs = ns.map V.str
  | [], _, .nil => rfl
  | _ :: _, _, .cons (.d (.str _)) hs => by rw [DqA.strs_inv hs]; rfl
theorem flat_strs : ∀ ns : List Str, (ns.map V.str).all flatV = true
  | [] => rfl
  | n :: ns => by rw [List.map_cons, List.all_cons, flat_strs ns]; rfl
theorem inV_strs (i : Str) : ∀ ns : List Str, inV (.str i) (ns.map V.str) = ns.contains i
  | [] => rfl
  | n :: ns => by
    have ih := inV_strs i ns
    unfold inV at ih ⊢
    rw [List.map_cons, List.any_cons, ih, List.contains_cons]
    have e : eqV (.str n) (.str i) = (i == n) := by
      show (n == i) = (i == n)
      exact Bool.beq_comm
    rw [e]
theorem sr_inSs {K : PySem.W.Frag} {neg : Bool} : SR K (rIn K neg) (aInSs neg) := by
  intro F O H x y vx vy Q R R0 rx ry h q
  obtain ⟨i, ns, rfl, hy, h⟩ := h
  rw [rx.str_inv]
  have fin : ∀ p, vy = .ref p → (SqL K H p (ns.map V.str) ∨ SqT K H p (ns.map V.str)) → rIn K neg (.str i) vy H Q := fun p e hs => by
    refine ⟨p, ns.map V.str, e, hs, rfl, flat_strs ns, ?_⟩
    rw [inV_strs]
    have e2 : (if neg = true then !ns.contains i else ns.contains i) = (neg != ns.contains i) := by cases neg <;> cases ns.contains i <;> rfl
    rw [e2]
    exact q _ _ _ _ _ h Step.refl R0 (.d (.bl _))
  rcases hy with rfl | rfl
  · obtain ⟨p, us, rfl, h1, h2⟩ := view_l R0 ry (xs := (ns.map PyData.str).map OV.d) rfl
    rw [DqA.strs_inv h2] at h1
    exact fin p rfl (.inl h1)
  · obtain ⟨p, us, rfl, h1, h2⟩ := view_t ry (xs := (ns.map PyData.str).map OV.d) rfl
    rw [DqA.strs_inv h2] at h1
    exact fin p rfl (.inr (seqT_mono R0.fz h1))
end
section
variable {env : En} {O : Oh} {P : AEnds} {T U V TA TB TC : AE} {R : OV → Oh → Prop} {i j k : Int} {S S2 : AS}
theorem w_augS {TO TI TE : AE} {g : Int → Int → Int} (q : TO env O fun o O1 => TI env O1 fun i O2 => ∃ p k j, o = .o p ∧ i = .d (.int k) ∧ (∃ xs n, O2 p = some (.lst xs) ∧ ixN xs.length k = some j ∧ xs[j]? = some (.d (.int n)) ∧
  TE env O2 fun y O3 => ∃ m ys, y = .d (.int m) ∧ O3 p = some (.lst ys) ∧ ys.length = xs.length ∧ P.nx env (updO O3 p (.lst (ys.set j (.d (.int (g n m)))))))) : aAugS TO TI TE g P env O := q
theorem w_lc2 {WI WI1 : AI} {G G1 : AG} {A A1 : AT} {vs vs1 : List Nat} (q : WI env O fun PJ O1 => aLc2B PJ G A WI1 G1 A1 T vs vs1 env O1 R) : aLc2 WI G A WI1 G1 A1 T vs vs1 env O R := q
theorem w_inSl {neg : Bool} {z : Str} {ns : List Str} (q : R (dB (neg != ns.contains z)) O) : aInSs neg (.d (.str z)) (.d (.list (ns.map PyData.str))) O R := ⟨z, ns, rfl, .inl rfl, q⟩
theorem w_inSt {neg : Bool} {z : Str} {ns : List Str} (q : R (dB (neg != ns.contains z)) O) : aInSs neg (.d (.str z)) (.d (.tuple (ns.map PyData.str))) O R := ⟨z, ns, rfl, .inr rfl, q⟩
theorem w_unl {n : Nat} {Gs : AGs} {ds : List PyData} {Q : En → Oh → Prop} (hn : ds.length = n) (q : Gs (ds.map OV.d) env O Q) : agUnl n Gs (.d (.list ds)) env O Q := ⟨_, rfl, by rw [List.length_map]; exact hn, q⟩
theorem w_unl3 {n : Nat} {Gs : AGs} {a b c : Int} {Q : En → Oh → Prop} (h : 3 = n) (q : Gs [dI a, dI b, dI c] env O Q) : agUnl n Gs (dW [a, b, c]) env O Q := ⟨_, rfl, h, q⟩
theorem min_if (i j : Int) : (if j < i then j else i) = min i j := by split <;> omega
theorem max_if (i j : Int) : (if j > i then j else i) = max i j := by split <;> omega
theorem rgC_dn {a b : Int} {n : Nat} (h : a - b = n ∨ (a ≤ b ∧ n = 0)) (ha : -200000 ≤ a ∧ a ≤ 200000) (hb : -200000 ≤ b ∧ b ≤ 200000) : RgC a b (-1) n := by
  refine ⟨by decide, by decide, ?_, ?_⟩
  · unfold Builtin.Range.small Builtin.Range.rangeSize Builtin.Range.rangeFitsLong
    simp
    omega
  · unfold Builtin.Range.rangeSize
    rw [if_neg (by decide)]
    split
    · rw [show -(-1 : Int) = 1 by rfl, Int.ediv_one]
      omega
    · omega
/-! ### items by getD -/
theorem w_gR {ns : List Int} (k : Nat) (hi : i = (k : Int)) (hk : k < ns.length) (q : R (dI (ns.getD k 0)) O) : aIxT (dR ns) (dI i) O R := w_ixR (atI_n (by omega) (by rw [hi, Int.toNat_natCast, getD_at hk]; exact List.getElem?_eq_getElem hk)) q
theorem w_gW {ns : List Int} (k : Nat) (hi : i = (k : Int)) (hk : k < ns.length) (q : R (dI (ns.getD k 0)) O) : aIxL (dW ns) (dI i) O R := w_ixW (atI_n (by omega) (by rw [hi, Int.toNat_natCast, getD_at hk]; exact List.getElem?_eq_getElem hk)) q
theorem w_gT {ns : List (List Int)} (k : Nat) (hi : i = (k : Int)) (hk : k < ns.length) (q : R (dR (ns.getD k [])) O) : aIxT (dT ns) (dI i) O R := w_ixTT (atI_n (by omega) (by rw [hi, Int.toNat_natCast, getD_at hk]; exact List.getElem?_eq_getElem hk)) q
theorem w_gF {ns : List (List Int)} (k : Nat) (hi : i = (k : Int)) (hk : k < ns.length) (q : R (dW (ns.getD k [])) O) : aIxL (dF ns) (dI i) O R := w_ixF (atI_n (by omega) (by rw [hi, Int.toNat_natCast, getD_at hk]; exact List.getElem?_eq_getElem hk)) q
theorem w_rg {j : Int} {Q : Prop} (h1 : -(2 ^ 62) ≤ j) (h2 : j < 2 ^ 62) (q : Q) : -(2 ^ 62) ≤ j ∧ j < 2 ^ 62 ∧ Q := ⟨h1, h2, q⟩
theorem w_rg2 {i j : Int} {Q : Int → Int → Prop} (h : -(2 ^ 62) ≤ i ∧ i < 2 ^ 62 ∧ -(2 ^ 62) ≤ j ∧ j < 2 ^ 62) (q : Q i j) : ∃ a b : Int, [dI i, dI j] = [dI a, dI b] ∧ (-(2 ^ 62) ≤ a ∧ a < 2 ^ 62 ∧ -(2 ^ 62) ≤ b ∧ b < 2 ^ 62) ∧ Q a b := ⟨i, j, rfl, h, q⟩
theorem w_catW {as bs : List Int} (hz : as.length + bs.length ≤ 1000000) (q : R (dW (as ++ bs)) O) : aCat (dW as) (dW bs) O (frz R) := w_cat (szm (by rw [List.length_map, List.length_map]; exact hz)) (by rw [← List.map_append]; exact frz_all rfl q)
theorem w_catR {as bs : List Int} (hz : as.length + bs.length ≤ 1000000) (q : R (dR (as ++ bs)) O) : aCatT (dR as) (dR bs) O R := w_catT (szm (by rw [List.length_map, List.length_map]; exact hz)) (by rw [← List.map_append]; exact q)
/-- equal data -/
theorem w_eqY {d e : PyData} (n : Nat) (h : Shp n d) (he : e = d) (q : R (dB true) O) (hn : n ≤ 64 := by decide) : aEq false (.d d) (.d e) O R := by
  subst he
  refine w_eq (h.ok hn) (h.ok hn) ?_
  rw [eqv_self h]
  exact q
theorem w_neY {d e : PyData} (n : Nat) (h : Shp n d) (he : e = d) (q : R (dB false) O) (hn : n ≤ 64 := by decide) : aEq true (.d d) (.d e) O R := by
  subst he
  refine w_eq (h.ok hn) (h.ok hn) ?_
  rw [eqv_self h]
  exact q
/-- == of data that are told by == of Lean -/
theorem w_eqN {d e : PyData} (n m : Nat) (h : Shp n d) (h2 : Shp m e) (pd : plain d = true) (pe : plain e = true) (hne : d ≠ e) (q : R (dB false) O) (hn : n ≤ 64 := by decide) (hm : m ≤ 64 := by decide) : aEq false (.d d) (.d e) O R := by
  refine w_eq (h.ok hn) (h2.ok hm) ?_
  rw [show PyData.eqv d e = false by
    cases q : PyData.eqv d e with
    | false => rfl
    | true => exact absurd (eqv_eq _ _ pd pe q) hne]
  exact q
theorem w_neN {d e : PyData} (n m : Nat) (h : Shp n d) (h2 : Shp m e) (pd : plain d = true) (pe : plain e = true) (hne : d ≠ e) (q : R (dB true) O) (hn : n ≤ 64 := by decide) (hm : m ≤ 64 := by decide) : aEq true (.d d) (.d e) O R := by
  refine w_eq (h.ok hn) (h2.ok hm) ?_
  rw [show PyData.eqv d e = false by
    cases q : PyData.eqv d e with
    | false => rfl
    | true => exact absurd (eqv_eq _ _ pd pe q) hne]
  exact q
theorem zs_erase : ∀ (l : List Int) (k : Nat), (Zs l).eraseIdx k = Zs (l.eraseIdx k)
  | [], _ => rfl
  | _ :: _, 0 => rfl
  | a :: l, k + 1 => by
    show dI a :: (Zs l).eraseIdx k = _
    rw [zs_erase l k]
    rfl
/-! ### whole comprehensions: kept are those with c, the items are f -/
def LcC (O : Oh) (D : Addr) (xs : List OV) (b : Bool) (d : PyData) (y : OV) (O4 : Oh) : Prop := LcAt O D (xs ++ if b = true then [.d d] else []) y O4
theorem lc_yes {O : Oh} {D : Addr} {xs : List OV} {b : Bool} {d : PyData} (hz : xs.length < 1000000) (hb : b = true) : LcC O D xs b d (.d d) (updO O D (.lst xs)) := lc_leaf (szlm hz) (by rw [if_pos hb])
theorem lc_no {O : Oh} {D : Addr} {xs : List OV} {b : Bool} {d : PyData} (hb : b = false) : updO O D (.lst xs) = updO O D (.lst (xs ++ if b = true then [.d d] else [])) := by rw [hb]; simp
def outC {α : Type} (c : α → Bool) (f : α → PyData) (l : List α) : List OV := ((l.filter c).map f).map OV.d
theorem outC_snoc {α : Type} (c : α → Bool) (f : α → PyData) (l : List α) (a : α) : outC c f (l ++ [a]) = outC c f l ++ if c a = true then [.d (f a)] else [] := by
  unfold outC
  rw [List.filter_append, List.map_append, List.map_append]
  cases e : c a with
  | true => rw [List.filter_cons_of_pos (by exact e), if_pos rfl]; rfl
  | false => rw [List.filter_cons_of_neg (by rw [e]; exact Bool.false_ne_true), if_neg Bool.false_ne_true]; rfl
theorem outC_len {α : Type} (c : α → Bool) (f : α → PyData) (l : List α) : (outC c f l).length ≤ l.length := by
  unfold outC
  rw [List.length_map, List.length_map]
  exact List.length_filter_le _ _
theorem w_mapL {α : Type} {l : List α} {g : α → PyData} {m : Nat} {A : AT} {vs : List Nat} (c : α → Bool) (f : α → PyData) (hz : l.length ≤ 900000)
    (hs : ∀ (i : Nat) (a : α) (D : Addr) (xs : List OV), l[i]? = some a → xs.length < 1000000 → O D = none → A ((wipeE env vs).set m (some (.d (g a)))) (updO O D (.lst xs)) fun b O3 =>
      if b = true then T ((wipeE env vs).set m (some (.d (g a)))) O3 fun y O4 => LcC O D xs (c a) (f a) y O4 else O3 = updO O D (.lst (xs ++ if c a = true then [.d (f a)] else [])))
    (hd : ∀ D, O D = none → R (.o D) (updO O D (.lst (((l.filter c).map f).map OV.d)))) : aLcB (pitL (.d (.list (l.map g)))) (gVar m) A T vs env O R := by
  refine w_lcL (fun i => outC c f (l.take i)) rfl (fun i d D hd hD => ?_) (fun D hD => by rw [List.length_map, List.take_length]; exact hd D hD)
  rw [List.getElem?_map] at hd
  obtain ⟨a, ha, rfl⟩ := Option.map_eq_some_iff.mp hd
  rw [take_snoc ha, outC_snoc]
  have h1 := outC_len c f (l.take i)
  have h2 := (List.getElem?_eq_some_iff.mp ha).1
  rw [List.length_take] at h1
  exact hs i a D _ ha (by omega) hD
theorem w_mapT {α : Type} {l : List α} {g : α → PyData} {m : Nat} {A : AT} {vs : List Nat} (c : α → Bool) (f : α → PyData) (hz : l.length ≤ 900000)
    (hs : ∀ (i : Nat) (a : α) (D : Addr) (xs : List OV), l[i]? = some a → xs.length < 1000000 → O D = none → A ((wipeE env vs).set m (some (.d (g a)))) (updO O D (.lst xs)) fun b O3 =>
      if b = true then T ((wipeE env vs).set m (some (.d (g a)))) O3 fun y O4 => LcC O D xs (c a) (f a) y O4 else O3 = updO O D (.lst (xs ++ if c a = true then [.d (f a)] else [])))
    (hd : ∀ D, O D = none → R (.o D) (updO O D (.lst (((l.filter c).map f).map OV.d)))) : aLcB (pitT (.d (.tuple (l.map g)))) (gVar m) A T vs env O R := by
  refine w_lcT (fun i => outC c f (l.take i)) rfl (fun i d D hd hD => ?_) (fun D hD => by rw [List.length_map, List.take_length]; exact hd D hD)
  rw [List.getElem?_map] at hd
  obtain ⟨a, ha, rfl⟩ := Option.map_eq_some_iff.mp hd
  rw [take_snoc ha, outC_snoc]
  have h1 := outC_len c f (l.take i)
  have h2 := (List.getElem?_eq_some_iff.mp ha).1
  rw [List.length_take] at h1
  exact hs i a D _ ha (by omega) hD
theorem w_mapR {n m : Nat} {A : AT} {vs : List Nat} (c : Nat → Bool) (f : Nat → PyData) (hz : n ≤ 900000)
    (hs : ∀ (i : Nat) (D : Addr) (xs : List OV), i < n → xs.length < 1000000 → O D = none → A ((wipeE env vs).set m (some (dI i))) (updO O D (.lst xs)) fun b O3 =>
      if b = true then T ((wipeE env vs).set m (some (dI i))) O3 fun y O4 => LcC O D xs (c i) (f i) y O4 else O3 = updO O D (.lst (xs ++ if c i = true then [.d (f i)] else [])))
    (hd : ∀ D, O D = none → R (.o D) (updO O D (.lst ((((List.range n).filter c).map f).map OV.d)))) : aLcB (pitR 0 n) (gVar m) A T vs env O R := by
  refine w_lcR (fun i => outC c f (List.range i)) rfl (fun i D hi hD => ?_) (fun D hD => hd D hD)
  rw [List.range_succ, outC_snoc, Int.zero_add]
  have h1 := outC_len c f (List.range i)
  rw [List.length_range] at h1
  exact hs i D _ hi (by omega) hD
theorem w_mapO {p : Addr} {l : List Int} {m : Nat} {A : AT} {vs : List Nat} (hp : O p = some (.lst (Zs l))) (c : Int → Bool) (f : Int → PyData) (hz : l.length ≤ 900000)
    (hs : ∀ (i : Nat) (a : Int) (D : Addr) (xs : List OV), l[i]? = some a → xs.length < 1000000 → O D = none → A ((wipeE env vs).set m (some (dI a))) (updO O D (.lst xs)) fun b O3 =>
      if b = true then T ((wipeE env vs).set m (some (dI a))) O3 fun y O4 => LcC O D xs (c a) (f a) y O4 else O3 = updO O D (.lst (xs ++ if c a = true then [.d (f a)] else [])))
    (hd : ∀ D, O D = none → R (.o D) (updO O D (.lst (((l.filter c).map f).map OV.d)))) : aLcB (pitL (.o p)) (gVar m) A T vs env O R := by
  refine w_lcO hp (fun i => outC c f (l.take i)) rfl (fun i x D hx hD => ?_) (fun D hD => by rw [zs_len, List.take_length]; exact hd D hD)
  unfold Zs at hx
  rw [List.getElem?_map] at hx
  obtain ⟨a, ha, rfl⟩ := Option.map_eq_some_iff.mp hx
  rw [take_snoc ha, outC_snoc]
  have h1 := outC_len c f (l.take i)
  have h2 := (List.getElem?_eq_some_iff.mp ha).1
  rw [List.length_take] at h1
  exact hs i a D _ ha (by omega) hD
theorem fil_all {α : Type} (l : List α) : (l.filter fun _ => true) = l := List.filter_eq_self.mpr fun _ _ => rfl
end
/-! ### more of lists of owned lists -/
theorem famO_ext {O : Oh} {as as' : List Addr} {ls ls' : List (List Int)} (nd : as.Nodup) (nd' : as'.Nodup) (len : as.length = ls.length) (len' : as'.length = ls'.length) (h : ∀ (i : Nat) (a : Addr) (l : List Int), as[i]? = some a → ls[i]? = some l → ∃ j : Nat, as'[j]? = some a ∧ ls'[j]? = some l)
    (h' : ∀ a ∈ as', a ∈ as) : famO O as ls = famO O as' ls' := by
  funext b
  by_cases hb : b ∈ as
  · obtain ⟨i, hi⟩ := List.getElem?_of_mem hb
    have hi2 := (List.getElem?_eq_some_iff.mp hi).1
    have hl := List.getElem?_eq_getElem (show i < ls.length by omega)
    obtain ⟨j, h1, h2⟩ := h i b _ hi hl
    rw [famO_at nd hi hl, famO_at nd' h1 h2]
  · rw [famO_ne hb, famO_ne fun z => hb (h' b z)]
theorem Fam.swap {O : Oh} {D a b : Addr} {as : List Addr} {ls : List (List Int)} {l k : List Int} {i j : Nat} (f : Fam O D as ls) (hij : i ≠ j) (ha : as[i]? = some a) (hb : as[j]? = some b) (hl : ls[i]? = some l) (hk : ls[j]? = some k) :
    updO (fam O D as ls) D (.lst (((as.map OV.o).set i (.o b)).set j (.o a))) = fam O D ((as.set i b).set j a) ((ls.set i k).set j l) ∧ Fam O D ((as.set i b).set j a) ((ls.set i k).set j l) := by
  have hi1 := (List.getElem?_eq_some_iff.mp ha).1
  have hj1 := (List.getElem?_eq_some_iff.mp hb).1
  have len := f.len
  have ga : ∀ n, ((as.set i b).set j a)[n]? = if n = j then some a else if n = i then some b else as[n]? := fun n => by
    by_cases e : n = j
    · subst e; rw [if_pos rfl, List.getElem?_set_self (by rw [List.length_set]; exact hj1)]
    · rw [if_neg e, List.getElem?_set_ne (Ne.symm e)]
      by_cases e2 : n = i
      · subst e2; rw [if_pos rfl, List.getElem?_set_self hi1]
      · rw [if_neg e2, List.getElem?_set_ne (Ne.symm e2)]
  have gl : ∀ n, ((ls.set i k).set j l)[n]? = if n = j then some l else if n = i then some k else ls[n]? := fun n => by
    by_cases e : n = j
    · subst e; rw [if_pos rfl, List.getElem?_set_self (by rw [List.length_set]; omega)]
    · rw [if_neg e, List.getElem?_set_ne (Ne.symm e)]
      by_cases e2 : n = i
      · subst e2; rw [if_pos rfl, List.getElem?_set_self (by omega)]
      · rw [if_neg e2, List.getElem?_set_ne (Ne.symm e2)]
  have ndx : ∀ n m : Nat, ∀ c, as[n]? = some c → as[m]? = some c → n = m := fun n m c h1 h2 => by
    obtain ⟨q1, e1⟩ := List.getElem?_eq_some_iff.mp h1
    obtain ⟨q2, e2⟩ := List.getElem?_eq_some_iff.mp h2
    exact (List.getElem_inj f.nd).mp (e1.trans e2.symm)
  have mem' : ∀ c ∈ (as.set i b).set j a, c ∈ as := fun c hc => by
    obtain ⟨n, hn⟩ := List.getElem?_of_mem hc
    rw [ga] at hn
    split at hn
    · cases hn; exact List.mem_of_getElem? ha
    · split at hn
      · cases hn; exact List.mem_of_getElem? hb
      · exact List.mem_of_getElem? hn
  have nd' : ((as.set i b).set j a).Nodup := by
    unfold List.Nodup
    rw [List.pairwise_iff_getElem]
    intro n m hn hm hnm e
    have gs : ∀ n, ((as.set i b).set j a)[n]? = as[if n = j then i else if n = i then j else n]? := fun n => by
      rw [ga]
      by_cases e1 : n = j
      · rw [if_pos e1, if_pos e1, ha]
      · rw [if_neg e1, if_neg e1]
        by_cases e2 : n = i
        · rw [if_pos e2, if_pos e2, hb]
        · rw [if_neg e2, if_neg e2]
    have h1 := gs n
    have h2 := gs m
    rw [List.getElem?_eq_getElem hn] at h1
    rw [List.getElem?_eq_getElem hm, ← e] at h2
    have := ndx _ _ _ h1.symm h2.symm
    split at this <;> split at this <;> (try split at this) <;> (try split at this) <;> omega
  have ext := famO_ext (O := O) (ls' := (ls.set i k).set j l) f.nd nd' len (by rw [List.length_set, List.length_set, List.length_set, List.length_set]; exact len) (fun n c q hc hq => by
    by_cases e1 : n = i
    · subst e1
      rw [ha] at hc; rw [hl] at hq; cases hc; cases hq
      exact ⟨j, by rw [ga, if_pos rfl], by rw [gl, if_pos rfl]⟩
    · by_cases e2 : n = j
      · subst e2
        rw [hb] at hc; rw [hk] at hq; cases hc; cases hq
        exact ⟨i, by rw [ga, if_neg hij, if_pos rfl], by rw [gl, if_neg hij, if_pos rfl]⟩
      · exact ⟨n, by rw [ga, if_neg e2, if_neg e1, hc], by rw [gl, if_neg e2, if_neg e1, hq]⟩) mem'
  refine ⟨?_, ⟨nd', by rw [List.length_set, List.length_set, List.length_set, List.length_set]; exact len, fun z => f.dn (mem' D z), f.d0, fun c hc => f.a0 c (mem' c hc)⟩⟩
  unfold fam
  rw [updO_updO, ext, List.map_set, List.map_set]
/-- a stream at p, below a list of lists -/
abbrev st3 (O : Oh) (p : Addr) (s : Int × Int × Int) : Oh := updO O p (.lst (Zs [s.1, s.2.1, s.2.2]))
theorem st3_st {O : Oh} {p D : Addr} {s : Int × Int × Int} {as : List Addr} {gs : List (List Int)} (f : Fam (st3 O p s) D as gs) : Strm (fam (st3 O p s) D as gs) p := ⟨_, _, _, f.sub p _ updO_same⟩
theorem st3_go {O : Oh} {p D : Addr} {s : Int × Int × Int} {as : List Addr} {gs : List (List Int)} (x y z : Int) (f : Fam (st3 O p s) D as gs) : updO (fam (st3 O p s) D as gs) p (.lst (Zs [x, y, z])) = fam (st3 O p (x, y, z)) D as gs ∧ Fam (st3 O p (x, y, z)) D as gs := by
  have := f.upd (p := p) (o := .lst (Zs [x, y, z])) (by unfold st3; rw [updO_same]; nofun)
  rwa [updO_updO] at this
theorem Fam.dat {O : Oh} {D : Addr} {as : List Addr} {ls : List (List Int)} : fam O D as ls D = some (.lst (as.map OV.o)) := updO_same
/-- a list of a list of lists is exchanged for a new one -/
theorem Fam.put {O : Oh} {D a q : Addr} {as : List Addr} {ls : List (List Int)} {l : List Int} {b : Nat} (f : Fam O D as ls) (hq : fam O D as ls q = none) (ha : as[b]? = some a) :
    Fam O D (as.set b q) (ls.set b l) ∧ ∀ x o, fam O D (as.set b q) (ls.set b l) x = some o → updO (updO (fam O D as ls) q (.lst (Zs l))) D (.lst ((as.map OV.o).set b (.o q))) x = some o := by
  have nD : q ≠ D := fun z => by rw [z] at hq; unfold fam at hq; rw [updO_same] at hq; cases hq
  have na : q ∉ as := fun z => by
    obtain ⟨i, hi⟩ := List.getElem?_of_mem z
    have hi2 := (List.getElem?_eq_some_iff.mp hi).1
    rw [f.at hi (List.getElem?_eq_getElem (show i < ls.length by rw [← f.len]; exact hi2))] at hq
    cases hq
  have q0 : O q = none := f.base hq
  have hb1 := (List.getElem?_eq_some_iff.mp ha).1
  have len := f.len
  have mem' : ∀ c ∈ as.set b q, c = q ∨ c ∈ as := fun c hc => by
    rcases List.mem_or_eq_of_mem_set hc with h | h
    · exact .inr h
    · exact .inl h
  have nd' : (as.set b q).Nodup := by
    unfold List.Nodup
    rw [List.pairwise_iff_getElem]
    intro n m hn hm hnm
    rw [List.length_set] at hn hm
    rw [List.getElem_set, List.getElem_set]
    have hp := (List.pairwise_iff_getElem.mp f.nd) n m hn hm hnm
    by_cases e1 : b = n
    · rw [if_pos e1, if_neg (by omega)]
      exact fun z => na (z ▸ List.getElem_mem hm)
    · rw [if_neg e1]
      by_cases e2 : b = m
      · rw [if_pos e2]
        exact fun z => na (z ▸ List.getElem_mem hn)
      · rw [if_neg e2]; exact hp
  have f' : Fam O D (as.set b q) (ls.set b l) := ⟨nd', by rw [List.length_set, List.length_set]; exact len, fun z => by rcases mem' D z with h | h; exact nD h.symm; exact f.dn h, f.d0, fun c hc => by rcases mem' c hc with h | h; (rw [h]; exact q0); exact f.a0 c h⟩
  refine ⟨f', fun x o h => ?_⟩
  by_cases e1 : x = D
  · subst e1
    unfold fam at h
    rw [updO_same, List.map_set] at h
    rw [updO_same]
    exact h
  · rw [updO_ne e1]
    by_cases e2 : x = q
    · subst e2
      rw [f'.at (i := b) (by rw [List.getElem?_set_self hb1]) (by rw [List.getElem?_set_self (by omega)])] at h
      rw [updO_same]
      exact h
    · rw [updO_ne e2]
      by_cases hx : x ∈ as
      · obtain ⟨i, hi⟩ := List.getElem?_of_mem hx
        have hi2 := (List.getElem?_eq_some_iff.mp hi).1
        by_cases e3 : i = b
        · subst e3
          rw [ha] at hi
          have hax : a = x := Option.some.inj hi
          subst hax
          -- the old list is not in the new family
          have hno : a ∉ as.set i q := fun z => by
            obtain ⟨j, hj⟩ := List.getElem?_of_mem z
            have hj1 := (List.getElem?_eq_some_iff.mp hj).1
            rw [List.length_set] at hj1
            by_cases e4 : i = j
            · subst e4
              rw [List.getElem?_set_self hb1] at hj
              cases hj
              exact na hx
            · rw [List.getElem?_set_ne e4] at hj
              obtain ⟨h1, h2⟩ := List.getElem?_eq_some_iff.mp ha
              obtain ⟨h3, h4⟩ := List.getElem?_eq_some_iff.mp hj
              exact e4 ((List.getElem_inj f.nd).mp (h2.trans h4.symm))
          unfold fam at h
          rw [updO_ne e1, famO_ne hno, f.a0 a hx] at h
          cases h
        · have hl := List.getElem?_eq_getElem (show i < ls.length by omega)
          rw [f'.at (i := i) (by rw [List.getElem?_set_ne (Ne.symm e3)]; exact hi) (by rw [List.getElem?_set_ne (Ne.symm e3)]; exact hl)] at h
          rw [f.at hi hl]
          exact h
      · have hno : x ∉ as.set b q := fun z => by rcases mem' x z with h | h; exact e2 h; exact hx h
        unfold fam at h ⊢
        rw [updO_ne e1, famO_ne hno] at h
        rw [updO_ne e1, famO_ne hx]
        exact h
theorem sm_index {K : PySem.W.Frag} : SM K (rIndex K) aIndex := by
  intro F O H x xs v vs Q R R0 rx rs h q
  obtain ⟨ns, k, j, hx, rfl, hj, hno, h⟩ := h
  obtain ⟨w, rfl, rw'⟩ := rvs1 rs
  rw [rw'.int_inv]
  obtain ⟨p, us, rfl, h1, h2⟩ := view_l R0 rx hx
  rw [h2.ints_of] at h1
  have eq1 : ∀ a b : Int, eqV (.int a) (.int b) = (a == b) := fun _ _ => rfl
  refine ⟨p, ns.map V.int, .int k, j, .int k, rfl, rfl, h1, rfl, flat_ints ns, by rw [List.getElem?_map, hj]; rfl, by rw [eq1]; simp, fun m z hm hz => ?_, q _ _ _ _ _ h Step.refl R0 (.d (.int _))⟩
  rw [List.getElem?_map] at hz
  obtain ⟨y, hy, rfl⟩ := Option.map_eq_some_iff.mp hz
  rw [eq1]
  exact beq_eq_false_iff_ne.mpr (hno m y hm hy)
theorem w_indexW {O : Oh} {R : OV → Oh → Prop} {ns : List Int} {k : Int} (h : k ∈ ns) (q : R (dI (ns.idxOf k : Nat)) O) : aIndex (dW ns) [dI k] O R := by
  have hlt := List.idxOf_lt_length_of_mem h
  refine ⟨ns, k, ns.idxOf k, (Zs_eq ns).trans rfl, rfl, by rw [List.getElem?_eq_getElem hlt, List.getElem_idxOf], fun m z hm hz e => ?_, q⟩
  subst e
  obtain ⟨h1, h2⟩ := List.getElem?_eq_some_iff.mp hz
  have := List.not_of_lt_findIdx (p := fun y => y == z) (xs := ns) (i := m) hm
  rw [h2] at this
  simp at this
end Y
/-! the place of the first greater letter of a row -/
namespace Y
def fstGt (row : List Int) (x : Int) : Nat := (row.takeWhile (fun y => decide (y ≤ x))).length
theorem fstGt_le : ∀ (row : List Int) (x : Int), fstGt row x ≤ row.length
  | [], _ => Nat.le_refl 0
  | a :: r, x => by
    have ih := fstGt_le r x
    unfold fstGt at ih ⊢
    rw [List.takeWhile_cons]
    split
    · rw [List.length_cons, List.length_cons]; omega
    · exact Nat.zero_le _
theorem fstGt_nil (x : Int) : fstGt [] x = 0 := rfl
theorem fstGt_cons_le {a x : Int} {r : List Int} (h : a ≤ x) : fstGt (a :: r) x = fstGt r x + 1 := by
  unfold fstGt
  rw [List.takeWhile_cons, if_pos (decide_eq_true h), List.length_cons]
theorem fstGt_cons_gt {a x : Int} {r : List Int} (h : x < a) : fstGt (a :: r) x = 0 := by
  unfold fstGt
  rw [List.takeWhile_cons, if_neg (by simp; omega)]
  rfl
theorem le_of_lt_fstGt : ∀ {row : List Int} {x : Int} {m : Nat} (hm : m < row.length), m < fstGt row x → row[m] ≤ x
  | a :: r, x, m, hm, h => by
    by_cases ha : a ≤ x
    · rw [fstGt_cons_le ha] at h
      cases m with
      | zero => exact ha
      | succ m => exact le_of_lt_fstGt (row := r) (by simpa using hm) (by omega)
    · rw [fstGt_cons_gt (by omega)] at h; omega
theorem gt_at_fstGt : ∀ {row : List Int} {x : Int} (h : fstGt row x < row.length), x < row[fstGt row x]
  | a :: r, x, h => by
    by_cases ha : a ≤ x
    · have e := fstGt_cons_le (r := r) ha
      have h2 : fstGt r x < r.length := by rw [e] at h; simpa using h
      have := gt_at_fstGt h2
      simp only [e, List.getElem_cons_succ]
      exact this
    · have e := fstGt_cons_gt (r := r) (show x < a by omega)
      simp only [e, List.getElem_cons_zero]
      omega
theorem fstGt_le_of {row : List Int} {x : Int} {m : Nat} (hs : row.Pairwise (· ≤ ·)) (hm : m < row.length) (h : x < row[m]) : fstGt row x ≤ m := by
  by_cases q : fstGt row x ≤ m
  · exact q
  · have := le_of_lt_fstGt hm (show m < fstGt row x by omega)
    omega
theorem lt_fstGt_of {row : List Int} {x : Int} {m : Nat} (hs : row.Pairwise (· ≤ ·)) (hm : m < row.length) (h : ¬ x < row[m]) : m + 1 ≤ fstGt row x := by
  by_cases q : m + 1 ≤ fstGt row x
  · exact q
  · have hlt : fstGt row x < row.length := by omega
    have h1 := gt_at_fstGt hlt
    by_cases e : fstGt row x = m
    · subst e; exact absurd h1 h
    · have := List.pairwise_iff_getElem.mp hs (fstGt row x) m hlt hm (by omega)
      omega
/-- the row behind the insertion; what is pushed out -/
def insRow (row : List Int) (x : Int) : List Int × Option Int :=
  if fstGt row x = row.length then (row ++ [x], none) else (row.take (fstGt row x) ++ [x] ++ row.drop (fstGt row x + 1), row[fstGt row x]?)
end Y
/-! insertion by rows, and taking out -/
namespace Y
theorem insRow_none {r : List Int} {x : Int} (h : (insRow r x).2 = none) : fstGt r x = r.length ∧ (insRow r x).1 = r ++ [x] := by
  unfold insRow at h ⊢
  by_cases e : fstGt r x = r.length
  · rw [if_pos e]; exact ⟨e, rfl⟩
  · rw [if_neg e] at h
    have hl := fstGt_le r x
    rw [List.getElem?_eq_getElem (by omega)] at h
    cases h
theorem insRow_some {r : List Int} {x y : Int} (h : (insRow r x).2 = some y) : fstGt r x < r.length ∧ r[fstGt r x]? = some y ∧ (insRow r x).1 = r.set (fstGt r x) x ∧ x < y := by
  unfold insRow at h ⊢
  by_cases e : fstGt r x = r.length
  · rw [if_pos e] at h; cases h
  · rw [if_neg e] at h ⊢
    have hl := fstGt_le r x
    have hlt : fstGt r x < r.length := by omega
    have hg := gt_at_fstGt hlt
    refine ⟨hlt, h, ?_, ?_⟩
    · dsimp only
      rw [List.set_eq_take_append_cons_drop, if_pos hlt, List.append_assoc]
      rfl
    · rw [List.getElem?_eq_getElem hlt] at h
      have := Option.some.inj h
      omega
theorem le_before {r : List Int} {x a : Int} {i : Nat} (hi : i < fstGt r x) (ha : r[i]? = some a) : a ≤ x := by
  obtain ⟨h1, h2⟩ := List.getElem?_eq_some_iff.mp ha
  have := le_of_lt_fstGt h1 hi
  omega
theorem sorted_at {r : List Int} (hs : r.Pairwise (· ≤ ·)) {i j : Nat} {a b : Int} (hij : i ≤ j) (ha : r[i]? = some a) (hb : r[j]? = some b) : a ≤ b := by
  obtain ⟨h1, rfl⟩ := List.getElem?_eq_some_iff.mp ha
  obtain ⟨h2, rfl⟩ := List.getElem?_eq_some_iff.mp hb
  by_cases e : i = j
  · subst e; exact Int.le_refl _
  · exact List.pairwise_iff_getElem.mp hs i j h1 h2 (by omega)
theorem sorted_of {r : List Int} (h : ∀ (i j : Nat) (a b : Int), i < j → r[i]? = some a → r[j]? = some b → a ≤ b) : r.Pairwise (· ≤ ·) :=
  List.pairwise_iff_getElem.mpr fun i j hi hj hij => h i j _ _ hij (List.getElem?_eq_getElem hi) (List.getElem?_eq_getElem hj)
theorem insRow_sorted {r : List Int} {x : Int} (hs : r.Pairwise (· ≤ ·)) : (insRow r x).1.Pairwise (· ≤ ·) := by
  cases h : (insRow r x).2 with
  | none =>
    obtain ⟨h1, h2⟩ := insRow_none h
    rw [h2, List.pairwise_append]
    refine ⟨hs, List.pairwise_singleton _ _, fun a ha b hb => ?_⟩
    rw [List.mem_singleton.mp hb]
    obtain ⟨i, hi, e⟩ := List.getElem_of_mem ha
    exact le_before (show i < fstGt r x by omega) (by rw [List.getElem?_eq_getElem hi, e])
  | some y =>
    obtain ⟨h1, h2, h3, h4⟩ := insRow_some h
    rw [h3]
    refine sorted_of fun i j a b hij ha hb => ?_
    by_cases e1 : fstGt r x = i
    · rw [e1] at ha hb h2 h1
      rw [List.getElem?_set_self h1] at ha
      rw [List.getElem?_set_ne (by omega)] at hb
      cases ha
      have := sorted_at hs (show i ≤ j by omega) h2 hb
      omega
    · rw [List.getElem?_set_ne e1] at ha
      by_cases e2 : fstGt r x = j
      · rw [← e2, List.getElem?_set_self h1] at hb
        cases hb
        exact le_before (by omega) ha
      · rw [List.getElem?_set_ne e2] at hb
        exact sorted_at hs (by omega) ha hb
def insT : List (List Int) → Int → List (List Int)
  | [], x => [[x]]
  | r :: rs, x => match (insRow r x).2 with
    | none => (insRow r x).1 :: rs
    | some y => (insRow r x).1 :: insT rs y
def insC : List (List Int) → Int → Nat × Nat
  | [], _ => (0, 0)
  | r :: rs, x => match (insRow r x).2 with
    | none => (0, r.length)
    | some y => ((insC rs y).1 + 1, (insC rs y).2)
theorem insT_none {r : List Int} {rs : List (List Int)} {x : Int} (h : (insRow r x).2 = none) : insT (r :: rs) x = (insRow r x).1 :: rs := by show (match (insRow r x).2 with | none => _ | some y => _) = _; rw [h]
theorem insT_some {r : List Int} {rs : List (List Int)} {x y : Int} (h : (insRow r x).2 = some y) : insT (r :: rs) x = (insRow r x).1 :: insT rs y := by show (match (insRow r x).2 with | none => _ | some y => _) = _; rw [h]
theorem insC_none {r : List Int} {rs : List (List Int)} {x : Int} (h : (insRow r x).2 = none) : insC (r :: rs) x = (0, r.length) := by show (match (insRow r x).2 with | none => _ | some y => _) = _; rw [h]
theorem insC_some {r : List Int} {rs : List (List Int)} {x y : Int} (h : (insRow r x).2 = some y) : insC (r :: rs) x = ((insC rs y).1 + 1, (insC rs y).2) := by show (match (insRow r x).2 with | none => _ | some y => _) = _; rw [h]
def Fits (u l : List Int) : Prop := l.length ≤ u.length ∧ ∀ (i : Nat) (a b : Int), u[i]? = some a → l[i]? = some b → a < b
def IsT : List (List Int) → Prop
  | [] => True
  | r :: rs => r ≠ [] ∧ r.Pairwise (· ≤ ·) ∧ Fits r (rs.headD []) ∧ IsT rs
theorem insT_head : ∀ {rs : List (List Int)} {y : Int}, (insT rs y).headD [] = (insRow (rs.headD []) y).1
  | [], y => rfl
  | r :: rs, y => by
    cases h : (insRow r y).2 with
    | none => rw [insT_none h]; rfl
    | some z => rw [insT_some h]; rfl
theorem fits_ins {u l : List Int} {x y : Int} (hu : u[fstGt u x]? = some y) (hxy : x < y) (hl : l.Pairwise (· ≤ ·)) (hf : Fits u l) : Fits (u.set (fstGt u x) x) (insRow l y).1 := by
  have hp := (List.getElem?_eq_some_iff.mp hu).1
  have hql := fstGt_le l y
  have hq : fstGt l y ≤ fstGt u x := by
    by_cases h : fstGt u x < l.length
    · have := hf.2 _ _ _ hu (List.getElem?_eq_getElem h)
      exact fstGt_le_of hl h this
    · omega
  have atq : ∀ a, (u.set (fstGt u x) x)[fstGt l y]? = some a → a < y := fun a ha => by
    by_cases e : fstGt u x = fstGt l y
    · rw [← e, List.getElem?_set_self hp] at ha
      cases ha
      exact hxy
    · rw [List.getElem?_set_ne e] at ha
      have := le_before (show fstGt l y < fstGt u x by omega) ha
      omega
  have off : ∀ (i : Nat) (a b : Int), (u.set (fstGt u x) x)[i]? = some a → l[i]? = some b → a < b := fun i a b ha hb => by
    by_cases e : fstGt u x = i
    · rw [e] at hu hp ha
      rw [List.getElem?_set_self hp] at ha
      cases ha
      have := hf.2 i _ _ hu hb
      omega
    · rw [List.getElem?_set_ne e] at ha
      exact hf.2 i _ _ ha hb
  cases h : (insRow l y).2 with
  | none =>
    obtain ⟨h1, h2⟩ := insRow_none h
    rw [h2]
    refine ⟨by rw [List.length_append, List.length_set]; show l.length + 1 ≤ _; omega, fun i a b ha hb => ?_⟩
    by_cases hi : i < l.length
    · rw [List.getElem?_append_left hi] at hb
      exact off i a b ha hb
    · have hi2 : i = fstGt l y := by
        have := (List.getElem?_eq_some_iff.mp hb).1
        rw [List.length_append] at this
        simp at this
        omega
      rw [hi2] at ha hb
      rw [h1, List.getElem?_append_right (Nat.le_refl _), Nat.sub_self] at hb
      have hb : some y = some b := hb
      cases hb
      exact atq a ha
  | some z =>
    obtain ⟨h1, h2, h3, h4⟩ := insRow_some h
    rw [h3]
    refine ⟨by rw [List.length_set, List.length_set]; exact hf.1, fun i a b ha hb => ?_⟩
    by_cases e : fstGt l y = i
    · rw [← e] at ha hb
      rw [List.getElem?_set_self h1] at hb
      cases hb
      exact atq a ha
    · rw [List.getElem?_set_ne e] at hb
      exact off i a b ha hb
theorem head_sorted {rs : List (List Int)} (h : IsT rs) : (rs.headD []).Pairwise (· ≤ ·) := by
  cases rs with
  | nil => exact List.Pairwise.nil
  | cons r rs => exact h.2.1
theorem isT_ins : ∀ {rows : List (List Int)} {x : Int}, IsT rows → IsT (insT rows x)
  | [], x, _ => ⟨by simp, List.pairwise_singleton _ _, ⟨Nat.zero_le _, fun i a b _ hb => by simp at hb⟩, trivial⟩
  | r :: rs, x, ⟨h1, h2, h3, h4⟩ => by
    have hs := insRow_sorted (x := x) h2
    cases h : (insRow r x).2 with
    | none =>
      rw [insT_none h]
      refine ⟨by rw [(insRow_none h).2]; simp, hs, ?_, h4⟩
      rw [(insRow_none h).2]
      refine ⟨by rw [List.length_append]; have := h3.1; omega, fun i a b ha hb => ?_⟩
      have hb2 := (List.getElem?_eq_some_iff.mp hb).1
      have := h3.1
      rw [List.getElem?_append_left (by omega)] at ha
      exact h3.2 i a b ha hb
    | some y =>
      obtain ⟨g1, g2, g3, g4⟩ := insRow_some h
      rw [insT_some h]
      refine ⟨by rw [g3]; intro z; have := congrArg List.length z; rw [List.length_set] at this; simp at this; exact h1 this, hs, ?_, isT_ins h4⟩
      rw [insT_head, g3]
      exact fits_ins g2 g4 (head_sorted h4) h3
theorem isT_rows : ∀ {rows : List (List Int)}, IsT rows → ∀ r ∈ rows, r ≠ [] ∧ r.Pairwise (· ≤ ·)
  | r :: rs, ⟨h1, h2, _, h4⟩, k, hk => by
    rcases List.mem_cons.mp hk with e | e
    · subst e; exact ⟨h1, h2⟩
    · exact isT_rows h4 k e
/-- how the shape grows -/
theorem insT_shape : ∀ {rows : List (List Int)} {x : Int}, (insC rows x).1 ≤ rows.length ∧ (insC rows x).2 = (rows.getD (insC rows x).1 []).length ∧ (insT rows x).length = max rows.length ((insC rows x).1 + 1) ∧ ∀ k, ((insT rows x).getD k []).length = (rows.getD k []).length + if k = (insC rows x).1 then 1 else 0
  | [], x => ⟨Nat.le_refl _, rfl, rfl, fun k => by cases k <;> simp [insT, insC]⟩
  | r :: rs, x => by
    cases h : (insRow r x).2 with
    | none =>
      rw [insT_none h, insC_none h, (insRow_none h).2]
      refine ⟨Nat.zero_le _, rfl, by simp, fun k => ?_⟩
      cases k <;> simp
    | some y =>
      obtain ⟨a, b, c, d⟩ := insT_shape (rows := rs) (x := y)
      rw [insT_some h, insC_some h, (insRow_some h).2.2.1]
      refine ⟨by simp <;> omega, by simp <;> exact b, by simp [c] <;> omega, fun k => ?_⟩
      cases k with
      | zero => simp
      | succ k => simpa using d k
/-- the table of a word -/
def tab (w : List Int) : List (List Int) := w.foldl insT []
theorem tab_snoc (w : List Int) (x : Int) : tab (w ++ [x]) = insT (tab w) x := by unfold tab; rw [List.foldl_append]; rfl
theorem isT_tab (w : List Int) : IsT (tab w) := by
  unfold tab
  have : ∀ (w : List Int) (rows : List (List Int)), IsT rows → IsT (w.foldl insT rows) := by
    intro w
    induction w with
    | nil => exact fun _ h => h
    | cons x w ih => exact fun rows h => ih _ (isT_ins h)
  exact this w [] trivial
theorem sum_ins : ∀ {rows : List (List Int)} {x : Int}, ((insT rows x).map List.length).sum = (rows.map List.length).sum + 1
  | [], x => rfl
  | r :: rs, x => by
    cases h : (insRow r x).2 with
    | none =>
      rw [insT_none h, (insRow_none h).2]
      simp
      omega
    | some y =>
      rw [insT_some h, (insRow_some h).2.2.1]
      simp [sum_ins]
      omega
theorem sum_tab (w : List Int) : ((tab w).map List.length).sum = w.length := by
  have : ∀ (w : List Int) (rows : List (List Int)), ((w.foldl insT rows).map List.length).sum = (rows.map List.length).sum + w.length := by
    intro w
    induction w with
    | nil => exact fun _ => rfl
    | cons x w ih => exact fun rows => by rw [List.foldl_cons, ih, sum_ins, List.length_cons]; omega
  have := this w []
  simpa [tab] using this
theorem len_sum : ∀ {rows : List (List Int)}, (∀ r ∈ rows, r ≠ []) → rows.length ≤ (rows.map List.length).sum
  | [], _ => Nat.le_refl _
  | r :: rs, h => by
    have := len_sum (rows := rs) fun k hk => h k (List.mem_cons_of_mem _ hk)
    have h1 := List.length_pos_iff.mpr (h r List.mem_cons_self)
    simp
    omega
theorem mem_sum : ∀ {rows : List (List Int)} {r : List Int}, r ∈ rows → r.length ≤ (rows.map List.length).sum
  | k :: rs, r, h => by
    rcases List.mem_cons.mp h with e | e
    · subst e; simp
    · have := mem_sum e
      simp
      omega
/-- the number of the letters of a sorted row that are less -/
def cntLess (row : List Int) (x : Int) : Nat := (row.takeWhile (fun y => decide (y < x))).length
theorem cntLess_eq : ∀ (row : List Int) (x : Int), cntLess row x = fstGt row (x - 1)
  | [], _ => rfl
  | a :: r, x => by
    have ih := cntLess_eq r x
    unfold cntLess fstGt at ih ⊢
    rw [List.takeWhile_cons, List.takeWhile_cons]
    by_cases h : a < x
    · rw [if_pos (decide_eq_true h), if_pos (decide_eq_true (by omega)), List.length_cons, List.length_cons, ih]
    · rw [if_neg (by simpa using h), if_neg (by simp; omega)]
def tak : List (List Int) → Nat → List (List Int) × Int
  | [], _ => ([], 0)
  | r :: rs, 0 => (r.dropLast :: rs, r.getLastD 0)
  | r :: rs, i + 1 => (r.set (cntLess r (tak rs i).2 - 1) (tak rs i).2 :: (tak rs i).1, r.getD (cntLess r (tak rs i).2 - 1) 0)
def takOk : List (List Int) → Nat → Prop
  | [], _ => False
  | r :: rs, 0 => r ≠ []
  | r :: rs, i + 1 => takOk rs i ∧ r.Pairwise (· ≤ ·) ∧ 0 < cntLess r (tak rs i).2
theorem cntLess_set {r : List Int} {x y : Int} (hs : r.Pairwise (· ≤ ·)) (h : r[fstGt r x]? = some y) (hxy : x < y) : cntLess (r.set (fstGt r x) x) y = fstGt r x + 1 := by
  have hp := (List.getElem?_eq_some_iff.mp h).1
  rw [cntLess_eq]
  have hl := fstGt_le (r.set (fstGt r x) x) (y - 1)
  rw [List.length_set] at hl
  have lo : fstGt r x + 1 ≤ fstGt (r.set (fstGt r x) x) (y - 1) := by
    by_cases q : fstGt r x + 1 ≤ fstGt (r.set (fstGt r x) x) (y - 1)
    · exact q
    · exfalso
      have hlt : fstGt (r.set (fstGt r x) x) (y - 1) < (r.set (fstGt r x) x).length := by rw [List.length_set]; omega
      obtain ⟨z, hz, hg⟩ : ∃ z, (r.set (fstGt r x) x)[fstGt (r.set (fstGt r x) x) (y - 1)]? = some z ∧ y - 1 < z := ⟨_, List.getElem?_eq_getElem hlt, gt_at_fstGt hlt⟩
      by_cases em : fstGt r x = fstGt (r.set (fstGt r x) x) (y - 1)
      · rw [← em, List.getElem?_set_self hp] at hz
        have := Option.some.inj hz
        omega
      · rw [List.getElem?_set_ne em] at hz
        have := le_before (show fstGt (r.set (fstGt r x) x) (y - 1) < fstGt r x by omega) hz
        omega
  have up : fstGt (r.set (fstGt r x) x) (y - 1) ≤ fstGt r x + 1 := by
    by_cases q : fstGt (r.set (fstGt r x) x) (y - 1) ≤ fstGt r x + 1
    · exact q
    · exfalso
      have hm : fstGt r x + 1 < (r.set (fstGt r x) x).length := by rw [List.length_set]; omega
      have := le_of_lt_fstGt hm (show fstGt r x + 1 < fstGt (r.set (fstGt r x) x) (y - 1) by omega)
      have e := List.getElem?_eq_getElem hm
      rw [List.getElem?_set_ne (by omega)] at e
      have := sorted_at hs (Nat.le_succ _) h e
      omega
  omega
theorem tak_ins : ∀ {rows : List (List Int)} {x : Int}, (∀ r ∈ rows, r ≠ [] ∧ r.Pairwise (· ≤ ·)) → takOk (insT rows x) (insC rows x).1 ∧ (tak (insT rows x) (insC rows x).1).2 = x ∧ (tak (insT rows x) (insC rows x).1).1.filter (fun r => !r.isEmpty) = rows
  | [], x, _ => ⟨by show [x] ≠ []; simp, rfl, rfl⟩
  | r :: rs, x, h => by
    have hfil : (rs.filter fun r => !r.isEmpty) = rs := List.filter_eq_self.mpr fun k hk => by
      have := (h k (List.mem_cons_of_mem _ hk)).1
      cases k with
      | nil => exact absurd rfl this
      | cons _ _ => rfl
    have hr := h r List.mem_cons_self
    have hre : (fun r : List Int => !r.isEmpty) r = true := by
      cases r with
      | nil => exact absurd rfl hr.1
      | cons _ _ => rfl
    cases e : (insRow r x).2 with
    | none =>
      rw [insT_none e, insC_none e, (insRow_none e).2]
      refine ⟨by show r ++ [x] ≠ []; simp, by show (r ++ [x]).getLastD 0 = x; simp, ?_⟩
      show ((r ++ [x]).dropLast :: rs).filter _ = _
      rw [List.dropLast_concat, List.filter_cons_of_pos (p := fun r : List Int => !r.isEmpty) hre, hfil]
    | some y =>
      obtain ⟨g1, g2, g3, g4⟩ := insRow_some e
      obtain ⟨i1, i2, i3⟩ := tak_ins (rows := rs) (x := y) fun k hk => h k (List.mem_cons_of_mem _ hk)
      have hc := cntLess_set hr.2 g2 g4
      have hso := insRow_sorted (x := x) hr.2
      rw [insT_some e, insC_some e, g3]
      rw [g3] at hso
      refine ⟨⟨i1, hso, by rw [i2, hc]; omega⟩, ?_, ?_⟩
      · show (r.set (fstGt r x) x).getD (cntLess (r.set (fstGt r x) x) (tak (insT rs y) (insC rs y).1).2 - 1) 0 = x
        rw [i2, hc, Nat.add_sub_cancel, List.getD_eq_getElem?_getD, List.getElem?_set_self g1]
        rfl
      · show ((r.set (fstGt r x) x).set (cntLess (r.set (fstGt r x) x) (tak (insT rs y) (insC rs y).1).2 - 1) (tak (insT rs y) (insC rs y).1).2 :: (tak (insT rs y) (insC rs y).1).1).filter _ = _
        rw [i2, hc, Nat.add_sub_cancel, List.set_set]
        have : r.set (fstGt r x) y = r := by
          refine List.ext_getElem? fun j => ?_
          by_cases ej : fstGt r x = j
          · rw [← ej, List.getElem?_set_self g1, g2]
          · rw [List.getElem?_set_ne ej]
        rw [this, List.filter_cons_of_pos (p := fun r : List Int => !r.isEmpty) hre, i3]
theorem takOk_drop : ∀ {q : Nat} {rows : List (List Int)} {i : Nat}, q ≤ i → takOk rows i → takOk (rows.drop q) (i - q)
  | 0, rows, i, _, h => h
  | q + 1, [], i, _, h => by cases i <;> exact h.elim
  | q + 1, r :: rs, 0, hq, _ => by omega
  | q + 1, r :: rs, i + 1, hq, h => by
    rw [List.drop_succ_cons, Nat.succ_sub_succ]
    exact takOk_drop (by omega) h.1
theorem tak_len : ∀ {rows : List (List Int)} {i : Nat}, (tak rows i).1.length = rows.length
  | [], _ => rfl
  | r :: rs, 0 => rfl
  | r :: rs, i + 1 => by
    show ((tak rs i).1.length + 1) = _
    rw [tak_len]
    rfl
theorem filter_le_len : ∀ {l : List Int} {y : Int}, l.Pairwise (· ≤ ·) → (l.filter fun t => decide (t ≤ y)).length = fstGt l y
  | [], _, _ => rfl
  | a :: r, y, h => by
    have h2 := List.pairwise_cons.mp h
    by_cases e : a ≤ y
    · rw [fstGt_cons_le e, List.filter_cons_of_pos (by simpa using e), List.length_cons, filter_le_len h2.2]
    · rw [fstGt_cons_gt (by omega), List.filter_cons_of_neg (by simpa using e)]
      have : (r.filter fun t => decide (t ≤ y)) = [] := by
        rw [List.filter_eq_nil_iff]
        intro t ht
        have := h2.1 t ht
        simp
        omega
      rw [this]
      rfl
theorem cut_mid {α : Type} {A B : List α} {r : α} {i : Nat} (h : A.length = i) : (A ++ r :: B).take (i + 1) = A ++ [r] ∧ (A ++ r :: B).drop (i + 1) = B := by
  subst h
  constructor
  · rw [List.take_append, List.take_of_length_le (Nat.le_succ _), Nat.add_sub_cancel_left]
    rfl
  · rw [List.drop_append, List.drop_eq_nil_of_le (Nat.le_succ _), Nat.add_sub_cancel_left]
    rfl
theorem tab_rows (ws : List Int) {n : Nat} (h : ws.length ≤ n) : (∀ r ∈ tab ws, r.Pairwise (· ≤ ·) ∧ r.length ≤ n) ∧ (tab ws).length ≤ n := by
  have hT := isT_rows (isT_tab ws)
  have hs := sum_tab ws
  refine ⟨fun r hr => ⟨(hT r hr).2, ?_⟩, ?_⟩
  · have := mem_sum hr
    omega
  · have := len_sum fun r hr => (hT r hr).1
    omega
theorem isT_dec : ∀ {rows : List (List Int)} {k : Nat}, IsT rows → (rows.getD (k + 1) []).length ≤ (rows.getD k []).length
  | [], k, _ => by simp
  | [r], 0, _ => by simp
  | r :: s :: rs, 0, h => by simpa using h.2.2.1.1
  | r :: rs, k + 1, h => by simpa using isT_dec (rows := rs) (k := k) h.2.2.2
theorem fil_eq {n i : Nat} (h : i < n) : (List.range n).filter (fun k => decide (k = i)) = [i] := by
  induction n with
  | zero => omega
  | succ n ih =>
    rw [List.range_succ, List.filter_append]
    by_cases e : i = n
    · subst e
      have : (List.range i).filter (fun k => decide (k = i)) = [] := by
        rw [List.filter_eq_nil_iff]
        intro k hk
        have := List.mem_range.mp hk
        simp
        omega
      rw [this]
      simp
    · rw [ih (by omega), List.filter_cons_of_neg (by simp; omega)]
      rfl
def oldL (rows : List (List Int)) : List Int := rows.map (fun r => (r.length : Int)) ++ [0]
theorem oldL_at {rows : List (List Int)} {k : Nat} (h : k ≤ rows.length) : (oldL rows)[k]? = some ((rows.getD k []).length : Int) := by
  unfold oldL
  by_cases hk : k < rows.length
  · rw [List.getElem?_append_left (by rw [List.length_map]; exact hk), List.getElem?_map, List.getElem?_eq_getElem hk, List.getD_eq_getElem?_getD, List.getElem?_eq_getElem hk]
    rfl
  · have : k = rows.length := by omega
    subst this
    rw [List.getElem?_append_right (by rw [List.length_map]; exact Nat.le_refl _), List.length_map, Nat.sub_self, List.getD_eq_getElem?_getD, List.getElem?_eq_none (Nat.le_refl _)]
    rfl
/-- taking a corner out, and putting it in again -/
theorem tak_in : ∀ {s : List Int} {rs : List (List Int)} {i : Nat}, takOk (s :: rs) i → True ∧ ∃ q : Nat, s[q]? = some (tak (s :: rs) i).2
  | s, rs, 0, h => by
    refine ⟨trivial, s.length - 1, ?_⟩
    have h : s ≠ [] := h
    have hl := List.length_pos_iff.mpr h
    show _ = some (s.getLastD 0)
    rw [List.getElem?_eq_getElem (by omega), List.getLastD_eq_getLast?, List.getLast?_eq_getLast h, List.getLast_eq_getElem]
    rfl
  | s, rs, i + 1, h => by
    have hc : cntLess s (tak rs i).2 ≤ s.length := by rw [cntLess_eq]; exact fstGt_le _ _
    have h2 := h.2.2
    refine ⟨trivial, cntLess s (tak rs i).2 - 1, ?_⟩
    show _ = some (s.getD (cntLess s (tak rs i).2 - 1) 0)
    rw [List.getD_eq_getElem?_getD, List.getElem?_eq_getElem (by omega)]
    rfl
theorem ins_tak : ∀ {rows : List (List Int)} {i : Nat}, IsT rows → i < rows.length → (rows.getD (i + 1) []).length < (rows.getD i []).length →
    takOk rows i ∧ insT ((tak rows i).1.filter fun r => !r.isEmpty) (tak rows i).2 = rows ∧ (∀ r ∈ (tak rows i).1, r.Pairwise (· ≤ ·)) ∧ ∀ k, ((tak rows i).1.getD k []).length = (rows.getD k []).length - if k = i then 1 else 0
  | r :: rs, 0, h, _, hc => by
    obtain ⟨h1, h2, h3, h4⟩ := h
    have hrs := isT_rows h4
    have hfil : (rs.filter fun r => !r.isEmpty) = rs := List.filter_eq_self.mpr fun k hk => by
      have := (hrs k hk).1
      cases k with
      | nil => exact absurd rfl this
      | cons _ _ => rfl
    have hsp : r = r.dropLast ++ [r.getLast h1] := (List.dropLast_concat_getLast h1).symm
    have hgl : r.getLastD 0 = r.getLast h1 := by rw [List.getLastD_eq_getLast?, List.getLast?_eq_getLast h1]; rfl
    have hds : r.dropLast.Pairwise (· ≤ ·) := h2.sublist (List.dropLast_sublist _)
    refine ⟨h1, ?_, ?_, ?_⟩
    · show insT ((r.dropLast :: rs).filter _) (r.getLastD 0) = _
      rw [hgl]
      cases e : r.dropLast with
      | nil =>
        have hl : r.length = 1 := by have := congrArg List.length e; rw [List.length_dropLast] at this; have := List.length_pos_iff.mpr h1; simp at *; omega
        have hn : rs = [] := by
          cases rs with
          | nil => rfl
          | cons s t =>
            have a := List.length_pos_iff.mpr (hrs s List.mem_cons_self).1
            have hc : s.length < r.length := by simpa using hc
            omega
        subst hn
        rw [List.filter_cons_of_neg (by simp), List.filter_nil]
        show [[r.getLast h1]] = [r]
        conv => rhs; rw [hsp, e]
        rfl
      | cons a d =>
        rw [List.filter_cons_of_pos (p := fun r : List Int => !r.isEmpty) rfl, hfil, ← e]
        have hall : ∀ t ∈ r.dropLast, t ≤ r.getLast h1 := by
          rw [hsp, List.pairwise_append] at h2
          intro t ht
          exact h2.2.2 t ht _ (List.mem_singleton.mpr rfl)
        have hf : fstGt r.dropLast (r.getLast h1) = r.dropLast.length := by
          have hle := fstGt_le r.dropLast (r.getLast h1)
          by_cases q : fstGt r.dropLast (r.getLast h1) < r.dropLast.length
          · have := gt_at_fstGt q
            have := hall _ (List.getElem_mem q)
            omega
          · omega
        have hn : (insRow r.dropLast (r.getLast h1)).2 = none := by unfold insRow; rw [if_pos hf]
        rw [insT_none hn, (insRow_none hn).2, ← hsp]
    · intro k hk
      have hk : k ∈ r.dropLast :: rs := hk
      rcases List.mem_cons.mp hk with z | z
      · rw [z]; exact hds
      · exact (hrs k z).2
    · intro k
      show (((r.dropLast :: rs).getD k []).length) = _
      cases k with
      | zero => simp
      | succ k => simp
  | r :: rs, i + 1, h, hi, hc => by
    obtain ⟨h1, h2, h3, h4⟩ := h
    obtain ⟨i1, i2, i3, i4⟩ := ins_tak (rows := rs) (i := i) h4 (by simpa using hi) (by simpa using hc)
    obtain ⟨s, t, hst⟩ : ∃ s t, rs = s :: t := by
      cases rs with
      | nil => exact absurd hi (by simp)
      | cons s t => exact ⟨s, t, rfl⟩
    obtain ⟨q, hq⟩ : ∃ q : Nat, s[q]? = some (tak rs i).2 := by rw [hst] at i1 ⊢; exact (tak_in i1).2
    have hsq := (List.getElem?_eq_some_iff.mp hq).1
    have hf : Fits r s := by rw [hst] at h3; exact h3
    have hql : q < r.length := by have := hf.1; omega
    have hrq := hf.2 q _ _ (List.getElem?_eq_getElem hql) hq
    generalize hy : (tak rs i).2 = y at hq hrq i2
    have hcl : cntLess r y = fstGt r (y - 1) := cntLess_eq r y
    have hq1 : q + 1 ≤ fstGt r (y - 1) := lt_fstGt_of h2 hql (by omega)
    have hfl := fstGt_le r (y - 1)
    have hp : cntLess r y - 1 < r.length := by omega
    generalize hpp : cntLess r y - 1 = p at hp
    have hpe : fstGt r (y - 1) = p + 1 := by omega
    have hrp := le_of_lt_fstGt hp (show p < fstGt r (y - 1) by omega)
    have grp := List.getElem?_eq_getElem hp
    have hnx : ∀ (j : Nat) (b : Int), p < j → r[j]? = some b → y ≤ b := fun j b hj hb => by
      have hlt : fstGt r (y - 1) < r.length := by have := (List.getElem?_eq_some_iff.mp hb).1; omega
      have := gt_at_fstGt hlt
      have := sorted_at h2 (show fstGt r (y - 1) ≤ j by omega) (List.getElem?_eq_getElem hlt) hb
      omega
    have hso : (r.set p y).Pairwise (· ≤ ·) := sorted_of fun a b c d hab hc2 hd => by
      by_cases e1 : p = a
      · subst e1
        rw [List.getElem?_set_self hp] at hc2
        rw [List.getElem?_set_ne (by omega)] at hd
        cases hc2
        exact hnx b d hab hd
      · rw [List.getElem?_set_ne e1] at hc2
        by_cases e2 : p = b
        · subst e2
          rw [List.getElem?_set_self hp] at hd
          cases hd
          have := sorted_at h2 (Nat.le_of_lt hab) hc2 grp
          omega
        · rw [List.getElem?_set_ne e2] at hd
          exact sorted_at h2 (Nat.le_of_lt hab) hc2 hd
    have hfi : fstGt (r.set p y) r[p] = p := by
      have hle : fstGt (r.set p y) r[p] ≤ p := fstGt_le_of hso (by rw [List.length_set]; exact hp) (by rw [List.getElem_set_self]; omega)
      by_cases e : fstGt (r.set p y) r[p] = p
      · exact e
      · exfalso
        have hlt : fstGt (r.set p y) r[p] < (r.set p y).length := by rw [List.length_set]; omega
        obtain ⟨z, hz, hg⟩ : ∃ z, (r.set p y)[fstGt (r.set p y) r[p]]? = some z ∧ r[p] < z := ⟨_, List.getElem?_eq_getElem hlt, gt_at_fstGt hlt⟩
        rw [List.getElem?_set_ne (by omega)] at hz
        have := sorted_at h2 (show fstGt (r.set p y) r[p] ≤ p by omega) hz grp
        omega
    have hgd : r.getD p 0 = r[p] := by rw [List.getD_eq_getElem?_getD, grp]; rfl
    have hne : (r.set p y).isEmpty = false := by
      cases e : r.set p y with
      | nil => have := congrArg List.length e; rw [List.length_set] at this; simp at this; exact absurd this h1
      | cons _ _ => rfl
    refine ⟨⟨i1, h2, by rw [hy]; omega⟩, ?_, ?_, ?_⟩
    · show insT ((r.set (cntLess r (tak rs i).2 - 1) (tak rs i).2 :: (tak rs i).1).filter _) (r.getD (cntLess r (tak rs i).2 - 1) 0) = _
      rw [hy, hpp, hgd, List.filter_cons_of_pos (p := fun r : List Int => !r.isEmpty) (by rw [hne]; rfl)]
      have hn : (insRow (r.set p y) r[p]).2 = some y := by
        unfold insRow
        rw [hfi, if_neg (by rw [List.length_set]; omega)]
        exact List.getElem?_set_self hp
      rw [insT_some hn, (insRow_some hn).2.2.1, hfi, i2, List.set_set]
      congr 1
      refine List.ext_getElem? fun j => ?_
      by_cases ej : p = j
      · rw [← ej, List.getElem?_set_self hp, grp]
      · rw [List.getElem?_set_ne ej]
    · intro k hk
      have hk : k ∈ r.set (cntLess r (tak rs i).2 - 1) (tak rs i).2 :: (tak rs i).1 := hk
      rw [hy, hpp] at hk
      rcases List.mem_cons.mp hk with z | z
      · rw [z]; exact hso
      · exact i3 k z
    · intro k
      show (((r.set (cntLess r (tak rs i).2 - 1) (tak rs i).2 :: (tak rs i).1).getD k []).length) = _
      cases k with
      | zero => simp
      | succ k => simpa using i4 k
end Y
/-! elementary moves; the path of a word to the reading word of its table -/
namespace Y
/-- may the move be made (true: the right one)? -/
def alw (w : List Int) (i : Nat) (s : Bool) : Bool :=
  match w.drop i with
  | a :: b :: c :: _ => if s then decide (min b c < a ∧ a ≤ max b c) else decide (min a b ≤ c ∧ c < max a b)
  | _ => false
/-- two neighbors exchanged -/
def swp (w : List Int) (p : Nat) : List Int :=
  match w.drop p with
  | a :: b :: r => w.take p ++ b :: a :: r
  | _ => w
def pl (m : Nat × Bool) : Nat := m.1 + if m.2 then 1 else 0
def mv (w : List Int) (m : Nat × Bool) : List Int := swp w (pl m)
theorem swp_at (u : List Int) (a b : Int) (v : List Int) : swp (u ++ a :: b :: v) u.length = u ++ b :: a :: v := by
  unfold swp
  rw [List.drop_left, List.take_left]
theorem mv_lf (u : List Int) (a b : Int) (v : List Int) : mv (u ++ a :: b :: v) (u.length, false) = u ++ b :: a :: v := swp_at u a b v
theorem mv_rt (u : List Int) (a b c : Int) (v : List Int) : mv (u ++ a :: b :: c :: v) (u.length, true) = u ++ a :: c :: b :: v := by
  show swp (u ++ a :: b :: c :: v) (u.length + 1) = _
  have := swp_at (u ++ [a]) b c v
  rw [List.append_assoc, List.length_append] at this
  rw [show u ++ a :: b :: c :: v = u ++ ([a] ++ b :: c :: v) from rfl]
  rw [show u.length + 1 = u.length + [a].length from rfl, this, List.append_assoc]
  rfl
theorem alw_at (u : List Int) (a b c : Int) (v : List Int) (s : Bool) : alw (u ++ a :: b :: c :: v) u.length s = if s then decide (min b c < a ∧ a ≤ max b c) else decide (min a b ≤ c ∧ c < max a b) := by
  unfold alw
  rw [List.drop_left]
/-- the three neighbors of a move -/
theorem alw_split {w : List Int} {i : Nat} {s : Bool} (h : alw w i s = true) : ∃ u a b c v, w = u ++ a :: b :: c :: v ∧ u.length = i ∧ (if s then min b c < a ∧ a ≤ max b c else min a b ≤ c ∧ c < max a b) := by
  unfold alw at h
  split at h
  · rename_i a b c v e
    have hi : i ≤ w.length := by
      have := congrArg List.length e
      rw [List.length_drop] at this
      simp at this
      omega
    refine ⟨w.take i, a, b, c, v, ?_, by rw [List.length_take]; omega, ?_⟩
    · rw [← e, List.take_append_drop]
    · cases s
      · simpa using h
      · simpa using h
  · cases h
def walks : List Int → List (Nat × Bool) → Option (List Int)
  | w, [] => some w
  | w, m :: p => if alw w m.1 m.2 = true then walks (mv w m) p else none
theorem walks_cons (w : List Int) (m : Nat × Bool) (p : List (Nat × Bool)) : walks w (m :: p) = if alw w m.1 m.2 = true then walks (mv w m) p else none := rfl
theorem walks_app : ∀ {p q : List (Nat × Bool)} {w v : List Int}, walks w p = some v → walks w (p ++ q) = walks v q
  | [], q, w, v, h => by cases h; rfl
  | m :: p, q, w, v, h => by
    rw [walks_cons] at h
    rw [List.cons_append]
    rw [walks_cons]
    by_cases e : alw w m.1 m.2 = true
    · rw [if_pos e] at h
      rw [if_pos e]
      exact walks_app h
    · rw [if_neg e] at h; cases h
/-- a move made again undoes it -/
theorem mv_back {w : List Int} {m : Nat × Bool} (h : alw w m.1 m.2 = true) : alw (mv w m) m.1 m.2 = true ∧ mv (mv w m) m = w := by
  obtain ⟨i, s⟩ := m
  obtain ⟨u, a, b, c, v, rfl, rfl, hh⟩ := alw_split h
  cases s with
  | false =>
    rw [mv_lf, mv_lf]
    refine ⟨?_, rfl⟩
    show alw (u ++ b :: a :: c :: v) u.length false = true
    rw [alw_at]
    have hh : min a b ≤ c ∧ c < max a b := hh
    simp only [Bool.false_eq_true, if_false, decide_eq_true_eq]
    omega
  | true =>
    rw [mv_rt, mv_rt]
    refine ⟨?_, rfl⟩
    show alw (u ++ a :: c :: b :: v) u.length true = true
    rw [alw_at]
    have hh : min b c < a ∧ a ≤ max b c := hh
    simp only [if_true, decide_eq_true_eq]
    omega
theorem mv_len (w : List Int) (m : Nat × Bool) : (mv w m).length = w.length := by
  unfold mv swp
  split
  · rename_i a b r e
    have := congrArg List.length e
    rw [List.length_drop] at this
    simp at this ⊢
    omega
  · rfl
theorem walks_len : ∀ {p : List (Nat × Bool)} {w v : List Int}, walks w p = some v → v.length = w.length
  | [], w, v, h => by cases h; rfl
  | m :: p, w, v, h => by
    rw [walks_cons] at h
    split at h
    · rw [walks_len h, mv_len]
    · cases h
/-- the path backwards -/
theorem walks_rev : ∀ {p : List (Nat × Bool)} {w v : List Int}, walks w p = some v → walks v p.reverse = some w
  | [], w, v, h => by cases h; rfl
  | m :: p, w, v, h => by
    rw [walks_cons] at h
    by_cases e : alw w m.1 m.2 = true
    · rw [if_pos e] at h
      obtain ⟨b1, b2⟩ := mv_back e
      rw [List.reverse_cons, walks_app (walks_rev h)]
      rw [walks_cons]
      rw [if_pos b1, b2]
      rfl
    · rw [if_neg e] at h; cases h
/-- the moves behind a word stay -/
theorem alw_pre {w : List Int} {i : Nat} {s : Bool} (h : alw w i s = true) (u v : List Int) : alw (u ++ w ++ v) (u.length + i) s = true ∧ mv (u ++ w ++ v) (u.length + i, s) = u ++ mv w (i, s) ++ v := by
  obtain ⟨t, a, b, c, r, rfl, rfl, hh⟩ := alw_split h
  have e : u ++ (t ++ a :: b :: c :: r) ++ v = (u ++ t) ++ a :: b :: c :: (r ++ v) := by simp
  rw [e, show u.length + t.length = (u ++ t).length by rw [List.length_append]]
  refine ⟨by rw [alw_at]; rw [alw_at] at h; exact h, ?_⟩
  cases s with
  | false => rw [mv_lf, mv_lf]; simp
  | true => rw [mv_rt, mv_rt]; simp
theorem walks_pre : ∀ {p : List (Nat × Bool)} {w x : List Int} (u v : List Int), walks w p = some x → walks (u ++ w ++ v) (p.map fun m => (u.length + m.1, m.2)) = some (u ++ x ++ v)
  | [], w, x, u, v, h => by cases h; rfl
  | m :: p, w, x, u, v, h => by
    rw [walks_cons] at h
    by_cases e : alw w m.1 m.2 = true
    · rw [if_pos e] at h
      obtain ⟨b1, b2⟩ := alw_pre e u v
      rw [List.map_cons]
      rw [walks_cons]
      rw [if_pos b1]
      show walks (mv (u ++ w ++ v) (u.length + m.1, m.2)) _ = _
      rw [b2]
      exact walks_pre u v h
    · rw [if_neg e] at h; cases h

/-! ### insertion into a row -/
/-- the letter goes left, behind the greater letters -/
def mvR (s p l : Nat) : List (Nat × Bool) := (List.range (l - 1 - p)).map fun k => (s + (l - 1 - k) - 1, true)
/-- the pushed out letter goes left -/
def mvL (s p : Nat) : List (Nat × Bool) := (List.range p).map fun k => (s + (p - 1 - k), false)
theorem walk_R (u : List Int) (y x : Int) (hxy : x < y) : ∀ (n : Nat) (B post : List Int), B.length = n → (y :: B).Pairwise (· ≤ ·) → walks (u ++ y :: B ++ x :: post) ((List.range n).map fun k => (u.length + (n - k) - 1, true)) = some (u ++ y :: x :: B ++ post) := by
  intro n
  induction n with
  | zero =>
    intro B post hB _
    rw [List.length_eq_zero_iff.mp hB]
    simp [walks]
  | succ n ih =>
    intro B post hB hs
    obtain ⟨C, b, rfl⟩ : ∃ C b, B = C ++ [b] := by
      rcases List.eq_nil_or_concat B with h | ⟨C, b, h⟩
      · rw [h] at hB; simp at hB
      · exact ⟨C, b, by rw [h, List.concat_eq_append]⟩
    have hC : C.length = n := by simpa using hB
    rw [List.range_succ_eq_map, List.map_cons, List.map_map]
    rw [walks_cons]
    obtain ⟨D, d, hD⟩ : ∃ D d, y :: C = D ++ [d] := by
      rcases List.eq_nil_or_concat (y :: C) with h | ⟨D, d, h⟩
      · cases h
      · exact ⟨D, d, by rw [h, List.concat_eq_append]⟩
    have hDl : D.length = n := by have := congrArg List.length hD; simp at this; omega
    have hyd : y ≤ d := by
      have hm : d ∈ y :: C := by rw [hD]; simp
      rcases List.mem_cons.mp hm with h | h
      · omega
      · exact (List.pairwise_cons.mp hs).1 d (List.mem_append_left _ h)
    have hdb : d ≤ b := by
      have : y :: (C ++ [b]) = D ++ [d, b] := by rw [← List.cons_append, hD, List.append_assoc]; rfl
      rw [this] at hs
      have := (List.pairwise_append.mp hs).2.1
      simpa using this
    have e1 : u ++ y :: (C ++ [b]) ++ x :: post = (u ++ D) ++ d :: b :: x :: post := by
      rw [← List.cons_append, hD]; simp
    have e2 : (u ++ D) ++ d :: x :: b :: post = u ++ y :: C ++ x :: (b :: post) := by
      rw [hD]; simp
    have e3 : u.length + (n + 1 - 0) - 1 = (u ++ D).length := by rw [List.length_append]; omega
    dsimp only
    rw [e1, e3]
    have ok : alw (u ++ D ++ d :: b :: x :: post) (u ++ D).length true = true := by
      rw [alw_at]
      simp only [if_true, decide_eq_true_eq]
      omega
    rw [if_pos ok, mv_rt, e2]
    have h2 := ih C (b :: post) hC (hs.sublist (by simp))
    rw [show u ++ y :: x :: (C ++ [b]) ++ post = u ++ y :: x :: C ++ b :: post by simp, ← h2]
    congr 1
    refine List.map_congr_left fun k _ => ?_
    dsimp only [Function.comp]
    congr 1
    omega
theorem walk_L (u : List Int) (y : Int) : ∀ (n : Nat) (A : List Int) (x : Int) (post : List Int), A.length = n → (A ++ [x]).Pairwise (· ≤ ·) → x < y → walks (u ++ A ++ y :: x :: post) ((List.range n).map fun k => (u.length + (n - 1 - k), false)) = some (u ++ y :: A ++ x :: post) := by
  intro n
  induction n with
  | zero =>
    intro A x post hA _ _
    rw [List.length_eq_zero_iff.mp hA]
    simp [walks]
  | succ n ih =>
    intro A x post hA hs hxy
    obtain ⟨C, b, rfl⟩ : ∃ C b, A = C ++ [b] := by
      rcases List.eq_nil_or_concat A with h | ⟨C, b, h⟩
      · rw [h] at hA; simp at hA
      · exact ⟨C, b, by rw [h, List.concat_eq_append]⟩
    have hC : C.length = n := by simpa using hA
    rw [List.range_succ_eq_map, List.map_cons, List.map_map]
    rw [walks_cons]
    have hs2 := List.pairwise_append.mp hs
    have hb := hs2.2.2 b (by simp) x (by simp)
    have e1 : u ++ (C ++ [b]) ++ y :: x :: post = (u ++ C) ++ b :: y :: x :: post := by simp
    have e2 : (u ++ C) ++ y :: b :: x :: post = u ++ C ++ y :: b :: (x :: post) := rfl
    have e3 : u.length + (n + 1 - 1 - 0) = (u ++ C).length := by rw [List.length_append]; omega
    dsimp only
    rw [e1, e3]
    have ok : alw (u ++ C ++ b :: y :: x :: post) (u ++ C).length false = true := by
      rw [alw_at]
      simp only [Bool.false_eq_true, if_false, decide_eq_true_eq]
      omega
    rw [if_pos ok, mv_lf, e2]
    have h2 := ih C b (x :: post) hC hs2.1 (by omega)
    rw [show u ++ y :: (C ++ [b]) ++ x :: post = u ++ y :: C ++ b :: x :: post by simp, ← h2]
    congr 1
    refine List.map_congr_left fun k _ => ?_
    dsimp only [Function.comp]
    congr 1
    omega
/-- a letter behind a sorted row that is pushed into it -/
theorem walk_row {u r post : List Int} {x y : Int} (hs : r.Pairwise (· ≤ ·)) (h : (insRow r x).2 = some y) :
    walks (u ++ r ++ x :: post) (mvR u.length (fstGt r x) r.length ++ mvL u.length (fstGt r x)) = some (u ++ y :: (insRow r x).1 ++ post) := by
  obtain ⟨h1, h2, h3, h4⟩ := insRow_some h
  have hr : r = r.take (fstGt r x) ++ y :: r.drop (fstGt r x + 1) := by
    have : r.drop (fstGt r x) = y :: r.drop (fstGt r x + 1) := by
      rw [List.drop_eq_getElem_cons h1]
      rw [List.getElem?_eq_getElem h1] at h2
      rw [Option.some.inj h2]
    rw [← this, List.take_append_drop]
  have hA : (r.take (fstGt r x)).length = fstGt r x := by rw [List.length_take]; omega
  have hB : (r.drop (fstGt r x + 1)).length = r.length - 1 - fstGt r x := by rw [List.length_drop]; omega
  have hAx : ∀ a ∈ r.take (fstGt r x), a ≤ x := fun a ha => by
    obtain ⟨i, hi, e⟩ := List.getElem_of_mem ha
    rw [List.getElem_take] at e
    exact le_before (show i < fstGt r x by omega) (by rw [List.getElem?_eq_getElem (by omega), e])
  have hset : (insRow r x).1 = r.take (fstGt r x) ++ x :: r.drop (fstGt r x + 1) := by
    rw [h3, List.set_eq_take_append_cons_drop, if_pos h1]
  have hsA : (r.take (fstGt r x) ++ [x]).Pairwise (· ≤ ·) := List.pairwise_append.mpr ⟨hs.sublist (List.take_sublist _ _), List.pairwise_singleton _ _, fun a ha b hb => by rw [List.mem_singleton.mp hb]; exact hAx a ha⟩
  have hsB : (y :: r.drop (fstGt r x + 1)).Pairwise (· ≤ ·) := by
    have : (y :: r.drop (fstGt r x + 1)).Sublist r := by
      conv => rhs; rw [hr]
      exact List.sublist_append_right _ _
    exact hs.sublist this
  generalize r.take (fstGt r x) = A at *
  generalize r.drop (fstGt r x + 1) = B at *
  have w1 := walk_R (u ++ A) y x h4 (r.length - 1 - fstGt r x) B post hB hsB
  have w2 := walk_L u y (fstGt r x) A x (B ++ post) hA hsA h4
  have e1 : u ++ r ++ x :: post = u ++ A ++ y :: B ++ x :: post := by
    conv => lhs; rw [hr]
    simp
  rw [e1, hset]
  refine (walks_app (v := u ++ A ++ y :: x :: B ++ post) ?_).trans ?_
  · rw [← w1]
    congr 1
    unfold mvR
    refine List.map_congr_left fun k hk => ?_
    have := List.mem_range.mp hk
    rw [List.length_append, hA]
    congr 1
    omega
  · rw [show u ++ A ++ y :: x :: B ++ post = u ++ A ++ y :: x :: (B ++ post) by simp, show u ++ y :: (A ++ x :: B) ++ post = u ++ y :: A ++ x :: (B ++ post) by simp, ← w2]
    rfl
/-- the reading word -/
def rdT (rows : List (List Int)) : List Int := rows.reverse.flatten
theorem rdT_nil : rdT [] = [] := rfl
theorem rdT_cons (r : List Int) (rs : List (List Int)) : rdT (r :: rs) = rdT rs ++ r := by unfold rdT; rw [List.reverse_cons, List.flatten_append]; simp
theorem rdT_len (rows : List (List Int)) : (rdT rows).length = (rows.map List.length).sum := by unfold rdT; rw [List.length_flatten, List.map_reverse, List.sum_reverse]
/-- the moves of an insertion; n letters stand ahead -/
def insM : List (List Int) → Int → Nat → List (Nat × Bool)
  | [], _, _ => []
  | r :: rs, x, n => match (insRow r x).2 with
    | none => []
    | some y => mvR (n - r.length) (fstGt r x) r.length ++ mvL (n - r.length) (fstGt r x) ++ insM rs y (n - r.length)
theorem insM_none {r : List Int} {rs : List (List Int)} {x : Int} {n : Nat} (h : (insRow r x).2 = none) : insM (r :: rs) x n = [] := by show (match (insRow r x).2 with | none => _ | some y => _) = _; rw [h]
theorem insM_some {r : List Int} {rs : List (List Int)} {x y : Int} {n : Nat} (h : (insRow r x).2 = some y) : insM (r :: rs) x n = mvR (n - r.length) (fstGt r x) r.length ++ mvL (n - r.length) (fstGt r x) ++ insM rs y (n - r.length) := by show (match (insRow r x).2 with | none => _ | some y => _) = _; rw [h]
theorem walk_ins : ∀ {rows : List (List Int)} {x : Int} (post : List Int), (∀ r ∈ rows, r.Pairwise (· ≤ ·)) → walks (rdT rows ++ x :: post) (insM rows x (rdT rows).length) = some (rdT (insT rows x) ++ post)
  | [], x, post, _ => rfl
  | r :: rs, x, post, hs => by
    have hr := hs r List.mem_cons_self
    cases h : (insRow r x).2 with
    | none =>
      rw [insM_none h, insT_none h, (insRow_none h).2, rdT_cons, rdT_cons]
      simp [walks]
    | some y =>
      have ih := walk_ins (rows := rs) (x := y) ((insRow r x).1 ++ post) fun k hk => hs k (List.mem_cons_of_mem _ hk)
      rw [insM_some h, insT_some h, rdT_cons, rdT_cons, List.length_append, Nat.add_sub_cancel]
      refine (walks_app (walk_row hr h)).trans ?_
      rw [show rdT rs ++ y :: (insRow r x).1 ++ post = rdT rs ++ y :: ((insRow r x).1 ++ post) by simp, ih]
      simp
theorem insM_len : ∀ {rows : List (List Int)} {x : Int} {n : Nat}, (insM rows x n).length ≤ (rows.map List.length).sum
  | [], _, _ => Nat.zero_le _
  | r :: rs, x, n => by
    cases h : (insRow r x).2 with
    | none => rw [insM_none h]; exact Nat.zero_le _
    | some y =>
      have ih := insM_len (rows := rs) (x := y) (n := n - r.length)
      have := (insRow_some h).1
      rw [insM_some h, List.length_append, List.length_append]
      unfold mvR mvL
      rw [List.length_map, List.length_map, List.length_range, List.length_range, List.map_cons, List.sum_cons]
      omega
/-- the path of a word to its table -/
def pathT : List Int → List (List Int) → Nat → List (Nat × Bool)
  | [], _, _ => []
  | x :: w, rows, n => insM rows x n ++ pathT w (insT rows x) (n + 1)
theorem walk_path : ∀ (w : List Int) (rows : List (List Int)), IsT rows → walks (rdT rows ++ w) (pathT w rows (rdT rows).length) = some (rdT (w.foldl insT rows))
  | [], rows, _ => by simp [pathT, walks]
  | x :: w, rows, h => by
    have ih := walk_path w (insT rows x) (isT_ins h)
    unfold pathT
    refine (walks_app (walk_ins w fun r hr => (isT_rows h r hr).2)).trans ?_
    rw [show (rdT rows).length + 1 = (rdT (insT rows x)).length by rw [rdT_len, rdT_len, sum_ins], ih]
    rfl
/-- the whole path -/
def pathW (w : List Int) : List (Nat × Bool) := pathT w [] 0
theorem walk_tab (w : List Int) : walks w (pathW w) = some (rdT (tab w)) := walk_path w [] trivial
theorem pathT_len : ∀ (w : List Int) (rows : List (List Int)) (n : Nat), (pathT w rows n).length ≤ w.length * ((rows.map List.length).sum + w.length)
  | [], _, _ => Nat.zero_le _
  | x :: w, rows, n => by
    have h1 := insM_len (rows := rows) (x := x) (n := n)
    have h2 := pathT_len w (insT rows x) (n + 1)
    rw [sum_ins] at h2
    unfold pathT
    rw [List.length_append, List.length_cons, Nat.add_mul, Nat.one_mul]
    rw [show (rows.map List.length).sum + 1 + w.length = (rows.map List.length).sum + (w.length + 1) by omega] at h2
    omega
theorem pathW_len (w : List Int) : (pathW w).length ≤ w.length * w.length := by
  have := pathT_len w [] 0
  simpa [pathW] using this
/-- the moves of a path concern letters of the word -/
theorem walks_lt : ∀ {p : List (Nat × Bool)} {w v : List Int}, walks w p = some v → ∀ m ∈ p, m.1 + 2 < w.length
  | [], _, _, _, m, hm => nomatch hm
  | k :: p, w, v, h, m, hm => by
    rw [walks_cons] at h
    by_cases e : alw w k.1 k.2 = true
    · rw [if_pos e] at h
      rcases List.mem_cons.mp hm with q | q
      · subst q
        obtain ⟨u, a, b, c, t, rfl, hu, _⟩ := alw_split e
        simp
        omega
      · have := walks_lt h m q
        rw [mv_len] at this
        exact this
    · rw [if_neg e] at h; cases h
end Y
/-! moves as the program has them: an index and a side -/
namespace Y
/-- may a move with this index and this side (none: another word) be made -/

def isAl (ws : List Int) (i : Int) (s : Option Bool) : Bool := match s with
  | none => false
  | some b => decide (0 ≤ i) && alw ws i.toNat b
theorem take3 {ws : List Int} {k : Nat} (h : k + 2 < ws.length) : (ws.take (k + 3)).drop k = [ws.getD k 0, ws.getD (k + 1) 0, ws.getD (k + 2) 0] := by
  have g : ∀ {j : Nat}, j < ws.length → ws.getD j 0 = ws[j]! := fun hj => by
    rw [List.getD_eq_getElem?_getD, List.getElem?_eq_getElem hj, getElem!_pos ws _ hj]; rfl
  rw [List.drop_take, show k + 3 - k = 3 by omega, List.drop_eq_getElem_cons (show k < ws.length by omega), List.drop_eq_getElem_cons (show k + 1 < ws.length by omega), List.drop_eq_getElem_cons (show k + 1 + 1 < ws.length by omega)]
  simp only [List.take_succ_cons, List.take_zero]
  rw [g (show k < ws.length by omega), g (show k + 1 < ws.length by omega), g (show k + 2 < ws.length by omega), getElem!_pos ws _ (show k < ws.length by omega), getElem!_pos ws _ (show k + 1 < ws.length by omega), getElem!_pos ws _ (show k + 2 < ws.length by omega)]
theorem alw_out {ws : List Int} {k : Nat} {b : Bool} (h : ws.length ≤ k + 2) : alw ws k b = false := by
  cases e : alw ws k b with
  | false => rfl
  | true =>
    obtain ⟨u, x, y, z, v, rfl, rfl, _⟩ := alw_split e
    simp at h
theorem alw_get {ws : List Int} {k : Nat} {b : Bool} (h : k + 2 < ws.length) : alw ws k b = if b then decide (min (ws.getD (k + 1) 0) (ws.getD (k + 2) 0) < ws.getD k 0 ∧ ws.getD k 0 ≤ max (ws.getD (k + 1) 0) (ws.getD (k + 2) 0)) else decide (min (ws.getD k 0) (ws.getD (k + 1) 0) ≤ ws.getD (k + 2) 0 ∧ ws.getD (k + 2) 0 < max (ws.getD k 0) (ws.getD (k + 1) 0)) := by
  have h3 := take3 h
  have e : ws.drop k = ws.getD k 0 :: ws.getD (k + 1) 0 :: ws.getD (k + 2) 0 :: ws.drop (k + 3) := by
    have := List.take_append_drop 3 (ws.drop k)
    rw [← this, List.drop_drop]
    rw [List.drop_take, show k + 3 - k = 3 by omega] at h3
    rw [h3]
    rfl
  unfold alw
  rw [e]
theorem isAl_some {ws : List Int} {i : Int} {s : Option Bool} (h : isAl ws i s = true) : ∃ (k : Nat) (b : Bool), i = (k : Int) ∧ s = some b ∧ alw ws k b = true ∧ k + 2 < ws.length := by
  cases s with
  | none => cases h
  | some b =>
    have h : (decide (0 ≤ i) && alw ws i.toNat b) = true := h
    rw [Bool.and_eq_true, decide_eq_true_eq] at h
    refine ⟨i.toNat, b, by omega, rfl, h.2, ?_⟩
    have := h.2
    by_cases q : i.toNat + 2 < ws.length
    · exact q
    · rw [alw_out (by omega)] at this; cases this
theorem isAl_nat {ws : List Int} {k : Nat} {b : Bool} : isAl ws (k : Int) (some b) = alw ws k b := by
  show (decide (0 ≤ (k : Int)) && alw ws (k : Int).toNat b) = _
  rw [decide_eq_true (by omega), Int.toNat_natCast]
  rfl
/-- the allowed moves, ascending -/
def alwL (ws : List Int) : List (Nat × Bool) := ((List.range (ws.length - 2)).flatMap fun i => [(i, false), (i, true)]).filter fun m => alw ws m.1 m.2
theorem mem_alwL {ws : List Int} {m : Nat × Bool} : m ∈ alwL ws ↔ alw ws m.1 m.2 = true := by
  unfold alwL
  rw [List.mem_filter, List.mem_flatMap]
  refine ⟨fun h => h.2, fun h => ⟨?_, h⟩⟩
  have hk : m.1 + 2 < ws.length := by
    by_cases q : m.1 + 2 < ws.length
    · exact q
    · rw [alw_out (by omega)] at h; cases h
  refine ⟨m.1, List.mem_range.mpr (by omega), ?_⟩
  obtain ⟨i, b⟩ := m
  cases b <;> simp
/-- the exchange as two stores -/
theorem swp_set {w : List Int} {p : Nat} (h : p + 1 < w.length) : (w.set p (w.getD (p + 1) 0)).set (p + 1) (w.getD p 0) = swp w p := by
  obtain ⟨a, b, r, e⟩ : ∃ a b r, w.drop p = a :: b :: r := by
    have h1 : w.drop p = w[p] :: w.drop (p + 1) := List.drop_eq_getElem_cons (by omega)
    have h2 : w.drop (p + 1) = w[p + 1] :: w.drop (p + 2) := List.drop_eq_getElem_cons (by omega)
    exact ⟨_, _, _, by rw [h1, h2]⟩
  have hw : w = w.take p ++ a :: b :: r := by rw [← e, List.take_append_drop]
  have hl : (w.take p).length = p := by rw [List.length_take]; omega
  generalize w.take p = u at hw hl
  subst hw
  subst hl
  rw [swp_at]
  have e1 : (u ++ a :: b :: r).getD (u.length + 1) 0 = b := by rw [List.getD_eq_getElem?_getD, List.getElem?_append_right (by omega)]; simp
  have e0 : (u ++ a :: b :: r).getD u.length 0 = a := by simp
  rw [e1, e0, List.set_append_right _ _ (Nat.le_refl _), List.set_append_right _ _ (by omega), Nat.sub_self, show u.length + 1 - u.length = 1 by omega]
  rfl
end Y
/-! Y: texts of numbers, lists and families: how they are read. -/
namespace Y
open PySem L2
def isD (c : Nat) : Bool := decide (48 ≤ c) && decide (c ≤ 57)
theorem isD_iff {c : Nat} : isD c = true ↔ 48 ≤ c ∧ c ≤ 57 := by unfold isD; simp
def digAt (l : List Nat) (i : Nat) : Bool := match l[i]? with
  | some c => isD c
  | none => false
theorem digAt_some {l : List Nat} {i c : Nat} (h : l[i]? = some c) : digAt l i = isD c := by unfold digAt; rw [h]
theorem digAt_none {l : List Nat} {i : Nat} (h : l[i]? = none) : digAt l i = false := by unfold digAt; rw [h]
theorem digAt_lt {l : List Nat} {i : Nat} (h : digAt l i = true) : i < l.length := by
  unfold digAt at h
  cases e : l[i]? with
  | none => rw [e] at h; cases h
  | some c => exact (List.getElem?_eq_some_iff.mp e).1
def runD (l : List Nat) (b : Nat) : Nat := (((l.drop b).take 60).takeWhile isD).length
theorem tw_len : ∀ (l : List Nat) (k : Nat), (∀ m, m < k → ∃ c, l[m]? = some c ∧ isD c = true) → (∀ c, l[k]? = some c → isD c = false) → (l.takeWhile isD).length = k
  | [], 0, _, _ => rfl
  | [], k + 1, h, _ => by obtain ⟨c, h1, _⟩ := h 0 (by omega); cases h1
  | x :: l, 0, _, h => by
    have := h x rfl
    rw [List.takeWhile_cons, this]
    rfl
  | x :: l, k + 1, h, h2 => by
    obtain ⟨c, h1, h3⟩ := h 0 (by omega)
    cases h1
    rw [List.takeWhile_cons, if_pos h3, List.length_cons, tw_len l k (fun m hm => h (m + 1) (by omega)) fun c hc => h2 c hc]
/-- where the digits end -/
theorem runD_eq {l : List Nat} {b k : Nat} (hk : k ≤ 60) (h : ∀ m, m < k → digAt l (b + m) = true) (e : k = 60 ∨ digAt l (b + k) = false) : runD l b = k := by
  unfold runD
  refine tw_len _ k (fun m hm => ?_) fun c hc => ?_
  · have h1 := h m hm
    have h2 := digAt_lt h1
    refine ⟨l[b + m], ?_, ?_⟩
    · rw [List.getElem?_take, if_pos (by omega), List.getElem?_drop, List.getElem?_eq_getElem h2]
    · rw [← digAt_some (List.getElem?_eq_getElem h2)]; exact h1
  · rw [List.getElem?_take] at hc
    split at hc
    · rename_i hlt
      rw [List.getElem?_drop] at hc
      rcases e with e | e
      · omega
      · rw [← digAt_some hc]; exact e
    · cases hc
theorem mem_tw {p : Nat → Bool} : ∀ {l : List Nat} {x : Nat}, x ∈ l.takeWhile p → p x = true
  | y :: l, x, h => by
    rw [List.takeWhile_cons] at h
    split at h
    · rename_i hy
      rcases List.mem_cons.mp h with rfl | h
      · exact hy
      · exact mem_tw h
    · cases h
theorem runD_all {l : List Nat} {b m : Nat} (h : m < runD l b) : digAt l (b + m) = true := by
  unfold runD at h
  have h1 : (((l.drop b).take 60).takeWhile isD)[m]? = some (((l.drop b).take 60).takeWhile isD)[m] := List.getElem?_eq_getElem h
  have h2 := List.mem_of_getElem? h1
  have h3 := mem_tw h2
  have h4 : ((l.drop b).take 60)[m]? = some (((l.drop b).take 60).takeWhile isD)[m] := by
    have := List.takeWhile_prefix (l := (l.drop b).take 60) isD
    obtain ⟨r, hr⟩ := this
    conv => lhs; rw [← hr]
    rw [List.getElem?_append_left h]
    exact h1
  rw [List.getElem?_take] at h4
  split at h4
  · rw [List.getElem?_drop] at h4
    rw [digAt_some h4]
    exact h3
  · cases h4
theorem runD_le (l : List Nat) (b : Nat) : runD l b ≤ 60 := by
  unfold runD
  refine Nat.le_trans (List.takeWhile_prefix _).length_le ?_
  rw [List.length_take]
  omega
theorem runD_stop {l : List Nat} {b : Nat} : runD l b = 60 ∨ digAt l (b + runD l b) = false := by
  by_cases h : runD l b = 60
  · exact .inl h
  · refine .inr ?_
    cases e : digAt l (b + runD l b) with
    | false => rfl
    | true =>
      have hl := runD_le l b
      exfalso
      -- the run could be longer
      have : ∀ k, k ≤ 60 → (∀ m, m < k → digAt l (b + m) = true) → k ≤ runD l b := by
        intro k hk hm
        unfold runD
        refine Nat.le_of_not_lt fun hlt => ?_
        have h1 := hm _ hlt
        have h2 := digAt_lt h1
        have h3 : ((l.drop b).take 60)[(((l.drop b).take 60).takeWhile isD).length]? = some l[b + (((l.drop b).take 60).takeWhile isD).length] := by
          rw [List.getElem?_take, if_pos (by omega), List.getElem?_drop, List.getElem?_eq_getElem h2]
        rw [digAt_some (List.getElem?_eq_getElem h2)] at h1
        generalize (l.drop b).take 60 = L at *
        clear hlt
        have key : ∀ (L : List Nat) (c : Nat), L[(L.takeWhile isD).length]? = some c → isD c = false := by
          intro L
          induction L with
          | nil => intro c hc; cases hc
          | cons x L ih =>
            intro c hc
            rw [List.takeWhile_cons] at hc
            split at hc
            · rw [List.length_cons, List.getElem?_cons_succ] at hc
              exact ih c hc
            · rename_i hx
              have : x = c := by simpa using hc
              rw [← this]
              simpa using hx
        rw [key L _ h3] at h1
        cases h1
      have := this (runD l b + 1) (by omega) fun m hm => by
        by_cases hm2 : m < runD l b
        · exact runD_all hm2
        · have : m = runD l b := by omega
          rw [this]; exact e
      omega
/-- what stands of a number from i on: where it ends, whether it is one -/
def num1 (neg : Bool) (l : List Nat) (i : Nat) : Nat × Bool :=
  if l[if (neg && decide (l[i]? = some 45)) = true then i + 1 else i]? = some 48 then
    (if (if (neg && decide (l[i]? = some 45)) = true then i + 1 else i) = i then (i + 1, true) else ((if (neg && decide (l[i]? = some 45)) = true then i + 1 else i), false))
  else ((if (neg && decide (l[i]? = some 45)) = true then i + 1 else i) + runD l (if (neg && decide (l[i]? = some 45)) = true then i + 1 else i), decide (0 < runD l (if (neg && decide (l[i]? = some 45)) = true then i + 1 else i)))
def slc (l : List Nat) (i j : Nat) : List Nat := (l.drop i).take (j - i)
def numR (neg : Bool) (l : List Nat) (i : Nat) : Nat × Option (List Nat) := if ((num1 neg l i).2 && !digAt l (num1 neg l i).1) = true then ((num1 neg l i).1, some (slc l i (num1 neg l i).1)) else ((num1 neg l i).1, none)
def tokV (t : List Nat) : Int := (PySem.intText? ⟨t.toArray⟩).getD 0
/-- the signs of a number, as it is written -/
def Dig (t : List Nat) : Prop := t ≠ [] ∧ t.length ≤ 60 ∧ (∀ c ∈ t, isD c = true) ∧ (t.head? = some 48 → t = [48])
def Tok (neg : Bool) (t : List Nat) : Prop := Dig t ∨ (neg = true ∧ ∃ s, t = 45 :: s ∧ Dig s ∧ s.head? ≠ some 48)
theorem tok_mem {neg : Bool} {t : List Nat} (h : Tok neg t) {c : Nat} (hc : c ∈ t) : c = 45 ∨ (48 ≤ c ∧ c ≤ 57) := by
  rcases h with h | ⟨_, s, rfl, h, _⟩
  · exact .inr (isD_iff.mp (h.2.2.1 c hc))
  · rcases List.mem_cons.mp hc with e | hc
    · exact .inl e
    · exact .inr (isD_iff.mp (h.2.2.1 c hc))
theorem tok_ne {neg : Bool} {t : List Nat} (h : Tok neg t) : t ≠ [] := by
  rcases h with h | ⟨_, s, rfl, _⟩
  · exact h.1
  · simp
theorem tok_len {neg : Bool} {t : List Nat} (h : Tok neg t) : t.length ≤ 61 := by
  rcases h with h | ⟨_, s, rfl, h, _⟩
  · have := h.2.1; omega
  · have := h.2.1; rw [List.length_cons]; omega
theorem dig_all {t : List Nat} (h : Dig t) : NumText.AllDigits t := fun c hc => isD_iff.mp (h.2.2.1 c hc)
theorem tok_int {neg : Bool} {t : List Nat} (h : Tok neg t) : PySem.intText? ⟨t.toArray⟩ = some (tokV t) := by
  have : ∃ n, PySem.intText? ⟨t.toArray⟩ = some n := by
    rcases h with h | ⟨_, s, rfl, h, _⟩
    · exact ⟨_, intText_digits (x := ⟨t.toArray⟩) (dig_all h) h.1 (by have := h.2.1; show t.toArray.size ≤ _; rw [List.size_toArray]; omega)⟩
    · exact ⟨_, intText_neg (x := ⟨(45 :: s).toArray⟩) (cs := s) rfl (dig_all h) h.1 (by have := h.2.1; show (45 :: s).toArray.size ≤ _; rw [List.size_toArray, List.length_cons]; omega)⟩
  obtain ⟨n, hn⟩ := this
  unfold tokV
  rw [hn]
  rfl
theorem slc_len {l : List Nat} {i j : Nat} (hij : i ≤ j) (hj : j ≤ l.length) : (slc l i j).length = j - i := by unfold slc; rw [List.length_take, List.length_drop]; omega
theorem slc_app {l : List Nat} {i j : Nat} (hij : i ≤ j) : l.drop i = slc l i j ++ l.drop j := by
  unfold slc
  conv => lhs; rw [← List.take_append_drop (j - i) (l.drop i), List.drop_drop]
  rw [show i + (j - i) = j by omega]
theorem slc_at {l : List Nat} {i j m : Nat} (h : m < j - i) : (slc l i j)[m]? = l[i + m]? := by unfold slc; rw [List.getElem?_take, if_pos h, List.getElem?_drop]
theorem dig_of {l : List Nat} {b k : Nat} (h0 : 0 < k) (hk : k ≤ 60) (h : ∀ m, m < k → digAt l (b + m) = true) (hz : l[b]? = some 48 → k = 1) : Dig (slc l b (b + k)) := by
  have hl : b + k ≤ l.length := by have := digAt_lt (h (k - 1) (by omega)); omega
  have e := slc_len (l := l) (i := b) (j := b + k) (by omega) hl
  refine ⟨fun z => ?_, by omega, fun c hc => ?_, fun hh => ?_⟩
  · rw [z] at e; simp at e; omega
  · obtain ⟨m, hm, rfl⟩ := List.getElem_of_mem hc
    have h1 := slc_at (l := l) (i := b) (j := b + k) (m := m) (by omega)
    rw [List.getElem?_eq_getElem hm] at h1
    rw [← digAt_some h1.symm]
    exact h m (by omega)
  · rw [List.head?_eq_getElem?, slc_at (by omega), Nat.add_zero] at hh
    have := hz hh
    subst this
    refine List.ext_getElem? fun m => ?_
    cases m with
    | zero => rw [slc_at (by omega), Nat.add_zero, hh]; rfl
    | succ m => rw [List.getElem?_eq_none (by omega)]; rfl
/-- a number that is read -/
theorem num_tok {neg : Bool} {l : List Nat} {i k : Nat} {t : List Nat} (h : numR neg l i = (k, some t)) : Tok neg t ∧ i < k ∧ k ≤ l.length ∧ l.drop i = t ++ l.drop k ∧ digAt l k = false ∧ num1 neg l i = (k, true) := by
  unfold numR at h
  split at h
  · rename_i hh
    simp only [Bool.and_eq_true, Bool.not_eq_true'] at hh
    obtain ⟨h1, h2⟩ := hh
    have h3 : (num1 neg l i).1 = k ∧ slc l i (num1 neg l i).1 = t := by
      cases h; exact ⟨rfl, rfl⟩
    obtain ⟨rfl, rfl⟩ := h3
    have hp : num1 neg l i = ((num1 neg l i).1, true) := by rw [← h1]
    have : Tok neg (slc l i (num1 neg l i).1) ∧ i < (num1 neg l i).1 ∧ (num1 neg l i).1 ≤ l.length := by
      clear h hp h2
      unfold num1 at h1 ⊢
      by_cases hn : (neg && decide (l[i]? = some 45)) = true
      · simp only [if_pos hn] at h1 ⊢
        simp only [Bool.and_eq_true, decide_eq_true_eq] at hn
        split at h1
        · rw [if_neg (by omega)] at h1; cases h1
        · rename_i hz
          rw [if_neg hz]
          dsimp only at h1 ⊢
          have h4 : 0 < runD l (i + 1) := of_decide_eq_true h1
          have hd := dig_of (l := l) (b := i + 1) h4 (runD_le l (i + 1)) (fun m hm => runD_all hm) fun z => absurd z hz
          have hl : i + 1 + runD l (i + 1) ≤ l.length := by have := digAt_lt (runD_all (l := l) (b := i + 1) (m := runD l (i + 1) - 1) (by omega)); omega
          refine ⟨.inr ⟨hn.1, _, ?_, hd, fun z => ?_⟩, by omega, hl⟩
          · unfold slc
            have hi : i < l.length := by omega
            rw [List.drop_eq_getElem_cons hi, show i + 1 + runD l (i + 1) - i = runD l (i + 1) + 1 by omega, List.take_succ_cons, show i + 1 + runD l (i + 1) - (i + 1) = runD l (i + 1) by omega]
            have : l[i] = 45 := by have := hn.2; rw [List.getElem?_eq_getElem hi] at this; exact Option.some.inj this
            rw [this]
          · rw [List.head?_eq_getElem?, slc_at (by omega), Nat.add_zero] at z
            exact hz z
      · simp only [if_neg hn] at h1 ⊢
        split at h1
        · rename_i hz
          rw [if_pos hz]
          simp only [if_true] at h1 ⊢
          have hi := (List.getElem?_eq_some_iff.mp hz).1
          have hd := dig_of (l := l) (b := i) (k := 1) (by omega) (by omega) (fun m hm => by
            have : m = 0 := by omega
            rw [this, Nat.add_zero, digAt_some hz]; rfl) fun _ => rfl
          exact ⟨.inl hd, by omega, by omega⟩
        · rename_i hz
          rw [if_neg hz]
          dsimp only at h1 ⊢
          have h4 : 0 < runD l i := of_decide_eq_true h1
          have hd := dig_of (l := l) (b := i) h4 (runD_le l i) (fun m hm => runD_all hm) fun z => absurd z hz
          have hl : i + runD l i ≤ l.length := by have := digAt_lt (runD_all (l := l) (b := i) (m := runD l i - 1) (by omega)); omega
          exact ⟨.inl hd, by omega, hl⟩
    exact ⟨this.1, this.2.1, this.2.2, slc_app (by omega), h2, hp⟩
  · cases h
theorem app_at {l t r : List Nat} {i : Nat} (e : l.drop i = t ++ r) (m : Nat) : l[i + m]? = (t ++ r)[m]? := by rw [← e, List.getElem?_drop]
theorem run_dig {l t r : List Nat} {b : Nat} (hd : Dig t) (e : l.drop b = t ++ r) (hr : ∀ c, r.head? = some c → isD c = false) : runD l b = t.length := by
  refine runD_eq hd.2.1 (fun m hm => ?_) (.inr ?_)
  · have h1 := app_at e m
    rw [List.getElem?_append_left hm, List.getElem?_eq_getElem hm] at h1
    rw [digAt_some h1]
    exact hd.2.2.1 _ (List.getElem_mem hm)
  · have h1 := app_at e t.length
    rw [List.getElem?_append_right (Nat.le_refl _), Nat.sub_self, ← List.head?_eq_getElem?] at h1
    cases h : r.head? with
    | none => rw [h] at h1; exact digAt_none h1
    | some c => rw [h] at h1; rw [digAt_some h1]; exact hr c h
theorem end_dig {l t r : List Nat} {i : Nat} (e : l.drop i = t ++ r) (hr : ∀ c, r.head? = some c → isD c = false) : digAt l (i + t.length) = false := by
  have h1 := app_at e t.length
  rw [List.getElem?_append_right (Nat.le_refl _), Nat.sub_self, ← List.head?_eq_getElem?] at h1
  cases h : r.head? with
  | none => rw [h] at h1; exact digAt_none h1
  | some c => rw [h] at h1; rw [digAt_some h1]; exact hr c h
theorem slc_of {l t r : List Nat} {i : Nat} (e : l.drop i = t ++ r) : slc l i (i + t.length) = t := by
  unfold slc
  rw [e, show i + t.length - i = t.length by omega, List.take_left']
  rfl
theorem dig_head {t : List Nat} (h : Dig t) : ∃ c s, t = c :: s ∧ 48 ≤ c ∧ c ≤ 57 := by
  obtain ⟨h1, _, h2, _⟩ := h
  cases t with
  | nil => exact absurd rfl h1
  | cons c s => exact ⟨c, s, rfl, isD_iff.mp (h2 c (List.mem_cons_self))⟩
/-- a written number is read -/
theorem tok_num {neg : Bool} {l t r : List Nat} {i : Nat} (ht : Tok neg t) (e : l.drop i = t ++ r) (hr : ∀ c, r.head? = some c → isD c = false) : numR neg l i = (i + t.length, some t) := by
  have key : num1 neg l i = (i + t.length, true) := by
    unfold num1
    rcases ht with hd | ⟨hneg, s, rfl, hd, hz⟩
    · obtain ⟨c, s, rfl, c0, c1⟩ := dig_head hd
      have h0 : l[i]? = some c := by have := app_at e 0; simpa using this
      have hn : ¬ (neg && decide (l[i]? = some 45)) = true := by rw [h0]; simp; intro _; omega
      simp only [if_neg hn]
      by_cases hc : c = 48
      · subst hc
        have := hd.2.2.2 rfl
        rw [if_pos h0, if_pos trivial, this]
        rfl
      · rw [if_neg (by rw [h0]; simpa using hc), run_dig hd e hr]
        have : 0 < (c :: s).length := by simp
        rw [decide_eq_true this]
    · have h0 : l[i]? = some 45 := by have := app_at e 0; simpa using this
      have hn : (neg && decide (l[i]? = some 45)) = true := by rw [h0, hneg]; rfl
      simp only [if_pos hn]
      obtain ⟨c, s', rfl, c0, c1⟩ := dig_head hd
      have h1 : l[i + 1]? = some c := by have := app_at e 1; simpa using this
      have e2 : l.drop (i + 1) = (c :: s') ++ r := by
        have := congrArg (List.drop 1) e
        rw [List.drop_drop] at this
        simpa using this
      have hc : c ≠ 48 := fun z => hz (by rw [z]; rfl)
      rw [if_neg (by rw [h1]; simpa using hc), run_dig hd e2 hr]
      have : 0 < (c :: s').length := by simp
      rw [decide_eq_true this]
      simp only [List.length_cons]
      rw [show i + 1 + (s'.length + 1) = i + (s'.length + 1 + 1) by omega]
  unfold numR
  rw [key]
  simp only [end_dig e hr, slc_of e, Bool.not_false, Bool.and_true, if_true]
/-! ### lists -/
def nxL (l : List Nat) : Nat → Nat → List (List Nat) → Nat × Option (List (List Nat))
  | 0, j, acc => (j, some acc)
  | f + 1, j, acc => if l[j]? = some 32 ∧ l[j + 1]? ≠ some 47 then (match numR false l (j + 1) with
      | (k, some t) => nxL l f k (acc ++ [t])
      | (k, none) => (k, none)) else (j, some acc)
def nxR (l : List Nat) (i : Nat) : Nat × Option (List (List Nat)) := if l[i]? = some 45 then (i + 1, some []) else match numR false l i with
  | (k, some t) => nxL l (l.length + 1) k [t]
  | (k, none) => (k, none)
def famL (l : List Nat) : Nat → Nat → List (List (List Nat)) → Nat × Option (List (List (List Nat)))
  | 0, j, acc => (j, some acc)
  | f + 1, j, acc => if l[j]? = some 32 then (if l[j + 1]? ≠ some 47 then (j + 1, none) else if l[j + 2]? ≠ some 32 then (j + 2, none) else match nxR l (j + 3) with
      | (k, some t) => famL l f k (acc ++ [t])
      | (k, none) => (k, none)) else (j, some acc)
def famR (e : Option Nat) (l : List Nat) (i : Nat) : Nat × Option (List (List (List Nat))) := if l[i]? = e then (i, some []) else match nxR l i with
  | (k, none) => (k, none)
  | (k, some t) => match famL l (l.length + 1) k [t] with
    | (m, none) => (m, none)
    | (m, some ts) => if l[m]? = e then (m, some ts) else (m, none)
def wrdL (l : List Nat) : Nat → Nat → List (List Nat) → Nat × Option (List (List Nat))
  | 0, j, acc => (j, some acc)
  | f + 1, j, acc => if l[j]? = none then (j, some acc) else if l[j]? = some 32 then (match numR true l (j + 1) with
      | (k, some t) => wrdL l f k (acc ++ [t])
      | (k, none) => (k, none)) else (j, none)
def wrdR (l : List Nat) : Nat × Option (List (List Nat)) := if l = [] then (0, some []) else match numR true l 0 with
  | (k, some t) => wrdL l (l.length + 1) k [t]
  | (k, none) => (k, none)
def expR (l : List Nat) : List Nat → Nat → Nat × Bool
  | [], i => (i, true)
  | c :: s, i => if l[i]? = some c then expR l s (i + 1) else (i, false)
def risL : List Nat := [114, 105, 115, 105, 110, 103, 32]
def falL : List Nat := [59, 32, 102, 97, 108, 108, 105, 110, 103, 32]
def papR2 (l : List Nat) : Nat × Option (List (List (List Nat)) × List (List (List Nat))) := match expR l risL 0 with
  | (k, false) => (k, none)
  | (k, true) => match famR (some 59) l k with
    | (m, none) => (m, none)
    | (m, some fs) => match expR l falL m with
      | (n, false) => (n, none)
      | (n, true) => match famR none l n with
        | (q, none) => (q, none)
        | (q, some gs) => (q, some (fs, gs))
theorem num_pos {neg : Bool} {l : List Nat} {i k : Nat} (h : numR neg l i = (k, none)) : num1 neg l i = (k, false) ∨ num1 neg l i = (k, true) ∧ digAt l k = true := by
  unfold numR at h
  split at h
  · cases h
  · rename_i hh
    have hk : (num1 neg l i).1 = k := by cases h; rfl
    subst hk
    cases h2 : (num1 neg l i).2 with
    | false => exact .inl (by rw [← h2])
    | true =>
      refine .inr ⟨by rw [← h2], ?_⟩
      rw [h2] at hh
      simpa using hh
def glue (S : List Nat) (ps : List (List Nat)) : List Nat := (ps.map fun p => S ++ p).flatten
theorem glue_cons (S p : List Nat) (ps : List (List Nat)) : glue S (p :: ps) = S ++ p ++ glue S ps := by unfold glue; rw [List.map_cons, List.flatten_cons]
theorem glue_snoc (S q : List Nat) (ps : List (List Nat)) : glue S (ps ++ [q]) = glue S ps ++ (S ++ q) := by unfold glue; rw [List.map_append, List.flatten_append]; simp
theorem join_glue (S : List Nat) : ∀ (p : List Nat) (ps : List (List Nat)), TL.joinL S (p :: ps) = p ++ glue S ps
  | p, [] => by unfold glue; simp [TL.joinL]
  | p, q :: ps => by
    rw [glue_cons, List.append_assoc, ← join_glue S q ps]
    simp [TL.joinL]
def pieceT (ts : List (List Nat)) : List Nat := match ts with
  | [] => [45]
  | t :: ts => t ++ glue [32] ts
def famT (tss : List (List (List Nat))) : List Nat := match tss with
  | [] => []
  | t :: tss => pieceT t ++ glue [32, 47, 32] (tss.map pieceT)
def OkL (ts : List (List Nat)) : Prop := ∀ t ∈ ts, Tok false t
theorem nxL_sound {l : List Nat} : ∀ (f j : Nat) (acc : List (List Nat)) {k : Nat} {ts : List (List Nat)}, j ≤ l.length → nxL l f j acc = (k, some ts) → ∃ more, ts = acc ++ more ∧ OkL more ∧ l.drop j = glue [32] more ++ l.drop k ∧ j ≤ k ∧ k ≤ l.length
  | 0, j, acc, k, ts, hj, h => by
    cases h
    exact ⟨[], by simp, (fun t ht => by cases ht), by simp [glue], Nat.le_refl _, hj⟩
  | f + 1, j, acc, k, ts, hj, h => by
    unfold nxL at h
    split at h
    · rename_i hc
      split at h
      · rename_i k1 t e
        obtain ⟨h1, h2, h3, h4, _, _⟩ := num_tok e
        obtain ⟨more, e1, e2, e3, e4, e5⟩ := nxL_sound f k1 (acc ++ [t]) h3 h
        refine ⟨t :: more, by rw [e1]; simp, fun u hu => ?_, ?_, by omega, e5⟩
        · rcases List.mem_cons.mp hu with rfl | hu
          · exact h1
          · exact e2 u hu
        · have hj := (List.getElem?_eq_some_iff.mp hc.1)
          rw [List.drop_eq_getElem_cons hj.1, hj.2, h4, e3, glue_cons]
          simp
      · cases h
    · cases h
      exact ⟨[], by simp, (fun t ht => by cases ht), by simp [glue], Nat.le_refl _, hj⟩
theorem nxR_sound {l : List Nat} {i k : Nat} {ts : List (List Nat)} (h : nxR l i = (k, some ts)) : l.drop i = pieceT ts ++ l.drop k ∧ OkL ts ∧ i < k ∧ k ≤ l.length := by
  unfold nxR at h
  split at h
  · rename_i hc
    cases h
    obtain ⟨hi, he⟩ := List.getElem?_eq_some_iff.mp hc
    exact ⟨by rw [List.drop_eq_getElem_cons hi, he]; rfl, (fun t ht => by cases ht), by omega, by omega⟩
  · split at h
    · rename_i k1 t e
      obtain ⟨h1, h2, h3, h4, _, _⟩ := num_tok e
      obtain ⟨more, e1, e2, e3, e4, e5⟩ := nxL_sound _ k1 [t] h3 h
      subst e1
      refine ⟨by rw [h4, e3]; simp [pieceT], fun u hu => ?_, by omega, e5⟩
      rcases List.mem_cons.mp hu with rfl | hu
      · exact h1
      · exact e2 u hu
    · cases h
theorem famL_sound {l : List Nat} : ∀ (f j : Nat) (acc : List (List (List Nat))) {k : Nat} {ts : List (List (List Nat))}, j ≤ l.length → famL l f j acc = (k, some ts) → ∃ more, ts = acc ++ more ∧ (∀ t ∈ more, OkL t) ∧ l.drop j = glue [32, 47, 32] (more.map pieceT) ++ l.drop k ∧ j ≤ k ∧ k ≤ l.length
  | 0, j, acc, k, ts, hj, h => by
    cases h
    exact ⟨[], by simp, (fun t ht => by cases ht), by simp [glue], Nat.le_refl _, hj⟩
  | f + 1, j, acc, k, ts, hj, h => by
    unfold famL at h
    split at h
    · rename_i c0
      split at h
      · cases h
      · rename_i c1
        split at h
        · cases h
        · rename_i c2
          split at h
          · rename_i k1 t e
            obtain ⟨h1, h2, h3, h4⟩ := nxR_sound e
            obtain ⟨more, e1, e2, e3, e4, e5⟩ := famL_sound f k1 (acc ++ [t]) h4 h
            have d0 := List.getElem?_eq_some_iff.mp c0
            have d1 := List.getElem?_eq_some_iff.mp (Classical.not_not.mp c1)
            have d2 := List.getElem?_eq_some_iff.mp (Classical.not_not.mp c2)
            refine ⟨t :: more, by rw [e1]; simp, fun u hu => ?_, ?_, by omega, e5⟩
            · rcases List.mem_cons.mp hu with rfl | hu
              · exact h2
              · exact e2 u hu
            · rw [List.drop_eq_getElem_cons d0.1, d0.2, List.drop_eq_getElem_cons d1.1, d1.2, List.drop_eq_getElem_cons d2.1, d2.2, h1, e3, List.map_cons, glue_cons]
              simp
          · cases h
    · cases h
      exact ⟨[], by simp, (fun t ht => by cases ht), by simp [glue], Nat.le_refl _, hj⟩
theorem famR_sound {e : Option Nat} {l : List Nat} {i k : Nat} {tss : List (List (List Nat))} (hi : i ≤ l.length) (h : famR e l i = (k, some tss)) : l.drop i = famT tss ++ l.drop k ∧ (∀ t ∈ tss, OkL t) ∧ i ≤ k ∧ k ≤ l.length ∧ l[k]? = e := by
  unfold famR at h
  split at h
  · rename_i hc
    cases h
    exact ⟨by simp [famT], (fun t ht => by cases ht), Nat.le_refl _, hi, hc⟩
  · split at h
    · cases h
    · rename_i k1 t e1
      obtain ⟨h1, h2, h3, h4⟩ := nxR_sound e1
      split at h
      · cases h
      · rename_i m ts e2
        split at h
        · rename_i hm
          cases h
          obtain ⟨more, g1, g2, g3, g4, g5⟩ := famL_sound _ k1 [t] h4 e2
          subst g1
          refine ⟨by rw [h1, g3]; simp [famT], fun u hu => ?_, by omega, g5, hm⟩
          rcases List.mem_cons.mp hu with rfl | hu
          · exact h2
          · exact g2 u hu
        · cases h
theorem wrdL_sound {l : List Nat} : ∀ (f j : Nat) (acc : List (List Nat)) {k : Nat} {ts : List (List Nat)}, j ≤ l.length → l.length < j + f → wrdL l f j acc = (k, some ts) → ∃ more, ts = acc ++ more ∧ (∀ t ∈ more, Tok true t) ∧ l.drop j = glue [32] more ∧ k = l.length
  | 0, j, acc, k, ts, hj, hf, h => by omega
  | f + 1, j, acc, k, ts, hj, hf, h => by
    unfold wrdL at h
    split at h
    · rename_i hc
      have := List.getElem?_eq_none_iff.mp hc
      have hj2 : j = l.length := by omega
      cases h
      exact ⟨[], by simp, (fun t ht => by cases ht), by rw [hj2]; simp [glue], hj2⟩
    · split at h
      · rename_i hc
        split at h
        · rename_i k1 t e
          obtain ⟨h1, h2, h3, h4, _, _⟩ := num_tok e
          obtain ⟨more, e1, e2, e3, e4⟩ := wrdL_sound f k1 (acc ++ [t]) h3 (by omega) h
          refine ⟨t :: more, by rw [e1]; simp, fun u hu => ?_, ?_, e4⟩
          · rcases List.mem_cons.mp hu with rfl | hu
            · exact h1
            · exact e2 u hu
          · have hj := (List.getElem?_eq_some_iff.mp hc)
            rw [List.drop_eq_getElem_cons hj.1, hj.2, h4, e3, glue_cons]
            simp
        · cases h
      · cases h
theorem wrdR_sound {l : List Nat} {k : Nat} {ts : List (List Nat)} (h : wrdR l = (k, some ts)) : (∀ t ∈ ts, Tok true t) ∧ l = TL.joinL [32] ts ∧ k = l.length ∧ (l = [] ↔ ts = []) := by
  unfold wrdR at h
  split at h
  · rename_i hc
    cases h
    exact ⟨(fun t ht => by cases ht), by rw [hc]; rfl, by rw [hc]; rfl, by simp [hc]⟩
  · rename_i hne
    split at h
    · rename_i k1 t e
      obtain ⟨h1, h2, h3, h4, _, _⟩ := num_tok e
      obtain ⟨more, e1, e2, e3, e4⟩ := wrdL_sound _ k1 [t] h3 (by omega) h
      subst e1
      rw [List.drop_zero, e3] at h4
      refine ⟨fun u hu => ?_, ?_, e4, ?_⟩
      · rcases List.mem_cons.mp hu with rfl | hu
        · exact h1
        · exact e2 u hu
      · rw [List.singleton_append, join_glue, ← h4]
      · simp [hne]
    · cases h
/-! ### what is written is read -/
theorem tok_head {neg : Bool} {t : List Nat} (h : Tok neg t) : ∃ c s, t = c :: s ∧ (c = 45 ∨ (48 ≤ c ∧ c ≤ 57)) ∧ (neg = false → c ≠ 45) := by
  rcases h with h | ⟨hn, s, rfl, h, _⟩
  · obtain ⟨c, s, rfl, c0, c1⟩ := dig_head h
    exact ⟨c, s, rfl, .inr ⟨c0, c1⟩, fun _ => by omega⟩
  · exact ⟨45, s, rfl, .inl rfl, fun z => by rw [hn] at z; cases z⟩
theorem glue_head {S : List Nat} {s : Nat} {ps : List (List Nat)} {r : List Nat} {P : Nat → Prop} (hs : P s) (hr : ∀ c, r.head? = some c → P c) : ∀ c, (glue (s :: S) ps ++ r).head? = some c → P c := fun c hc => by
  cases ps with
  | nil => exact hr c (by simpa [glue] using hc)
  | cons p ps =>
    rw [glue_cons] at hc
    have : s = c := by simpa using hc
    rw [← this]
    exact hs
theorem nd32 : isD 32 = false := by decide
theorem nxL_full {l r : List Nat} (hr : ∀ c, r.head? = some c → isD c = false) (hs : ¬ (r[0]? = some 32 ∧ r[1]? ≠ some 47)) : ∀ (more : List (List Nat)) (f j : Nat) (acc : List (List Nat)), OkL more → l.drop j = glue [32] more ++ r → more.length < f → nxL l f j acc = (j + (glue [32] more).length, some (acc ++ more))
  | [], f + 1, j, acc, _, e, _ => by
    have e0 : l.drop j = r := by rw [e]; simp [glue]
    unfold nxL
    have a0 : l[j]? = r[0]? := by rw [← e0, List.getElem?_drop, Nat.add_zero]
    have a1 : l[j + 1]? = r[1]? := by rw [← e0, List.getElem?_drop]
    rw [a0, a1, if_neg hs]
    simp [glue]
  | t :: more, f + 1, j, acc, ok, e, hf => by
    have ht := ok t (List.mem_cons_self)
    obtain ⟨c, s, hc, hcc, hcn⟩ := tok_head ht
    rw [glue_cons] at e
    have a0 : l[j]? = some 32 := by have := app_at (i := j) (t := [32]) (r := t ++ glue [32] more ++ r) (by rw [e]; simp) 0; simpa using this
    have a1 : l[j + 1]? = some c := by have := app_at (i := j) (t := [32]) (r := t ++ glue [32] more ++ r) (by rw [e]; simp) 1; rw [hc] at this; simpa using this
    have e1 : l.drop (j + 1) = t ++ (glue [32] more ++ r) := by
      have := congrArg (List.drop 1) e
      rw [List.drop_drop] at this
      simpa using this
    have hn := tok_num ht e1 (glue_head (P := fun c => isD c = false) nd32 hr)
    have e2 : l.drop (j + 1 + t.length) = glue [32] more ++ r := by
      have := congrArg (List.drop t.length) e1
      rw [List.drop_drop] at this
      simpa using this
    unfold nxL
    rw [if_pos ⟨a0, by rw [a1]; intro z; cases z; have := hcn rfl; omega⟩, hn]
    dsimp only
    rw [nxL_full hr hs more f (j + 1 + t.length) (acc ++ [t]) (fun u hu => ok u (List.mem_cons_of_mem _ hu)) e2 (by rw [List.length_cons] at hf; omega), glue_cons]
    simp only [List.length_append, List.append_assoc, List.singleton_append, List.length_cons, List.length_nil]
    congr 1
    omega
theorem glue_len (S : List Nat) : ∀ ps : List (List Nat), ps.length * S.length ≤ (glue S ps).length
  | [] => by simp
  | p :: ps => by
    rw [glue_cons, List.length_cons, Nat.succ_mul]
    have := glue_len S ps
    simp only [List.length_append]
    omega
theorem nxR_full {l r : List Nat} {i : Nat} (hr : ∀ c, r.head? = some c → isD c = false) (hs : ¬ (r[0]? = some 32 ∧ r[1]? ≠ some 47)) {ts : List (List Nat)} (ok : OkL ts) (e : l.drop i = pieceT ts ++ r) : nxR l i = (i + (pieceT ts).length, some ts) := by
  unfold nxR
  cases ts with
  | nil =>
    have a0 : l[i]? = some 45 := by have := app_at (t := [45]) (r := r) e 0; simpa using this
    rw [if_pos a0]
    rfl
  | cons t ts =>
    have ht := ok t (List.mem_cons_self)
    obtain ⟨c, s, hc, hcc, hcn⟩ := tok_head ht
    have e' : l.drop i = t ++ (glue [32] ts ++ r) := by rw [e]; simp [pieceT]
    have a0 : l[i]? = some c := by have := app_at e' 0; rw [hc] at this; simpa using this
    rw [if_neg (by rw [a0]; intro z; cases z; exact hcn rfl rfl), tok_num ht e' (glue_head (P := fun c => isD c = false) nd32 hr)]
    dsimp only
    have e2 : l.drop (i + t.length) = glue [32] ts ++ r := by
      have := congrArg (List.drop t.length) e'
      rw [List.drop_drop] at this
      simpa using this
    have hl : ts.length ≤ l.length := by
      have h1 := glue_len [32] ts
      have h2 := congrArg List.length e2
      rw [List.length_drop, List.length_append] at h2
      simp only [List.length_cons, List.length_nil] at h1
      omega
    rw [nxL_full hr hs ts (l.length + 1) (i + t.length) [t] (fun u hu => ok u (List.mem_cons_of_mem _ hu)) e2 (by omega)]
    simp only [pieceT, List.length_append, List.singleton_append]
    congr 1
    omega
theorem piece_head {ts : List (List Nat)} (ok : OkL ts) : ∃ c s, pieceT ts = c :: s ∧ (c = 45 ∨ (48 ≤ c ∧ c ≤ 57)) := by
  cases ts with
  | nil => exact ⟨45, [], rfl, .inl rfl⟩
  | cons t ts =>
    obtain ⟨c, s, hc, hcc, _⟩ := tok_head (ok t List.mem_cons_self)
    exact ⟨c, s ++ glue [32] ts, by simp [pieceT, hc], hcc⟩
theorem famL_full {l r : List Nat} (hr : ∀ c, r.head? = some c → isD c = false ∧ c ≠ 32) : ∀ (more : List (List (List Nat))) (f j : Nat) (acc : List (List (List Nat))), (∀ t ∈ more, OkL t) → l.drop j = glue [32, 47, 32] (more.map pieceT) ++ r → more.length < f → famL l f j acc = (j + (glue [32, 47, 32] (more.map pieceT)).length, some (acc ++ more))
  | [], f + 1, j, acc, _, e, _ => by
    have e0 : l.drop j = r := by rw [e]; simp [glue]
    unfold famL
    have a0 : l[j]? = r.head? := by rw [← e0, List.head?_eq_getElem?, List.getElem?_drop, Nat.add_zero]
    rw [a0, if_neg (fun z => (hr 32 z).2 rfl)]
    simp [glue]
  | t :: more, f + 1, j, acc, ok, e, hf => by
    have ht := ok t (List.mem_cons_self)
    rw [List.map_cons, glue_cons] at e
    have e' : l.drop j = [32, 47, 32] ++ (pieceT t ++ (glue [32, 47, 32] (more.map pieceT) ++ r)) := by rw [e]; simp
    have a0 : l[j]? = some 32 := by have := app_at e' 0; simpa using this
    have a1 : l[j + 1]? = some 47 := by have := app_at e' 1; simpa using this
    have a2 : l[j + 2]? = some 32 := by have := app_at e' 2; simpa using this
    have e1 : l.drop (j + 3) = pieceT t ++ (glue [32, 47, 32] (more.map pieceT) ++ r) := by
      have := congrArg (List.drop 3) e'
      rw [List.drop_drop] at this
      simpa using this
    have hh : ∀ c, (glue [32, 47, 32] (more.map pieceT) ++ r).head? = some c → isD c = false := glue_head (P := fun c => isD c = false) nd32 fun c hc => (hr c hc).1
    have hs : ¬ ((glue [32, 47, 32] (more.map pieceT) ++ r)[0]? = some 32 ∧ (glue [32, 47, 32] (more.map pieceT) ++ r)[1]? ≠ some 47) := by
      cases more with
      | nil =>
        intro z
        have : r[0]? = some 32 := by simpa [glue] using z.1
        rw [← List.head?_eq_getElem?] at this
        exact (hr 32 this).2 rfl
      | cons u more =>
        intro z
        apply z.2
        rw [List.map_cons, glue_cons]
        simp
    have hn := nxR_full hh hs ht e1
    have e2 : l.drop (j + 3 + (pieceT t).length) = glue [32, 47, 32] (more.map pieceT) ++ r := by
      have := congrArg (List.drop (pieceT t).length) e1
      rw [List.drop_drop] at this
      simpa using this
    unfold famL
    rw [if_pos a0, if_neg (fun z => z a1), if_neg (fun z => z a2), hn]
    dsimp only
    rw [famL_full hr more f (j + 3 + (pieceT t).length) (acc ++ [t]) (fun u hu => ok u (List.mem_cons_of_mem _ hu)) e2 (by rw [List.length_cons] at hf; omega), List.map_cons, glue_cons]
    simp only [List.length_append, List.append_assoc, List.singleton_append, List.length_cons, List.length_nil]
    congr 1
    omega
theorem famR_full {o : Option Nat} {l r : List Nat} {i : Nat} (ho : r.head? = o) (hr : ∀ c, r.head? = some c → isD c = false ∧ c ≠ 32 ∧ c ≠ 45) {tss : List (List (List Nat))} (ok : ∀ t ∈ tss, OkL t) (e : l.drop i = famT tss ++ r) : famR o l i = (i + (famT tss).length, some tss) := by
  unfold famR
  cases tss with
  | nil =>
    have a0 : l[i]? = o := by
      have := app_at (t := []) (r := r) e 0
      rw [Nat.add_zero] at this
      rw [this, ← ho, List.head?_eq_getElem?]
      rfl
    rw [if_pos a0]
    rfl
  | cons t tss =>
    have ht := ok t (List.mem_cons_self)
    obtain ⟨c, s, hc, hcc⟩ := piece_head ht
    have e' : l.drop i = pieceT t ++ (glue [32, 47, 32] (tss.map pieceT) ++ r) := by rw [e]; simp [famT]
    have a0 : l[i]? = some c := by have := app_at e' 0; rw [hc] at this; simpa using this
    have hno : ¬ l[i]? = o := by
      rw [a0, ← ho]
      intro z
      have := hr c z.symm
      have hd : isD c = false := this.1
      rcases hcc with h | h
      · exact this.2.2 h
      · rw [isD_iff.mpr h] at hd; cases hd
    have hh : ∀ c, (glue [32, 47, 32] (tss.map pieceT) ++ r).head? = some c → isD c = false := glue_head (P := fun c => isD c = false) nd32 fun c hc => (hr c hc).1
    have hs : ¬ ((glue [32, 47, 32] (tss.map pieceT) ++ r)[0]? = some 32 ∧ (glue [32, 47, 32] (tss.map pieceT) ++ r)[1]? ≠ some 47) := by
      cases tss with
      | nil =>
        intro z
        have : r[0]? = some 32 := by simpa [glue] using z.1
        rw [← List.head?_eq_getElem?] at this
        exact (hr 32 this).2.1 rfl
      | cons u more =>
        intro z
        apply z.2
        rw [List.map_cons, glue_cons]
        simp
    have e2 : l.drop (i + (pieceT t).length) = glue [32, 47, 32] (tss.map pieceT) ++ r := by
      have := congrArg (List.drop (pieceT t).length) e'
      rw [List.drop_drop] at this
      simpa using this
    have hl : tss.length ≤ l.length := by
      have h1 := glue_len [32, 47, 32] (tss.map pieceT)
      have h2 := congrArg List.length e2
      rw [List.length_drop, List.length_append] at h2
      simp only [List.length_cons, List.length_nil, List.length_map] at h1
      omega
    rw [if_neg hno, nxR_full hh hs ht e']
    dsimp only
    rw [famL_full (fun c hc => ⟨(hr c hc).1, (hr c hc).2.1⟩) tss (l.length + 1) _ [t] (fun u hu => ok u (List.mem_cons_of_mem _ hu)) e2 (by omega)]
    dsimp only
    have a1 : l[i + (pieceT t).length + (glue [32, 47, 32] (tss.map pieceT)).length]? = o := by
      have := app_at e2 (glue [32, 47, 32] (tss.map pieceT)).length
      rw [List.getElem?_append_right (Nat.le_refl _), Nat.sub_self, ← List.head?_eq_getElem?] at this
      rw [this, ho]
    rw [if_pos a1]
    simp only [famT, List.length_append, List.singleton_append]
    congr 1
    omega
theorem wrdL_full {l : List Nat} : ∀ (more : List (List Nat)) (f j : Nat) (acc : List (List Nat)), (∀ t ∈ more, Tok true t) → l.drop j = glue [32] more → j ≤ l.length → more.length < f → wrdL l f j acc = (l.length, some (acc ++ more))
  | [], f + 1, j, acc, _, e, hj, _ => by
    have e0 : l.drop j = [] := by rw [e]; simp [glue]
    have : l.length ≤ j := by have := congrArg List.length e0; rw [List.length_drop] at this; simp at this; omega
    unfold wrdL
    rw [if_pos (List.getElem?_eq_none this), show j = l.length by omega]
    simp
  | t :: more, f + 1, j, acc, ok, e, hj, hf => by
    have ht := ok t (List.mem_cons_self)
    rw [glue_cons] at e
    have e' : l.drop j = [32] ++ (t ++ glue [32] more) := by rw [e]; simp
    have a0 : l[j]? = some 32 := by have := app_at e' 0; simpa using this
    have e1 : l.drop (j + 1) = t ++ glue [32] more := by
      have := congrArg (List.drop 1) e'
      rw [List.drop_drop] at this
      simpa using this
    have hn := tok_num ht e1 (by have := glue_head (P := fun c => isD c = false) (S := []) (ps := more) (r := []) nd32 (fun c hc => by cases hc); simpa using this)
    have e2 : l.drop (j + 1 + t.length) = glue [32] more := by
      have := congrArg (List.drop t.length) e1
      rw [List.drop_drop] at this
      simpa using this
    have hl : j + 1 + t.length ≤ l.length := by
      have h2 := congrArg List.length e'
      rw [List.length_drop] at h2
      simp only [List.length_append, List.length_cons, List.length_nil] at h2
      omega
    unfold wrdL
    rw [if_neg (by rw [a0]; simp), if_pos a0, hn]
    dsimp only
    rw [wrdL_full more f (j + 1 + t.length) (acc ++ [t]) (fun u hu => ok u (List.mem_cons_of_mem _ hu)) e2 hl (by rw [List.length_cons] at hf; omega)]
    simp
theorem wrdR_full {ts : List (List Nat)} (ok : ∀ t ∈ ts, Tok true t) : wrdR (TL.joinL [32] ts) = ((TL.joinL [32] ts).length, some ts) := by
  unfold wrdR
  cases ts with
  | nil => rfl
  | cons t ts =>
    have ht := ok t (List.mem_cons_self)
    rw [join_glue]
    generalize hl : t ++ glue [32] ts = l
    have hne : l ≠ [] := by rw [← hl]; have := tok_ne ht; simp [this]
    have hn := tok_num (l := l) (i := 0) (r := glue [32] ts) ht (by rw [← hl]; rfl) (by have := glue_head (P := fun c => isD c = false) (S := []) (ps := ts) (r := []) nd32 (fun c hc => by cases hc); simpa using this)
    rw [if_neg hne, hn, Nat.zero_add]
    dsimp only
    have e2 : l.drop t.length = glue [32] ts := by rw [← hl]; simp
    have h1 := glue_len [32] ts
    have h2 : l.length = t.length + (glue [32] ts).length := by rw [← hl]; simp
    simp only [List.length_cons, List.length_nil] at h1
    rw [wrdL_full ts (l.length + 1) t.length [t] (fun u hu => ok u (List.mem_cons_of_mem _ hu)) e2 (by omega) (by omega)]
    rfl
/-! ### steps of the readers -/
theorem nxL_go {l : List Nat} {f j k : Nat} {t : List Nat} {acc : List (List Nat)} (h : l[j]? = some 32 ∧ l[j + 1]? ≠ some 47) (e : numR false l (j + 1) = (k, some t)) : nxL l (f + 1) j acc = nxL l f k (acc ++ [t]) := by
  rw [nxL.eq_2, if_pos h, e]
theorem nxL_bad {l : List Nat} {f j k : Nat} {acc : List (List Nat)} (h : l[j]? = some 32 ∧ l[j + 1]? ≠ some 47) (e : numR false l (j + 1) = (k, none)) : nxL l (f + 1) j acc = (k, none) := by
  unfold nxL
  rw [if_pos h, e]
theorem nxL_end {l : List Nat} {f j : Nat} {acc : List (List Nat)} (h : ¬ (l[j]? = some 32 ∧ l[j + 1]? ≠ some 47)) : nxL l f j acc = (j, some acc) := by
  cases f with
  | zero => rfl
  | succ f =>
    unfold nxL
    rw [if_neg h]
theorem nxR_dash {l : List Nat} {i : Nat} (h : l[i]? = some 45) : nxR l i = (i + 1, some []) := by
  unfold nxR
  rw [if_pos h]
theorem nxR_go {l : List Nat} {i k : Nat} {t : List Nat} (h : ¬ l[i]? = some 45) (e : numR false l i = (k, some t)) : nxR l i = nxL l (l.length + 1) k [t] := by
  unfold nxR
  rw [if_neg h, e]
theorem nxR_bad {l : List Nat} {i k : Nat} (h : ¬ l[i]? = some 45) (e : numR false l i = (k, none)) : nxR l i = (k, none) := by
  unfold nxR
  rw [if_neg h, e]
theorem famL_end {l : List Nat} {f j : Nat} {acc : List (List (List Nat))} (h : ¬ l[j]? = some 32) : famL l f j acc = (j, some acc) := by
  cases f with
  | zero => rfl
  | succ f =>
    unfold famL
    rw [if_neg h]
theorem famL_go {l : List Nat} {f j k : Nat} {t : List (List Nat)} {acc : List (List (List Nat))} (h0 : l[j]? = some 32) (h1 : l[j + 1]? = some 47) (h2 : l[j + 2]? = some 32) (e : nxR l (j + 3) = (k, some t)) : famL l (f + 1) j acc = famL l f k (acc ++ [t]) := by
  rw [famL.eq_2, if_pos h0, if_neg (fun z => z h1), if_neg (fun z => z h2), e]
theorem famL_bad {l : List Nat} {f j k : Nat} {acc : List (List (List Nat))} (h0 : l[j]? = some 32) (h1 : l[j + 1]? = some 47) (h2 : l[j + 2]? = some 32) (e : nxR l (j + 3) = (k, none)) : famL l (f + 1) j acc = (k, none) := by
  unfold famL
  rw [if_pos h0, if_neg (fun z => z h1), if_neg (fun z => z h2), e]
theorem famL_bad1 {l : List Nat} {f j : Nat} {acc : List (List (List Nat))} (h0 : l[j]? = some 32) (h1 : ¬ l[j + 1]? = some 47) : famL l (f + 1) j acc = (j + 1, none) := by
  unfold famL
  rw [if_pos h0, if_pos h1]
theorem famL_bad2 {l : List Nat} {f j : Nat} {acc : List (List (List Nat))} (h0 : l[j]? = some 32) (h1 : l[j + 1]? = some 47) (h2 : ¬ l[j + 2]? = some 32) : famL l (f + 1) j acc = (j + 2, none) := by
  unfold famL
  rw [if_pos h0, if_neg (fun z => z h1), if_pos h2]
def famE (e : Option Nat) (l : List Nat) (r : Nat × Option (List (List (List Nat)))) : Nat × Option (List (List (List Nat))) := match r with
  | (m, none) => (m, none)
  | (m, some ts) => if l[m]? = e then (m, some ts) else (m, none)
theorem famE_yes {e : Option Nat} {l : List Nat} {m : Nat} {ts : List (List (List Nat))} (h : l[m]? = e) : famE e l (m, some ts) = (m, some ts) := by
  unfold famE
  simp only
  rw [if_pos h]
theorem famE_no {e : Option Nat} {l : List Nat} {m : Nat} {ts : List (List (List Nat))} (h : ¬ l[m]? = e) : famE e l (m, some ts) = (m, none) := by
  unfold famE
  simp only
  rw [if_neg h]
theorem famR_nil {e : Option Nat} {l : List Nat} {i : Nat} (h : l[i]? = e) : famR e l i = (i, some []) := by
  unfold famR
  rw [if_pos h]
theorem famR_bad {e : Option Nat} {l : List Nat} {i k : Nat} (h : ¬ l[i]? = e) (g : nxR l i = (k, none)) : famR e l i = (k, none) := by
  unfold famR
  rw [if_neg h, g]
theorem famR_go {e : Option Nat} {l : List Nat} {i k : Nat} {t : List (List Nat)} (h : ¬ l[i]? = e) (g : nxR l i = (k, some t)) : famR e l i = famE e l (famL l (l.length + 1) k [t]) := by
  unfold famR famE
  rw [if_neg h, g]
theorem wrdL_end {l : List Nat} {f j : Nat} {acc : List (List Nat)} (h : l[j]? = none) : wrdL l f j acc = (j, some acc) := by
  cases f with
  | zero => rfl
  | succ f =>
    unfold wrdL
    rw [if_pos h]
theorem wrdL_off {l : List Nat} {f j : Nat} {acc : List (List Nat)} (h : ¬ l[j]? = none) (h2 : ¬ l[j]? = some 32) : wrdL l (f + 1) j acc = (j, none) := by
  unfold wrdL
  rw [if_neg h, if_neg h2]
theorem wrdL_go {l : List Nat} {f j k : Nat} {t : List Nat} {acc : List (List Nat)} (h : l[j]? = some 32) (e : numR true l (j + 1) = (k, some t)) : wrdL l (f + 1) j acc = wrdL l f k (acc ++ [t]) := by
  rw [wrdL.eq_2, if_neg (by rw [h]; simp), if_pos h, e]
theorem wrdL_bad {l : List Nat} {f j k : Nat} {acc : List (List Nat)} (h : l[j]? = some 32) (e : numR true l (j + 1) = (k, none)) : wrdL l (f + 1) j acc = (k, none) := by
  unfold wrdL
  rw [if_neg (by rw [h]; simp), if_pos h, e]
theorem wrdR_nil : wrdR [] = (0, some []) := rfl
theorem wrdR_go {l : List Nat} {k : Nat} {t : List Nat} (h : l ≠ []) (e : numR true l 0 = (k, some t)) : wrdR l = wrdL l (l.length + 1) k [t] := by
  unfold wrdR
  rw [if_neg h, e]
theorem wrdR_bad {l : List Nat} {k : Nat} (h : l ≠ []) (e : numR true l 0 = (k, none)) : wrdR l = (k, none) := by
  unfold wrdR
  rw [if_neg h, e]
theorem papR_1 {l : List Nat} {k : Nat} (h : expR l risL 0 = (k, false)) : papR2 l = (k, none) := by
  unfold papR2
  rw [h]
theorem papR_2 {l : List Nat} {k m : Nat} (h : expR l risL 0 = (k, true)) (h2 : famR (some 59) l k = (m, none)) : papR2 l = (m, none) := by
  unfold papR2
  simp only [h, h2]
theorem papR_3 {l : List Nat} {k m n : Nat} {fs : List (List (List Nat))} (h : expR l risL 0 = (k, true)) (h2 : famR (some 59) l k = (m, some fs)) (h3 : expR l falL m = (n, false)) : papR2 l = (n, none) := by
  unfold papR2
  simp only [h, h2, h3]
theorem papR_4 {l : List Nat} {k m n q : Nat} {fs : List (List (List Nat))} (h : expR l risL 0 = (k, true)) (h2 : famR (some 59) l k = (m, some fs)) (h3 : expR l falL m = (n, true)) (h4 : famR none l n = (q, none)) : papR2 l = (q, none) := by
  unfold papR2
  simp only [h, h2, h3, h4]
theorem papR_5 {l : List Nat} {k m n q : Nat} {fs gs : List (List (List Nat))} (h : expR l risL 0 = (k, true)) (h2 : famR (some 59) l k = (m, some fs)) (h3 : expR l falL m = (n, true)) (h4 : famR none l n = (q, some gs)) : papR2 l = (q, some (fs, gs)) := by
  unfold papR2
  simp only [h, h2, h3, h4]
theorem num1_b {neg : Bool} {l : List Nat} {i b : Nat} (hb : (if (neg && decide (l[i]? = some 45)) = true then i + 1 else i) = b) : num1 neg l i = if l[b]? = some 48 then (if b = i then (i + 1, true) else (b, false)) else (b + runD l b, decide (0 < runD l b)) := by
  unfold num1
  rw [hb]
theorem num_wlk {neg : Bool} {l : List Nat} {i j : Nat} {g : Bool} (e : num1 neg l i = (j, g)) : (g = true ∧ digAt l j = false ∧ numR neg l i = (j, some (slc l i j))) ∨ (numR neg l i = (j, none) ∧ (g = false ∨ digAt l j = true)) := by
  unfold numR
  rw [e]
  cases g with
  | false => exact .inr ⟨rfl, .inl rfl⟩
  | true =>
    cases hd : digAt l j with
    | false => exact .inl ⟨rfl, rfl, by simp only [hd]; rfl⟩
    | true => exact .inr ⟨by simp only [hd]; rfl, .inr rfl⟩
theorem num1_lt {neg : Bool} {l : List Nat} {i j : Nat} (e : num1 neg l i = (j, true)) : i < j := by
  generalize hb : (if (neg && decide (l[i]? = some 45)) = true then i + 1 else i) = b
  have hbi : i ≤ b := by rw [← hb]; split <;> omega
  rw [num1_b hb] at e
  split at e
  · split at e
    · cases e; omega
    · cases e
  · have h1 : b + runD l b = j := congrArg Prod.fst e
    have h2 : decide (0 < runD l b) = true := congrArg Prod.snd e
    have := of_decide_eq_true h2
    omega
theorem num1_le {neg : Bool} {l : List Nat} {i j : Nat} {g : Bool} (hi : i ≤ l.length + 1) (e : num1 neg l i = (j, g)) : j ≤ l.length + 2 := by
  generalize hb : (if (neg && decide (l[i]? = some 45)) = true then i + 1 else i) = b
  have hbi : b ≤ i + 1 := by rw [← hb]; split <;> omega
  rw [num1_b hb] at e
  split at e
  · rename_i h
    have := (List.getElem?_eq_some_iff.mp h).1
    split at e
    · cases e; omega
    · cases e; omega
  · have h1 : b + runD l b = j := congrArg Prod.fst e
    by_cases hr : runD l b = 0
    · omega
    · have := digAt_lt (runD_all (l := l) (b := b) (m := runD l b - 1) (by omega))
      omega
theorem exp_hit {l s : List Nat} {i m c : Nat} (hc : s[m]? = some c) (h : l[i + m]? = some c) : expR l (s.drop m) (i + m) = expR l (s.drop (m + 1)) (i + (m + 1)) := by
  obtain ⟨hm, e⟩ := List.getElem?_eq_some_iff.mp hc
  rw [List.drop_eq_getElem_cons hm, e]
  show (if l[i + m]? = some c then _ else _) = _
  rw [if_pos h]
  rfl
theorem exp_miss {l s : List Nat} {i m c : Nat} (hc : s[m]? = some c) (h : l[i + m]? ≠ some c) : expR l (s.drop m) (i + m) = (i + m, false) := by
  obtain ⟨hm, e⟩ := List.getElem?_eq_some_iff.mp hc
  rw [List.drop_eq_getElem_cons hm, e]
  show (if l[i + m]? = some c then _ else _) = _
  rw [if_neg h]
theorem exp_le {l : List Nat} : ∀ (s : List Nat) {i j : Nat} {b : Bool}, i ≤ l.length → expR l s i = (j, b) → j ≤ l.length
  | [], i, j, b, hi, h => by cases h; exact hi
  | c :: s, i, j, b, hi, h => by
    unfold expR at h
    split at h
    · rename_i e
      exact exp_le s (Nat.succ_le_of_lt (List.getElem?_eq_some_iff.mp e).1) h
    · cases h; exact hi
end Y
/-! Y: what is written is read. -/
namespace Y
open PySem L2
def intL (n : Int) : List Nat := if n < 0 then 45 :: TL.numL n.natAbs else TL.numL n.natAbs
theorem mkL (x : Str) : x = ⟨(TL.tl x).toArray⟩ := by
  cases x with
  | mk a => show (⟨a⟩ : Str) = ⟨a.toList.toArray⟩; simp
theorem str_int (n : Int) : (Str.ofString (toString n) : Str) = ⟨(intL n).toArray⟩ := by
  refine TL.ext_tl ?_
  show TL.tl _ = intL n
  unfold intL
  cases n with
  | ofNat k =>
    rw [if_neg (by show ¬ (Int.ofNat k < 0); exact Int.not_lt.mpr (Int.natCast_nonneg k))]
    exact TL.tl_num k
  | negSucc k =>
    rw [if_pos (Int.negSucc_lt_zero k)]
    have e : toString (Int.negSucc k) = "-" ++ toString ((k + 1 : Nat) : Int) := rfl
    have h1 : TL.tl (Str.ofString ("-" ++ toString ((k + 1 : Nat) : Int))) = 45 :: TL.tl (Str.ofString (toString ((k + 1 : Nat) : Int))) := by
      rw [TL.tl_ofString, TL.tl_ofString, String.toList_append, List.map_append]
      rfl
    rw [e, h1, TL.tl_num]
    rfl
theorem numL_head {n : Nat} (h : 0 < n) : (TL.numL n).head? ≠ some 48 := by
  induction n using Nat.strongRecOn with
  | ind n ih =>
    by_cases h10 : n < 10
    · rw [TL.numL_lt h10]
      simp
      omega
    · rw [TL.numL_step (by omega)]
      have := ih (n / 10) (by omega) (by omega)
      have hne := TL.numL_ne (n / 10)
      cases e : TL.numL (n / 10) with
      | nil => exact absurd e hne
      | cons c s =>
        rw [e] at this
        simpa using this
theorem dig_num {n : Nat} (h : n < 10 ^ 60) : Dig (TL.numL n) := by
  refine ⟨TL.numL_ne n, TL.numL_len (by decide) h, fun c hc => isD_iff.mpr (TL.numL_digits n c hc), fun hh => ?_⟩
  by_cases hn : 0 < n
  · exact absurd hh (numL_head hn)
  · rw [show n = 0 by omega]
    exact TL.numL_lt (by decide)
def In60 (n : Int) : Prop := n.natAbs < 10 ^ 60
theorem tok_intL {n : Int} (h : In60 n) : Tok true (intL n) := by
  unfold intL
  by_cases hn : n < 0
  · rw [if_pos hn]
    exact .inr ⟨rfl, _, rfl, dig_num h, numL_head (by omega)⟩
  · rw [if_neg hn]
    exact .inl (dig_num h)
theorem tok_natL {n : Int} (h : In60 n) (h0 : 0 ≤ n) : Tok false (intL n) := by
  unfold intL
  rw [if_neg (by omega)]
  exact .inl (dig_num h)
theorem val_intL {n : Int} (h : In60 n) : tokV (intL n) = n := by
  have hl := TL.numL_len (by decide) h
  unfold tokV intL
  by_cases hn : n < 0
  · rw [if_pos hn, intText_neg (x := ⟨(45 :: TL.numL n.natAbs).toArray⟩) (cs := TL.numL n.natAbs) rfl (TL.numL_digits _) (TL.numL_ne _) (by show (45 :: TL.numL n.natAbs).toArray.size ≤ _; rw [List.size_toArray, List.length_cons]; omega)]
    rw [TL.numL_val]
    simp only [Option.getD_some]
    omega
  · rw [if_neg hn, intText_digits (x := ⟨(TL.numL n.natAbs).toArray⟩) (TL.numL_digits _) (TL.numL_ne _) (by show (TL.numL n.natAbs).toArray.size ≤ _; rw [List.size_toArray]; omega)]
    simp only [Option.getD_some]
    rw [TL.numL_val]
    omega
abbrev wL (ws : List Int) : List (List Nat) := ws.map intL
theorem wL_len {ws : List Int} (h : ∀ n ∈ ws, In60 n) : ∀ t ∈ wL ws, t.length ≤ 61 := fun t ht => by
  obtain ⟨n, hn, rfl⟩ := List.mem_map.mp ht
  exact tok_len (tok_intL (h n hn))
theorem vT_wL {ws : List Int} (h : ∀ n ∈ ws, In60 n) : (wL ws).map tokV = ws := by
  unfold wL
  rw [List.map_map]
  conv => rhs; rw [← List.map_id ws]
  exact List.map_congr_left fun n hn => val_intL (h n hn)
/-- the text of a word -/
def wrdT (ws : List Int) : List Nat := TL.joinL [32] (wL ws)
def lstT (ws : List Int) : List Nat := pieceT (wL ws)
def fmT (fs : List (List Int)) : List Nat := famT (fs.map wL)
theorem lst_eq (ws : List Int) : lstT ws = if ws = [] then [45] else wrdT ws := by
  unfold lstT wrdT pieceT
  cases ws with
  | nil => rfl
  | cons n ws =>
    rw [if_neg (by simp)]
    show intL n ++ glue [32] (wL ws) = TL.joinL [32] (intL n :: wL ws)
    rw [join_glue]
theorem lst_eq2 (ws : List Int) : lstT ws = (if ws.length = 0 then [45] else []) ++ wrdT ws := by
  rw [lst_eq]
  cases ws with
  | nil => rfl
  | cons n ws => simp
theorem fm_eq (fs : List (List Int)) : fmT fs = TL.joinL [32, 47, 32] (fs.map lstT) := by
  unfold fmT famT
  cases fs with
  | nil => rfl
  | cons f fs =>
    show pieceT (wL f) ++ glue [32, 47, 32] ((fs.map wL).map pieceT) = TL.joinL [32, 47, 32] (lstT f :: fs.map lstT)
    rw [join_glue, List.map_map]
    rfl
theorem read_word {ws : List Int} (h : ∀ n ∈ ws, In60 n) : wrdR (wrdT ws) = ((wrdT ws).length, some (wL ws)) := wrdR_full fun t ht => by
  obtain ⟨n, hn, rfl⟩ := List.mem_map.mp ht
  exact tok_intL (h n hn)
def OkF (fs : List (List Int)) : Prop := ∀ f ∈ fs, ∀ n ∈ f, In60 n ∧ 0 ≤ n
theorem okF_ok {fs : List (List Int)} (h : OkF fs) : ∀ t ∈ fs.map wL, OkL t := fun t ht => by
  obtain ⟨f, hf, rfl⟩ := List.mem_map.mp ht
  intro u hu
  obtain ⟨n, hn, rfl⟩ := List.mem_map.mp hu
  exact tok_natL (h f hf n hn).1 (h f hf n hn).2
theorem read_fam {fs : List (List Int)} (h : OkF fs) : famR none (fmT fs) 0 = ((fmT fs).length, some (fs.map wL)) := by
  have := famR_full (o := none) (l := fmT fs) (r := []) (i := 0) rfl (fun c hc => by cases hc) (okF_ok h) (by simp [fmT])
  rw [this]
  simp [fmT]
theorem exp_full {l r : List Nat} : ∀ {s : List Nat} {i : Nat}, l.drop i = s ++ r → expR l s i = (i + s.length, true)
  | [], i, _ => rfl
  | c :: s, i, e => by
    have a0 : l[i]? = some c := by have := app_at e 0; simpa using this
    have e1 : l.drop (i + 1) = s ++ r := by
      have := congrArg (List.drop 1) e
      rw [List.drop_drop] at this
      simpa using this
    unfold expR
    rw [if_pos a0, exp_full e1, List.length_cons]
    congr 1
    omega
def papT (fs gs : List (List Int)) : List Nat := risL ++ fmT fs ++ falL ++ fmT gs
theorem read_pap {fs gs : List (List Int)} (h : OkF fs) (h2 : OkF gs) : papR2 (papT fs gs) = ((papT fs gs).length, some (fs.map wL, gs.map wL)) := by
  have e0 : (papT fs gs).drop 0 = risL ++ (fmT fs ++ (falL ++ fmT gs)) := by simp [papT]
  have d : ∀ (a b : List Nat) (i : Nat), (papT fs gs).drop i = a ++ b → (papT fs gs).drop (i + a.length) = b := fun a b i e => by
    have := congrArg (List.drop a.length) e
    rw [List.drop_drop] at this
    simpa using this
  have e1 := d _ _ _ e0
  have e2 := d _ _ _ e1
  have e3 := d _ _ _ e2
  rw [papR_5 (exp_full e0) (famR_full (o := some 59) (l := papT fs gs) (r := falL ++ fmT gs) rfl (fun c hc => by
    have : c = 59 := by simpa [falL] using hc.symm
    subst this; decide) (okF_ok h) e1) (exp_full (r := fmT gs) e2) (famR_full (o := none) (l := papT fs gs) (r := []) rfl (fun c hc => by cases hc) (okF_ok h2) (by rw [List.append_nil]; exact e3))]
  simp only [papT, List.length_append, fmT]
  congr 1
theorem vF_fs {fs : List (List Int)} (h : OkF fs) : (fs.map wL).map (fun ts => ts.map tokV) = fs := by
  rw [List.map_map]
  conv => rhs; rw [← List.map_id fs]
  exact List.map_congr_left fun f hf => vT_wL fun n hn => (h f hf n hn).1
theorem join_len {S : List Nat} : ∀ {ps : List (List Nat)} {k : Nat}, (∀ p ∈ ps, p.length ≤ k) → (TL.joinL S ps).length ≤ ps.length * (k + S.length)
  | [], k, _ => by simp [TL.joinL]
  | [p], k, h => by have := h p (List.mem_singleton.mpr rfl); simp [TL.joinL]; omega
  | p :: q :: r, k, h => by
    have h1 := h p (List.mem_cons_self)
    have h2 := join_len (S := S) (ps := q :: r) (k := k) fun x hx => h x (List.mem_cons_of_mem _ hx)
    show (p ++ (S ++ TL.joinL S (q :: r))).length ≤ _
    rw [List.length_append, List.length_append, List.length_cons, Nat.add_mul]
    omega
theorem wrd_len {ws : List Int} {m : Nat} (h : ∀ n ∈ ws, In60 n) (hm : ws.length ≤ m) : (wrdT ws).length ≤ m * 62 := by
  have := join_len (S := [32]) (wL_len h)
  rw [List.length_map] at this
  exact Nat.le_trans this (Nat.mul_le_mul hm (by simp))
theorem lst_len {ws : List Int} {m : Nat} (h : ∀ n ∈ ws, In60 n) (hm : ws.length ≤ m) : (lstT ws).length ≤ m * 62 + 1 := by
  rw [lst_eq]
  split
  · simp
  · have := wrd_len h hm; omega
theorem fm_len {fs : List (List Int)} {m k : Nat} (h : OkF fs) (hm : fs.length ≤ m) (hk : ∀ f ∈ fs, f.length ≤ k) : (fmT fs).length ≤ m * (k * 62 + 4) := by
  rw [fm_eq]
  have := join_len (S := [32, 47, 32]) (ps := fs.map lstT) (k := k * 62 + 1) fun p hp => by
    obtain ⟨f, hf, rfl⟩ := List.mem_map.mp hp
    exact lst_len (fun n hn => (h f hf n hn).1) (hk f hf)
  rw [List.length_map] at this
  exact Nat.le_trans this (Nat.mul_le_mul hm (by simp))
/-- a joined text -/
theorem join_str (S : List Nat) (ps : List (List Nat)) : Txt.join (⟨S.toArray⟩ : Str) (ps.map fun p => (⟨p.toArray⟩ : Str)) = ⟨(TL.joinL S ps).toArray⟩ := by
  refine TL.ext_tl ?_
  rw [TL.join_eq, TL.tl_join, List.map_map]
  show TL.joinL _ (ps.map fun p => p) = _
  rw [List.map_id']
theorem join_sum {ps : List (List Nat)} {k m : Nat} (h : ∀ p ∈ ps, p.length ≤ k) (hm : ps.length ≤ m) : ((ps.map fun p => (⟨p.toArray⟩ : Str)).map (·.length)).sum ≤ m * k := by
  rw [List.map_map]
  have : (ps.map (fun p => (⟨p.toArray⟩ : Str).length)).sum ≤ ps.length * k := by
    clear hm
    induction ps with
    | nil => simp
    | cons p ps ih =>
      have h1 := h p (List.mem_cons_self)
      have h2 := ih fun x hx => h x (List.mem_cons_of_mem _ hx)
      rw [List.map_cons, List.sum_cons, List.length_cons, Nat.add_mul]
      show p.length + _ ≤ _
      omega
  exact Nat.le_trans this (Nat.mul_le_mul_right _ hm)
theorem log_60 {n : Int} (h : In60 n) : n.natAbs.log2 < 1920 := by
  by_cases h0 : n.natAbs = 0
  · rw [h0]; decide
  · exact Nat.lt_trans ((Nat.log2_lt h0 (k := 200)).mpr (Nat.lt_of_lt_of_le h (by decide))) (by decide)
end Y
/-! Y: texts that are read, taken apart. -/
namespace Y
open PySem L2
theorem tok_nom {neg : Bool} {t : List Nat} (h : Tok neg t) {c : Nat} (hc : c = 32 ∨ c = 47 ∨ c = 59) : c ∉ t := fun hm => by
  have := tok_mem h hm
  omega
theorem piece_nom {ts : List (List Nat)} (h : OkL ts) {c : Nat} (hc : c = 47 ∨ c = 59) : c ∉ pieceT ts := fun hm => by
  cases ts with
  | nil => have : c = 45 := by simpa [pieceT] using hm
           omega
  | cons t ts =>
    have e : pieceT (t :: ts) = TL.joinL [32] (t :: ts) := by rw [join_glue]; rfl
    have key : ∀ (L : List (List Nat)), (∀ u ∈ L, Tok false u) → c ∉ TL.joinL [32] L := by
      intro L
      induction L with
      | nil => intro _ z; cases z
      | cons u L ih =>
        intro hu z
        cases L with
        | nil => exact tok_nom (hu u List.mem_cons_self) (.inr hc) z
        | cons v L =>
          have z : c ∈ u ++ ([32] ++ TL.joinL [32] (v :: L)) := z
          rcases List.mem_append.mp z with z | z
          · exact tok_nom (hu u List.mem_cons_self) (.inr hc) z
          · rcases List.mem_append.mp z with z | z
            · have := List.mem_singleton.mp z; omega
            · exact ih (fun x hx => hu x (List.mem_cons_of_mem _ hx)) z
    rw [e] at hm
    exact key _ h hm
theorem piece_join {ts : List (List Nat)} (h : ts ≠ []) : pieceT ts = TL.joinL [32] ts := by
  cases ts with
  | nil => exact absurd rfl h
  | cons t ts => rw [join_glue]; rfl
theorem fam_join {tss : List (List (List Nat))} : famT tss = TL.joinL [32, 47, 32] (tss.map pieceT) := by
  cases tss with
  | nil => rfl
  | cons t tss => rw [List.map_cons, join_glue]; rfl
theorem fam_nom {tss : List (List (List Nat))} (h : ∀ t ∈ tss, OkL t) : 59 ∉ famT tss := by
  rw [fam_join]
  have key : ∀ (L : List (List (List Nat))), (∀ u ∈ L, OkL u) → 59 ∉ TL.joinL [32, 47, 32] (L.map pieceT) := by
    intro L
    induction L with
    | nil => intro _ z; cases z
    | cons u L ih =>
      intro hu z
      cases L with
      | nil => exact piece_nom (hu u List.mem_cons_self) (.inr rfl) z
      | cons v L =>
        have z : 59 ∈ pieceT u ++ ([32, 47, 32] ++ TL.joinL [32, 47, 32] ((v :: L).map pieceT)) := z
        rcases List.mem_append.mp z with z | z
        · exact piece_nom (hu u List.mem_cons_self) (.inr rfl) z
        · rcases List.mem_append.mp z with z | z
          · simp at z
          · exact ih (fun x hx => hu x (List.mem_cons_of_mem _ hx)) z
  exact key _ h
theorem pre_sep {X : List Nat} (h : X[1]? ≠ some 47) : TL.pre [32, 47, 32] X = false := by
  cases X with
  | nil => rfl
  | cons x X =>
    cases X with
    | nil => unfold TL.pre; simp [TL.pre]
    | cons y X =>
      have : y ≠ 47 := by simpa using h
      simp [TL.pre, this]
theorem spl_sep : ∀ {ps : List (List Nat)}, ps ≠ [] → (∀ p ∈ ps, 47 ∉ p) → TL.spl [32, 47, 32] 0 [] (TL.joinL [32, 47, 32] ps) = ps
  | [], h, _ => absurd rfl h
  | [p], _, hp => by
    show TL.spl [32, 47, 32] 0 [] p = [p]
    rw [TL.spl_last, List.nil_append]
    intro i hi
    refine pre_sep fun z => ?_
    rw [List.getElem?_drop] at z
    exact hp p List.mem_cons_self (List.mem_of_getElem? z)
  | p :: q :: r, _, hp => by
    show TL.spl [32, 47, 32] 0 [] (p ++ ([32, 47, 32] ++ TL.joinL [32, 47, 32] (q :: r))) = p :: q :: r
    rw [TL.spl_part (by simp), List.nil_append, spl_sep (by simp) fun z hz => hp z (List.mem_cons_of_mem _ hz)]
    intro i hi
    refine pre_sep fun z => ?_
    rw [List.getElem?_drop] at z
    by_cases h : i + 1 < p.length
    · rw [List.getElem?_append_left h] at z
      exact hp p List.mem_cons_self (List.mem_of_getElem? z)
    · rw [List.getElem?_append_right (by omega), show i + 1 - p.length = 0 by omega] at z
      simp at z
/-- a text, split -/
theorem split_L {S l : List Nat} {ps : List (List Nat)} (hS : S ≠ []) (hk : S.all (· < 256) = true) (h : TL.spl S 0 [] l = ps) : Txt.split (⟨l.toArray⟩ : Str) ⟨S.toArray⟩ = ps.map fun p => (⟨p.toArray⟩ : Str) := by
  refine TL.map_tl_inj ?_
  rw [TL.split_spl _ _ (by show S ≠ []; exact hS) (TL.kind_ok (by simpa using hk))]
  show TL.spl S 0 [] l = _
  rw [h, List.map_map]
  conv => lhs; rw [← List.map_id ps]
  rfl
theorem split_space {ts : List (List Nat)} {neg : Bool} (h : ∀ t ∈ ts, Tok neg t) (hne : ts ≠ []) : Txt.split (⟨(TL.joinL [32] ts).toArray⟩ : Str) ⟨[32].toArray⟩ = ts.map fun p => (⟨p.toArray⟩ : Str) :=
  split_L (by simp) (by decide) (TL.spl_join hne fun p hp => tok_nom (h p hp) (.inl rfl))
theorem split_sep {tss : List (List (List Nat))} (h : ∀ t ∈ tss, OkL t) (hne : tss ≠ []) : Txt.split (⟨(famT tss).toArray⟩ : Str) ⟨[32, 47, 32].toArray⟩ = (tss.map pieceT).map fun p => (⟨p.toArray⟩ : Str) := by
  rw [fam_join]
  refine split_L (by simp) (by decide) (spl_sep (by simpa using hne) fun p hp => ?_)
  obtain ⟨t, ht, rfl⟩ := List.mem_map.mp hp
  exact piece_nom (h t ht) (.inl rfl)
theorem split_fal {fs gs : List (List (List Nat))} (h : ∀ t ∈ fs, OkL t) (h2 : ∀ t ∈ gs, OkL t) : Txt.split (⟨(famT fs ++ (falL ++ famT gs)).toArray⟩ : Str) ⟨falL.toArray⟩ = [(⟨(famT fs).toArray⟩ : Str), ⟨(famT gs).toArray⟩] := by
  have := TL.spl_join (s := 59) (S := [32, 102, 97, 108, 108, 105, 110, 103, 32]) (parts := [famT fs, famT gs]) (by simp) (fun p hp => by
    rcases List.mem_cons.mp hp with rfl | hp
    · exact fam_nom h
    · rw [List.mem_singleton.mp hp]; exact fam_nom h2)
  exact split_L (S := falL) (by simp [falL]) (by decide) this
theorem split_none : Txt.split (⟨[].toArray⟩ : Str) ⟨[32, 47, 32].toArray⟩ = [(⟨[].toArray⟩ : Str)] := split_L (ps := [[]]) (by simp) (by decide) (by decide)
theorem exp_sound {l : List Nat} : ∀ {s : List Nat} {i j : Nat}, expR l s i = (j, true) → l.drop i = s ++ l.drop j ∧ j = i + s.length
  | [], i, j, h => by cases h; exact ⟨rfl, rfl⟩
  | c :: s, i, j, h => by
    unfold expR at h
    split at h
    · rename_i hc
      obtain ⟨h1, h2⟩ := exp_sound h
      obtain ⟨hi, he⟩ := List.getElem?_eq_some_iff.mp hc
      refine ⟨by rw [List.drop_eq_getElem_cons hi, he, h1]; rfl, by rw [h2, List.length_cons]; omega⟩
    · cases h
theorem pap_sound {l : List Nat} {k : Nat} {fs gs : List (List (List Nat))} (h : papR2 l = (k, some (fs, gs))) : l = risL ++ (famT fs ++ (falL ++ famT gs)) ∧ (∀ t ∈ fs, OkL t) ∧ ∀ t ∈ gs, OkL t := by
  unfold papR2 at h
  split at h
  · cases h
  · rename_i k1 e1
    split at h
    · cases h
    · rename_i m fs' e2
      split at h
      · cases h
      · rename_i n e3
        split at h
        · cases h
        · rename_i q gs' e4
          cases h
          obtain ⟨a1, a2⟩ := exp_sound e1
          have hk1 : k1 ≤ l.length := by
            have := congrArg List.length a1
            rw [List.length_drop, List.length_append] at this
            have hr : risL.length = 7 := rfl
            omega
          obtain ⟨b1, b2, b3, b4, _⟩ := famR_sound hk1 e2
          obtain ⟨c1, c2⟩ := exp_sound e3
          have hn : n ≤ l.length := by
            have := congrArg List.length c1
            rw [List.length_drop, List.length_append] at this
            have hr : falL.length = 10 := rfl
            omega
          obtain ⟨d1, d2, d3, d4, d5⟩ := famR_sound hn e4
          have hq : l.drop k = [] := List.drop_eq_nil_of_le (List.getElem?_eq_none_iff.mp d5)
          refine ⟨?_, b2, d2⟩
          rw [List.drop_zero] at a1
          rw [a1, b1, c1, d1, hq, List.append_nil]
theorem join_mem {S p : List Nat} : ∀ {ps : List (List Nat)}, p ∈ ps → p.length ≤ (TL.joinL S ps).length
  | [q], h => by rw [List.mem_singleton.mp h]; exact Nat.le_refl _
  | q :: r :: ps, h => by
    show p.length ≤ (q ++ (S ++ TL.joinL S (r :: ps))).length
    rw [List.length_append, List.length_append]
    rcases List.mem_cons.mp h with rfl | h
    · omega
    · have := join_mem (S := S) h; omega
theorem join_cnt {S : List Nat} : ∀ {ps : List (List Nat)}, (∀ p ∈ ps, p ≠ []) → ps.length ≤ (TL.joinL S ps).length
  | [], _ => Nat.zero_le _
  | [q], h => by
    have := List.length_pos_iff.mpr (h q List.mem_cons_self)
    show 1 ≤ q.length
    omega
  | q :: r :: ps, h => by
    have h1 := List.length_pos_iff.mpr (h q List.mem_cons_self)
    have h2 := join_cnt (S := S) (ps := r :: ps) fun p hp => h p (List.mem_cons_of_mem _ hp)
    show (r :: ps).length + 1 ≤ (q ++ (S ++ TL.joinL S (r :: ps))).length
    rw [List.length_append, List.length_append]
    omega
theorem piece_dash {ts : List (List Nat)} (h : OkL ts) : pieceT ts = [45] ↔ ts = [] := by
  constructor
  · intro e
    cases ts with
    | nil => rfl
    | cons t ts =>
      exfalso
      have e : t ++ glue [32] ts = [45] := e
      rcases h t List.mem_cons_self with hd | ⟨hf, _⟩
      · obtain ⟨c, s, rfl, h0, h1⟩ := dig_head hd
        have : c = 45 := by simpa using (List.cons.inj e).1
        omega
      · cases hf
  · rintro rfl; rfl
theorem piece_pos (ts : List (List Nat)) (h : OkL ts) : pieceT ts ≠ [] := by
  cases ts with
  | nil => simp [pieceT]
  | cons t ts =>
    have := tok_ne (h t List.mem_cons_self)
    show t ++ glue [32] ts ≠ []
    simp [this]
theorem famt_nil {tss : List (List (List Nat))} (h : ∀ t ∈ tss, OkL t) : famT tss = [] ↔ tss = [] := by
  constructor
  · intro e
    cases tss with
    | nil => rfl
    | cons t tss =>
      have := piece_pos t (h t List.mem_cons_self)
      have e : pieceT t ++ glue [32, 47, 32] (tss.map pieceT) = [] := e
      simp [this] at e
  · rintro rfl; rfl
theorem piece_le {t : List (List Nat)} {tss : List (List (List Nat))} (h : t ∈ tss) : (pieceT t).length ≤ (famT tss).length := by
  rw [fam_join]
  exact join_mem (List.mem_map_of_mem h)
theorem fam_cnt {tss : List (List (List Nat))} (h : ∀ t ∈ tss, OkL t) : tss.length ≤ (famT tss).length := by
  rw [fam_join]
  have := join_cnt (S := [32, 47, 32]) (ps := tss.map pieceT) fun p hp => by
    obtain ⟨t, ht, rfl⟩ := List.mem_map.mp hp
    exact piece_pos t (h t ht)
  rw [List.length_map] at this
  exact this
end Y
/-! Y: the data of this program: moves and paths. -/
namespace Y
open PySem PySem.Spec L2 HT PyProof.Rows
def sideS (s : Str) : Option Bool := if s = "right" then some true else if s = "left" then some false else none
def mvP (i : Int) (s : Str) : PyData := .tuple [.int i, .str s]
theorem side_in (s : Str) : (["left", "right"] : List Str).contains s = (sideS s).isSome := by
  unfold sideS
  by_cases h1 : s = "right"
  · subst h1; decide +kernel
  · by_cases h2 : s = "left"
    · subst h2; decide +kernel
    · rw [if_neg h1, if_neg h2]
      cases e : (["left", "right"] : List Str).contains s with
      | false => rfl
      | true =>
        rw [List.contains_iff_mem] at e
        rcases List.mem_cons.mp e with z | z
        · exact absurd z h2
        · exact absurd (List.mem_singleton.mp z) h1
theorem side_pl {s : Str} {b : Bool} {k : Nat} (h : sideS s = some b) : (if s = "right" then (k : Int) + 1 else (k : Int)) = ((pl (k, b) : Nat) : Int) := by
  unfold sideS at h
  by_cases h1 : s = "right"
  · rw [if_pos h1] at h
    cases h
    rw [if_pos h1]
    rfl
  · rw [if_neg h1] at h
    split at h
    · cases h
      rw [if_neg h1]
      rfl
    · cases h
def sdS (b : Bool) : Str := if b then "right" else "left"
theorem sideS_sdS (b : Bool) : sideS (sdS b) = some b := by cases b <;> decide +kernel
theorem sideS_eq {s : Str} {b : Bool} (h : sideS s = some b) : s = sdS b := by
  unfold sideS at h
  by_cases h1 : s = "right"
  · rw [if_pos h1] at h; cases h; exact h1
  · rw [if_neg h1] at h
    split at h
    · cases h; assumption
    · cases h
abbrev mvD (m : Nat × Bool) : PyData := mvP (m.1 : Int) (sdS m.2)
abbrev pP (ms : List (Nat × Bool)) : PyData := .list (ms.map mvD)
theorem shp_sd {n : Nat} (b : Bool) : Shp n (.str (sdS b)) := ⟨by cases b <;> decide +kernel, by simp [PyData.depth]⟩
theorem shp_P (ms : List (Nat × Bool)) : Shp 2 (pP ms) := shp_list fun d h => by
  obtain ⟨m, _, rfl⟩ := List.mem_map.mp h
  exact shp_t2 (n := 0) (shp_int _) (shp_sd _)
theorem in_alw (ws : List Int) (i : Int) (s : Str) : ((alwL ws).map mvD).any (fun z => PyData.eqv z (mvP i s)) = isAl ws i (sideS s) := by
  cases e : isAl ws i (sideS s) with
  | true =>
    obtain ⟨k, b, rfl, hb, hal, hk⟩ := isAl_some e
    rw [List.any_eq_true]
    refine ⟨mvD (k, b), List.mem_map.mpr ⟨_, mem_alwL.mpr hal, rfl⟩, ?_⟩
    rw [sideS_eq hb]
    exact eqv_self (n := 1) (shp_t2 (n := 0) (shp_int _) (shp_sd _))
  | false =>
    rw [List.any_eq_false]
    intro z hz q
    obtain ⟨m, hm, rfl⟩ := List.mem_map.mp hz
    have h1 := eqv_eq (mvD m) (mvP i s) rfl rfl q
    unfold mvD mvP at h1
    injection h1 with h2
    injection h2 with h3 h4
    injection h3 with h5
    injection h4 with h6 _
    injection h6 with h7
    rw [← h5, ← h7, sideS_sdS, isAl_nat] at e
    rw [mem_alwL.mp hm] at e
    cases e
theorem in_alwN (ws : List Int) (m : Nat × Bool) : ((alwL ws).map mvD).any (fun z => PyData.eqv z (mvD m)) = alw ws m.1 m.2 := by
  cases e : alw ws m.1 m.2 with
  | true =>
    rw [List.any_eq_true]
    exact ⟨mvD m, List.mem_map.mpr ⟨_, mem_alwL.mpr e, rfl⟩, eqv_self (n := 1) (shp_t2 (n := 0) (shp_int _) (shp_sd _))⟩
  | false =>
    rw [List.any_eq_false]
    intro z hz q
    obtain ⟨m', hm, rfl⟩ := List.mem_map.mp hz
    have h1 := eqv_eq (mvD m') (mvD m) rfl rfl q
    unfold mvD mvP at h1
    injection h1 with h2
    injection h2 with h3 h4
    injection h3 with h5
    injection h4 with h6 _
    injection h6 with h7
    have h8 : m'.1 = m.1 := by omega
    have h9 : m'.2 = m.2 := by have := congrArg sideS h7; rw [sideS_sdS, sideS_sdS] at this; exact Option.some.inj this
    rw [← h8, ← h9, mem_alwL.mp hm] at e
    cases e
theorem four (r : Int) {O : Oh} {R : OV → Oh → Prop} (h0 : 0 ≤ r) (h1 : r < 4) (q : ∀ s : Str, (∀ n, Shp n (.str s)) → R (.d (.str s)) O) : aIxL (.d (.list [.str "left", .str "right", .str "up", .str ""])) (dI r) O R := by
  have : r = 0 ∨ r = 1 ∨ r = 2 ∨ r = 3 := by omega
  have sh : ∀ (z : Str), (PyData.str z).canLay0 = true → ∀ n, Shp n (.str z) := fun z h n => ⟨h, by simp [PyData.depth]⟩
  rcases this with rfl | rfl | rfl | rfl
  · exact w_ixL (d := .str "left") (atI_n (by decide) rfl) (q _ (sh _ (by decide +kernel)))
  · exact w_ixL (d := .str "right") (atI_n (by decide) rfl) (q _ (sh _ (by decide +kernel)))
  · exact w_ixL (d := .str "up") (atI_n (by decide) rfl) (q _ (sh _ (by decide +kernel)))
  · exact w_ixL (d := .str "") (atI_n (by decide) rfl) (q _ (sh _ (by decide +kernel)))
section
variable {prog : Program} {w : World} {A : Around} {E : Value → Shared → Prop} {s : Shared} {l : Addr} {its : List Value} {ns : List Int} {Q : Value → Shared → Prop}
theorem sum_tupR (hh : A.handled = none) (hl : s.heap.IsTuple l its.toArray) (hi : IntsAre its ns)
    (h : ∀ h' tk t', (∀ b o, s.heap.get? b = some o → h'.get? b = some o) → Q (.int ns.sum t') { s with heap := h', toks := tk }) : wpAny (model prog w) A (call (.builtin "sum") [.ref l]) Q E s := by
  obtain ⟨xs, e⟩ := hi.allInts.items
  have hn : numsOf (intItems xs).toList = ns := by rw [← e]; exact hi.numsOf
  rw [nums_intItems] at hn
  rw [e] at hl
  have hlt : l < s.heap.objs.size := by obtain ⟨_, e, _⟩ := hl; exact Heap.lt_size e
  refine PySem.call_sum_walkG (wpAny_pyIter_tuple hl ?_)
  refine ⟨_, _, _, _, _, _, PySem.numAt xs, rfl, Walks.tuple (A := A.in1) hh _ l (Nat.ne_of_lt hlt) (intItems xs), ⟨⟨_, Heap.get?_push_size _ rfl, rfl, rfl⟩, hl.push _⟩, fun b hb => ?_, (fun _ _ => PySem.intItems_at), fun h' tk t' hk => ?_⟩
  · show b < (s.heap.push _).objs.size
    rw [Heap.size_push]
    rcases List.mem_cons.mp hb with rfl | hb
    · exact Nat.lt_succ_self _
    · rcases List.mem_cons.mp hb with rfl | hb
      · exact Nat.lt_succ_of_lt hlt
      · cases hb
  · have := h h' tk t' (fun b o e => hk b o (fun hm => by rcases List.mem_cons.mp hm with e1 | hm; exact absurd (e1 ▸ Heap.lt_size e) (Nat.lt_irrefl _); cases hm) (Heap.get?_push_of_some _ e))
    rw [show (intItems xs).size = xs.size by simp [intItems], preSum_eq, List.take_of_length_le (by simp), hn]
    exact this
end
section
variable {X : Cx}
def rSumT (K : PySem.W.Frag) : List V → Hp → VK → Prop := fun vs H Q => ∃ (a : Addr) (ns : List Int), vs = [V.ref a] ∧ SqT K H a (ns.map V.int) ∧ Q (.int ns.sum) H
theorem cr_sumT (hc : X.calm = true) : CallR X (.builtin "sum") (rSumT X.K) := by
  intro pins s σ H vs us Q I r h
  obtain ⟨a, ns, rfl, hs, q⟩ := h
  obtain ⟨its, rv, hl, _⟩ := I.tuple hs
  rw [Vals.ref1 r]
  exact sum_tupR (I.ok.hd hc) hl rv.ints fun h' tk t' hk => ⟨.int _, H, I.kept hk, ⟨_, rfl⟩, q⟩
def aSumT : AN := fun xs O R => ∃ x ns, xs = [x] ∧ itemsT x (Zs ns) ∧ R (.d (.int ns.sum)) O
theorem sn_sumT {K : PySem.W.Frag} : SN K (rSumT K) aSumT := by
  intro F O H xs vs Q R R0 rv h q
  obtain ⟨x, ns, rfl, hx, h⟩ := h
  obtain ⟨v, rfl, r⟩ := rvs1 rv
  obtain ⟨p, ws, rfl, h1, h2⟩ := view_t r hx
  rw [h2.ints_of] at h1
  exact ⟨p, ns, rfl, seqT_mono R0.fz h1, q _ _ _ _ _ h Step.refl R0 (.d (.int _))⟩
theorem w_sumT {O : Oh} {R : OV → Oh → Prop} {ns : List Int} (q : R (dI ns.sum) O) : aSumT [dR ns] O R := ⟨_, ns, rfl, (Zs_eq ns).trans rfl, q⟩
end
section
variable {env : En} {O : Oh} {R : OV → Oh → Prop}
theorem w_catTT {as bs : List (List Int)} (hz : as.length + bs.length ≤ 1000000) (q : R (dT (as ++ bs)) O) : aCatT (dT as) (dT bs) O R := w_catT (szm (by rw [List.length_map, List.length_map]; exact hz)) (by rw [← List.map_append]; exact q)
end
theorem Fam.nil {O : Oh} {D : Addr} (hD : O D = none) : Fam O D [] [] := ⟨List.nodup_nil, rfl, by simp, hD, fun a h => by simp at h⟩
theorem fam_nil {O : Oh} {D : Addr} : fam O D [] [] = updO O D (.lst []) := rfl
/-- a new list at the end of a list of lists -/
theorem Fam.app {O : Oh} {D b : Addr} {as : List Addr} {ls : List (List Int)} {l : List Int} {R : OV → Oh → Prop} (f : Fam O D as ls) (hb : fam O D as ls b = none) (hz : as.length < 1000000) (q : ∀ as', Fam O D as' (ls ++ [l]) → R (.d .none) (fam O D as' (ls ++ [l]))) : aAppend (.o D) [.o b] (updO (fam O D as ls) b (.lst (Zs l))) R := by
  have hDb : updO (fam O D as ls) b (.lst (Zs l)) D = some (.lst (as.map OV.o)) := by rw [updO_ne (fun z => by rw [← z, Fam.dat] at hb; cases hb)]; exact Fam.dat
  refine w_append hDb (szlm (by rw [List.length_map]; exact hz)) ?_
  obtain ⟨e, f'⟩ := f.snoc (l := l) hb
  rw [e]
  exact q _ f'
/-- what stands below a list of lists may go -/
theorem Fam.under {O : Oh} {D S : Addr} {o : OO} {as : List Addr} {ls : List (List Int)} (hS : O S = none) (f : Fam (updO O S o) D as ls) : Fam O D as ls ∧ ∀ x u, fam O D as ls x = some u → fam (updO O S o) D as ls x = some u := by
  have nD : D ≠ S := fun z => by have := f.d0; rw [z, updO_same] at this; cases this
  have na : S ∉ as := fun z => by have := f.a0 S z; rw [updO_same] at this; cases this
  have f' : Fam O D as ls := ⟨f.nd, f.len, f.dn, by have := f.d0; rwa [updO_ne nD] at this, fun a ha => by have := f.a0 a ha; rwa [updO_ne (ne_mem ha na)] at this⟩
  refine ⟨f', fun x u h => ?_⟩
  unfold fam at h ⊢
  rw [famO_upd na, updO_comm nD.symm]
  refine sub_upd ?_ _ _ h
  rw [updO_ne nD.symm, famO_ne na]
  exact hS
/-! max of a tuple -/
section
variable {prog : Program} {w : World} {A : Around} {E : Value → Shared → Prop} {s : Shared} {l : Addr} {its : List Value} {ns : List Int} {Q : Value → Shared → Prop}
theorem max_tupR (hh : A.handled = none) (hl : s.heap.IsTuple l its.toArray) (hi : IntsAre its ns) (hne : 0 < ns.length)
    (h : ∀ h' tk M t', (∀ b o, s.heap.get? b = some o → h'.get? b = some o) → M ∈ ns → (∀ a, a ∈ ns → a ≤ M) → Q (.int M t') { s with heap := h', toks := tk }) : wpAny (model prog w) A (call (.builtin "max") [.ref l]) Q E s := by
  obtain ⟨xs, e⟩ := hi.allInts.items
  have hn : numsOf (intItems xs).toList = ns := by rw [← e]; exact hi.numsOf
  rw [nums_intItems] at hn
  subst hn
  rw [e] at hl
  have hsz : 0 < xs.size := by simpa using hne
  have hlt : l < s.heap.objs.size := by obtain ⟨_, e, _⟩ := hl; exact Heap.lt_size e
  refine PySem.call_max_walk (wpAny_pyIter_tuple hl ?_)
  refine ⟨_, _, _, _, _, _, _, rfl, Walks.tuple (A := A.in1) hh _ l (Nat.ne_of_lt hlt) (intItems xs), ⟨⟨_, Heap.get?_push_size _ rfl, rfl, rfl⟩, hl.push _⟩, fun b hb => ?_, by simpa [intItems] using hsz, CmpOf.ints_gt (numAt xs) (fun _ _ => PySem.intItems_at), fun v h' tk hv hk => ?_⟩
  · show b < (s.heap.push _).objs.size
    rw [Heap.size_push]
    rcases List.mem_cons.mp hb with rfl | hb
    · exact Nat.lt_succ_self _
    · rcases List.mem_cons.mp hb with rfl | hb
      · exact Nat.lt_succ_of_lt hlt
      · cases hb
  obtain ⟨t, rfl⟩ := intItems_at hv
  have hs : (intItems xs).size = xs.size := by simp [intItems]
  rw [hs] at hv ⊢
  obtain ⟨h1, h2⟩ := argBest_gt (numAt xs) (xs.size - 1)
  refine h h' tk _ t (fun b o e => hk b o (fun hm => by rcases List.mem_cons.mp hm with e1 | hm; exact absurd (e1 ▸ Heap.lt_size e) (Nat.lt_irrefl _); cases hm) (Heap.get?_push_of_some _ e)) ?_ fun a ha => ?_
  · rw [numAt_eq]; exact PySem.getD_mem (by rw [List.length_map, Array.length_toList]; omega)
  · obtain ⟨j, hj, rfl⟩ := mem_getD ha
    rw [List.length_map, Array.length_toList] at hj
    rw [← numAt_eq]; exact h2 j (by omega)
end
section
variable {X : Cx}
def rMaxT (K : PySem.W.Frag) : List V → Hp → VK → Prop := fun vs H Q => ∃ (a : Addr) (ns : List Int), vs = [V.ref a] ∧ SqT K H a (ns.map V.int) ∧ 0 < ns.length ∧ ∀ m, m ∈ ns → (∀ y, y ∈ ns → y ≤ m) → Q (.int m) H
theorem cr_maxT (hc : X.calm = true) : CallR X (.builtin "max") (rMaxT X.K) := by
  intro pins s σ H vs us Q I r h
  obtain ⟨a, ns, rfl, hs, hne, q⟩ := h
  obtain ⟨its, rv, hl, _⟩ := I.tuple hs
  rw [Vals.ref1 r]
  exact max_tupR (I.ok.hd hc) hl rv.ints hne fun h' tk m t' hk h1 h2 => ⟨.int _, H, I.kept hk, ⟨_, rfl⟩, q m h1 h2⟩
def aMaxT : AN := fun xs O R => ∃ x ns, xs = [x] ∧ itemsT x (Zs ns) ∧ 0 < ns.length ∧ ∀ m, m ∈ ns → (∀ y, y ∈ ns → y ≤ m) → R (.d (.int m)) O
theorem sn_maxT {K : PySem.W.Frag} : SN K (rMaxT K) aMaxT := by
  intro F O H xs vs Q R R0 rv h q
  obtain ⟨x, ns, rfl, hx, hn, h⟩ := h
  obtain ⟨v, rfl, r⟩ := rvs1 rv
  obtain ⟨p, ws, rfl, h1, h2⟩ := view_t r hx
  rw [h2.ints_of] at h1
  exact ⟨p, ns, rfl, seqT_mono R0.fz h1, hn, fun m hm hl => q _ _ _ _ _ (h m hm hl) Step.refl R0 (.d (.int _))⟩
theorem w_maxT {O : Oh} {R : OV → Oh → Prop} {ns : List Int} (hn : 0 < ns.length) (q : ∀ m, m ∈ ns → (∀ y, y ∈ ns → y ≤ m) → R (dI m) O) : aMaxT [dR ns] O R := ⟨_, ns, rfl, (Zs_eq ns).trans rfl, hn, q⟩
end
/-! ### looks of tables; a slot frozen -/
theorem plain_ints : ∀ l : List Int, plainA (l.map PyData.int) = true
  | [] => rfl
  | x :: l => by
    show (plain (.int x) && plainA (l.map PyData.int)) = true
    rw [plain_ints l]
    rfl
theorem plain_Ts0 : ∀ T : List (List Int), plainA (T.map pR) = true
  | [] => rfl
  | r :: T => by
    show (plainA (r.map PyData.int) && plainA (T.map pR)) = true
    rw [plain_ints, plain_Ts0 T]
    rfl
theorem plain_Ts (T : List (List Int)) : plain (.tuple (T.map pR)) = true := plain_Ts0 T
theorem Ts_inj {T U : List (List Int)} (h : T.map pR = U.map pR) : T = U := by
  refine (List.map_inj_right fun x y e => ?_).mp h
  injection e with e
  exact (List.map_inj_right fun a b e => by injection e).mp e
def rmO (O : Oh) (p : Addr) : Oh := fun a => if a = p then none else O a
theorem rmO_ne {O : Oh} {p a : Addr} (h : a ≠ p) : rmO O p a = O a := if_neg h
theorem rmO_same {O : Oh} {p : Addr} : rmO O p p = none := if_pos rfl
theorem rmO_sub {O : Oh} {p : Addr} : ∀ a o, rmO O p a = some o → O a = some o := fun a o h => by
  unfold rmO at h
  split at h
  · cases h
  · exact h
theorem Wk.flatG {O : Oh} {p : Addr} {ds : List PyData} (hp : O p = some (.lst (ds.map OV.d))) : Wk O (.o p) (rmO O p) (.d (.list ds)) :=
  Wk.fz (.o hp (FzA.ofData ds)) rmO_sub fun a r => by rw [r.flat hp]; exact rmO_same
theorem Strm.rm {O : Oh} {p q : Addr} (h : Strm O p) (n : p ≠ q) : Strm (rmO O q) p := by
  obtain ⟨a, b, c, h⟩ := h
  exact ⟨a, b, c, by rw [rmO_ne n]; exact h⟩
/-! ### a family, frozen or owned -/
def VwF (O : Oh) (x : OV) (fs : List (List Int)) : Prop := x = dF fs ∨ ∃ D : Addr, ∃ as : List Addr, x = .o D ∧ O D = some (.lst (as.map OV.o)) ∧ as.length = fs.length ∧ ∀ (i : Nat) (a : Addr) (l : List Int), as[i]? = some a → fs[i]? = some l → O a = some (.lst (Zs l))
theorem VwF.w {O : Oh} {fs : List (List Int)} : VwF O (dF fs) fs := .inl rfl
theorem Fam.vw {O : Oh} {D : Addr} {as : List Addr} {fs : List (List Int)} (f : Fam O D as fs) : VwF (fam O D as fs) (.o D) fs := .inr ⟨D, as, rfl, Fam.dat, f.len, fun i a l h1 h2 => f.at h1 h2⟩
theorem VwF.sub {O O' : Oh} {x : OV} {fs : List (List Int)} (h : VwF O x fs) (s : ∀ a o, O a = some o → O' a = some o) : VwF O' x fs := by
  rcases h with h | ⟨D, as, h1, h2, h3, h4⟩
  · exact .inl h
  · exact .inr ⟨D, as, h1, s _ _ h2, h3, fun i a l g1 g2 => s _ _ (h4 i a l g1 g2)⟩
theorem VwF.items {O : Oh} {x : OV} {fs : List (List Int)} (h : VwF O x fs) : ∃ xs, itemsL O x xs ∧ xs.length = fs.length ∧ ∀ (i : Nat) (y : OV) (l : List Int), xs[i]? = some y → fs[i]? = some l → Vw O y l := by
  rcases h with rfl | ⟨D, as, rfl, h2, h3, h4⟩
  · refine ⟨_, rfl, by rw [List.length_map, List.length_map], fun i y l g1 g2 => ?_⟩
    rw [List.getElem?_map, List.getElem?_map, g2] at g1
    cases g1
    exact Vw.w
  · refine ⟨_, h2, by rw [List.length_map]; exact h3, fun i y l g1 g2 => ?_⟩
    rw [List.getElem?_map] at g1
    obtain ⟨a, ha, rfl⟩ := Option.map_eq_some_iff.mp g1
    exact Vw.o (h4 i a l ha g2)
theorem vwF_ty {O : Oh} {x : OV} {fs : List (List Int)} (h : VwF O x fs) : tyOf O x "list" := by
  rcases h with rfl | ⟨D, as, rfl, h2, _⟩
  · rfl
  · exact ⟨rfl, _, h2⟩
theorem w_lenVF {O : Oh} {R : OV → Oh → Prop} {x : OV} {fs : List (List Int)} (h : VwF O x fs) (q : R (dI fs.length) O) : aLen [x] O R := by
  obtain ⟨xs, h1, h2, _⟩ := h.items
  exact ⟨x, xs, rfl, .inl h1, by rw [h2]; exact q⟩
theorem w_ixVF {O : Oh} {R : OV → Oh → Prop} {x : OV} {fs : List (List Int)} (h : VwF O x fs) {i : Nat} {l : List Int} (hl : fs[i]? = some l) (q : ∀ y, Vw O y l → R y O) : aIxL x (dI i) O R := by
  obtain ⟨xs, h1, h2, h3⟩ := h.items
  have hi := (List.getElem?_eq_some_iff.mp hl).1
  have gx := List.getElem?_eq_getElem (show i < xs.length by omega)
  exact ⟨xs, i, _, h1, rfl, atI_n (by omega) (by rw [Int.toNat_natCast]; exact gx), q _ (h3 i _ l gx hl)⟩
theorem w_forVF {α : Type} {env : En} {O : Oh} {P : AEnds} {S : AS} {x : OV} {O0 : Oh} {fs : List (List Int)} {G : AG} (f : α → En) (g : α → Oh) (I : Nat → α → Prop) (a0 : α) (hv : VwF O0 x fs) (h0 : WkS env O (f a0) (g a0)) (hI : I 0 a0) (hsub : ∀ i a, I i a → ∀ b o, O0 b = some o → g a b = some o)
    (hs : ∀ i a y l, fs[i]? = some l → Vw O0 y l → I i a → G y (f a) (g a) fun env2 O2 => S { P with nx := fun env' O' => ∃ a', WkS env' O' (f a') (g a') ∧ I (i + 1) a', ct := fun env' O' => ∃ a', WkS env' O' (f a') (g a') ∧ I (i + 1) a', bk := P.nx } env2 O2)
    (hd : ∀ a, I fs.length a → P.nx (f a) (g a)) : aForB (pitL x) G S P env O := by
  obtain ⟨xs, h1, h2, h3⟩ := hv.items
  have it : ∀ i a, I i a → itemsL (g a) x xs := fun i a ia => by
    rcases hv with rfl | ⟨D, as, rfl, h4, _⟩
    · exact h1
    · exact hsub i a ia _ _ h1
  refine forB_n fs.length f g I a0 h0 hI (fun i a hi ia => ?_) fun a ia => ⟨⟨_, it _ a ia, by omega⟩, hd a ia⟩
  have gx := List.getElem?_eq_getElem (show i < xs.length by omega)
  exact ⟨_, ⟨xs, it i a ia, gx⟩, hs i a _ _ (List.getElem?_eq_getElem hi) (h3 i _ _ gx (List.getElem?_eq_getElem hi)) ia⟩
theorem w_lcVF {env : En} {O : Oh} {T : AE} {R : OV → Oh → Prop} {x : OV} {fs : List (List Int)} {m : Nat} {A : AT} {vs : List Nat} (hv : VwF O x fs) (out : Nat → List OV) (h0 : out 0 = [])
    (hs : ∀ i y l D, fs[i]? = some l → Vw O y l → O D = none → A ((wipeE env vs).set m (some y)) (updO O D (.lst (out i))) fun b O3 =>
      if b = true then T ((wipeE env vs).set m (some y)) O3 fun y O4 => LcAt O D (out (i + 1)) y O4 else O3 = updO O D (.lst (out (i + 1))))
    (hd : ∀ D, O D = none → R (.o D) (updO O D (.lst (out fs.length)))) : aLcB (pitL x) (gVar m) A T vs env O R := by
  obtain ⟨xs, h1, h2, h3⟩ := hv.items
  have it : ∀ D o, O D = none → itemsL (updO O D o) x xs := fun D o hD => by
    rcases hv with rfl | ⟨D', as, rfl, h4, _⟩
    · exact h1
    · exact sub_upd hD _ _ h1
  refine lcB_n fs.length out h0 (fun i D hi hD => ?_) fun D hD => ⟨⟨_, it D _ hD, by omega⟩, hd D hD⟩
  have gx := List.getElem?_eq_getElem (show i < xs.length by omega)
  exact ⟨_, ⟨xs, it D _ hD, gx⟩, hs i _ _ D (List.getElem?_eq_getElem hi) (h3 i _ _ gx (List.getElem?_eq_getElem hi)) hD⟩
end Y
/-! Y: calls with keywords of defs with keyword-only parameters. -/
namespace Y
open PySem PySem.Spec L2
def kwG {α : Type} (n m : Nat) (us ws : List α) : List α := if us.length = n ∧ ws.length = m then us ++ ws else []
theorem Vals_app : ∀ {vs : List V} {us : List Value} {zs : List V} {ws : List Value}, Vals vs us → Vals zs ws → Vals (vs ++ zs) (us ++ ws)
  | [], _, _, _, .nil, h => h
  | _ :: _, _, _, _, .cons a b, h => .cons a (Vals_app b h)
theorem RVs_app {K : PySem.W.Frag} {F : Hp} : ∀ {xs : List OV} {vs : List V} {ys : List OV} {zs : List V}, RVs K F xs vs → RVs K F ys zs → RVs K F (xs ++ ys) (vs ++ zs)
  | [], _, _, _, .nil, h => h
  | _ :: _, _, _, _, .cons a b, h => .cons a (RVs_app b h)
structure DefAtK (K : PySem.W.Frag) (mg : Str → Option Value) (x : Str) (st : Stmt) (ps ks : List Str) (n : Nat) (f : Addr) (fd : FuncData) : Prop where
  fn : Fun K x x st f fd
  gl : mg x = some (.ref f)
  bd : KBinds K fd ps ks (kwG n ks.length) (kwG n ks.length)
def FnXK (P : Program) (w : World) (K : PySem.W.Frag) (mg : Str → Option Value) (base : Heap) (k : Nat) (x : Str) (ps ks : List Str) (n : Nat) (C : ConX) : Prop :=
  ∃ f fd, mg x = some (.ref f) ∧ PySem.W.keepIn K (.ref f) = true ∧ KBinds K fd ps ks (kwG n ks.length) (kwG n ks.length) ∧ FnOk P w K mg base (L2.CX P w) k f fd ps (spX K C)
def DefAK (K : PySem.W.Frag) (mg : Str → Option Value) (x : Str) (st : Stmt) (ps ks : List Str) (n : Nat) : Prop := ∃ f fd, DefAtK K mg x st ps ks n f fd
theorem defAK_mk {K : PySem.W.Frag} {mg : Str → Option Value} {h : Heap} (X : K.In h) (G : h.Ns mainGlobals mg) {x : Str} {st : Stmt} {ps ks : List Str} {n : Nat} {f : Addr} {oc : Value} {od an : Option Addr} {osl : Array (Option Value)} {kV doc pm cdv ct : Value} (hp : ps ≠ [])
    (hb : ∀ (kV doc pm : Value) (an : Option Addr) (cdv ct : Value) (us ws : List Value), us.length = n → ws.length = ks.length → bindArgs (PySem.W.fnOf x x (defArgs st) (defBody st) (defScope st) .none kV doc pm an cdv ct) ⟨us, ks.zip ws⟩ = pure (ps.zip (us ++ ws)))
    (a : PySem.W.nsIn K mainGlobals x = some (some (.ref f))) (l : K.lookup f = some ⟨oc, od, .func (PySem.W.fnOf x x (defArgs st) (defBody st) (defScope st) .none kV doc pm an cdv ct), osl⟩) (c : PySem.W.codeIn K cdv x = true) (k : PySem.W.keepIn K (.ref f) = true) :
    DefAK K mg x st ps ks n := ⟨f, _, fun_mk l c k, PySem.W.mg_of X G a, ⟨fun s us ws _ hl => by
      by_cases q : us.length = n ∧ ws.length = ks.length
      · unfold kwG at hl ⊢
        rw [if_pos q] at hl ⊢
        exact .of_eq (hb _ _ _ _ _ _ us ws q.1 q.2)
      · unfold kwG at hl
        rw [if_neg q] at hl
        exact absurd (List.length_eq_zero_iff.mp hl.symm) hp, fun {vs us zs ws} r rz => by
      have h1 := r.length
      have h2 := rz.length
      unfold kwG
      by_cases q : us.length = n ∧ ws.length = ks.length
      · rw [if_pos q, if_pos (by rw [h1, h2]; exact q)]
        exact Vals_app r rz
      · rw [if_neg q, if_neg (by rw [h1, h2]; exact q)]
        exact .nil⟩⟩
section
variable {P : Program} {w : World} {K : PySem.W.Frag} {mg : Str → Option Value} {base : Heap} {k : Nat} {x : Str} {st : Stmt} {N ps ks : List Str} {n : Nat} {f : Addr} {fd : FuncData}
theorem fnxK {C : ConX} (D : DefAtK K mg x st ps ks n f fd) (S : FnScope N ps (defScope st)) (len : ∀ xs O R RX, C xs O R RX → xs.length = ps.length)
    (body : ∀ (cdv : Value) (A : Around) (outer : List PySem.Env) (s : Shared) (H : Hp) (E : XK) (RX : XR), Room k (A.deeper (PyProof.Rows.envOfC x (defScope st) s.heap.objs.size f cdv)) →
      ∃ T, QSs (cxOf (L2.CX P w) P w K mg base N x (defScope st) f cdv A outer s H E) (fun c d _ H => E c d H) (fun c d _ O => RX c d O) (defBody st) T ∧ ∀ xs O R, C xs O R RX → T { nx := fun _ O' => RW R (.d .none) O', rt := RW R } (startE N xs) O) :
    FnXK P w K mg base (k + 1) x ps ks n C := by
  refine ⟨f, fd, D.gl, D.fn.kp, D.bd, ?_⟩
  refine D.fn.okX S (fun vs H Q E h => ?_) (fun cdv A outer s H vs Q E hr h => ?_)
  · obtain ⟨F, O, xs, R, RX, R0, rv, h, _⟩ := h
    rw [← rv.length]
    exact len _ _ _ _ h
  · obtain ⟨F, O, xs, R, RX, R0, rv, h, q, qx⟩ := h
    obtain ⟨T, ⟨t, p, s'⟩, hT⟩ := body cdv A outer s H E RX hr
    have fin : ∀ r O' F' H' v, RW R r O' → Step F O H F' O' H' → Rep K F' O' H' → RV K F' r v → Q v H' := fun r O' F' H' v a z R1 r1 => by
      obtain ⟨r', O'', wk, a⟩ := a
      obtain ⟨F2, z2, R2, r2⟩ := wk K F' H' v R1 r1
      exact q _ _ _ _ _ a (z.trans z2) R2 r2
    exact ⟨t, p, s'.run R0 (rs_start rv) (fun c d _ O' F' H' _ a z R1 _ => qx c d O' F' H' a z R1) (hT xs O R h) ⟨fun e o f' hh st' a z R1 rs1 => fin _ _ _ _ .non a z R1 (.d .non), fin, fun e o f' hh st' a z R1 rs1 => a.elim, fun e o f' hh st' a z R1 rs1 => a.elim⟩⟩
end
section
variable {X : Cx} {W : WX} {AW : AX} {pos : Pos}
def QK (X : Cx) (W : WX) (AW : AX) (e : List Keyword) (T : AA) : Prop := ∃ t, PK X e t ∧ SA X.K W AW t T
theorem qk_nil : QK X W AW [] aNil := ⟨_, pk_nil, ⟨fun R _ _ h q => q _ _ _ _ _ h Step.refl R .nil⟩⟩
theorem qk_cons {nm : Option Str} {e : Expr} {kpos : Pos} {es : List Keyword} {T : AE} {U : AA} (ha : QE X W AW e T) (hr : QK X W AW es U) : QK X W AW (⟨nm, e, kpos⟩ :: es) (aCons T U) := by
  obtain ⟨ta, p1, s1⟩ := ha
  obtain ⟨tb, p2, s2⟩ := hr
  exact ⟨_, pk_cons p1 p2, ⟨fun R0 rs xl h q => s1.run R0 rs xl h fun x O1 F1 H1 v h1 z1 R1 r1 => s2.run R1 (rs.mono z1.fx) (xl.step z1) h1 fun xs O2 F2 H2 vs h2 z2 R2 r2 =>
    q _ _ _ _ _ h2 (z1.trans z2) R2 (.cons (r1.mono z2.fx) r2)⟩⟩
section
variable {CX : CXT} {k : Nat} {f : Addr} {fd : FuncData} {ps ks : List Str} {sp : Sp} {E : St → XK} {x : Str} {p : Pos} {e : Expr} {es : List Expr} {kws : List Keyword} {t tk : TA} {g : List Value → List Value → List Value} {gV : List V → List V → List V}
def tCallKS (sp : Sp) (gV : List V → List V → List V) (E : St → XK) (t tk : TA) : TE := fun σ H Q => t σ H fun vs H1 => tk σ H1 fun zs H2 => sp (gV vs zs) H2 Q (E σ)
theorem run_fnkS {pins : List (Addr × Obj)} {σ : St} {H : Hp} {s : Shared} {Q : VK} {us ws : List Value} {vs zs : List V} (F : FnOk X.prog X.w X.K X.mg X.base CX k f fd ps sp) (hr : Room k X.A) (hb : KBinds X.K fd ps ks g gV) (hx : PassesAt CX X σ (E σ))
    (I : Inv X pins σ H s) (r : Vals vs us) (rz : Vals zs ws) (h : sp (gV vs zs) H Q (E σ)) : wpAny (model X.prog X.w) X.A (call (.ref f) us (ks.zip ws)) (EP X pins σ Q) X.xe s := by
  have r2 := hb.rel r rz
  have hl : (g us ws).length = ps.length := by rw [← r2.length]; exact F.len _ _ _ _ h
  refine wpAny_call (codeAny_mono (F.run X.A X.stack s H ⟨us, ks.zip ws⟩ (g us ws) (gV vs zs) Q (E σ) hr I.env0 (hb.to s us ws I.kIn hl) r2 h) fun r s' hq => ?_)
  cases r with
  | error e => exact hx pins H s e s' I hq
  | ok fl =>
    cases fl with
    | ret u => exact I.after hq
    | next => exact False.elim hq
    | brk => exact False.elim hq
    | cont => exact False.elim hq
theorem pe_callKS (F : FnOk X.prog X.w X.K X.mg X.base CX k f fd ps sp) (hr : Room k X.A) (hg : Gl X x) (hm : X.mg x = some (.ref f)) (hk : PySem.W.keepIn X.K (.ref f) = true) (hb : KBinds X.K fd ps ks g gV) (hx : ∀ σ, PassesAt CX X σ (E σ))
    (ha : PA X (e :: es) t) (hkw : PK X kws tk) (hall : (backToKw pos (keywordEach kws X.env)).all (·.1.isSome) = true := by rfl) (hks : (backToKw pos (keywordEach kws X.env)).filterMap (·.1) = ks := by rfl)
    (hdb : (x == ("__debug__" : Str)) = false := by decide) (he : starEach (e :: es) X.env = (false, eval e X.env) :: starEach es X.env := by rfl)
    (hpl : ((backTo pos (starEach (e :: es) X.env)).any (·.1) || (backToKw pos (keywordEach kws X.env)).any (·.1.isNone)) = false := by rfl) :
    PE X (.Call (.Name x p) (e :: es) kws pos) (tCallKS sp gV E t tk) := by
  refine ⟨fun pins s σ H Q I h => ?_⟩
  refine wpAny_Call_Name_kw (ld_glob I hg hm ?_ hdb)
  refine PySem.W.callWith_KW (h₀ := X.base) I.ok.mod.kin hk hall (thn (ha.run pos pins s σ H _ I h) fun us s1 ⟨vs, H1, I1, r, q⟩ => ?_) hpl he
  refine thn (hkw.run pos pins s1 σ H1 _ I1 q) fun ws s2 ⟨zs, H2, I2, rz, q2⟩ => ⟨I2.kIn, ?_⟩
  rw [hks]
  exact run_fnkS F hr hb (hx σ) I2 r rz q2
end
def aCallKN (n m : Nat) (C : ConX) (U V : AA) : AE := fun env O R => U env O fun xs O1 => V env O1 fun ys O2 => xs.length = n ∧ ys.length = m ∧ C (xs ++ ys) O2 R noX
theorem qe_callKN {k j n : Nat} {x : Str} {p : Pos} {e : Expr} {es : List Expr} {kws : List Keyword} {ps ks : List Str} {C : ConX} {U V : AA} (D : FnXK X.prog X.w X.K X.mg X.base k x ps ks n C) (hr : Room j X.A) (ha : QA X W AW (e :: es) U) (hkw : QK X W AW kws V) (hj : k ≤ j := by decide) (hg : Gl X x := by rfl)
    (hall : (backToKw pos (keywordEach kws X.env)).all (·.1.isSome) = true := by rfl) (hks : (backToKw pos (keywordEach kws X.env)).filterMap (·.1) = ks := by rfl)
    (hdb : (x == ("__debug__" : Str)) = false := by decide) (he : starEach (e :: es) X.env = (false, eval e X.env) :: starEach es X.env := by rfl)
    (hpl : ((backTo pos (starEach (e :: es) X.env)).any (·.1) || (backToKw pos (keywordEach kws X.env)).any (·.1.isNone)) = false := by rfl) : QE X W AW (.Call (.Name x p) (e :: es) kws pos) (aCallKN n ks.length C U V) := by
  obtain ⟨f, fd, h1, h2, h3, h4⟩ := D
  obtain ⟨t, pp, s⟩ := ha
  obtain ⟨u, pk, su⟩ := hkw
  refine ⟨_, pe_callK h4 (hr.mono hj) hg h1 h2 h3 passL pp pk hall hks hdb he hpl, ⟨fun R0 rs xl h q => s.run R0 rs xl h fun xs O1 F1 H1 vs h1 z1 R1 r1 => su.run R1 (rs.mono z1.fx) (xl.step z1) h1 fun ys O2 F2 H2 zs h2 z2 R2 r2 => ?_⟩⟩
  have e1 : kwG n ks.length vs zs = vs ++ zs := if_pos ⟨by rw [← r1.length]; exact h2.1, by rw [← r2.length]; exact h2.2.1⟩
  rw [e1]
  exact ⟨F2, O2, xs ++ ys, _, noX, R2, RVs_app (r1.mono z2.fx) r2, h2.2.2, fun r O3 F3 H3 v h3 z3 R3 r3 => q r O3 F3 H3 v h3 ((z1.trans z2).trans z3) R3 r3, fun _ _ _ _ _ z => z.elim⟩
def aCallKX (AW : AX) (n m : Nat) (C : ConX) (U V : AA) : AE := fun env O R => U env O fun xs O1 => V env O1 fun ys O2 => xs.length = n ∧ ys.length = m ∧ C (xs ++ ys) O2 R fun c d O' => AW c d env O'
theorem qe_callKX {k j n : Nat} {x : Str} {p : Pos} {e : Expr} {es : List Expr} {kws : List Keyword} {ps ks : List Str} {C : ConX} {U V : AA} (tk : Takes X W) (D : FnXK X.prog X.w X.K X.mg X.base k x ps ks n C) (hr : Room j X.A) (ha : QA X W AW (e :: es) U) (hkw : QK X W AW kws V) (hj : k ≤ j := by decide) (hg : Gl X x := by rfl)
    (hall : (backToKw pos (keywordEach kws X.env)).all (·.1.isSome) = true := by rfl) (hks : (backToKw pos (keywordEach kws X.env)).filterMap (·.1) = ks := by rfl)
    (hdb : (x == ("__debug__" : Str)) = false := by decide) (he : starEach (e :: es) X.env = (false, eval e X.env) :: starEach es X.env := by rfl)
    (hpl : ((backTo pos (starEach (e :: es) X.env)).any (·.1) || (backToKw pos (keywordEach kws X.env)).any (·.1.isNone)) = false := by rfl) : QE X W AW (.Call (.Name x p) (e :: es) kws pos) (aCallKX AW n ks.length C U V) := by
  obtain ⟨f, fd, h1, h2, h3, h4⟩ := D
  obtain ⟨t, pp, s⟩ := ha
  obtain ⟨u, pk, su⟩ := hkw
  refine ⟨_, pe_callKS h4 (hr.mono hj) hg h1 h2 h3 (fun st => passAt tk st) pp pk hall hks hdb he hpl, ⟨fun R0 rs xl h q => s.run R0 rs xl h fun xs O1 F1 H1 vs h1 z1 R1 r1 => su.run R1 (rs.mono z1.fx) (xl.step z1) h1 fun ys O2 F2 H2 zs h2 z2 R2 r2 => ?_⟩⟩
  have e1 : kwG n ks.length vs zs = vs ++ zs := if_pos ⟨by rw [← r1.length]; exact h2.1, by rw [← r2.length]; exact h2.2.1⟩
  rw [e1]
  exact ⟨F2, O2, xs ++ ys, _, _, R2, RVs_app (r1.mono z2.fx) r2, h2.2.2, fun r O3 F3 H3 v h3 z3 R3 r3 => q r O3 F3 H3 v h3 ((z1.trans z2).trans z3) R3 r3, fun c d O3 F3 H3 a z3 R3 => xl c d _ O3 F3 H3 _ a ((z1.trans z2).trans z3) R3 (rs.mono ((z1.trans z2).trans z3).fx)⟩
end
theorem w_callKN {n m : Nat} {C : ConX} {U V : AA} {env : En} {O : Oh} {R : OV → Oh → Prop} (q : U env O fun xs O1 => V env O1 fun ys O2 => xs.length = n ∧ ys.length = m ∧ C (xs ++ ys) O2 R noX) : aCallKN n m C U V env O R := q
theorem w_callKX {AW : AX} {n m : Nat} {C : ConX} {U V : AA} {env : En} {O : Oh} {R : OV → Oh → Prop} (q : U env O fun xs O1 => V env O1 fun ys O2 => xs.length = n ∧ ys.length = m ∧ C (xs ++ ys) O2 R fun c d O' => AW c d env O') : aCallKX AW n m C U V env O R := q
def aRep : AR2 := fun x y O R => ∃ xs n, notS x ∧ itemsL O x xs ∧ y = .d (.int n) ∧ 0 ≤ n ∧ n ≤ 1000 ∧ xs.length * n.toNat ≤ 1000 ∧ ∀ p, O p = none → R (.o p) (updO O p (.lst (List.replicate n.toNat xs).flatten))
theorem RVs_rep {K : PySem.W.Frag} {F : Hp} {xs : List OV} {vs : List V} (h : RVs K F xs vs) : ∀ n : Nat, RVs K F (List.replicate n xs).flatten (List.replicate n vs).flatten
  | 0 => .nil
  | n + 1 => by
    rw [List.replicate_succ, List.replicate_succ, List.flatten_cons, List.flatten_cons]
    exact RVs_app h (RVs_rep h n)
theorem sr_rep {K : PySem.W.Frag} : SR K rRep aRep := by
  intro F O H x y vx vy Q R R0 rx ry h q
  obtain ⟨xs, n, n1, hx, rfl, h0, hn, hz, h⟩ := h
  obtain ⟨a, us, rfl, h1, h2⟩ := view_lm R0 rx hx (notS_ne n1)
  rw [ry.int_inv]
  refine ⟨a, n, us, rfl, rfl, h1, by omega, by omega, by rw [← h2.length]; exact Nat.le_trans hz (by decide), fun l hl => ?_⟩
  obtain ⟨R2, z2⟩ := R0.newO (o := .lst (List.replicate n.toNat xs).flatten) (h := .lst (List.replicate n.toNat us).flatten) hl ⟨_, rfl, RVs_rep h2 n.toNat⟩
  exact q _ _ _ _ _ (h l (R0.ofree hl)) z2 R2 .o
end Y
/-! Y: instances of own classes: fields, methods, making. -/
namespace Y
open PySem PySem.Spec L2
/-! ### fields -/
def putO (f : Str) (v : OV) : List (Str × OV) → List (Str × OV)
  | [] => [(f, v)]
  | (g, x) :: r => if g = f then (g, v) :: r else (g, x) :: putO f v r
section
variable {K : PySem.W.Frag} {F : Hp}
theorem RPs.put {f : Str} {x : OV} {v : V} (r : RV K F x v) : ∀ {xs : List (Str × OV)} {vs : List (Str × V)}, RPs K F xs vs → RPs K F (putO f x xs) (putF f v vs)
  | _, _, .nil => .cons r .nil
  | _, _, .cons (k := k) h t => by
    unfold putO putF
    by_cases e : k = f
    · rw [if_pos e, if_pos e]; exact .cons r t
    · rw [if_neg e, if_neg e]; exact .cons h (RPs.put r t)
theorem RPs.look {f : Str} : ∀ {xs : List (Str × OV)} {vs : List (Str × V)}, RPs K F xs vs → (∀ x, xs.lookup f = some x → ∃ v, vs.lookup f = some v ∧ RV K F x v) ∧ (xs.lookup f = none → vs.lookup f = none)
  | _, _, .nil => ⟨fun _ h => (by cases h), fun _ => rfl⟩
  | _, _, .cons (k := k) (x := x) (v := v) (xs := xs) (vs := vs) h t => by
    obtain ⟨a, b⟩ := RPs.look (f := f) t
    by_cases e : f = k
    · have hb : (f == k) = true := beq_iff_eq.mpr e
      have e1 : List.lookup f ((k, x) :: xs) = some x := by simp only [List.lookup, hb]
      have e2 : List.lookup f ((k, v) :: vs) = some v := by simp only [List.lookup, hb]
      refine ⟨fun y hy => ?_, fun hy => ?_⟩
      · rw [e1] at hy; cases hy; exact ⟨v, e2, h⟩
      · rw [e1] at hy; cases hy
    · have hb : (f == k) = false := beq_eq_false_iff_ne.mpr e
      have e1 : List.lookup f ((k, x) :: xs) = List.lookup f xs := by simp only [List.lookup, hb]
      have e2 : List.lookup f ((k, v) :: vs) = List.lookup f vs := by simp only [List.lookup, hb]
      rw [e1, e2]
      exact ⟨a, b⟩
theorem RPs.len {κ : Type} : ∀ {xs : List (κ × OV)} {vs : List (κ × V)}, RPs K F xs vs → xs.length = vs.length
  | _, _, .nil => rfl
  | _, _, .cons _ t => by rw [List.length_cons, List.length_cons, RPs.len t]
theorem Rep.ins {O : Oh} {H : Hp} {a C dx : Addr} {fs : List (Str × OV)} (R : Rep K F O H) (h : O a = some (.ins C dx fs)) : ∃ vs, H a = some (.ins C dx vs) ∧ RPs K F fs vs := by
  obtain ⟨_, h0, q, vs, rfl, r⟩ := R.ow a _ h
  exact ⟨vs, q, r⟩
end
section
variable {X : Cx} {W : WX} {AW : AX} {pos : Pos}
/-- e.f -/
def aFld (C : Addr) (f : Str) (T : AE) : AE := fun env O R => T env O fun x O1 => ∃ a dx fs v, x = .o a ∧ O1 a = some (.ins C dx fs) ∧ fs.lookup f = some v ∧ R v O1
theorem qe_fld {C : Addr} {e : Expr} {f : Str} {T : AE} (c : Cls X.K C) (n : NoAttr X.K C f) (he : QE X W AW e T) (hb : attributeBase e f X.env (eval e X.env) = eval e X.env := by rfl) : QE X W AW (.Attribute e f pos) (aFld C f T) := by
  obtain ⟨t, p, s⟩ := he
  refine ⟨_, pe_fld p hb, ⟨fun R0 rs xl h q => s.run R0 rs xl h fun x O1 F1 H1 v h1 z1 R1 r1 => ?_⟩⟩
  obtain ⟨a, dx, fs, y, rfl, ha, hf, h2⟩ := h1
  cases r1
  obtain ⟨vs, e1, e2⟩ := R1.ins ha
  obtain ⟨u, e3, e4⟩ := (e2.look (f := f)).1 y hf
  exact ⟨a, C, dx, vs, u, rfl, e1, c, n, e3, q _ _ _ _ _ h2 z1 R1 e4⟩
/-- o.f = .. as a target -/
def gFldT (K : PySem.W.Frag) (C : Addr) (f : Str) (to : TE) : TG := fun v σ H Q => to σ H fun x H1 => ∃ a dx fs, x = .ref a ∧ H1 a = some (.ins C dx fs) ∧ fs.length < 1000 ∧ Q σ (upd H1 a (.ins C dx (putF f v fs)))
theorem pg_fld {C : Addr} {o : Expr} {f : Str} {to : TE} (c : Cls X.K C) (n : NoAttr X.K C f) (ho : PE X o to)
    (ha : ∀ v, assign (.Attribute o f pos) X.env v = (do
      let ov ← holding [v] (eval o X.env)
      standAt pos.atName
      holding [v, ov] (setAttr ov f v)
      release [v, ov] []) := by intro _; rfl) : PG X (.Attribute o f pos) (gFldT X.K C f to) := by
  refine ⟨fun pins s σ H v u Q I r h => ?_⟩
  rw [ha]
  refine wpAny_bind (wpAny_holding (thn (ho.run pins s σ H _ I h) fun ov s1 ⟨x, H1, I1, r1, a, dx, fs, ex, ea, l, q1⟩ => ?_))
  subst ex
  obtain rfl : ov = Value.ref a := r1
  refine wpAny_bind (wpAny_standAt (wpAny_bind (wpAny_holding (setattr_ok I1 ea c n l r fun s3 I3 => ?_))))
  exact wpAny_release ⟨σ, _, I3, q1⟩
def gFld (C : Addr) (f : Str) (T : AE) : AG := fun y env O R => T env O fun x O1 => ∃ a dx fs, x = .o a ∧ O1 a = some (.ins C dx fs) ∧ fs.length < 1000 ∧ R env (updO O1 a (.ins C dx (putO f y fs)))
theorem qg_fld {C : Addr} {o : Expr} {f : Str} {T : AE} (c : Cls X.K C) (n : NoAttr X.K C f) (ho : QE X W AW o T)
    (ha : ∀ v, assign (.Attribute o f pos) X.env v = (do
      let ov ← holding [v] (eval o X.env)
      standAt pos.atName
      holding [v, ov] (setAttr ov f v)
      release [v, ov] []) := by intro _; rfl) : QG X W AW (.Attribute o f pos) (gFld C f T) := by
  obtain ⟨t, p, s⟩ := ho
  refine ⟨_, pg_fld c n p ha, ⟨fun R0 rs xl r h q => s.run R0 rs xl h fun x O1 F1 H1 v h1 z1 R1 r1 => ?_⟩⟩
  obtain ⟨a, dx, fs, rfl, ho, hl, h2⟩ := h1
  cases r1
  obtain ⟨vs, e1, e2⟩ := R1.ins ho
  obtain ⟨R3, z3⟩ := R1.write (o := .ins C dx (putO f _ fs)) (h := .ins C dx (putF f _ vs)) ho ⟨_, rfl, e2.put (r.mono z1.fx)⟩
  exact ⟨a, dx, vs, rfl, e1, by rw [← e2.len]; exact hl, q _ _ _ _ _ h2 (z1.trans z3) R3 ((rs.mono z1.fx).mono z3.fx)⟩
end
/-! ### methods -/
/-- a method: how it binds n values ahead and the keywords ks; g puts the values in the parameters' order -/
structure MBind (K : PySem.W.Frag) (C : Addr) (m : Str) (f : Addr) (fd : FuncData) (ps : List Str) (n : Nat) (ks : List Str) (dvs : List V) : Prop where
  me : Meth K C m f
  bd : ∃ ds, Vals dvs ds ∧ ∀ (s : Shared) (us ws : List Value), K.In s.heap → us.length = n → ws.length = ks.length → BindsTo s fd ⟨us, ks.zip ws⟩ (ps.zip (us ++ (ws ++ ds)))
def FnM (P : Program) (w : World) (K : PySem.W.Frag) (mg : Str → Option Value) (base : Heap) (k : Nat) (C : Addr) (m : Str) (ps : List Str) (n : Nat) (ks : List Str) (dvs : List V) (con : ConX) : Prop :=
  ∃ f fd, MBind K C m f fd ps n ks dvs ∧ FnOk P w K mg base (L2.CX P w) k f fd ps (spX K con)
section
variable {X : Cx} {W : WX} {AW : AX} {pos apos : Pos} {C : Addr} {k j n : Nat} {m : Str} {ps ks : List Str} {dvs : List V} {o e : Expr} {es : List Expr} {kws : List Keyword} {con : ConX}
theorem run_meth {pins : List (Addr × Obj)} {σ : St} {H : Hp} {s : Shared} {Q : VK} {E : St → XK} {f : Addr} {fd : FuncData} {sp : Sp} {us ws : List Value} {vs zs : List V} (F : FnOk X.prog X.w X.K X.mg X.base (L2.CX X.prog X.w) k f fd ps sp) (hr : Room k X.A) (B : MBind X.K C m f fd ps n ks dvs) (hx : PassesAt (L2.CX X.prog X.w) X σ (E σ))
    (I : Inv X pins σ H s) (r : Vals vs us) (rz : Vals zs ws) (hn : vs.length = n) (hk : zs.length = ks.length) (h : sp (vs ++ (zs ++ dvs)) H Q (E σ)) : wpAny (model X.prog X.w) X.A (call (.ref f) us (ks.zip ws)) (EP X pins σ Q) X.xe s := by
  obtain ⟨ds, hd, b⟩ := B.bd
  have r2 : Vals (vs ++ (zs ++ dvs)) (us ++ (ws ++ ds)) := r.append (rz.append hd)
  refine wpAny_call (codeAny_mono (F.run X.A X.stack s H ⟨us, ks.zip ws⟩ _ _ Q (E σ) hr I.env0 (b s us ws I.kIn (r.length.symm.trans hn) (rz.length.symm.trans hk)) r2 h) fun r s' hq => ?_)
  cases r with
  | error e => exact hx pins H s e s' I hq
  | ok fl =>
    cases fl with
    | ret u => exact I.after hq
    | next => exact False.elim hq
    | brk => exact False.elim hq
    | cont => exact False.elim hq
/-- o.m(..) -/
def tMethW (C : Addr) (m : Str) (n km : Nat) (sp : Sp) (dvs : List V) (E : St → XK) (ta : TE) (t tk : TA) : TE := fun σ H Q => ta σ H fun x H1 => ∃ a dx fs, x = .ref a ∧ H1 a = some (.ins C dx fs) ∧ fs.lookup m = none ∧
  t σ H1 fun vs H2 => tk σ H2 fun zs H3 => (x :: vs).length = n ∧ zs.length = km ∧ sp ((x :: vs) ++ (zs ++ dvs)) H3 Q (E σ)
theorem pe_methW {pl : Sem Bool} {f : Addr} {fd : FuncData} {sp : Sp} {E : St → XK} {ta : TE} {t tk : TA} (he : PE X o ta) (c : Cls X.K C) (F : FnOk X.prog X.w X.K X.mg X.base (L2.CX X.prog X.w) k f fd ps sp) (hr : Room k X.A) (B : MBind X.K C m f fd ps n ks dvs) (hx : ∀ σ, PassesAt (L2.CX X.prog X.w) X σ (E σ)) (ha : PA X (e :: es) t) (hkw : PK X kws tk)
    (hall : (backToKw pos (keywordEach kws X.env)).all (·.1.isSome) = true) (hks : (backToKw pos (keywordEach kws X.env)).filterMap (·.1) = ks)
    (hst : starEach (e :: es) X.env = (false, eval e X.env) :: starEach es X.env) (hpl : ((backTo pos (starEach (e :: es) X.env)).any (·.1) || (backToKw pos (keywordEach kws X.env)).any (·.1.isNone)) = false)
    (ht : eval (.Call (.Attribute o m apos) (e :: es) kws pos) X.env = (do
      let ov ← eval o X.env
      standAt apos.atName
      let (f, first) ← holding [ov] (getMethod ov m pl)
      callWith pos f first (backTo pos (starEach (e :: es) X.env)) (backToKw pos (keywordEach kws X.env)))) :
    PE X (.Call (.Attribute o m apos) (e :: es) kws pos) (tMethW C m n ks.length sp dvs E ta t tk) := by
  refine ⟨fun pins s σ H Q I h => ?_⟩
  refine PySem.W.methodCall_KW (pl := pl) (thn (he.run pins s σ H _ I h) fun u s1 ⟨x, H1, I1, rx, a, dx, fs, ex, ea, l, q⟩ => ?_) ht
  subst ex
  obtain rfl : u = Value.ref a := rx
  refine getmeth_ok I1 ea c B.me l ?_
  refine PySem.W.callWith_KW (first := [.ref a]) (h₀ := X.base) I.ok.mod.kin B.me.kp hall (thn (ha.run pos pins s1 σ H1 _ I1 q) fun us s2 ⟨vs, H2, I2, r, q2⟩ => ?_) hpl hst
  refine thn (hkw.run pos pins s2 σ H2 _ I2 q2) fun ws s3 ⟨zs, H3, I3, rz, l1, l2, q3⟩ => ⟨I3.kIn, ?_⟩
  rw [hks]
  exact run_meth (us := .ref a :: us) (vs := .ref a :: vs) F hr B (hx σ) I3 (.cons rfl r) rz l1 l2 q3
theorem pe_methW0 {pl : Sem Bool} {f : Addr} {fd : FuncData} {sp : Sp} {E : St → XK} {ta : TE} (he : PE X o ta) (c : Cls X.K C) (F : FnOk X.prog X.w X.K X.mg X.base (L2.CX X.prog X.w) k f fd ps sp) (hr : Room k X.A) (B : MBind X.K C m f fd ps n [] dvs) (hx : ∀ σ, PassesAt (L2.CX X.prog X.w) X σ (E σ))
    (ht : eval (.Call (.Attribute o m apos) [] [] pos) X.env = (do
      let ov ← eval o X.env
      standAt apos.atName
      let (f, first) ← holding [ov] (getMethod ov m pl)
      callWith pos f first (backTo pos (starEach [] X.env)) (backToKw pos (keywordEach [] X.env)))) :
    PE X (.Call (.Attribute o m apos) [] [] pos) (tMethW C m n 0 sp dvs E ta tNil tNil) := by
  refine ⟨fun pins s σ H Q I h => ?_⟩
  refine PySem.W.methodCall_KW (pl := pl) (thn (he.run pins s σ H _ I h) fun u s1 ⟨x, H1, I1, rx, a, dx, fs, ex, ea, l, l1, _, q⟩ => ?_) ht
  subst ex
  obtain rfl : u = Value.ref a := rx
  refine getmeth_ok I1 ea c B.me l ?_
  exact PySem.W.callWith_K0 (first := [.ref a]) I1.kIn B.me.kp (run_meth (us := [.ref a]) (vs := [.ref a]) (ws := []) (zs := []) F hr B (hx σ) I1 (.cons rfl .nil) .nil l1 rfl q)
/-- dvs as data -/
structure Dvs (dvs : List V) (ds : List OV) : Prop where
  rv : ∀ K F, RVs K F ds dvs
theorem dvs_nil : Dvs [] [] := ⟨fun _ _ => .nil⟩
theorem dvs_bl {b : Bool} : Dvs [.bl b] [dB b] := ⟨fun _ _ => .cons (.d (.bl b)) .nil⟩
/-- a method that may raise, called where it does not -/
def aMeth (C : Addr) (m : Str) (n km : Nat) (ds : List OV) (con : ConX) (T : AE) (U V : AA) : AE := fun env O R => T env O fun x O1 => ∃ a dx fs, x = .o a ∧ O1 a = some (.ins C dx fs) ∧ fs.lookup m = none ∧ U env O1 fun xs O2 => V env O2 fun ys O3 => xs.length + 1 = n ∧ ys.length = km ∧ con (.o a :: xs ++ (ys ++ ds)) O3 R noX
theorem se_meth {dvs : List V} {ds : List OV} {km : Nat} {ta : TE} {t tk : TA} {T : AE} {U V : AA} (hd : Dvs dvs ds) (s : SE X.K W AW ta T) (su : SA X.K W AW t U) (sv : SA X.K W AW tk V) :
    SE X.K W AW (tMethW C m n km (spX X.K con) dvs (fun _ _ _ _ => False) ta t tk) (aMeth C m n km ds con T U V) := ⟨fun R0 rs xl h q => s.run R0 rs xl h fun x O1 F1 H1 v h1 z1 R1 r1 => by
  obtain ⟨a, dx, fs, rfl, ha, hm, h2⟩ := h1
  cases r1
  obtain ⟨vs, e1, e2⟩ := R1.ins ha
  refine ⟨a, dx, vs, rfl, e1, (e2.look (f := m)).2 hm, su.run R1 (rs.mono z1.fx) (xl.step z1) h2 fun xs O2 F2 H2 us h3 z2 R2 r2 => sv.run R2 ((rs.mono z1.fx).mono z2.fx) ((xl.step z1).step z2) h3 fun ys O3 F3 H3 zs h4 z3 R3 r3 => ?_⟩
  obtain ⟨l1, l2, h5⟩ := h4
  refine ⟨by rw [List.length_cons, ← r2.length]; exact l1, by rw [← r3.length]; exact l2, F3, O3, _, _, noX, R3, ?_, h5, fun r O4 F4 H4 v h6 z4 R4 r4 => q r O4 F4 H4 v h6 (z1.trans (z2.trans (z3.trans z4))) R4 r4, fun _ _ _ _ _ z => z.elim⟩
  exact .cons .o ((r2.mono z3.fx).append (r3.append (hd.rv _ _)))⟩
theorem passF {X : Cx} : ∀ σ, PassesAt (L2.CX X.prog X.w) X σ ((fun _ _ _ _ => False : St → XK) σ) := fun σ pins H s e s' I c => passL pins σ H s e s' I c
theorem qe_meth {dvs : List V} {ds : List OV} {T : AE} {U : AA} (c : Cls X.K C) (D : FnM X.prog X.w X.K X.mg X.base k C m ps n [] dvs con) (hd : Dvs dvs ds) (hr : Room j X.A) (he : QE X W AW o T) (ha : QA X W AW (e :: es) U) (hj : k ≤ j := by decide)
    (hst : starEach (e :: es) X.env = (false, eval e X.env) :: starEach es X.env := by rfl) (hpl : ((backTo pos (starEach (e :: es) X.env)).any (·.1) || (backToKw pos (keywordEach [] X.env)).any (·.1.isNone)) = false := by rfl) {pl : Sem Bool}
    (ht : eval (.Call (.Attribute o m apos) (e :: es) [] pos) X.env = (do
      let ov ← eval o X.env
      standAt apos.atName
      let (f, first) ← holding [ov] (getMethod ov m pl)
      callWith pos f first (backTo pos (starEach (e :: es) X.env)) (backToKw pos (keywordEach [] X.env))) := by rfl) : QE X W AW (.Call (.Attribute o m apos) (e :: es) [] pos) (aMeth C m n 0 ds con T U aNil) := by
  obtain ⟨f, fd, B, F⟩ := D
  obtain ⟨t, p, s⟩ := he
  obtain ⟨u, pu, su⟩ := ha
  exact ⟨_, pe_methW p c F (hr.mono hj) B passF pu pk_nil rfl rfl hst hpl ht, se_meth hd s su ⟨fun R _ _ h q => q _ _ _ _ _ h Step.refl R .nil⟩⟩
theorem qe_meth0 {dvs : List V} {ds : List OV} {T : AE} (c : Cls X.K C) (D : FnM X.prog X.w X.K X.mg X.base k C m ps n [] dvs con) (hd : Dvs dvs ds) (hr : Room j X.A) (he : QE X W AW o T) (hj : k ≤ j := by decide) {pl : Sem Bool}
    (ht : eval (.Call (.Attribute o m apos) [] [] pos) X.env = (do
      let ov ← eval o X.env
      standAt apos.atName
      let (f, first) ← holding [ov] (getMethod ov m pl)
      callWith pos f first (backTo pos (starEach [] X.env)) (backToKw pos (keywordEach [] X.env))) := by rfl) : QE X W AW (.Call (.Attribute o m apos) [] [] pos) (aMeth C m n 0 ds con T aNil aNil) := by
  obtain ⟨f, fd, B, F⟩ := D
  obtain ⟨t, p, s⟩ := he
  exact ⟨_, pe_methW0 p c F (hr.mono hj) B passF ht, se_meth hd s ⟨fun R _ _ h q => q _ _ _ _ _ h Step.refl R .nil⟩ ⟨fun R _ _ h q => q _ _ _ _ _ h Step.refl R .nil⟩⟩
theorem qe_methK {dvs : List V} {ds : List OV} {T : AE} {U V : AA} (c : Cls X.K C) (D : FnM X.prog X.w X.K X.mg X.base k C m ps n ks dvs con) (hd : Dvs dvs ds) (hr : Room j X.A) (he : QE X W AW o T) (ha : QA X W AW (e :: es) U) (hk : QK X W AW kws V) (hj : k ≤ j := by decide)
    (hall : (backToKw pos (keywordEach kws X.env)).all (·.1.isSome) = true := by rfl) (hks : (backToKw pos (keywordEach kws X.env)).filterMap (·.1) = ks := by rfl)
    (hst : starEach (e :: es) X.env = (false, eval e X.env) :: starEach es X.env := by rfl) (hpl : ((backTo pos (starEach (e :: es) X.env)).any (·.1) || (backToKw pos (keywordEach kws X.env)).any (·.1.isNone)) = false := by rfl) {pl : Sem Bool}
    (ht : eval (.Call (.Attribute o m apos) (e :: es) kws pos) X.env = (do
      let ov ← eval o X.env
      standAt apos.atName
      let (f, first) ← holding [ov] (getMethod ov m pl)
      callWith pos f first (backTo pos (starEach (e :: es) X.env)) (backToKw pos (keywordEach kws X.env))) := by rfl) : QE X W AW (.Call (.Attribute o m apos) (e :: es) kws pos) (aMeth C m n ks.length ds con T U V) := by
  obtain ⟨f, fd, B, F⟩ := D
  obtain ⟨t, p, s⟩ := he
  obtain ⟨u, pu, su⟩ := ha
  obtain ⟨v, pv, sv⟩ := hk
  exact ⟨_, pe_methW p c F (hr.mono hj) B passF pu pv hall hks hst hpl ht, se_meth hd s su sv⟩
/-- .. called where what it raises goes on -/
def aMethX (AW : AX) (C : Addr) (m : Str) (n km : Nat) (ds : List OV) (con : ConX) (T : AE) (U V : AA) : AE := fun env O R => T env O fun x O1 => ∃ a dx fs, x = .o a ∧ O1 a = some (.ins C dx fs) ∧ fs.lookup m = none ∧ U env O1 fun xs O2 => V env O2 fun ys O3 => xs.length + 1 = n ∧ ys.length = km ∧ con (.o a :: xs ++ (ys ++ ds)) O3 R fun c d O' => AW c d env O'
theorem se_methX {dvs : List V} {ds : List OV} {km : Nat} {ta : TE} {t tk : TA} {T : AE} {U V : AA} (hd : Dvs dvs ds) (s : SE X.K W AW ta T) (su : SA X.K W AW t U) (sv : SA X.K W AW tk V) :
    SE X.K W AW (tMethW C m n km (spX X.K con) dvs (WE W) ta t tk) (aMethX AW C m n km ds con T U V) := ⟨fun R0 rs xl h q => s.run R0 rs xl h fun x O1 F1 H1 v h1 z1 R1 r1 => by
  obtain ⟨a, dx, fs, rfl, ha, hm, h2⟩ := h1
  cases r1
  obtain ⟨vs, e1, e2⟩ := R1.ins ha
  refine ⟨a, dx, vs, rfl, e1, (e2.look (f := m)).2 hm, su.run R1 (rs.mono z1.fx) (xl.step z1) h2 fun xs O2 F2 H2 us h3 z2 R2 r2 => sv.run R2 ((rs.mono z1.fx).mono z2.fx) ((xl.step z1).step z2) h3 fun ys O3 F3 H3 zs h4 z3 R3 r3 => ?_⟩
  obtain ⟨l1, l2, h5⟩ := h4
  refine ⟨by rw [List.length_cons, ← r2.length]; exact l1, by rw [← r3.length]; exact l2, F3, O3, _, _, _, R3, ?_, h5, fun r O4 F4 H4 v h6 z4 R4 r4 => q r O4 F4 H4 v h6 (z1.trans (z2.trans (z3.trans z4))) R4 r4, fun c d O4 F4 H4 a z4 R4 => xl c d _ O4 F4 H4 _ a (z1.trans (z2.trans (z3.trans z4))) R4 (rs.mono (z1.trans (z2.trans (z3.trans z4))).fx)⟩
  exact .cons .o ((r2.mono z3.fx).append (r3.append (hd.rv _ _)))⟩
theorem qe_methX {dvs : List V} {ds : List OV} {T : AE} {U : AA} (tk : Takes X W) (c : Cls X.K C) (D : FnM X.prog X.w X.K X.mg X.base k C m ps n [] dvs con) (hd : Dvs dvs ds) (hr : Room j X.A) (he : QE X W AW o T) (ha : QA X W AW (e :: es) U) (hj : k ≤ j := by decide)
    (hst : starEach (e :: es) X.env = (false, eval e X.env) :: starEach es X.env := by rfl) (hpl : ((backTo pos (starEach (e :: es) X.env)).any (·.1) || (backToKw pos (keywordEach [] X.env)).any (·.1.isNone)) = false := by rfl) {pl : Sem Bool}
    (ht : eval (.Call (.Attribute o m apos) (e :: es) [] pos) X.env = (do
      let ov ← eval o X.env
      standAt apos.atName
      let (f, first) ← holding [ov] (getMethod ov m pl)
      callWith pos f first (backTo pos (starEach (e :: es) X.env)) (backToKw pos (keywordEach [] X.env))) := by rfl) : QE X W AW (.Call (.Attribute o m apos) (e :: es) [] pos) (aMethX AW C m n 0 ds con T U aNil) := by
  obtain ⟨f, fd, B, F⟩ := D
  obtain ⟨t, p, s⟩ := he
  obtain ⟨u, pu, su⟩ := ha
  exact ⟨_, pe_methW p c F (hr.mono hj) B (fun st => passAt tk st) pu pk_nil rfl rfl hst hpl ht, se_methX hd s su ⟨fun R _ _ h q => q _ _ _ _ _ h Step.refl R .nil⟩⟩
theorem qe_methX0 {dvs : List V} {ds : List OV} {T : AE} (tk : Takes X W) (c : Cls X.K C) (D : FnM X.prog X.w X.K X.mg X.base k C m ps n [] dvs con) (hd : Dvs dvs ds) (hr : Room j X.A) (he : QE X W AW o T) (hj : k ≤ j := by decide) {pl : Sem Bool}
    (ht : eval (.Call (.Attribute o m apos) [] [] pos) X.env = (do
      let ov ← eval o X.env
      standAt apos.atName
      let (f, first) ← holding [ov] (getMethod ov m pl)
      callWith pos f first (backTo pos (starEach [] X.env)) (backToKw pos (keywordEach [] X.env))) := by rfl) : QE X W AW (.Call (.Attribute o m apos) [] [] pos) (aMethX AW C m n 0 ds con T aNil aNil) := by
  obtain ⟨f, fd, B, F⟩ := D
  obtain ⟨t, p, s⟩ := he
  exact ⟨_, pe_methW0 p c F (hr.mono hj) B (fun st => passAt tk st) ht, se_methX hd s ⟨fun R _ _ h q => q _ _ _ _ _ h Step.refl R .nil⟩ ⟨fun R _ _ h q => q _ _ _ _ _ h Step.refl R .nil⟩⟩
theorem qe_methXK {dvs : List V} {ds : List OV} {T : AE} {U V : AA} (tk : Takes X W) (c : Cls X.K C) (D : FnM X.prog X.w X.K X.mg X.base k C m ps n ks dvs con) (hd : Dvs dvs ds) (hr : Room j X.A) (he : QE X W AW o T) (ha : QA X W AW (e :: es) U) (hk : QK X W AW kws V) (hj : k ≤ j := by decide)
    (hall : (backToKw pos (keywordEach kws X.env)).all (·.1.isSome) = true := by rfl) (hks : (backToKw pos (keywordEach kws X.env)).filterMap (·.1) = ks := by rfl)
    (hst : starEach (e :: es) X.env = (false, eval e X.env) :: starEach es X.env := by rfl) (hpl : ((backTo pos (starEach (e :: es) X.env)).any (·.1) || (backToKw pos (keywordEach kws X.env)).any (·.1.isNone)) = false := by rfl) {pl : Sem Bool}
    (ht : eval (.Call (.Attribute o m apos) (e :: es) kws pos) X.env = (do
      let ov ← eval o X.env
      standAt apos.atName
      let (f, first) ← holding [ov] (getMethod ov m pl)
      callWith pos f first (backTo pos (starEach (e :: es) X.env)) (backToKw pos (keywordEach kws X.env))) := by rfl) : QE X W AW (.Call (.Attribute o m apos) (e :: es) kws pos) (aMethX AW C m n ks.length ds con T U V) := by
  obtain ⟨f, fd, B, F⟩ := D
  obtain ⟨t, p, s⟩ := he
  obtain ⟨u, pu, su⟩ := ha
  obtain ⟨v, pv, sv⟩ := hk
  exact ⟨_, pe_methW p c F (hr.mono hj) B (fun st => passAt tk st) pu pv hall hks hst hpl ht, se_methX hd s su sv⟩
end
theorem w_fld {C : Addr} {f : Str} {T : AE} {env : En} {O : Oh} {R : OV → Oh → Prop} (q : T env O fun x O1 => ∃ a dx fs v, x = .o a ∧ O1 a = some (.ins C dx fs) ∧ fs.lookup f = some v ∧ R v O1) : aFld C f T env O R := q
theorem w_gfld {C : Addr} {f : Str} {T : AE} {y : OV} {env : En} {O : Oh} {R : En → Oh → Prop} (q : T env O fun x O1 => ∃ a dx fs, x = .o a ∧ O1 a = some (.ins C dx fs) ∧ fs.length < 1000 ∧ R env (updO O1 a (.ins C dx (putO f y fs)))) : gFld C f T y env O R := q
theorem w_meth {C : Addr} {m : Str} {n km : Nat} {ds : List OV} {con : ConX} {T : AE} {U V : AA} {env : En} {O : Oh} {R : OV → Oh → Prop} (q : T env O fun x O1 => ∃ a dx fs, x = .o a ∧ O1 a = some (.ins C dx fs) ∧ fs.lookup m = none ∧ U env O1 fun xs O2 => V env O2 fun ys O3 => xs.length + 1 = n ∧ ys.length = km ∧ con (.o a :: xs ++ (ys ++ ds)) O3 R noX) :
    aMeth C m n km ds con T U V env O R := q
theorem w_methX {AW : AX} {C : Addr} {m : Str} {n km : Nat} {ds : List OV} {con : ConX} {T : AE} {U V : AA} {env : En} {O : Oh} {R : OV → Oh → Prop} (q : T env O fun x O1 => ∃ a dx fs, x = .o a ∧ O1 a = some (.ins C dx fs) ∧ fs.lookup m = none ∧ U env O1 fun xs O2 => V env O2 fun ys O3 => xs.length + 1 = n ∧ ys.length = km ∧ con (.o a :: xs ++ (ys ++ ds)) O3 R fun c d O' => AW c d env O') :
    aMethX AW C m n km ds con T U V env O R := q
/-! ### making -/
structure MInit (K : PySem.W.Frag) (C f : Addr) (fd : FuncData) (ps : List Str) (dvs : List V) : Prop where
  mm : Mk K C f
  bd : ∃ ds, Vals dvs ds ∧ Binds K fd ps ds
def FnI (P : Program) (w : World) (K : PySem.W.Frag) (mg : Str → Option Value) (base : Heap) (k : Nat) (C : Addr) (ps : List Str) (dvs : List V) (con : Con) : Prop :=
  ∃ f fd, MInit K C f fd ps dvs ∧ FnOk P w K mg base CX0 k f fd ps (spOf K con)
section
variable {X : Cx} {W : WX} {AW : AX} {pos : Pos} {C : Addr} {k j : Nat} {x : Str} {p : Pos} {ps : List Str} {e : Expr} {es : List Expr} {con : Con}
def aMake (C : Addr) (ds : List OV) (con : Con) (U : AA) : AE := fun env O R => U env O fun xs O1 => ∀ a dx, O1 a = none → O1 dx = none → dx ≠ a → con (.o a :: (xs ++ ds)) (updO (updO O1 dx (.own a)) a (.ins C dx [])) fun r O2 => r = .d .none ∧ R (.o a) O2
theorem se_make {dvs : List V} {ds : List OV} {t : TA} {U : AA} (hd : Dvs dvs ds) (s : SA X.K W AW t U) : SE X.K W AW (tMake C (spOf X.K con) dvs E0 t) (aMake C ds con U) := ⟨fun R0 rs xl h q => s.run R0 rs xl h fun xs O1 F1 H1 vs h1 z1 R1 r1 => by
  intro a dx ha hdx hne
  obtain ⟨R2, z2⟩ := R1.newO (o := .own a) (h := .own a) hdx rfl
  have ha2 : upd H1 dx (.own a) a = none := by rw [upd_ne hne.symm]; exact ha
  obtain ⟨R3, z3⟩ := R2.newO (o := .ins C dx []) (h := .ins C dx []) ha2 ⟨[], rfl, .nil⟩
  refine ⟨_, _, _, _, R3, .cons .o (((r1.mono z2.fx).mono z3.fx).append (hd.rv _ _)), h1 a dx (R1.ofree ha) (R1.ofree hdx) hne, fun r O4 F4 H4 v h4 z4 R4 r4 => ?_⟩
  obtain ⟨e, h5⟩ := h4
  subst e
  refine ⟨by cases r4 with | d h => cases h; rfl, q _ _ _ _ _ h5 (z1.trans (z2.trans (z3.trans z4))) R4 .o⟩⟩
theorem qe_make {dvs : List V} {ds : List OV} {U : AA} (D : FnI X.prog X.w X.K X.mg X.base k C ps dvs con) (hd : Dvs dvs ds) (hr : Room j X.A) (hm : X.mg x = some (.ref C)) (ha : QA X W AW (e :: es) U) (hj : k + 1 ≤ j := by decide) (hg : Gl X x := by rfl)
    (hdb : (x == ("__debug__" : Str)) = false := by decide) (he : starEach (e :: es) X.env = (false, eval e X.env) :: starEach es X.env := by rfl) (hpl : (backTo pos (starEach es X.env)).any (·.1) = false := by rfl) : QE X W AW (.Call (.Name x p) (e :: es) [] pos) (aMake C ds con U) := by
  obtain ⟨f, fd, ⟨M, dd, hv, B⟩, F⟩ := D
  obtain ⟨t, pp, s⟩ := ha
  exact ⟨_, pe_make M F (hr.mono hj) hg hm B hv pass0 pp hdb he hpl, se_make hd s⟩
theorem qe_make0 {dvs : List V} {ds : List OV} (D : FnI X.prog X.w X.K X.mg X.base k C ps dvs con) (hd : Dvs dvs ds) (hr : Room j X.A) (hm : X.mg x = some (.ref C)) (hj : k + 1 ≤ j := by decide) (hg : Gl X x := by rfl)
    (hdb : (x == ("__debug__" : Str)) = false := by decide) : QE X W AW (.Call (.Name x p) [] [] pos) (aMake C ds con aNil) := by
  obtain ⟨f, fd, ⟨M, dd, hv, B⟩, F⟩ := D
  exact ⟨_, pe_make0 M F (hr.mono hj) hg hm B hv pass0 hdb, se_make hd ⟨fun R _ _ h q => q _ _ _ _ _ h Step.refl R .nil⟩⟩
end
theorem w_make {C : Addr} {ds : List OV} {con : Con} {U : AA} {env : En} {O : Oh} {R : OV → Oh → Prop} (q : U env O fun xs O1 => ∀ a dx, O1 a = none → O1 dx = none → dx ≠ a → con (.o a :: (xs ++ ds)) (updO (updO O1 dx (.own a)) a (.ins C dx [])) fun r O2 => r = .d .none ∧ R (.o a) O2) : aMake C ds con U env O R := q
/-! ### bodies of methods -/
section
variable {P : Program} {w : World} {K : PySem.W.Frag} {mg : Str → Option Value} {base : Heap} {k : Nat} {x qual : Str} {st : Stmt} {N ps : List Str} {f : Addr} {fd : FuncData}
theorem fnm_run {con : ConX} (Fn : ∀ (sp : Sp), (∀ vs H Q E, sp vs H Q E → vs.length = ps.length) → (∀ (cdv : Value) (A : Around) (outer : List PySem.Env) (s : Shared) (H : Hp) (vs : List V) (Q : VK) (E : XK), Room k (A.deeper (PyProof.Rows.envOfC qual (defScope st) s.heap.objs.size f cdv)) → sp vs H Q E →
      ∃ t, PSs (cxOf (L2.CX P w) P w K mg base N qual (defScope st) f cdv A outer s H E) (defBody st) t ∧ t { nx := fun _ H' => Q .non H', rt := Q } (start N vs) H) → FnOk P w K mg base (L2.CX P w) (k + 1) f fd ps sp)
    (len : ∀ xs O R RX, con xs O R RX → xs.length = ps.length)
    (body : ∀ (cdv : Value) (A : Around) (outer : List PySem.Env) (s : Shared) (H : Hp) (E : XK) (RX : XR), Room k (A.deeper (PyProof.Rows.envOfC qual (defScope st) s.heap.objs.size f cdv)) →
      ∃ T, QSs (cxOf (L2.CX P w) P w K mg base N qual (defScope st) f cdv A outer s H E) (fun c d _ H => E c d H) (fun c d _ O => RX c d O) (defBody st) T ∧ ∀ xs O R, con xs O R RX → T { nx := fun _ O' => RW R (.d .none) O', rt := RW R } (startE N xs) O) :
    FnOk P w K mg base (L2.CX P w) (k + 1) f fd ps (spX K con) := by
  refine Fn _ (fun vs H Q E h => ?_) (fun cdv A outer s H vs Q E hr h => ?_)
  · obtain ⟨F, O, xs, R, RX, R0, rv, h, _⟩ := h
    rw [← rv.length]
    exact len _ _ _ _ h
  · obtain ⟨F, O, xs, R, RX, R0, rv, h, q, qx⟩ := h
    obtain ⟨T, ⟨t, p, s'⟩, hT⟩ := body cdv A outer s H E RX hr
    have fin : ∀ r O' F' H' v, RW R r O' → Step F O H F' O' H' → Rep K F' O' H' → RV K F' r v → Q v H' := fun r O' F' H' v a z R1 r1 => by
      obtain ⟨r', O'', wk, a⟩ := a
      obtain ⟨F2, z2, R2, r2⟩ := wk K F' H' v R1 r1
      exact q _ _ _ _ _ a (z.trans z2) R2 r2
    exact ⟨t, p, s'.run R0 (rs_start rv) (fun c d _ O' F' H' _ a z R1 _ => qx c d O' F' H' a z R1) (hT xs O R h) ⟨fun e o f' hh st' a z R1 rs1 => fin _ _ _ _ .non a z R1 (.d .non), fin, fun e o f' hh st' a z R1 rs1 => a.elim, fun e o f' hh st' a z R1 rs1 => a.elim⟩⟩
/-- a method as it stands behind the top: its def, its lookup, how it binds (per kind of call) -/
structure MethAt (K : PySem.W.Frag) (C : Addr) (m qual : Str) (st : Stmt) (f : Addr) (fd : FuncData) (dvs : List V) (kws : List (Str × V)) : Prop where
  fn : FunD K m qual (defArgs st) (defBody st) (defScope st) dvs kws f fd
  me : Meth K C m f
def MethD (K : PySem.W.Frag) (C : Addr) (m qual : Str) (st : Stmt) (dvs : List V) (kws : List (Str × V)) : Prop := ∃ f fd, MethAt K C m qual st f fd dvs kws
theorem MethAt.ok {con : ConX} {dvs : List V} {kws : List (Str × V)} {C : Addr} {m : Str} (D : MethAt K C m qual st f fd dvs kws) (S : FnScope N ps (defScope st)) (len : ∀ xs O R RX, con xs O R RX → xs.length = ps.length)
    (body : ∀ (cdv : Value) (A : Around) (outer : List PySem.Env) (s : Shared) (H : Hp) (E : XK) (RX : XR), Room k (A.deeper (PyProof.Rows.envOfC qual (defScope st) s.heap.objs.size f cdv)) →
      ∃ T, QSs (cxOf (L2.CX P w) P w K mg base N qual (defScope st) f cdv A outer s H E) (fun c d _ H => E c d H) (fun c d _ O => RX c d O) (defBody st) T ∧ ∀ xs O R, con xs O R RX → T { nx := fun _ O' => RW R (.d .none) O', rt := RW R } (startE N xs) O) :
    FnOk P w K mg base (L2.CX P w) (k + 1) f fd ps (spX K con) :=
  fnm_run (fun sp hlen hb => D.fn.ok S hlen hb) len body
/-- the ways a method binds -/
theorem mbind_all {C : Addr} {m : Str} (D : MethAt K C m qual st f fd [] [])
    (h : ∀ (kV doc pm : Value) (an : Option Addr) (cdv ct : Value) (us : List Value), us.length = ps.length → bindArgs (PySem.W.fnOf m qual (defArgs st) (defBody st) (defScope st) .none kV doc pm an cdv ct) ⟨us, []⟩ = pure (ps.zip us)) : MBind K C m f fd ps ps.length [] [] := by
  have b := D.fn.bindsN (ps := ps) h
  refine ⟨D.me, [], .nil, fun s us ws X h1 h2 => ?_⟩
  have e : ws = [] := List.length_eq_zero_iff.mp h2
  subst e
  exact b s us X (by rw [List.append_nil]; exact h1)
theorem mbind_kw0 {C : Addr} {m : Str} {kws : List (Str × V)} (D : MethAt K C m qual st f fd [] kws) (n : Nat) (hk : kws ≠ []) (hn : n + kws.length = ps.length)
    (h : ∀ (D : Addr) (doc pm : Value) (an : Option Addr) (cdv ct : Value) (us ks : List Value), us.length = n → ks.length = kws.length →
      KwChain D ((kws.map (·.1)).zip ks) (bindArgs (PySem.W.fnOf m qual (defArgs st) (defBody st) (defScope st) .none (.ref D) doc pm an cdv ct) ⟨us, []⟩) (ps.zip (us ++ ks))) : MBind K C m f fd ps n [] (kws.map (·.2)) := by
  obtain ⟨ds, hv, b⟩ := D.fn.binds0 n hk hn h
  refine ⟨D.me, ds, hv, fun s us ws X h1 h2 => ?_⟩
  have e : ws = [] := List.length_eq_zero_iff.mp h2
  subst e
  refine b s us X ?_
  rw [List.length_append, h1, ← hv.length, List.length_map]
  exact hn
theorem mbind_kw {C : Addr} {m : Str} {kws : List (Str × V)} (D : MethAt K C m qual st f fd [] kws) (n : Nat) (ks : List Str)
    (h : ∀ (kV doc pm : Value) (an : Option Addr) (cdv ct : Value) (us ws : List Value), us.length = n → ws.length = ks.length → bindArgs (PySem.W.fnOf m qual (defArgs st) (defBody st) (defScope st) .none kV doc pm an cdv ct) ⟨us, ks.zip ws⟩ = pure (ps.zip (us ++ ws))) : MBind K C m f fd ps n ks [] := by
  obtain ⟨oc, od, dV, kV, doc, pm, an, cdv, ct, osl, rfl, lk, hcd, hD, hK⟩ := D.fn.ex
  rcases hD with ⟨_, rfl⟩ | ⟨e, _⟩
  · refine ⟨D.me, [], .nil, fun s us ws X h1 h2 => ?_⟩
    rw [List.append_nil]
    exact .of_eq (h kV doc pm an cdv ct us ws h1 h2)
  · exact absurd rfl e
theorem methD_mk {C : Addr} {m : Str} {oc : Value} {od an : Option Addr} {osl : Array (Option Value)} {kV doc pm cdv ct : Value} (a : PySem.W.findIn K (.ref C) m = some (some (.ref f))) (i : PySem.W.isFn K (.ref f) = true)
    (l : K.lookup f = some ⟨oc, od, .func (PySem.W.fnOf m qual (defArgs st) (defBody st) (defScope st) .none kV doc pm an cdv ct), osl⟩) (c : PySem.W.codeIn K cdv qual = true) (kp : PySem.W.keepIn K (.ref f) = true) : MethD K C m qual st [] [] :=
  ⟨f, _, ⟨⟨⟨oc, od, .none, kV, doc, pm, an, cdv, ct, osl, rfl, l, c, .inl ⟨rfl, rfl⟩, .inl rfl⟩, kp⟩, ⟨a, i, kp⟩⟩⟩
theorem methD_mkK {C D : Addr} {m : Str} {kn : Str} {b : Bool} {oc : Value} {od an : Option Addr} {osl : Array (Option Value)} {doc pm cdv ct : Value} (a : PySem.W.findIn K (.ref C) m = some (some (.ref f))) (i : PySem.W.isFn K (.ref f) = true)
    (l : K.lookup f = some ⟨oc, od, .func (PySem.W.fnOf m qual (defArgs st) (defBody st) (defScope st) .none (.ref D) doc pm an cdv ct), osl⟩) (c : PySem.W.codeIn K cdv qual = true) (kp : PySem.W.keepIn K (.ref f) = true) (n : PySem.W.nsIn K D kn = some (some (.bool b))) : MethD K C m qual st [] [(kn, .bl b)] :=
  ⟨f, _, ⟨⟨⟨oc, od, .none, .ref D, doc, pm, an, cdv, ct, osl, rfl, l, c, .inl ⟨rfl, rfl⟩, .inr ⟨D, rfl, fun q hq => by cases List.mem_singleton.mp hq; exact ⟨_, n, rfl⟩⟩⟩, kp⟩, ⟨a, i, kp⟩⟩⟩
/-- __init__ with one default: a tuple without items -/
structure InitAt (K : PySem.W.Frag) (C : Addr) (qual : Str) (st : Stmt) (f : Addr) (fd : FuncData) (v : V) : Prop where
  fn : FunD K "__init__" qual (defArgs st) (defBody st) (defScope st) [v] [] f fd
  mm : Mk K C f
def InitD (K : PySem.W.Frag) (C : Addr) (qual : Str) (st : Stmt) : Prop := ∃ f fd v, InitAt K C qual st f fd v
theorem initD_mk {C T e : Addr} {oc : Value} {od an : Option Addr} {osl : Array (Option Value)} {kV doc pm cdv ct : Value} {o : Obj} {n : Nat} (mk : PySem.W.makesIn K C = true) (a : PySem.W.findIn K (.ref C) "__init__" = some (some (.ref f))) (i : PySem.W.isFn K (.ref f) = true) (kc : PySem.W.keepIn K (.ref C) = true)
    (l : K.lookup f = some ⟨oc, od, .func (PySem.W.fnOf "__init__" qual (defArgs st) (defBody st) (defScope st) (.ref T) kV doc pm an cdv ct), osl⟩) (c : PySem.W.codeIn K cdv qual = true) (kp : PySem.W.keepIn K (.ref f) = true) (lT : K.lookup T = some o) (oT : o.data = .seq #[.ref e] n) : InitD K C qual st :=
  ⟨f, _, .ref e, ⟨⟨⟨oc, od, .ref T, kV, doc, pm, an, cdv, ct, osl, rfl, l, c, .inr ⟨by simp, T, o, [.ref e], n, rfl, lT, oT, .cons rfl .nil⟩, .inl rfl⟩, kp⟩, ⟨mk, a, i, kc⟩⟩⟩
theorem InitAt.ok {con : Con} {C : Addr} {v : V} (D : InitAt K C qual st f fd v) (S : FnScope N ps (defScope st)) (len : ∀ xs O R, con xs O R → xs.length = ps.length)
    (body : ∀ (cdv : Value) (A : Around) (outer : List PySem.Env) (s : Shared) (H : Hp) (E : XK), Room k (A.deeper (PyProof.Rows.envOfC qual (defScope st) s.heap.objs.size f cdv)) →
      ∃ T, QSs (cxOf CX0 P w K mg base N qual (defScope st) f cdv A outer s H E).nox NW NAW (defBody st) T ∧ ∀ xs O R, con xs O R → T { nx := fun _ O' => RW R (.d .none) O', rt := RW R } (startE N xs) O) :
    FnOk P w K mg base CX0 (k + 1) f fd ps (spOf K con) := by
  refine D.fn.ok S (fun vs H Q E h => ?_) (fun cdv A outer s H vs Q E hr h => ?_)
  · obtain ⟨F, O, xs, R, R0, rv, h, _⟩ := h
    rw [← rv.length]
    exact len _ _ _ h
  · obtain ⟨F, O, xs, R, R0, rv, h, q⟩ := h
    obtain ⟨T, ⟨t, p, s'⟩, hT⟩ := body cdv A outer s H E hr
    have fin : ∀ r O' F' H' v, RW R r O' → Step F O H F' O' H' → Rep K F' O' H' → RV K F' r v → Q v H' := fun r O' F' H' v a z R1 r1 => by
      obtain ⟨r', O'', wk, a⟩ := a
      obtain ⟨F2, z2, R2, r2⟩ := wk K F' H' v R1 r1
      exact q _ _ _ _ _ a (z.trans z2) R2 r2
    exact ⟨t, p.nox, s'.run R0 (rs_start rv) (fun _ _ _ _ _ _ _ z => z.elim) (hT xs O R h) ⟨fun e o f' hh st' a z R1 rs1 => fin _ _ _ _ .non a z R1 (.d .non), fin, fun e o f' hh st' a z R1 rs1 => a.elim, fun e o f' hh st' a z R1 rs1 => a.elim⟩⟩
/-- all parameters given -/
theorem minit_all {C : Addr} {v : V} (D : InitAt K C qual st f fd v) (n : Nat) (hn : n = ps.length)
    (h : ∀ (T : Addr) (kV doc pm : Value) (an : Option Addr) (cdv ct : Value) (us its : List Value), us.length = n → its.length = 1 →
      ∃ k, bindArgs (PySem.W.fnOf "__init__" qual (defArgs st) (defBody st) (defScope st) (.ref T) kV doc pm an cdv ct) ⟨us, []⟩ = seqItems? (.ref T) >>= k ∧ k (some its.toArray) = pure (ps.zip (us ++ its.drop 1))) : MInit K C f fd ps [] := by
  obtain ⟨ds, hv, b⟩ := D.fn.binds1 n 1 (by simp) (by simpa using hn) h
  exact ⟨D.mm, ds, hv, b⟩
end
end Y
/-! Y: texts; o.f += e; errors that carry a value. -/
namespace PySem.W
open PySem PySem.Spec PySem.Calls PyProof.Rows
section
variable {prog : Program} {w : World} {A : Around} {E : Value → Shared → Prop} {s : Shared} {K : Frag} {x D : Addr} {ox : Obj}
theorem findObj_dataO {C : Addr} {od : Option Obj} {name : Str} {a g : Value} (hc : (clsIn K C).isSome = true) (ha : findIn K (.ref C) name = some (some a)) (hg : specialIn K a "__get__" = some (some g)) (ht : takesIn K a = some true) : findObj K C od name = some (.bind g a) := by
  obtain ⟨cd, hc⟩ := Option.isSome_iff_exists.mp hc
  unfold findObj
  rw [hc, Option.bind_some, ha, Option.bind_some]
  simp [hg, ht]
theorem kin_classO {od : Option Obj} {Q : Option Value → Shared → Prop} (hga : findIn K (.ref D) "__getattribute__" = some (some (.builtin "BaseException.__getattribute__"))) (hgt : findIn K (.ref D) "__getattr__" = some none) (hsub : subIn K (.ref D) (.type "BaseException") = some true)
    (hdct : hasDictIn K D = true) (ha : findIn K (.ref D) "__class__" = some (some (.builtin "object.__class__")))
    (hn : specialIn K (.builtin "object.__class__") "__get__" = some (some (.builtin "getset_descriptor.__get__"))) (htk : takesIn K (.builtin "object.__class__") = some true) (hm : mroIn K D (.type "object") = some true)
    (X : K.In s.heap) (I : InstAt s.heap x ox D od) (h : Q (some (.ref D)) { s with toks := s.toks + 1 }) : wpAny (model prog w) A (getAttr? (.ref x) "__class__") Q E s := by
  have hf : findObj K D od "__class__" = some (.bind (.builtin "getset_descriptor.__get__") (.builtin "object.__class__")) := findObj_dataO (by obtain ⟨cd, hc, _⟩ := any_some hdct; rw [hc]; rfl) ha hn htk
  obtain ⟨hp, g, d, t, os⟩ := s
  have L0 := I.type (M := model prog w)
  have L1 := looks_findIn (M := model prog w) X hga
  have L2 := looks_findIn (M := model prog w) X hgt
  have L3 := looks_find (M := model prog w) X I hf
  have sub : Looks (model prog w) hp (isInstance (.ref x) (.type "BaseException")) true := L0.andThen (looks_subIn X hsub)
  have hx0 : (false && onTheHeap (Value.builtin "BaseException.__getattribute__")) = false := rfl
  have hx2 : (Value.builtin "BaseException.__getattribute__" == Value.builtin "object.__getattribute__") = false := by decide +kernel
  have hx1 : (onTheHeap (Value.ref D) && Value.builtin "BaseException.__getattribute__" == Value.builtin "object.__getattribute__") = false := by rw [hx2]; rfl
  unfold getAttr? getAttrBy? getAttrBy
  refine wpAny_bind (wpAny_mkText (wpAny_bind (wpAny_attempt (wpAny_holding (wpAny_bind (L0.at (wpAny_bind (L1.at ?_))))))))
  show wpAny _ _ (if (onTheHeap (Value.ref D) && Value.builtin "BaseException.__getattribute__" == Value.builtin "object.__getattribute__") = true then _ else _) _ _ _
  rw [hx1, if_neg Bool.false_ne_true]
  unfold getAttrByItsOwn hookBefore
  refine wpAny_bind ?_
  rw [if_pos (show onTheHeap (Value.ref D) = true from rfl)]
  refine L2.at ?_
  refine wpAny_bind (wpAny_attempt (wpAny_holding ?_))
  unfold callGetattribute
  rw [hx0, if_neg Bool.false_ne_true]
  unfold boundAndCalled
  rw [PySem.F.excAttr_ValueError.ga.bind (.ref x)]
  refine wpAny_bind (wpAny_pure ?_)
  show wpAny _ _ (call (.builtin "BaseException.__getattribute__") [.ref x, .str "__class__" t]) _ _ _
  refine wpAny_call (codeAny_call_builtin PySem.F.excAttr_ValueError.ga.plain PySem.F.entry_bexc_ga ?_)
  refine @check_slot (model prog w) _ _ ⟨hp, g, d, t + 1, os⟩ "BaseException.__getattribute__" "BaseException" "__getattribute__" (.ref x) [.str "__class__" t] [] _ (by decide +kernel) (by decide +kernel) sub (PySem.F.args_bexc_ga (.ref x) (.str "__class__" t)) ?_
  unfold Builtin.«object.__getattribute__»
  refine wpAny_bind (wpAny_of_eq (a := ((Value.ref x : Value), [Value.str "__class__" t])) (by first | rfl | (simp only [slotArgs]; rfl)) ?_)
  refine wpAny_bind (wpAny_pure (wpAny_bind (L0.at (wpAny_bind (L3.at ?_)))))
  show wpAny _ _ (holding [Value.builtin "object.__class__"] (call (.builtin "getset_descriptor.__get__") [.builtin "object.__class__", .ref x, .ref D]) >>= ret) _ _ _
  refine wpAny_bind (wpAny_holding (wpAny_call (class_get (s := ⟨hp, g, d, t + 1, os⟩) (ox := ox) (od := od) X I hm ?_)))
  refine wpAny_pure ?_
  show wpAny _ _ (handedOut (.ref D)) _ _ _
  rw [handedOut_of (v := .ref D) rfl]
  first
    | exact wpAny_pure (wpAny_pure h)
    | exact wpAny_pure h
    | exact wpAny_pure (wpAny_bind (wpAny_pure (wpAny_pure h)))
theorem kitx_excO {od : Option Obj} (hga : findIn K (.ref D) "__getattribute__" = some (some (.builtin "BaseException.__getattribute__"))) (hgt : findIn K (.ref D) "__getattr__" = some none) (hsub : subIn K (.ref D) (.type "BaseException") = some true) (hdct : hasDictIn K D = true) (ha : findIn K (.ref D) "__class__" = some (some (.builtin "object.__class__")))
    (hn : specialIn K (.builtin "object.__class__") "__get__" = some (some (.builtin "getset_descriptor.__get__"))) (htk : takesIn K (.builtin "object.__class__") = some true) (hm : mroIn K D (.type "object") = some true) :
    KitX K (.ref x) (.ref D) (fun h => InstAt h x ox D od) where
  ty := fun _ _ _ I => I.type
  it := fun _ _ X _ => by
    obtain ⟨cdD, hcD, _⟩ := any_some hdct
    unfold clsIn at hcD
    split at hcD
    · rename_i c' d' cd' sl' ho
      intro A' Q' E' s' k q
      unfold isType loadHead
      exact wpAny_bind (wpAny_loadPart (k _ _ (X _ _ ho)) (wpAny_pure q))
    · cases hcD
  ne := fun h tp dd its n sl X htp => by
    obtain ⟨cdD, hcD, _⟩ := any_some hdct
    refine Bool.eq_false_iff.mpr fun q => ?_
    have e : D = tp := Value.ref.inj (beq_iff_eq.mp q)
    subst e
    unfold clsIn at hcD
    split at hcD
    · rename_i c' d' cd' sl' ho
      have z := (X _ _ ho).symm.trans htp
      cases z
    · cases hcD
  ca := fun X I k => kin_classO hga hgt hsub hdct ha hn htk hm X I k
end
end PySem.W
namespace Y
open PySem PySem.Spec L2 PyProof.Rows
/-- a text by its signs -/
abbrev dS (l : List Nat) : OV := .d (.str ⟨l.toArray⟩)
theorem str_toL (z : Str) : z = ⟨z.cps.toList.toArray⟩ := rfl
theorem strL_inj {a b : List Nat} : ((⟨a.toArray⟩ : Str) = ⟨b.toArray⟩) ↔ a = b := ⟨fun h => by
  have := congrArg (fun z : Str => z.cps.toList) h
  simpa using this, fun h => by rw [h]⟩
theorem strL_len (l : List Nat) : (⟨l.toArray⟩ : Str).length = l.length := rfl
theorem strL_app (a b : List Nat) : (⟨a.toArray⟩ : Str) ++ ⟨b.toArray⟩ = ⟨(a ++ b).toArray⟩ := TL.ext_tl (by rw [TL.tl_append])
section
variable {K : PySem.W.Frag}
def aStrI : AN := fun xs O R => ∃ i : Int, xs = [.d (.int i)] ∧ i.natAbs.log2 < 1920 ∧ R (.d (.str (toString i))) O
theorem sn_strI : SN K (fun xs H Q => ∃ i, xs = [.int i] ∧ i.natAbs.log2 < 1920 ∧ Q (.str (toString i)) H) aStrI := by
  intro F O H xs vs Q R R0 rv h q
  obtain ⟨i, rfl, hz, h⟩ := h
  obtain ⟨v, rfl, r⟩ := rvs1 rv
  rw [r.int_inv]
  exact ⟨i, rfl, hz, q _ _ _ _ _ h Step.refl R0 (.d (.str _))⟩
def aIntS : AN := fun xs O R => ∃ (a : Str) (n : Int), xs = [.d (.str a)] ∧ PySem.intText? a = some n ∧ a.length ≤ 640 ∧ R (.d (.int n)) O
theorem sn_intS : SN K (fun xs H Q => ∃ a n, xs = [.str a] ∧ PySem.intText? a = some n ∧ a.length ≤ 640 ∧ Q (.int n) H) aIntS := by
  intro F O H xs vs Q R R0 rv h q
  obtain ⟨a, n, rfl, hn, hz, h⟩ := h
  obtain ⟨v, rfl, r⟩ := rvs1 rv
  rw [r.str_inv]
  exact ⟨a, n, rfl, hn, hz, q _ _ _ _ _ h Step.refl R0 (.d (.int _))⟩
def aJoin : AM := fun x xs O R => ∃ (a : Str) (ys : List Str), x = .d (.str a) ∧ xs = [.d (.list (ys.map PyData.str))] ∧ (ys.map (·.length)).sum + ys.length * a.length ≤ 16777216 ∧ R (.d (.str (Txt.join a ys))) O
theorem sm_join : SM K (fun x xs H Q => ∃ a p, ∃ ys : List Str, x = .str a ∧ xs = [.ref p] ∧ (SqL K H p (ys.map V.str) ∨ SqT K H p (ys.map V.str)) ∧ (ys.map (·.length)).sum + ys.length * a.length ≤ 16777216 ∧ Q (.str (Txt.join a ys)) H) aJoin := by
  intro F O H x xs v vs Q R R0 rx rv h q
  obtain ⟨a, ys, rfl, rfl, hz, h⟩ := h
  obtain ⟨u, rfl, r⟩ := rvs1 rv
  obtain ⟨p, ws, rfl, h1, h2⟩ := view_l (xs := (ys.map PyData.str).map OV.d) R0 r rfl
  have e := DqA.strs_inv h2
  subst e
  rw [rx.str_inv]
  exact ⟨a, p, ys, rfl, rfl, .inl h1, hz, q _ _ _ _ _ h Step.refl R0 (.d (.str _))⟩
def aSplit : AM := fun x xs O R => ∃ (a b : Str), x = .d (.str a) ∧ xs = [.d (.str b)] ∧ (b.length == 0) = false ∧ a.length + 2 ≤ sizeLine ∧ ∀ p, O p = none → R (.o p) (updO O p (.lst ((Txt.split a b).map fun s => OV.d (.str s))))
theorem rvs_strs {F : Hp} : ∀ ys : List Str, RVs K F (ys.map fun s => OV.d (.str s)) (ys.map V.str)
  | [] => .nil
  | y :: ys => .cons (.d (.str y)) (rvs_strs ys)
theorem sm_split : SM K (fun x xs H Q => ∃ a b, x = .str a ∧ xs = [.str b] ∧ (b.length == 0) = false ∧ a.length + 2 ≤ sizeLine ∧ rNewStrs (Txt.split a b) H Q) aSplit := by
  intro F O H x xs v vs Q R R0 rx rv h q
  obtain ⟨a, b, rfl, rfl, hb, hz, h⟩ := h
  obtain ⟨u, rfl, r⟩ := rvs1 rv
  rw [rx.str_inv, r.str_inv]
  refine ⟨a, b, rfl, rfl, hb, hz, fun p hp => ?_⟩
  obtain ⟨R2, z2⟩ := R0.newO (o := .lst ((Txt.split a b).map fun s => OV.d (.str s))) (h := .lst ((Txt.split a b).map V.str)) hp ⟨_, rfl, rvs_strs _⟩
  exact q _ _ _ _ _ (h p (R0.ofree hp)) z2 R2 .o
/-- c in s, c one sign -/
def aInS (neg : Bool) : AR2 := fun x y O R => ∃ (c : Nat) (z : Str), x = .d (.str ⟨#[c]⟩) ∧ y = .d (.str z) ∧ R (.d (.bool (neg != decide (c ∈ z.cps.toList)))) O
theorem sr_inS : SR K (fun x y H Q => ∃ (c : Nat) (z : Str), x = .str ⟨#[c]⟩ ∧ y = .str z ∧ Q (.bl (decide (c ∈ z.cps.toList))) H) (aInS false) := by
  intro F O H x y vx vy Q R R0 rx ry h q
  obtain ⟨c, z, rfl, rfl, h⟩ := h
  refine ⟨c, z, rx.str_inv, ry.str_inv, q _ _ _ _ _ h Step.refl R0 ?_⟩
  rw [Bool.false_bne]
  exact .d (.bl _)
theorem sr_ninS : SR K (fun x y H Q => ∃ (c : Nat) (z : Str), x = .str ⟨#[c]⟩ ∧ y = .str z ∧ Q (.bl (!decide (c ∈ z.cps.toList))) H) (aInS true) := by
  intro F O H x y vx vy Q R R0 rx ry h q
  obtain ⟨c, z, rfl, rfl, h⟩ := h
  refine ⟨c, z, rx.str_inv, ry.str_inv, q _ _ _ _ _ h Step.refl R0 ?_⟩
  rw [Bool.true_bne]
  exact .d (.bl _)
/-- s * n -/
def rRepS : R2 := fun x y H Q => ∃ (z : Str) (n : Int), x = .str z ∧ y = .int n ∧ 0 ≤ n ∧ n ≤ 1000 ∧ z.length ≤ 1000 ∧ Q (.str ⟨(List.replicate n.toNat z.cps.toList).flatten.toArray⟩) H
theorem foldl_repN (l : List Nat) : ∀ (k : Nat) (acc : List Nat), List.foldl (fun x1 x2 => x1 ++ x2) acc.toArray (List.replicate k l.toArray) = (acc ++ (List.replicate k l).flatten).toArray
  | 0, acc => by simp
  | k + 1, acc => by
    have e : acc.toArray ++ l.toArray = (acc ++ l).toArray := by simp
    rw [List.replicate_succ, List.foldl_cons, e, foldl_repN l k (acc ++ l), List.replicate_succ, List.flatten_cons, List.append_assoc]
theorem rep_len (l : List Nat) : ∀ k : Nat, (List.replicate k l).flatten.length = k * l.length
  | 0 => by simp
  | k + 1 => by rw [List.replicate_succ, List.flatten_cons, List.length_append, rep_len l k, Nat.succ_mul, Nat.add_comm]
theorem op_repS {X : Cx} : OpR X (binaryOp .Mult) rRepS := by
  intro pins s σ H x y v u Q I rx ry h
  obtain ⟨z, n, rfl, rfl, h0, h1, hz, q⟩ := h
  obtain ⟨t, rfl⟩ := rx
  obtain ⟨t', rfl⟩ := ry
  have hm : z.length * n.toNat ≤ 1000 * 1000 := Nat.mul_le_mul hz (by omega)
  refine P.mul_str (by rw [decide_eq_false (by omega), decide_eq_false (by omega)]; rfl) (fun a b c => ?_) (fun a b => ?_) ?_
  · have : (2 ^ 63 - 1 : Int) / n ≥ 1000000 := by
      rw [ge_iff_le, Int.le_ediv_iff_mul_le (by omega)]
      omega
    omega
  · unfold Builtin.Str.tooLong
    first
      | (rw [sizeLine_eq]; exact decide_eq_false (by omega))
      | exact decide_eq_false (by omega)
  · split
    · rename_i hn
      have e : n = 0 := by omega
      subst e
      exact ⟨by decide, .str Str.empty, H, I.tok _, ⟨_, rfl⟩, q⟩
    · rename_i hn
      have eq1 : ∀ (zz : Str), zz.cps.toList = (List.replicate n.toNat z.cps.toList).flatten → zz = ⟨(List.replicate n.toNat z.cps.toList).flatten.toArray⟩ := fun zz h => by
        rw [← h]
      split
      · rename_i hc
        have e : z = ⟨(List.replicate n.toNat z.cps.toList).flatten.toArray⟩ := by
          refine eq1 _ ?_
          rcases Bool.or_eq_true_iff.mp hc with h | h
          · have : n = 1 := by simpa using h
            subst this
            simp
          · have hl : z.cps.toList = [] := by
              have : z.length = 0 := by simpa using h
              exact List.eq_nil_of_length_eq_zero (by rw [← this]; exact Array.length_toList)
            rw [hl]
            simp
        rw [← e] at q
        exact ⟨.str z, H, I, ⟨t, rfl⟩, q⟩
      · have e : (⟨(List.replicate n.toNat z.cps).foldl (· ++ ·) #[]⟩ : Str) = ⟨(List.replicate n.toNat z.cps.toList).flatten.toArray⟩ := by
          have := foldl_repN z.cps.toList n.toNat []
          rw [List.nil_append] at this
          have h2 : z.cps.toList.toArray = z.cps := Array.toArray_toList
          rw [h2] at this
          exact congrArg Str.mk this
        rw [e]
        refine ⟨?_, .str _, H, I.tok _, ⟨_, rfl⟩, q⟩
        rw [strL_len, rep_len, sizeLine_eq]
        have : z.cps.toList.length = z.length := Array.length_toList
        rw [this]
        have : n.toNat * z.length ≤ 1000 * 1000 := Nat.mul_le_mul (by omega) hz
        omega
def aRepS : AR2 := fun x y O R => ∃ (z : Str) (n : Int), x = .d (.str z) ∧ y = .d (.int n) ∧ 0 ≤ n ∧ n ≤ 1000 ∧ z.length ≤ 1000 ∧ R (.d (.str ⟨(List.replicate n.toNat z.cps.toList).flatten.toArray⟩)) O
theorem sr_repS : SR K rRepS aRepS := by
  intro F O H x y vx vy Q R R0 rx ry h q
  obtain ⟨z, n, rfl, rfl, h0, h1, hz, h⟩ := h
  exact ⟨z, n, rx.str_inv, ry.int_inv, h0, h1, hz, q _ _ _ _ _ h Step.refl R0 (.d (.str _))⟩
end
/-! ### o.f += e -/
section
variable {X : Cx} {W : WX} {AW : AX} {C : Addr} {o value : Expr} {f : Str} {pos tpos : Pos} {T U : AE}
def aFldAug (C : Addr) (f : Str) (T U : AE) : AS := fun P env O => T env O fun x O1 => ∃ a dx fs n, x = .o a ∧ O1 a = some (.ins C dx fs) ∧ fs.lookup f = some (.d (.int n)) ∧ U env O1 fun y O2 => ∃ (m : Int) (dx' : Addr) (fs' : List (Str × OV)), y = .d (.int m) ∧ O2 a = some (.ins C dx' fs') ∧ fs'.length < 1000 ∧ P.nx env (updO O2 a (.ins C dx' (putO f (.d (.int (n + m))) fs')))
theorem qs_fldAug (c : Cls X.K C) (n : NoAttr X.K C f) (ho : QE X W AW o T) (hv : QE X W AW value U) : QS X W AW (.AugAssign (.Attribute o f tpos) .Add value pos) (aFldAug C f T U) := by
  obtain ⟨t1, p1, s1⟩ := ho
  obtain ⟨t2, p2, s2⟩ := hv
  refine ⟨_, ps_fldaug p1 p2 in_add, ⟨fun R0 rs xl h l => s1.run R0 rs xl h fun x O1 F1 H1 v h1 z1 R1 r1 => ?_⟩⟩
  obtain ⟨a, dx, fs, k, rfl, ha, hf, h2⟩ := h1
  cases r1
  obtain ⟨vs, e1, e2⟩ := R1.ins ha
  obtain ⟨u, e3, e4⟩ := (e2.look (f := f)).1 _ hf
  have e5 : u = .int k := by cases e4 with | d h => cases h; rfl
  subst e5
  refine ⟨a, C, dx, vs, .int k, rfl, e1, c, n, e3, s2.run R1 (rs.mono z1.fx) (xl.step z1) h2 fun y O2 F2 H2 w h3 z2 R2 r2 => ?_⟩
  obtain ⟨m, dx', fs', rfl, ha2, hl, h4⟩ := h3
  have e6 := r2.int_inv
  subst e6
  refine ⟨k, m, rfl, rfl, ?_⟩
  obtain ⟨vs2, e7, e8⟩ := R2.ins ha2
  have rv : RV X.K F2 (.d (.int (k + m))) (.int (k + m)) := .d (.int _)
  obtain ⟨R3, z3⟩ := R2.write (o := .ins C dx' (putO f (.d (.int (k + m))) fs')) (h := .ins C dx' (putF f (.int (k + m)) vs2)) ha2 ⟨_, rfl, e8.put rv⟩
  refine ⟨dx', vs2, e7, by rw [← e8.len]; exact hl, l.nx _ _ _ _ _ h4 (z1.trans (z2.trans z3)) R3 ((rs.mono z1.fx).mono (z2.trans z3).fx)⟩
end
theorem w_fldAug {C : Addr} {f : Str} {T U : AE} {P : AEnds} {env : En} {O : Oh} (q : T env O fun x O1 => ∃ a dx fs n, x = .o a ∧ O1 a = some (.ins C dx fs) ∧ fs.lookup f = some (.d (.int n)) ∧ U env O1 fun y O2 => ∃ (m : Int) (dx' : Addr) (fs' : List (Str × OV)), y = .d (.int m) ∧ O2 a = some (.ins C dx' fs') ∧ fs'.length < 1000 ∧ P.nx env (updO O2 a (.ins C dx' (putO f (.d (.int (n + m))) fs')))) : aFldAug C f T U P env O := q
/-! ### an own error whose __init__ keeps its one argument -/
def initSp (K : PySem.W.Frag) (C : Addr) (f : Str) : Sp := fun vs H Q _ => ∃ a v, vs = [.ref a, v] ∧ H a = some (exo a C none) ∧ ∀ dx, H dx = none → dx ≠ a → Q .non (upd (upd H dx (exd dx [(f, v)])) a (exo a C (some dx)))
structure XInit (P : Program) (w : World) (K : PySem.W.Frag) (mg : Str → Option Value) (base : Heap) (x : Str) (C : Addr) (f : Str) : Prop where
  g : mg x = some (.ref C)
  o : OexC K C
  na : PySem.W.findIn K (.ref C) f = some none
  mi : ∃ fI fd ps, PySem.W.findIn K (.ref C) "__init__" = some (some (.ref fI)) ∧ PySem.W.typeIn K (.ref fI) = some (.type "function") ∧ FnOk P w K mg base CX0 1 fI fd ps (initSp K C f) ∧ Binds K fd ps []
section
variable {X : Cx} {W : WX} {AW : AX} {C : Addr} {e : Expr} {x f : Str} {p pos pos2 : Pos} {j : Nat} {U : AA}
def aRaiseX (AW : AX) (C : Addr) (f : Str) (U : AA) : AS := fun _ env O => U env O fun xs O1 => ∃ y, xs = [y] ∧ ∀ d, O1 d = none → AW (.ref C) (some d) env (updO O1 d (.xd [(f, y)]))
theorem qs_raiseX (D : XInit X.prog X.w X.K X.mg X.base x C f) (tk : Takes X W) (hr : Room j X.A) (ha : QA X W AW [e] U) (hj : 2 ≤ j := by decide) (hc : X.calm = true := by rfl) (hg : Gl X x := by rfl) (hdb : (x == ("__debug__" : Str)) = false := by decide)
    (he : starEach [e] X.env = (false, eval e X.env) :: starEach [] X.env := by rfl) (hpl : (backTo pos (starEach [] X.env)).any (·.1) = false := by rfl) : QS X W AW (.Raise (some (.Call (.Name x p) [e] [] pos)) none pos2) (aRaiseX AW C f U) := by
  obtain ⟨t, pp, s⟩ := ha
  obtain ⟨fI, fd, ps, iC, tI, F1, B⟩ := D.mi
  refine ⟨_, ps_raise hc tk (pmk_oex D.o iC tI F1 (hr.mono hj) B .nil pass0 hg D.g pp hdb he hpl), ⟨fun {F O H st env D' P} R0 rs xl h l => s.run R0 rs xl h fun xs O1 F1 H1 vs h1 z1 R1 r1 => ?_⟩⟩
  obtain ⟨y, rfl, h1⟩ := h1
  obtain ⟨v, rfl, rv⟩ := rvs1 r1
  refine ⟨by show 1 ≤ 1000; decide, fun a ha => ⟨a, v, rfl, upd_same, fun dx hdx hne => ⟨rfl, dx, [(f, v)], upd_same, by rw [upd_ne hne]; exact upd_same, by rw [upd_ne hne] at hdx; exact hdx, ?_⟩⟩⟩
  rw [upd_ne hne] at hdx
  have eH : upd (L2.del (upd (upd (upd H1 a (exo a C none)) dx (exd dx [(f, v)])) a (exo a C (some dx))) a) dx (.xd [(f, v)]) = upd H1 dx (.xd [(f, v)]) := by
    funext b
    by_cases hb : b = dx
    · rw [hb, upd_same, upd_same]
    · rw [upd_ne hb, upd_ne hb]
      by_cases hba : b = a
      · rw [hba, del_same, ha]
      · rw [del_ne hba, upd_ne hba, upd_ne hb, upd_ne hba]
  rw [eH]
  obtain ⟨R2, z2⟩ := R1.newO (o := .xd [(f, y)]) (h := .xd [(f, v)]) hdx ⟨_, rfl, .cons rv .nil⟩
  exact xl _ _ _ _ _ _ _ (h1 dx (R1.ofree hdx)) (z1.trans z2) R2 (rs.mono (z1.trans z2).fx)
end
theorem w_raiseX {AW : AX} {C : Addr} {f : Str} {U : AA} {P : AEnds} {env : En} {O : Oh} (q : U env O fun xs O1 => ∃ y, xs = [y] ∧ ∀ d, O1 d = none → AW (.ref C) (some d) env (updO O1 d (.xd [(f, y)]))) : aRaiseX AW C f U P env O := q
/-! ### what is read of a caught error -/
section
variable {X : Cx} {a C : Addr} {oe : Obj} {cls : Value} {d : Option Addr} {pn : List (Addr × Obj)} {e : Expr} {pos : Pos} {n : Str} {T : AE}
def aXf (cls : Value) (d : Option Addr) (a C : Addr) (f : Str) (T : AE) : AE := fun env O R => T env O fun x O1 => x = .cls a ∧ cls = .ref C ∧ ∃ dd fs v, d = some dd ∧ O1 dd = some (.xd fs) ∧ fs.lookup f = some v ∧ R v O1
theorem Rep.xd {K : PySem.W.Frag} {F : Hp} {O : Oh} {H : Hp} {a : Addr} {fs : List (Str × OV)} (R : Rep K F O H) (h : O a = some (.xd fs)) : ∃ vs, H a = some (.xd vs) ∧ RPs K F fs vs := by
  obtain ⟨_, h0, q, vs, rfl, r⟩ := R.ow a _ h
  exact ⟨vs, q, r⟩
theorem qe_xf (D : XfC X.K C) (hno : PySem.W.findIn X.K (.ref C) n = some none) (hz : Zc cls d oe) (hf : ∃ vs, oe.data = .fields vs) (he : QE (X.suite a ((a, oe) :: pn)) NW NAW e T) (hb : attributeBase e n X.env (eval e X.env) = eval e X.env := by rfl) :
    QE (X.suite a ((a, oe) :: pn)) NW NAW (.Attribute e n pos) (aXf cls d a C n T) := by
  obtain ⟨t, p, s⟩ := he
  refine ⟨_, pe_xf D hno hz hf p hb, ⟨fun R0 rs xl h q => s.run R0 rs xl h fun x O1 F1 H1 v h1 z1 R1 r1 => ?_⟩⟩
  obtain ⟨rfl, ec, dd, fs, w, ed, hd, hl, h2⟩ := h1
  cases r1
  obtain ⟨vs, e1, e2⟩ := R1.xd hd
  obtain ⟨u, e3, e4⟩ := (e2.look (f := n)).1 _ hl
  exact ⟨rfl, ec, dd, vs, u, ed, e1, e3, q _ _ _ _ _ h2 z1 R1 e4⟩
/-- isinstance(e, C), the error of whatever class -/
theorem call_isE2 {D : Addr} (C : ExcC X.K D) (hz : Zc (.ref D) d oe) (hf : ∃ vs, oe.data = .fields vs) : CallR (X.suite a ((a, oe) :: pn)) (.builtin "isinstance") (fun xs H Q => (∀ dd, d = some dd → ∃ fs, H dd = some (.xd fs)) ∧ rIsE X.K D a xs H Q) := by
  intro pins s σ H xs us Q I r h
  obtain ⟨hd0, c, cv, b, rfl, hcv, e, q⟩ := h
  cases r with
  | cons rx rr =>
    cases rr with
    | cons rt rr =>
      cases rr
      cases rx
      have ec := hcv _ rt
      subst ec
      obtain ⟨hget, _⟩ := I.pin (a, oe) (List.mem_append.mpr (.inl List.mem_cons_self))
      obtain ⟨vs, hv⟩ := hf
      cases d with
      | none =>
        have J : PySem.W.InstAt s.heap a oe D none := by
          obtain ⟨oc, od, oda, osl⟩ := oe
          obtain ⟨h1, h2⟩ := hz
          dsimp only at h1 h2 hv
          subst h1 h2 hv
          exact ⟨hget, rfl, rfl, trivial⟩
        exact PySem.W.kia_one (PySem.W.handS_kitx_exc C.hg C.hk C.hs C.hd C.ha C.hn C.ht C.hm) I.kIn J e (fun z => nomatch z) fun tk => ⟨.bl b, H, I.kept (t' := tk) fun _ _ z => z, rfl, q⟩
      | some dd =>
        obtain ⟨fs, hdd⟩ := hd0 dd rfl
        obtain ⟨mA, hns, hr⟩ := (show ObjOk X.prog X.w H s.heap dd (.xd fs) from I.hok dd _ hdd)
        obtain ⟨od, ho, hl⟩ := lookIn_ns hns
        have J : PySem.W.InstAt s.heap a oe D (some od) := ⟨hget, hz.1, by unfold PySem.W.notCls; rw [hv] <;> rfl, by rw [hz.2]; exact ho⟩
        exact PySem.W.kia_one (PySem.W.kitx_excO C.hg C.hk C.hs C.hd C.ha C.hn C.ht C.hm) I.kIn J e (fun z => nomatch z) fun tk => ⟨.bl b, H, I.kept (t' := tk) fun _ _ z => z, rfl, q⟩
def aIsE2 (K : PySem.W.Frag) (cls : Value) (d : Option Addr) (a : Addr) (cv : Value) (T : AE) : AE := fun env O R => (∃ D, cls = .ref D ∧ ExcC K D) ∧ T env O fun x O1 => x = .cls a ∧ ∃ b, (∀ D, cls = .ref D → PySem.W.kitOne K (.ref D) cv = some b) ∧ (∀ dd, d = some dd → ∃ fs, O1 dd = some (.xd fs)) ∧ R (.d (.bool b)) O1
theorem qe_isE2 {e1 e2 : Expr} {p : Pos} {cv : Value} {T1 : AE} (hz : Zc cls d oe) (hf : ∃ vs, oe.data = .fields vs) (hm : X.mg "isinstance" = none)
    (h1 : QE (X.suite a ((a, oe) :: pn)) NW NAW e1 T1) {c : V} (h2 : PE (X.suite a ((a, oe) :: pn)) e2 (tC c)) (hcv : ∀ u, RelV c u → u = cv) (hg : Gl (X.suite a ((a, oe) :: pn)) "isinstance" := by rfl)
    (he : starEach [e1, e2] (X.suite a ((a, oe) :: pn)).env = (false, eval e1 (X.suite a ((a, oe) :: pn)).env) :: starEach [e2] (X.suite a ((a, oe) :: pn)).env := by rfl) (he2 : starEach [e2] (X.suite a ((a, oe) :: pn)).env = (false, eval e2 (X.suite a ((a, oe) :: pn)).env) :: starEach [] (X.suite a ((a, oe) :: pn)).env := by rfl) (hpl : (backTo pos (starEach [e2] (X.suite a ((a, oe) :: pn)).env)).any (·.1) = false := by rfl) :
    QE (X.suite a ((a, oe) :: pn)) NW NAW (.Call (.Name "isinstance" p) [e1, e2] [] pos) (aIsE2 X.K cls d a cv T1) := by
  obtain ⟨t1, p1, s1⟩ := h1
  refine ⟨fun st H Q => ∃ D, cls = .ref D ∧ ExcC X.K D ∧ tCB (fun xs H Q => (∀ dd, d = some dd → ∃ fs, H dd = some (.xd fs)) ∧ rIsE X.K D a xs H Q) (tCons t1 (tCons (tC c) tNil)) st H Q, ⟨fun pins sh st H Q I hh => ?_⟩, ⟨fun {F O H st env R Q} R0 rs xl h q => ?_⟩⟩
  · obtain ⟨D, rfl, CC, hh⟩ := hh
    exact (pe_callB (call_isE2 CC hz hf) hg hm (by decide +kernel) (pa_cons p1 (pa_cons h2 pa_nil he2) he) (by decide) (by decide) he hpl).run pins sh st H Q I hh
  · obtain ⟨⟨D, rfl, CC⟩, h⟩ := h
    refine ⟨D, rfl, CC, s1.run R0 rs xl h fun x O1 F1 H1 v h1 z1 R1 r1 => ?_⟩
    obtain ⟨rfl, b, hk, hx, h2⟩ := h1
    cases r1
    refine ⟨fun dd e => ?_, c, cv, b, rfl, hcv, hk D rfl, q _ _ _ _ _ h2 z1 R1 (.d (.bl _))⟩
    obtain ⟨fs, e1⟩ := hx dd e
    obtain ⟨vs, e2, _⟩ := R1.xd e1
    exact ⟨vs, e2⟩
end
theorem w_isE2 {K : PySem.W.Frag} {cls : Value} {d : Option Addr} {a : Addr} {cv : Value} {T : AE} {env : En} {O : Oh} {R : OV → Oh → Prop} (hD : ∃ D, cls = .ref D ∧ ExcC K D) (q : T env O fun x O1 => x = .cls a ∧ ∃ b, (∀ D, cls = .ref D → PySem.W.kitOne K (.ref D) cv = some b) ∧ (∀ dd, d = some dd → ∃ fs, O1 dd = some (.xd fs)) ∧ R (.d (.bool b)) O1) : aIsE2 K cls d a cv T env O R := ⟨hD, q⟩
theorem w_xf {cls : Value} {d : Option Addr} {a C : Addr} {f : Str} {T : AE} {env : En} {O : Oh} {R : OV → Oh → Prop} (q : T env O fun x O1 => x = .cls a ∧ cls = .ref C ∧ ∃ dd fs v, d = some dd ∧ O1 dd = some (.xd fs) ∧ fs.lookup f = some v ∧ R v O1) : aXf cls d a C f T env O R := q
/-! ### a walk over a text -/
theorem w_forS {α : Type} {env : En} {O : Oh} {P : AEnds} {S : AS} {l : List Nat} {G : AG} (f : α → En) (g : α → Oh) (I : Nat → α → Prop) (a0 : α) (h0 : WkS env O (f a0) (g a0)) (hI : I 0 a0)
    (hs : ∀ i a c, l[i]? = some c → I i a → G (.d (.str ⟨#[c]⟩)) (f a) (g a) fun env2 O2 => S { P with nx := fun env' O' => ∃ a', WkS env' O' (f a') (g a') ∧ I (i + 1) a', ct := fun env' O' => ∃ a', WkS env' O' (f a') (g a') ∧ I (i + 1) a', bk := P.nx } env2 O2)
    (hd : ∀ a, I l.length a → P.nx (f a) (g a)) : aForB (pitS ⟨l.toArray⟩) G S P env O :=
  forB_n l.length f g I a0 h0 hI (fun i a hi ia => ⟨.d (.str ⟨#[l[i]]⟩), ⟨l[i], by show l.toArray[i]? = _; rw [List.getElem?_toArray, List.getElem?_eq_getElem hi], rfl⟩, hs i a _ (List.getElem?_eq_getElem hi) ia⟩) fun a ia => ⟨by show l.toArray.size ≤ _; exact Nat.le_of_eq (List.size_toArray ..), hd a ia⟩
/-! ### methods called with keywords alone -/
section
variable {X : Cx} {W : WX} {AW : AX} {pos apos : Pos} {C : Addr} {k j n : Nat} {m : Str} {ps ks : List Str} {dvs : List V} {o : Expr} {kws : List Keyword} {con : ConX}
theorem pe_methWK0 {pl : Sem Bool} {f : Addr} {fd : FuncData} {sp : Sp} {E : L2.St → XK} {ta : TE} {tk : TA} (he : PE X o ta) (c : Cls X.K C) (F : FnOk X.prog X.w X.K X.mg X.base (L2.CX X.prog X.w) k f fd ps sp) (hr : Room k X.A) (B : MBind X.K C m f fd ps n ks dvs) (hx : ∀ σ, PassesAt (L2.CX X.prog X.w) X σ (E σ)) (hkw : PK X kws tk)
    (hall : (backToKw pos (keywordEach kws X.env)).all (·.1.isSome) = true) (hks : (backToKw pos (keywordEach kws X.env)).filterMap (·.1) = ks)
    (hpl : ((backTo pos (starEach [] X.env)).any (·.1) || (backToKw pos (keywordEach kws X.env)).any (·.1.isNone)) = false)
    (ht : eval (.Call (.Attribute o m apos) [] kws pos) X.env = (do
      let ov ← eval o X.env
      standAt apos.atName
      let (f, first) ← holding [ov] (getMethod ov m pl)
      callWith pos f first (backTo pos (starEach [] X.env)) (backToKw pos (keywordEach kws X.env)))) :
    PE X (.Call (.Attribute o m apos) [] kws pos) (tMethW C m n ks.length sp dvs E ta tNil tk) := by
  refine ⟨fun pins s σ H Q I h => ?_⟩
  refine PySem.W.methodCall_KW (pl := pl) (thn (he.run pins s σ H _ I h) fun u s1 ⟨x, H1, I1, rx, a, dx, fs, ex, ea, l, q⟩ => ?_) ht
  subst ex
  obtain rfl : u = Value.ref a := rx
  refine getmeth_ok I1 ea c B.me l ?_
  refine PySem.W.callWith_KW0 (first := [.ref a]) (h₀ := X.base) I.ok.mod.kin B.me.kp hall ?_ hpl
  refine thn (hkw.run pos pins s1 σ H1 _ I1 q) fun ws s3 ⟨zs, H3, I3, rz, l1, l2, q3⟩ => ⟨I3.kIn, ?_⟩
  rw [hks]
  exact run_meth (us := [.ref a]) (vs := [.ref a]) F hr B (hx σ) I3 (.cons rfl .nil) rz l1 l2 q3
theorem qe_methXK0 {dvs : List V} {ds : List OV} {T : AE} {V : AA} (tk : Takes X W) (c : Cls X.K C) (D : FnM X.prog X.w X.K X.mg X.base k C m ps n ks dvs con) (hd : Dvs dvs ds) (hr : Room j X.A) (he : QE X W AW o T) (hk : QK X W AW kws V) (hj : k ≤ j := by decide)
    (hall : (backToKw pos (keywordEach kws X.env)).all (·.1.isSome) = true := by rfl) (hks : (backToKw pos (keywordEach kws X.env)).filterMap (·.1) = ks := by rfl)
    (hpl : ((backTo pos (starEach [] X.env)).any (·.1) || (backToKw pos (keywordEach kws X.env)).any (·.1.isNone)) = false := by rfl) {pl : Sem Bool}
    (ht : eval (.Call (.Attribute o m apos) [] kws pos) X.env = (do
      let ov ← eval o X.env
      standAt apos.atName
      let (f, first) ← holding [ov] (getMethod ov m pl)
      callWith pos f first (backTo pos (starEach [] X.env)) (backToKw pos (keywordEach kws X.env))) := by rfl) : QE X W AW (.Call (.Attribute o m apos) [] kws pos) (aMethX AW C m n ks.length ds con T aNil V) := by
  obtain ⟨f, fd, B, F⟩ := D
  obtain ⟨t, p, s⟩ := he
  obtain ⟨v, pv, sv⟩ := hk
  exact ⟨_, pe_methWK0 p c F (hr.mono hj) B (fun st => passAt tk st) pv hall hks hpl ht, se_methX hd s ⟨fun R _ _ h q => q _ _ _ _ _ h Step.refl R .nil⟩ sv⟩
end
/-! ### the making of an own error, as the top tells it -/
structure InitXD (K : PySem.W.Frag) (C : Addr) (f : Str) (qual : Str) (st : Stmt) : Prop where
  o : OexC K C
  na : PySem.W.findIn K (.ref C) f = some none
  fn : ∃ fI fd, FunD K "__init__" qual (defArgs st) (defBody st) (defScope st) [] [] fI fd ∧ PySem.W.findIn K (.ref C) "__init__" = some (some (.ref fI)) ∧ PySem.W.typeIn K (.ref fI) = some (.type "function")
theorem initXD_mk {K : PySem.W.Frag} {C : Addr} {f : Str} {qual : Str} {st : Stmt} {fI : Addr} {oc : Value} {od an : Option Addr} {osl : Array (Option Value)} {doc pm cdv ct : Value} {nm q N bs sn sub ab col dd k0 k1 k2 k3 k5} {bm : List Value}
    (hC : K.lookup C = some (PySem.excClassObj nm q C N bs bm true sn sub ab col dd k0 k1 k2 k3 k5 "ValueError.__new__")) (hbm : PySem.HandSPX.refsVE bm = true)
    (sa : PySem.W.findIn K (.ref C) "__setattr__" = some (some (.builtin "object.__setattr__"))) (exC : PySem.W.subIn K (.ref C) (.type "BaseException") = some true) (tyC : PySem.W.typeIn K (.ref C) = some (.type "type")) (kC : PySem.W.keepIn K (.ref C) = true)
    (na : PySem.W.findIn K (.ref C) f = some none) (iC : PySem.W.findIn K (.ref C) "__init__" = some (some (.ref fI))) (tI : PySem.W.typeIn K (.ref fI) = some (.type "function"))
    (l : K.lookup fI = some ⟨oc, od, .func (PySem.W.fnOf "__init__" qual (defArgs st) (defBody st) (defScope st) .none .none doc pm an cdv ct), osl⟩) (c : PySem.W.codeIn K cdv qual = true) (kp : PySem.W.keepIn K (.ref fI) = true) : InitXD K C f qual st :=
  ⟨⟨⟨nm, q, N, bs, bm, sn, sub, ab, col, dd, k0, k1, k2, k3, k5, hC, hbm⟩, sa, exC, tyC, kC⟩, na, fI, _, ⟨⟨oc, od, .none, .none, doc, pm, an, cdv, ct, osl, rfl, l, c, .inl ⟨rfl, rfl⟩, .inl rfl⟩, kp⟩, iC, tI⟩
theorem InitXD.init {P : Program} {w : World} {K : PySem.W.Frag} {mg : Str → Option Value} {base : Heap} {x qual f : Str} {C : Addr} {st : Stmt} {N ps : List Str} (D : InitXD K C f qual st) (g : mg x = some (.ref C)) (S : FnScope N ps (defScope st)) (hn : ps.length = 2)
    (hb : ∀ (cdv : Value) (A : Around) (outer : List PySem.Env) (s : Shared) (H : Hp) (E : XK) (fI : Addr), ∃ to te, PSs (cxOf CX0 P w K mg base N qual (defScope st) fI cdv A outer s H E) (defBody st) (tOst K f to te) ∧ (∀ v w H Q, Q w H → te (start N [v, w]) H Q) ∧ ∀ v w H Q, Q v H → to (start N [v, w]) H Q)
    (bd : ∀ (kV doc pm : Value) (an : Option Addr) (cdv ct : Value) (us : List Value), us.length = ps.length → bindArgs (PySem.W.fnOf "__init__" qual (defArgs st) (defBody st) (defScope st) .none kV doc pm an cdv ct) ⟨us, []⟩ = pure (ps.zip us)) : XInit P w K mg base x C f := by
  obtain ⟨fI, fd, F, iC, tI⟩ := D.fn
  refine ⟨g, D.o, D.na, fI, fd, ps, iC, tI, ?_, F.bindsN (ps := ps) bd⟩
  refine F.ok S (fun vs H Q E h => ?_) fun cdv A outer s H vs Q E hr h => ?_
  · obtain ⟨a, v, rfl, _⟩ := h
    rw [hn]
    rfl
  · obtain ⟨a, v, rfl, ha, q⟩ := h
    obtain ⟨to, te, p, h1, h2⟩ := hb cdv A outer s H E fI
    refine ⟨_, p, ?_⟩
    refine h1 _ _ _ _ (h2 _ _ _ _ ⟨a, C, rfl, D.o, D.na, .inl ⟨ha, fun dx hdx hne => q dx hdx hne⟩⟩)
/-! ### __init__ without defaults -/
section
variable {P : Program} {w : World} {K : PySem.W.Frag} {mg : Str → Option Value} {base : Heap} {k : Nat} {qual : Str} {st : Stmt} {N ps : List Str} {f : Addr} {fd : FuncData}
structure InitAtN (K : PySem.W.Frag) (C : Addr) (qual : Str) (st : Stmt) (f : Addr) (fd : FuncData) : Prop where
  fn : FunD K "__init__" qual (defArgs st) (defBody st) (defScope st) [] [] f fd
  mm : Mk K C f
def InitDN (K : PySem.W.Frag) (C : Addr) (qual : Str) (st : Stmt) : Prop := ∃ f fd, InitAtN K C qual st f fd
theorem initDN_mk {C : Addr} {oc : Value} {od an : Option Addr} {osl : Array (Option Value)} {kV doc pm cdv ct : Value} (mk : PySem.W.makesIn K C = true) (a : PySem.W.findIn K (.ref C) "__init__" = some (some (.ref f))) (i : PySem.W.isFn K (.ref f) = true) (kc : PySem.W.keepIn K (.ref C) = true)
    (l : K.lookup f = some ⟨oc, od, .func (PySem.W.fnOf "__init__" qual (defArgs st) (defBody st) (defScope st) .none kV doc pm an cdv ct), osl⟩) (c : PySem.W.codeIn K cdv qual = true) (kp : PySem.W.keepIn K (.ref f) = true) : InitDN K C qual st :=
  ⟨f, _, ⟨⟨oc, od, .none, kV, doc, pm, an, cdv, ct, osl, rfl, l, c, .inl ⟨rfl, rfl⟩, .inl rfl⟩, kp⟩, ⟨mk, a, i, kc⟩⟩
theorem InitAtN.ok {con : Con} {C : Addr} (D : InitAtN K C qual st f fd) (S : FnScope N ps (defScope st)) (len : ∀ xs O R, con xs O R → xs.length = ps.length)
    (body : ∀ (cdv : Value) (A : Around) (outer : List PySem.Env) (s : Shared) (H : Hp) (E : XK), Room k (A.deeper (PyProof.Rows.envOfC qual (defScope st) s.heap.objs.size f cdv)) →
      ∃ T, QSs (cxOf CX0 P w K mg base N qual (defScope st) f cdv A outer s H E).nox NW NAW (defBody st) T ∧ ∀ xs O R, con xs O R → T { nx := fun _ O' => RW R (.d .none) O', rt := RW R } (startE N xs) O) :
    FnOk P w K mg base CX0 (k + 1) f fd ps (spOf K con) := by
  refine D.fn.ok S (fun vs H Q E h => ?_) (fun cdv A outer s H vs Q E hr h => ?_)
  · obtain ⟨F, O, xs, R, R0, rv, h, _⟩ := h
    rw [← rv.length]
    exact len _ _ _ h
  · obtain ⟨F, O, xs, R, R0, rv, h, q⟩ := h
    obtain ⟨T, ⟨t, p, s'⟩, hT⟩ := body cdv A outer s H E hr
    have fin : ∀ r O' F' H' v, RW R r O' → Step F O H F' O' H' → Rep K F' O' H' → RV K F' r v → Q v H' := fun r O' F' H' v a z R1 r1 => by
      obtain ⟨r', O'', wk, a⟩ := a
      obtain ⟨F2, z2, R2, r2⟩ := wk K F' H' v R1 r1
      exact q _ _ _ _ _ a (z.trans z2) R2 r2
    exact ⟨t, p.nox, s'.run R0 (rs_start rv) (fun _ _ _ _ _ _ _ z => z.elim) (hT xs O R h) ⟨fun e o f' hh st' a z R1 rs1 => fin _ _ _ _ .non a z R1 (.d .non), fin, fun e o f' hh st' a z R1 rs1 => a.elim, fun e o f' hh st' a z R1 rs1 => a.elim⟩⟩
theorem minitN {C : Addr} (D : InitAtN K C qual st f fd)
    (h : ∀ (kV doc pm : Value) (an : Option Addr) (cdv ct : Value) (us : List Value), us.length = ps.length → bindArgs (PySem.W.fnOf "__init__" qual (defArgs st) (defBody st) (defScope st) .none kV doc pm an cdv ct) ⟨us, []⟩ = pure (ps.zip us)) : MInit K C f fd ps [] := ⟨D.mm, [], .nil, D.fn.bindsN (ps := ps) h⟩
end
/-- the facts of an own error class with an __init__ of its own -/
structure XOkI (K : PySem.W.Frag) (mg : Str → Option Value) (x : Str) (C : Addr) : Prop where
  g : mg x = some (.ref C)
  k : PySem.W.keepIn K (.ref C) = true
  b : PySem.W.subIn K (.ref C) (.type "BaseException") = some true
  t : PySem.W.typeIn K (.ref C) = some (.type "type")
  e : ExcC K C
theorem XOkI.exm {K : PySem.W.Frag} {mg : Str → Option Value} {x : Str} {C : Addr} {cls : Value} {b : Bool} (h : XOkI K mg x C) (hs : PySem.W.subIn K cls (.ref C) = some b) : PySem.W.exmOne K cls (.ref C) = some b := PySem.W.exm_ref h.b h.e.hd h.t hs
theorem w_inS {neg : Bool} {c : Nat} {z : Str} {O : Oh} {R : OV → Oh → Prop} (q : R (.d (.bool (neg != decide (c ∈ z.cps.toList)))) O) : aInS neg (.d (.str ⟨#[c]⟩)) (.d (.str z)) O R := ⟨c, z, rfl, rfl, q⟩
end Y
/-! Y: a reader of a text in the heap. -/
namespace Y
open PySem PySem.Spec L2 PyProof.Rows
def rdG (A B : OV) : List (Str × OV) := [("text", A), ("at", B)]
theorem rne1 : (("at" : Str) == "text") = false := by decide +kernel
theorem rne2 : ¬ (("text" : Str) = "at") := by decide +kernel
theorem rk_t {A B : OV} : (rdG A B).lookup ("text" : Str) = some A := by unfold rdG; simp only [List.lookup, beq_self_eq_true]
theorem rk_a {A B : OV} : (rdG A B).lookup ("at" : Str) = some B := by unfold rdG; simp only [List.lookup, beq_self_eq_true, rne1]
theorem rk_no {A B : OV} {m : Str} (h1 : (m == "text") = false) (h2 : (m == "at") = false) : (rdG A B).lookup m = none := by unfold rdG; simp only [List.lookup, h1, h2]
theorem rt_a {A B v : OV} : putO "at" v (rdG A B) = rdG A v := by
  unfold rdG
  simp only [putO, if_neg rne2, if_true]
theorem rdG_len {A B : OV} : (rdG A B).length < 1000 := by show 2 < 1000; decide
/-- at a: a reader of the text l, that stands at i -/
def Rdr (O : Oh) (C a dx : Addr) (l : List Nat) (i : Nat) : Prop := O a = some (.ins C dx (rdG (dS l) (.d (.int (i : Int)))))
/-- all but a stands -/
def El (O O' : Oh) (a : Addr) : Prop := ∀ b, b ≠ a → O' b = O b
theorem El.refl {O : Oh} {a : Addr} : El O O a := fun _ _ => rfl
theorem El.trans {O O1 O2 : Oh} {a : Addr} (h : El O O1 a) (g : El O1 O2 a) : El O O2 a := fun b hb => (g b hb).trans (h b hb)
def sgn (l : List Nat) (i : Nat) : List Nat := (l.drop i).take 1
theorem sgn_some {l : List Nat} {i c : Nat} (h : l[i]? = some c) : sgn l i = [c] := by
  unfold sgn
  obtain ⟨hi, e⟩ := List.getElem?_eq_some_iff.mp h
  rw [List.drop_eq_getElem_cons hi, e]
  rfl
theorem sgn_none {l : List Nat} {i : Nat} (h : l[i]? = none) : sgn l i = [] := by
  unfold sgn
  rw [List.drop_eq_nil_of_le (List.getElem?_eq_none_iff.mp h)]
  rfl
theorem sgn_eq {l : List Nat} {i c : Nat} : ((⟨(sgn l i).toArray⟩ : Str) = ⟨#[c]⟩) ↔ l[i]? = some c := by
  rw [show (#[c] : Array Nat) = [c].toArray from rfl, strL_inj]
  cases h : l[i]? with
  | none => rw [sgn_none h]; simp
  | some d => rw [sgn_some h]; simp
theorem sgn_end {l : List Nat} {i : Nat} : ((⟨(sgn l i).toArray⟩ : Str) = ⟨#[]⟩) ↔ l[i]? = none := by
  rw [show (#[] : Array Nat) = [].toArray from rfl, strL_inj]
  cases h : l[i]? with
  | none => rw [sgn_none h]; simp
  | some d => rw [sgn_some h]; simp
theorem cut_nat {l : List Nat} {i j : Nat} {a b : Int} (ha : a = i) (hb : b = j) : cutS ⟨l.toArray⟩ (some a) (some b) = ⟨((l.drop i).take (j - i)).toArray⟩ := by
  subst ha hb
  unfold cutS
  have e1 : HT.sIx (⟨l.toArray⟩ : Str).length 0 (some (i : Int)) = min i l.length := by
    rw [strL_len, HT.sIx_nat]
  have e2 : HT.sIx (⟨l.toArray⟩ : Str).length (⟨l.toArray⟩ : Str).length (some (j : Int)) = min j l.length := by
    rw [strL_len, HT.sIx_nat]
  rw [e1, e2]
  show (⟨((l.drop (min i l.length)).take (min j l.length - min i l.length)).toArray⟩ : Str) = _
  rw [strL_inj]
  by_cases h : i ≤ l.length
  · rw [Nat.min_eq_left h]
    by_cases h2 : j ≤ l.length
    · rw [Nat.min_eq_left h2]
    · rw [Nat.min_eq_right (by omega)]
      rw [List.take_of_length_le (by rw [List.length_drop]; omega), List.take_of_length_le (by rw [List.length_drop]; omega)]
  · rw [List.drop_eq_nil_of_le (by omega), List.drop_eq_nil_of_le (by omega)]
    simp
theorem lit_dash : (Str.ofString "-" : Str) = ⟨#[45]⟩ := by decide +kernel
theorem lit_zero : (Str.ofString "0" : Str) = ⟨#[48]⟩ := by decide +kernel
theorem lit_space : (Str.ofString " " : Str) = ⟨#[32]⟩ := by decide +kernel
theorem lit_slash : (Str.ofString "/" : Str) = ⟨#[47]⟩ := by decide +kernel
theorem lit_empty : (Str.ofString "" : Str) = ⟨#[]⟩ := by decide +kernel
theorem lit_semi : (Str.ofString ";" : Str) = ⟨#[59]⟩ := by decide +kernel
theorem lit_sep : (Str.ofString " / " : Str) = ⟨[32, 47, 32].toArray⟩ := by decide +kernel
theorem lit_ris : (Str.ofString "rising " : Str) = ⟨risL.toArray⟩ := by decide +kernel
theorem lit_fal : (Str.ofString "; falling " : Str) = ⟨falL.toArray⟩ := by decide +kernel
theorem dig_in (c : Nat) : decide (c ∈ (Str.ofString "0123456789" : Str).cps.toList) = isD c := by
  rw [show (Str.ofString "0123456789" : Str).cps.toList = [48, 49, 50, 51, 52, 53, 54, 55, 56, 57] by decide +kernel]
  unfold isD
  rw [← Bool.decide_and]
  refine decide_eq_decide.mpr ?_
  simp only [List.mem_cons, List.not_mem_nil, or_false]
  omega
/-- what the reader raises: at j -/
def Bad (RX : Value → Option Addr → Oh → Prop) (E : Addr) (O : Oh) (a : Addr) (j : Nat) : Prop := ∀ O' d, (∀ b u, O b = some u → b ≠ a → O' b = some u) → O' d = some (.xd [("position", .d (.int (j : Int)))]) → RX (.ref E) (some d) O'
theorem Bad.up {RX : Value → Option Addr → Oh → Prop} {E : Addr} {O O1 : Oh} {a : Addr} {j : Nat} (h : Bad RX E O a j) (s : ∀ b u, O b = some u → b ≠ a → O1 b = some u) : Bad RX E O1 a j := fun O' d h1 h2 => h O' d (fun b u hb hn => h1 b u (s b u hb hn) hn) h2
theorem El.sub {O O1 : Oh} {a : Addr} (h : El O O1 a) : ∀ b u, O b = some u → b ≠ a → O1 b = some u := fun b u hb hn => by rw [h b hn]; exact hb
theorem Rdr.put {O : Oh} {C a dx : Addr} {l : List Nat} {i : Nat} {n : Int} (hn : n = (i : Int)) : Rdr (updO O a (.ins C dx (rdG (dS l) (.d (.int n))))) C a dx l i := by subst hn; exact updO_same
theorem El.put {O : Oh} {a : Addr} {o : OO} : El O (updO O a o) a := fun b hb => updO_ne hb
theorem Rdr.sub {O O1 : Oh} {C a dx : Addr} {l : List Nat} {i : Nat} (h : Rdr O C a dx l i) (s : ∀ b u, O b = some u → O1 b = some u) : Rdr O1 C a dx l i := s _ _ h
theorem one_eq {c d : Nat} : ((⟨#[c]⟩ : Str) = ⟨#[d]⟩) ↔ c = d := by
  rw [show (#[c] : Array Nat) = [c].toArray from rfl, show (#[d] : Array Nat) = [d].toArray from rfl, strL_inj]
  simp
theorem Rdr.ne {O : Oh} {C a dx p : Addr} {o : OO} {l : List Nat} {i : Nat} (h : Rdr O C a dx l i) (n : p ≠ a) : Rdr (updO O p o) C a dx l i := (updO_ne (fun z => n z.symm)).trans h
theorem Rdr.rm {O : Oh} {C a dx p : Addr} {l : List Nat} {i : Nat} (h : Rdr O C a dx l i) (n : p ≠ a) : Rdr (rmO O p) C a dx l i := (rmO_ne (fun z => n z.symm)).trans h
/-- what stood stands, but for a -/
def Fr (O O' : Oh) (a : Addr) : Prop := ∀ b u, O b = some u → b ≠ a → O' b = some u
theorem Fr.refl {O : Oh} {a : Addr} : Fr O O a := fun _ _ h _ => h
theorem Fr.new {O h : Oh} {a p : Addr} {o : OO} (f : Fr O h a) (n : O p = none) : Fr O (updO h p o) a := fun b u hb hn => (updO_ne (fun z => by rw [z, n] at hb; cases hb)).trans (f b u hb hn)
theorem Fr.rm {O h : Oh} {a p : Addr} (f : Fr O h a) (n : O p = none) : Fr O (rmO h p) a := fun b u hb hn => (rmO_ne (fun z => by rw [z, n] at hb; cases hb)).trans (f b u hb hn)
theorem Fr.put {O h : Oh} {a : Addr} {o : OO} (f : Fr O h a) : Fr O (updO h a o) a := fun b u hb hn => (updO_ne hn).trans (f b u hb hn)
theorem Fr.el {O h h2 : Oh} {a : Addr} (f : Fr O h a) (e : El h h2 a) : Fr O h2 a := fun b u hb hn => (e b hn).trans (f b u hb hn)
theorem Fr.trans {O h h2 : Oh} {a : Addr} (f : Fr O h a) (e : Fr h h2 a) : Fr O h2 a := fun b u hb hn => e b u (f b u hb hn) hn
theorem Fr.none {O h : Oh} {a p : Addr} (f : Fr O h a) (n : p ≠ a) (e : h p = none) : O p = none := by
  cases eo : O p with
  | none => rfl
  | some u => rw [f p u eo n] at e; cases e
theorem Rdr.no {O : Oh} {C a dx p : Addr} {l : List Nat} {i : Nat} (h : Rdr O C a dx l i) (e : O p = none) : p ≠ a := fun z => by rw [z, h] at e; cases e
theorem Fr.all {O h : Oh} {a : Addr} (f : Fr O h a) (n : O a = Option.none) : ∀ b u, O b = some u → h b = some u := fun b u hb => f b u hb fun z => by rw [z, n] at hb; cases hb
theorem Fr.mk {O O1 : Oh} {a dx : Addr} {o1 o2 : OO} (n2 : O dx = Option.none) (e : El (updO (updO O dx o1) a o2) O1 a) : Fr O O1 a := fun b u hb hn => by
  rw [e b hn, updO_ne hn, updO_ne (fun z => by rw [z, n2] at hb; cases hb)]
  exact hb
def Bad2 (RX : Value → Option Addr → Oh → Prop) (E : Addr) (O : Oh) (j : Nat) : Prop := ∀ O' d, (∀ b u, O b = some u → O' b = some u) → O' d = some (.xd [("position", .d (.int (j : Int)))]) → RX (.ref E) (some d) O'
theorem Bad2.bad {RX : Value → Option Addr → Oh → Prop} {E : Addr} {O O1 : Oh} {j : Nat} {a : Addr} (h : Bad2 RX E O j) (f : Fr O O1 a) (n : O a = Option.none) : Bad RX E O1 a j := fun O' d h1 h2 => h O' d (fun b u hb => h1 b u (f.all n b u hb) fun z => by rw [z, n] at hb; cases hb) h2
abbrev vT (ts : List (List Nat)) : List Int := ts.map tokV
abbrev vF (tss : List (List (List Nat))) : List PyData := tss.map fun ts => pW (vT ts)
theorem sgn_opt {l : List Nat} {i : Nat} {e : Option Nat} : ((⟨(sgn l i).toArray⟩ : Str) = ⟨e.toList.toArray⟩) ↔ l[i]? = e := by
  cases e with
  | none => exact sgn_end
  | some c => exact sgn_eq
end Y
/-! Y: texts that are put together. -/
namespace Y
open PySem PySem.Spec L2 PyProof.Rows
section
variable {env : En} {O : Oh} {T : AE} {R : OV → Oh → Prop} {vs : List Nat} {m : Nat}
abbrev pS (l : List Nat) : PyData := .str ⟨l.toArray⟩
/-- a comprehension of texts -/
theorem w_lcS {x : OV} {xs : List OV} (hx : (∃ ds, x = .d (.list ds) ∧ xs = ds.map OV.d) ∨ ∃ p, x = .o p ∧ O p = some (.lst xs)) (ts : List (List Nat)) (hl : ts.length = xs.length) (hz : ts.length ≤ 1000)
    (hs : ∀ i y t D, xs[i]? = some y → ts[i]? = some t → O D = none → ∀ Q : OV → Oh → Prop, Q (dS t) (updO O D (.lst ((ts.take i).map dS))) → T ((wipeE env vs).set m (some y)) (updO O D (.lst ((ts.take i).map dS))) Q)
    (hd : R (.d (.list (ts.map pS))) O) : aLcB (pitL x) (gVar m) aYes T vs env O (frz R) := by
  have step : ∀ i y D, xs[i]? = some y → O D = none → aYes ((wipeE env vs).set m (some y)) (updO O D (.lst ((ts.take i).map dS))) fun b O3 =>
      if b = true then T ((wipeE env vs).set m (some y)) O3 fun y O4 => LcAt O D ((ts.take (i + 1)).map dS) y O4 else O3 = updO O D (.lst ((ts.take (i + 1)).map dS)) := fun i y D hy hD => by
    have hi : i < ts.length := by rw [hl]; exact (List.getElem?_eq_some_iff.mp hy).1
    refine w_yes ?_
    rw [if_pos rfl]
    refine hs i y ts[i] D hy (List.getElem?_eq_getElem hi) hD _ (lc_leaf (szl (by rw [List.length_map, List.length_take]; omega)) ?_)
    rw [List.take_add_one, List.getElem?_eq_getElem hi, List.map_append]
    rfl
  have fin : ∀ D, O D = none → frz R (.o D) (updO O D (.lst (ts.map dS))) := fun D hD => frz_new (ds := ts.map pS) (by rw [List.map_map]; rfl) hD hd
  rcases hx with ⟨ds, rfl, rfl⟩ | ⟨p, rfl, hp⟩
  · refine w_lcL (fun i => (ts.take i).map dS) rfl (fun i d D hd hD => step i _ D (by rw [List.getElem?_map, hd]; rfl) hD) (fun D hD => ?_)
    have e : ts.take ds.length = ts := List.take_of_length_le (by rw [hl, List.length_map]; exact Nat.le_refl _)
    rw [e]
    exact fin D hD
  · refine w_lcO hp (fun i => (ts.take i).map dS) rfl (fun i y D hy hD => step i y D hy hD) (fun D hD => ?_)
    have e : ts.take xs.length = ts := List.take_of_length_le (by rw [hl]; exact Nat.le_refl _)
    rw [e]
    exact fin D hD
theorem w_joinS {S : List Nat} {ts : List (List Nat)} {k n : Nat} (h : ∀ t ∈ ts, t.length ≤ k) (hn : ts.length ≤ n) (hz : n * k + n * S.length ≤ 16777216) (q : R (dS (TL.joinL S ts)) O) : aJoin (dS S) [.d (.list (ts.map pS))] O R := by
  refine ⟨_, ts.map fun p => (⟨p.toArray⟩ : Str), rfl, by rw [List.map_map]; rfl, ?_, ?_⟩
  · have h1 := join_sum h hn
    have h2 : ts.length * S.length ≤ n * S.length := Nat.mul_le_mul_right _ hn
    rw [List.length_map, strL_len]
    omega
  · rw [join_str]
    exact q
theorem w_addS {a b : List Nat} (h : a.length + b.length ≤ 100000) (q : R (dS (a ++ b)) O) : aStr2 (fun i j => i.length + j.length ≤ sizeLine) (fun i j => .str (i ++ j)) (dS a) (dS b) O R := by
  refine w_str2 (by rw [strL_len, strL_len]; unfold sizeLine; omega) ?_
  rw [strL_app]
  exact q
theorem w_dash {b : Bool} (q : R (dS (if b = true then [45] else [])) O) : aRepS (.d (.str (Str.ofString "-"))) (dI (if b = true then 1 else 0)) O R := by
  rw [lit_dash]
  refine ⟨_, _, rfl, rfl, by split <;> decide, by split <;> decide, by decide, ?_⟩
  cases b with
  | true => exact q
  | false => exact q
end
/-- an owned list of lists, each as data; or data -/
def VwG (O : Oh) (x : OV) (fs : List (List Int)) : Prop := x = dF fs ∨ ∃ p, x = .o p ∧ O p = some (.lst (fs.map dW))
theorem VwG.it {O : Oh} {x : OV} {fs : List (List Int)} (h : VwG O x fs) : (∃ ds, x = .d (.list ds) ∧ fs.map dW = ds.map OV.d) ∨ ∃ p, x = .o p ∧ O p = some (.lst (fs.map dW)) := by
  rcases h with rfl | h
  · exact .inl ⟨_, rfl, by rw [List.map_map]; rfl⟩
  · exact .inr h
theorem VwG.items {O : Oh} {x : OV} {fs : List (List Int)} (h : VwG O x fs) : itemsL O x (fs.map dW) := by
  rcases h with rfl | ⟨p, rfl, hp⟩
  · show fs.map dW = _
    rw [List.map_map]; rfl
  · exact hp
theorem Vw.it {O : Oh} {x : OV} {ws : List Int} (h : Vw O x ws) : (∃ ds, x = .d (.list ds) ∧ Zs ws = ds.map OV.d) ∨ ∃ p, x = .o p ∧ O p = some (.lst (Zs ws)) := by
  rcases h with rfl | h
  · exact .inl ⟨_, rfl, Zs_eq ws⟩
  · exact .inr h
theorem zs_gets {ws : List Int} {i : Nat} {y : OV} (h : (Zs ws)[i]? = some y) : ∃ n, ws[i]? = some n ∧ y = dI n := by
  unfold Zs at h
  rw [List.getElem?_map] at h
  cases e : ws[i]? with
  | none => rw [e] at h; cases h
  | some n => rw [e] at h; exact ⟨n, rfl, (Option.some.inj h).symm⟩
theorem VwG.fz {O : Oh} {x : OV} {fs : List (List Int)} (h : VwG O x fs) : Fz O x (.list (fs.map pW)) := by
  rcases h with rfl | ⟨p, rfl, hp⟩
  · exact .d _
  · exact .o hp (by
      have : fs.map dW = (fs.map pW).map OV.d := by rw [List.map_map]; rfl
      rw [this]
      exact FzA.ofData _)
theorem vF_eq {fs : List (List Int)} (h : OkF fs) : vF (fs.map wL) = fs.map pW := by
  conv => rhs; rw [← vF_fs h]
  rw [List.map_map]
  rfl
theorem VwG.sub {O O' : Oh} {x : OV} {fs : List (List Int)} (h : VwG O x fs) (s : ∀ b u, O b = some u → O' b = some u) : VwG O' x fs := by
  rcases h with h | ⟨p, h, hp⟩
  · exact .inl h
  · exact .inr ⟨p, h, s _ _ hp⟩
theorem w_sg {O : Oh} {R : OV → Oh → Prop} {l : List Nat} {i : Nat} {a b : Int} (hz : l.length ≤ 100000) (ha : a = i) (hb : b = i + 1) (q : R (dS (sgn l i)) O) : aSlS (dS l) (some a) (some b) O R := by
  refine w_slS (by rw [strL_len]; unfold sizeLine; omega) ?_
  rw [cut_nat (i := i) (j := i + 1) ha (by omega), show i + 1 - i = 1 by omega]
  exact q
theorem w_at {O : Oh} {R : OV → Oh → Prop} {l : List Nat} {i c : Nat} {a : Int} (hz : l.length ≤ 100000) (ha : a = i) (hc : l[i]? = some c) (q : R (.d (.str ⟨#[c]⟩)) O) : aIxS (dS l) (.d (.int a)) O R :=
  w_ixS (by rw [strL_len]; unfold sizeLine; omega) (atI_n (by omega) (by subst ha; rw [Int.toNat_natCast]; exact hc)) q
abbrev dP2 (j : Nat) (b : Bool) : OV := .d (.tuple [.int (j : Int), .bool b])
section
variable {env : En} {O : Oh} {T : AE} {R : OV → Oh → Prop} {vs : List Nat} {m : Nat}
/-- ints of texts -/
theorem w_lcI {s : Addr} {ts : List (List Nat)} (hs : O s = some (.lst (ts.map dS))) (hz : ts.length ≤ 200000)
    (hst : ∀ i t D, ts[i]? = some t → O D = none → ∀ Q : OV → Oh → Prop, Q (dI (tokV t)) (updO O D (.lst (Zs (vT (ts.take i))))) → T ((wipeE env vs).set m (some (dS t))) (updO O D (.lst (Zs (vT (ts.take i))))) Q)
    (hd : ∀ D, O D = none → R (.o D) (updO O D (.lst (Zs (vT ts))))) : aLcB (pitL (.o s)) (gVar m) aYes T vs env O R := by
  refine w_lcO hs (fun i => Zs (vT (ts.take i))) rfl (fun i x D hx hD => ?_) (fun D hD => ?_)
  · obtain ⟨t, ht, rfl⟩ : ∃ t, ts[i]? = some t ∧ x = dS t := by
      rw [List.getElem?_map] at hx
      cases e : ts[i]? with
      | none => rw [e] at hx; cases hx
      | some t => rw [e] at hx; exact ⟨t, rfl, (Option.some.inj hx).symm⟩
    refine w_yes ?_
    rw [if_pos rfl]
    refine hst i t D ht hD _ (lc_leaf (szlm (by rw [zs_len, List.length_map, List.length_take]; omega)) ?_)
    rw [List.take_add_one, ht, vT, List.map_append]
    exact (zs_snoc (vT (ts.take i)) (tokV t)).symm
  · rw [List.length_map, List.take_length]
    exact hd D hD
end
theorem strs_dS (ts : List (List Nat)) : ((ts.map fun p => (⟨p.toArray⟩ : Str)).map fun s => OV.d (.str s)) = ts.map dS := by rw [List.map_map]; rfl
theorem cut_from {l : List Nat} {i : Nat} {a : Int} (ha : a = i) : cutS ⟨l.toArray⟩ (some a) none = ⟨(l.drop i).toArray⟩ := by
  subst ha
  unfold cutS
  rw [strL_len, HT.sIx_nat]
  show (⟨((l.drop (min i l.length)).take (l.length - min i l.length)).toArray⟩ : Str) = _
  rw [List.take_of_length_le (by rw [List.length_drop]; exact Nat.le_refl _), strL_inj]
  by_cases h : i ≤ l.length
  · rw [Nat.min_eq_left h]
  · rw [List.drop_eq_nil_of_le (by omega), List.drop_eq_nil_of_le (by omega)]
theorem cut_to {l : List Nat} {i : Nat} {a : Int} (ha : a = i) (hi : i ≤ l.length) : cutS ⟨l.toArray⟩ none (some a) = ⟨(l.take i).toArray⟩ := by
  subst ha
  unfold cutS
  rw [strL_len, HT.sIx_nat]
  show (⟨((l.drop 0).take (min i l.length - 0)).toArray⟩ : Str) = _
  rw [Nat.min_eq_left hi, List.drop_zero, Nat.sub_zero]
theorem w_five {O : Oh} {R : OV → Oh → Prop} {n : Int} (h0 : 0 ≤ n) (h1 : n ≤ 1000) (q : ∀ l : List Nat, l.length ≤ 1000 → R (dS l) O) : aRepS (.d (.str (Str.ofString "5"))) (dI n) O R := by
  refine ⟨_, n, rfl, rfl, h0, h1, by decide +kernel, ?_⟩
  rw [show (Str.ofString "5" : Str).cps.toList = [53] by decide +kernel]
  exact q _ (by simp; omega)
/-- what a text says: where its reading ends, and what it means -/
def resR (l : List Nat) (k : Int) : Nat × Option PyData := if k = 0 then ((wrdR l).1, (wrdR l).2.map fun ts => pW (vT ts)) else if k = 1 then ((famR none l 0).1, (famR none l 0).2.map fun tss => .list (vF tss)) else ((papR2 l).1, (papR2 l).2.map fun p => .tuple [.list (vF p.1), .list (vF p.2)])
theorem shp_vF (tss : List (List (List Nat))) : Shp 2 (.list (vF tss)) := shp_list fun d h => by
  obtain ⟨ts, _, rfl⟩ := List.mem_map.mp h
  exact shp_W _
theorem res_shp {l : List Nat} {k : Int} {d : PyData} (h : (resR l k).2 = some d) : Shp 3 d := by
  unfold resR at h
  split at h
  · obtain ⟨ts, _, rfl⟩ := Option.map_eq_some_iff.mp h
    exact (shp_W _).mono (by decide)
  · split at h
    · obtain ⟨tss, _, rfl⟩ := Option.map_eq_some_iff.mp h
      exact (shp_vF _).mono (by decide)
    · obtain ⟨p, _, rfl⟩ := Option.map_eq_some_iff.mp h
      exact shp_t2 (shp_vF _) (shp_vF _)
end Y
namespace Y
open PySem PySem.Spec L2
local macro_rules | `(tactic| wtm_at "s") => `(tactic| first
  | with_reducible refine w_seq ?_
  | with_reducible refine w_set ?_
  | with_reducible refine w_ifS ?_
  | with_reducible refine w_ret ?_
  | with_reducible refine w_drop ?_
  | with_reducible refine w_next ?_
  | with_reducible refine w_asg ?_
  | with_reducible refine w_retN ?_
  | with_reducible refine w_c ?_
  | with_reducible refine w_op ?_
  | with_reducible refine w_cons ?_
  | with_reducible refine w_nil ?_
  | with_reducible refine w_I0 ?_
  | with_reducible refine w_B ?_
  | with_reducible refine w_cb ?_
  | with_reducible refine w_call ?_
  | with_reducible refine w_callN ?_
  | with_reducible refine w_callX ?_
  | with_reducible refine w_tup ?_
  | with_reducible refine w_lstF ?_
  | with_reducible refine w_tupO ?_
  | with_reducible refine w_lst ?_
  | with_reducible refine w_wk ?_
  | with_reducible refine w_lenR ?_
  | with_reducible refine w_lenW ?_
  | with_reducible refine w_lenT ?_
  | with_reducible refine w_lenF ?_
  | with_reducible refine w_lens ?_
  | with_reducible refine w_lenL ?_
  | with_reducible refine w_lenU ?_
  | with_reducible refine w_sl ?_
  | with_reducible refine w_noPart ?_
  | with_reducible refine w_part ?_
  | with_reducible refine w_slR ?_
  | with_reducible refine w_slTT ?_
  | with_reducible refine w_slW ?_
  | with_reducible refine w_slF ?_
  | with_reducible refine w_and ?_
  | with_reducible refine w_or ?_
  | with_reducible refine w_not ?_
  | with_reducible refine w_neg ?_
  | with_reducible refine w_tAnd ?_
  | with_reducible refine w_tOr ?_
  | with_reducible refine w_tNot ?_
  | with_reducible refine w_if ?_
  | with_reducible refine w_yes ?_
  | with_reducible refine w_intI ?_
  | with_reducible refine w_intB ?_
  | with_reducible refine w_int1 ?_
  | with_reducible refine w_int2 ?_
  | with_reducible refine w_ty ?_
  | with_reducible refine w_bm ?_
  | with_reducible refine w_bm0 ?_
  | with_reducible refine w_revL ?_
  | with_reducible refine w_isN ?_
  | with_reducible refine w_S0 ?_
  | with_reducible refine w_B0 ?_
  | with_reducible refine w_par ?_
  | with_reducible refine w_gvar ?_
  | with_reducible refine w_gnil ?_
  | with_reducible refine w_gcons ?_
  | with_reducible refine w_gsub ?_
  | with_reducible refine w_brk ?_
  | with_reducible refine w_cnt ?_
  | with_reducible refine w_for ?_
  | with_reducible refine w_lc ?_
  | with_reducible refine w_itL ?_
  | with_reducible refine w_itT ?_
  | with_reducible refine w_itR1 ?_
  | with_reducible refine w_itR2 ?_
  | with_reducible refine w_itR3 ?_
  | with_reducible refine w_listR1 ?_
  | with_reducible refine w_listR2 ?_
  | with_reducible refine w_raise ?_
  | with_reducible refine w_try ?_
  | with_reducible refine w_tryAs ?_
  | with_reducible refine w_dnew ?_
  | with_reducible refine w_din ?_
  | with_reducible refine w_dput ?_
  | with_reducible refine w_revT ?_
  | with_reducible refine w_augS ?_
  | with_reducible refine w_lc2 ?_
  | with_reducible refine w_chain ?_
  | with_reducible refine w_sumT ?_
  | with_reducible refine w_callKN ?_
  | with_reducible refine w_callKX ?_
  | with_reducible refine w_fld ?_
  | with_reducible refine w_gfld ?_
  | with_reducible refine w_meth ?_
  | with_reducible refine w_methX ?_
  | with_reducible refine w_make ?_
  | with_reducible refine w_fldAug ?_
  | with_reducible refine w_raiseX ?_
  | with_reducible refine w_itS ?_
  | with_reducible refine w_xf ?_
  | ((with_reducible refine' w_var ?h1 ?_); (case h1 => exact rfl))
  | ((with_reducible refine' w_aug ?h1 ?_); (case h1 => exact rfl))
  | ((with_reducible refine' w_gtup2 ?h1 ?_); (case h1 => exact rfl))
  | ((with_reducible refine' w_gtup3 ?h1 ?_); (case h1 => exact rfl))
  | ((with_reducible refine' w_gtup ?h1 ?_); (case h1 => exact rfl))
  | ((with_reducible refine' w_gtupt ?h1 ?_); (case h1 => exact rfl))
  | ((with_reducible refine' w_unl3 ?h1 ?_); (case h1 => exact rfl))
  | ((with_reducible refine' w_unl ?h1 ?_); (case h1 => exact rfl))
  | ((with_reducible refine' w_le10 ?h1 ?_); (case h1 => exact Nat.le_of_ble_eq_true rfl))
  | ((with_reducible refine' w_ixT ?h1 ?_); (case h1 => exact rfl))
  | ((with_reducible refine' w_isi ?h1 ?h2 ?_); (case h1 => first | exact rfl | exact ⟨rfl, _, updO_same⟩); (case h2 => first | exact kb_ii | exact kb_ib | exact kb_tt | exact kb_ll | exact kb_bb | exact kb_bi | exact kb_ss | exact kb_lt | exact kb_tl | exact kb_ni | exact kb_nl | exact kb_nt | exact kb_si | exact kb_li | exact kb_ti | exact kb_it | exact kb_il | exact kb_ls | exact kb_ts | exact kb_is | exact kb_st | exact kb_sl | exact kb_nb | exact kb_bt | exact kb_bl | exact kb_tb | exact kb_lb))
  | (with_reducible refine w_t rfl ?_)
  | (with_reducible refine w_f rfl ?_)
  | (with_reducible refine ⟨_, rfl, ?_⟩))
local macro_rules | `(tactic| wtm_at "r") => `(tactic| repeat wtm_at "s")
local macro_rules | `(tactic| wtm_at "q") => `(tactic| repeat (first | wtm_at "s" | ((with_reducible refine' w_gR _ rfl ?h1 ?_); (case h1 => omega)) | ((with_reducible refine' w_gW _ rfl ?h1 ?_); (case h1 => omega)) | ((with_reducible refine' w_gT _ rfl ?h1 ?_); (case h1 => omega)) | ((with_reducible refine' w_gF _ rfl ?h1 ?_); (case h1 => omega)) | ((with_reducible refine' w_rg ?h1 ?h2 ?_); (case h1 => omega); (case h2 => omega))))
local macro_rules | `(tactic| wtm_at "e") => `(tactic| (refine EnLe.wk0 ?_; repeat (first | exact trivial | refine ⟨rfl, ?_⟩)))
def topS (i : Nat) : Stmt := PySem.Challenge.pw_coverpapers_k29_invalid_texts.main.body.getD i (.Pass ⟨0, 0, 0, 0⟩)
abbrev s_parse_word : Stmt := topS 7
abbrev s_parse_family : Stmt := topS 8
abbrev s_parse_paper : Stmt := topS 9
abbrev s__law_cell : Stmt := topS 11
abbrev s__law_stream : Stmt := topS 12
abbrev s__law_next : Stmt := topS 13
abbrev s__law_is_integer : Stmt := topS 14
abbrev s__law_number_text : Stmt := topS 15
abbrev s__law_walk_number : Stmt := topS 16
abbrev s__law_walk_word : Stmt := topS 17
abbrev s__law_walk_list : Stmt := topS 18
abbrev s__law_walk_family : Stmt := topS 19
abbrev s__law_walk_sign : Stmt := topS 20
abbrev s__law_walk : Stmt := topS 21
abbrev s__law_lists : Stmt := topS 22
abbrev s__law_meaning : Stmt := topS 23
abbrev s__law_told : Stmt := topS 24
abbrev s__law_drawn_family : Stmt := topS 25
abbrev s__law_drawn : Stmt := topS 26
abbrev s_law : Stmt := topS 27
abbrev s_Reader___init__ : Stmt := inClass (topS 6) 0
abbrev s_Reader_sign : Stmt := inClass (topS 6) 1
abbrev s_Reader_fail : Stmt := inClass (topS 6) 2
abbrev s_Reader_expect : Stmt := inClass (topS 6) 3
abbrev s_Reader_number : Stmt := inClass (topS 6) 4
abbrev s_Reader_at_digit : Stmt := inClass (topS 6) 5
abbrev s_Reader_indexes : Stmt := inClass (topS 6) 6
abbrev s_Reader_family : Stmt := inClass (topS 6) 7
abbrev s_InvalidText___init__ : Stmt := inClass (topS 2) 0
structure TopOk (K : PySem.W.Frag) (mg : Str → Option Value) (X_InvalidText : Addr) (X_CoverError : Addr) (X_Reader : Addr) : Prop where
  b_abs : mg "abs" = none
  b_bool : mg "bool" = none
  b_int : mg "int" = none
  b_isinstance : mg "isinstance" = none
  b_len : mg "len" = none
  b_range : mg "range" = none
  d_parse_word : DefA K mg "parse_word" s_parse_word ["text"]
  d_parse_family : DefA K mg "parse_family" s_parse_family ["text"]
  d_parse_paper : DefA K mg "parse_paper" s_parse_paper ["text"]
  d__law_cell : DefA K mg "_law_cell" s__law_cell ["_law_script", "_law_k"]
  d__law_stream : DefA K mg "_law_stream" s__law_stream ["_law_cell_here"]
  d__law_next : DefA K mg "_law_next" s__law_next ["_law_stream_here", "_law_size"]
  d__law_is_integer : DefA K mg "_law_is_integer" s__law_is_integer ["_law_actual"]
  d__law_number_text : DefA K mg "_law_number_text" s__law_number_text ["_law_n"]
  d__law_walk_number : DefA K mg "_law_walk_number" s__law_walk_number ["_law_text", "_law_at", "_law_may_be_negative"]
  d__law_walk_word : DefA K mg "_law_walk_word" s__law_walk_word ["_law_text", "_law_at"]
  d__law_walk_list : DefA K mg "_law_walk_list" s__law_walk_list ["_law_text", "_law_at"]
  d__law_walk_family : DefA K mg "_law_walk_family" s__law_walk_family ["_law_text", "_law_at", "_law_end"]
  d__law_walk_sign : DefA K mg "_law_walk_sign" s__law_walk_sign ["_law_text", "_law_at", "_law_sign"]
  d__law_walk : DefA K mg "_law_walk" s__law_walk ["_law_text", "_law_kind"]
  d__law_lists : DefA K mg "_law_lists" s__law_lists ["_law_text"]
  d__law_meaning : DefA K mg "_law_meaning" s__law_meaning ["_law_text", "_law_kind"]
  d__law_told : DefA K mg "_law_told" s__law_told ["_law_text", "_law_kind"]
  d__law_drawn_family : DefA K mg "_law_drawn_family" s__law_drawn_family ["_law_stream_here"]
  d__law_drawn : DefA K mg "_law_drawn" s__law_drawn ["_law_stream_here", "_law_kind"]
  d_Reader___init__ : InitDN K X_Reader "Reader.__init__" s_Reader___init__
  d_Reader_sign : MethD K X_Reader "sign" "Reader.sign" s_Reader_sign [] []
  d_Reader_fail : MethD K X_Reader "fail" "Reader.fail" s_Reader_fail [] []
  d_Reader_expect : MethD K X_Reader "expect" "Reader.expect" s_Reader_expect [] []
  d_Reader_number : MethD K X_Reader "number" "Reader.number" s_Reader_number [] []
  d_Reader_at_digit : MethD K X_Reader "at_digit" "Reader.at_digit" s_Reader_at_digit [] []
  d_Reader_indexes : MethD K X_Reader "indexes" "Reader.indexes" s_Reader_indexes [] []
  d_Reader_family : MethD K X_Reader "family" "Reader.family" s_Reader_family [] []
  g_DIGIT_LIMIT : GlobD K mg "DIGIT_LIMIT" (.int 60)
  g_DIGITS : GlobD K mg "DIGITS" (.str "0123456789")
  g_Reader : mg "Reader" = some (.ref X_Reader)
  c_Reader : Cls K X_Reader
  n_Reader_text : NoAttr K X_Reader "text"
  n_Reader_at : NoAttr K X_Reader "at"
  x_InvalidText : XOkI K mg "InvalidText" X_InvalidText
  x_CoverError : XOk K mg "CoverError" X_CoverError
  i_InvalidText : InitXD K X_InvalidText "position" "InvalidText.__init__" s_InvalidText___init__
  xf_InvalidText : XfC K X_InvalidText
  nx_InvalidText : PySem.W.findIn K (.ref X_InvalidText) "position" = some none
  s_InvalidText_InvalidText : PySem.W.subIn K (.ref X_InvalidText) (.ref X_InvalidText) = some true
  k_InvalidText_CoverError : PySem.W.kitOne K (.ref X_InvalidText) (.ref X_CoverError) = some true
section
variable {P : Program} {w : World} {K : PySem.W.Frag} {mg : Str → Option Value} {base : Heap} {X_InvalidText : Addr} {X_CoverError : Addr} {X_Reader : Addr}
theorem xi_InvalidText (T : TopOk K mg X_InvalidText X_CoverError X_Reader) : XInit P w K mg base "InvalidText" X_InvalidText "position" := T.i_InvalidText.init T.x_InvalidText.g (⟨rfl, rfl, rfl, by decide +kernel, rfl, by decide +kernel, by decide +kernel⟩ : FnScope ["self", "position"] ["self", "position"] (defScope s_InvalidText___init__)) rfl (fun cdv A outer s H E fI => ⟨_, _, pss_one (ps_ost (pv 0) (pv 1)), fun v w H Q q => ⟨w, rfl, q⟩, fun v w H Q q => ⟨v, rfl, q⟩⟩) (fun _ _ _ _ _ _ us hl => match us, hl with | [_, _], _ => rfl)
theorem sc__law_next : FnScope ["_law_stream_here", "_law_size", "_law_drawn_here", "_law_mixed"] ["_law_stream_here", "_law_size"] (defScope s__law_next) := ⟨rfl, rfl, rfl, by decide +kernel, rfl, by decide +kernel, by decide +kernel⟩
def C__law_next : Con := fun xs O R => ∃ p n, xs = [.o p, dI n] ∧ Strm O p ∧ 0 < n ∧ n ≤ 10 ^ 40 ∧ ∀ r a b c, 0 ≤ r → r < n → R (dI r) (updO O p (.lst (Zs [a, b, c])))
theorem ok__law_next (T : TopOk K mg X_InvalidText X_CoverError X_Reader) : FnD P w K mg base 1 "_law_next" ["_law_stream_here", "_law_size"] C__law_next := by
  obtain ⟨f, fd, D⟩ := T.d__law_next
  have sc := sc__law_next
  refine fnd D sc (fun xs O R h => by obtain ⟨_, _, rfl, _⟩ := h; rfl) fun cdv A outer s H E hr => ⟨_, (qss_cons (qs_if (qt_cmp op_gt sr_B0 (qe_ix ix_list sr_ixL (qe_var 0) qe_int) qe_int) (qss_cons (qs_set (i := 2) sc.nd (qe_op op_mod sr_I (qe_callTy call_int1 sn_int1 (T.b_int) (by decide +kernel) (qa_cons (qe_ix ix_list sr_ixL (qe_var 0) qe_int) qa_nil)) (qe_var 1)))
  (qss_cons (qs_asg (qe_op op_fdivW sr_I (qe_ix ix_list sr_ixL (qe_var 0) qe_int) (qe_var 1)) (qg_subL (qe_var 0) qe_int))
  (qss_one (qs_ret (qe_var 2))))) qss_nil)
  (qss_cons (qs_asg (qe_op op_add sr_I0 (qe_ix ix_list sr_ixL (qe_var 0) qe_int) qe_int) (qg_subL (qe_var 0) qe_int))
  (qss_cons (qs_set (i := 3) sc.nd (qe_op op_mod sr_I (qe_callTy call_int1 sn_int1 (T.b_int) (by decide +kernel) (qa_cons (qe_op op_add sr_I0 (qe_op op_mul sr_I (qe_ix ix_list sr_ixL (qe_var 0) qe_int) qe_int) (qe_op op_mul sr_I (qe_ix ix_list sr_ixL (qe_var 0) qe_int) qe_int)) qa_nil)) qe_int))
  (qss_cons (qs_set (i := 3) sc.nd (qe_op op_mod sr_I (qe_callTy call_int1 sn_int1 (T.b_int) (by decide +kernel) (qa_cons (qe_op op_add sr_I0 (qe_op op_mul sr_I (qe_var 3) (qe_var 3)) (qe_op op_mul sr_I (qe_ix ix_list sr_ixL (qe_var 0) qe_int) qe_int)) qa_nil)) qe_int))
  (qss_cons (qs_set (i := 3) sc.nd (qe_op op_mod sr_I (qe_callTy call_int1 sn_int1 (T.b_int) (by decide +kernel) (qa_cons (qe_op op_add sr_I0 (qe_op op_mul sr_I (qe_var 3) qe_int) (qe_ix ix_list sr_ixL (qe_var 0) qe_int)) qa_nil)) qe_int))
  (qss_one (qs_ret (qe_op op_mod sr_I (qe_callTy call_int1 sn_int1 (T.b_int) (by decide +kernel) (qa_cons (qe_var 3) qa_nil)) (qe_var 1))))))))), ?_⟩
  rintro _ O R ⟨p, n, rfl, ⟨a, b, c, hs⟩, h0, hn, hR⟩
  have hdiv : ∀ x : Int, CDivW x n := fun x => wide_div (b := 200) h0 (by omega) (by decide) (by decide)
  wtm_at "r"
  refine w_ixO hs (i := 0) (x := dI a) rfl ?_
  wtm_at "r"
  refine w_dec (fun h => ?_) (fun h => ?_)
  · wtm_at "r"
    refine w_ixO hs (i := 0) (x := dI a) rfl ?_
    wtm_at "r"
    refine w_I h0 ?_
    wtm_at "r"
    refine w_ixO hs (i := 0) (x := dI a) rfl ?_
    wtm_at "r"
    refine w_I (hdiv a) ?_
    wtm_at "r"
    refine w_setL hs (i := 0) (n := 0) rfl ?_
    wtm_at "r"
    exact rw_id (hR _ (a / n) b c (Int.emod_nonneg _ (by omega)) (Int.emod_lt_of_pos _ h0))
  · wtm_at "r"
    refine w_ixO hs (i := 1) (x := dI b) rfl ?_
    wtm_at "r"
    refine w_setL hs (i := 1) (n := 1) rfl ?_
    wtm_at "r"
    have h1 : updO O p (.lst ((Zs [a, b, c]).set 1 (dI (b + 1)))) p = some (.lst (Zs [a, b + 1, c])) := updO_same
    refine w_ixO h1 (i := 2) (x := dI c) rfl ?_
    wtm_at "r"
    refine w_I (.inr (by decide)) ?_
    wtm_at "r"
    refine w_ixO h1 (i := 1) (x := dI (b + 1)) rfl ?_
    wtm_at "r"
    refine w_I (.inr (by decide)) ?_
    wtm_at "r"
    refine w_I (by decide) ?_
    generalize hm : (c * 48271 + (b + 1) * 69621) % 2147483647 = m
    have hm0 : 0 ≤ m := by rw [← hm]; exact Int.emod_nonneg _ (by decide)
    have hm1 : m < 2147483647 := by rw [← hm]; exact Int.emod_lt_of_pos _ (by decide)
    wtm_at "r"
    refine w_I (.inr ⟨by omega, by omega⟩) ?_
    wtm_at "r"
    refine w_ixO h1 (i := 1) (x := dI (b + 1)) rfl ?_
    wtm_at "r"
    refine w_I (.inr (by decide)) ?_
    wtm_at "r"
    refine w_I (by decide) ?_
    wtm_at "r"
    refine w_I (.inr (by decide)) ?_
    wtm_at "r"
    refine w_ixO h1 (i := 2) (x := dI c) rfl ?_
    wtm_at "r"
    refine w_I (by decide) ?_
    wtm_at "r"
    refine w_I h0 ?_
    exact rw_id (hR _ a (b + 1) c (Int.emod_nonneg _ (by omega)) (Int.emod_lt_of_pos _ h0))
theorem sc__law_number_text : FnScope ["_law_n", "_law_digits", "_law_rest", "_law_k"] ["_law_n"] (defScope s__law_number_text) := ⟨rfl, rfl, rfl, by decide +kernel, rfl, by decide +kernel, by decide +kernel⟩
def C__law_number_text : Con := fun xs O R => ∃ n, xs = [dI n] ∧ In60 n ∧ R (dS (intL n)) O
theorem lit_digits : (Str.ofString "0123456789" : Str) = ⟨[48, 49, 50, 51, 52, 53, 54, 55, 56, 57].toArray⟩ := by decide +kernel
theorem dig_at {k : Nat} (h : k < 10) : ([48, 49, 50, 51, 52, 53, 54, 55, 56, 57] : List Nat)[k]? = some (48 + k) := by
  have : ∀ k : Fin 10, ([48, 49, 50, 51, 52, 53, 54, 55, 56, 57] : List Nat)[k.val]? = some (48 + k.val) := by decide
  exact this ⟨k, h⟩
theorem ok__law_number_text (T : TopOk K mg X_InvalidText X_CoverError X_Reader) : FnD P w K mg base 1 "_law_number_text" ["_law_n"] C__law_number_text := by
  obtain ⟨f, fd, D⟩ := T.d__law_number_text
  have sc := sc__law_number_text
  refine fnd D sc (fun xs O R h => by obtain ⟨_, rfl, _⟩ := h; rfl) fun cdv A outer s H E hr => ⟨_, (qss_cons (qs_if (qt_cmp op_eq sr_eqI (qe_var 0) qe_int) (qss_one (qs_ret qe_str)) qss_nil)
  (qss_cons (qs_set (i := 1) sc.nd qe_str)
  (qss_cons (qs_set (i := 2) sc.nd (qe_callB call_abs sn_i1 (T.b_abs) (by decide +kernel) (qa_cons (qe_var 0) qa_nil)))
  (qss_cons (qs_for PassesOwn.never rfl (qi_range1 (T.b_range) (qa_cons qe_int qa_nil)) (qg_name (i := 3) sc.nd) (qss_one (qs_if (qt_cmp op_gt sr_B0 (qe_var 2) qe_int) (qss_cons (qs_set (i := 1) sc.nd (qe_op op_add_str sr_addS (qe_ix ix_str sr_ixS qe_str (qe_op op_mod sr_I (qe_callTy call_int1 sn_int1 (T.b_int) (by decide +kernel) (qa_cons (qe_var 2) qa_nil)) qe_int)) (qe_var 1)))
  (qss_one (qs_set (i := 2) sc.nd (qe_op op_fdivW sr_I (qe_var 2) qe_int)))) qss_nil)) (fun a b c => ps_for PassesOwn.never rfl a b c))
  (qss_one (qs_ret (qe_op op_add_str sr_addS (qe_op op_repS sr_repS qe_str (qe_callTy call_int1 sn_int1 (T.b_int) (by decide +kernel) (qa_cons (qe_cmp op_lt sr_B0 (qe_var 0) qe_int) qa_nil))) (qe_var 1)))))))), ?_⟩
  rintro _ O R ⟨n, rfl, h60, hR⟩
  wtm_at "r"
  refine w_dec (fun h => ?_) (fun h => ?_)
  · subst h
    wtm_at "r"
    rw [lit_zero]
    exact rw_id hR
  wtm_at "r"
  refine ⟨by decide, by decide, ?_⟩
  rw [lit_empty]
  have ea : (if n < 0 then -n else n) = ((n.natAbs : Nat) : Int) := by split <;> omega
  rw [ea]
  generalize hN : n.natAbs = N at *
  have hN60 : N < 10 ^ 60 := by rw [← hN]; exact h60
  refine w_forR (α := Nat × List Nat) (lo := 0) (n := 80) (fun s => [some (dI n), some (dS s.2), some (dI (s.1 : Int)), none]) (fun _ => O) (fun i s => s.1 < 10 ^ (60 - i) ∧ s.2.length ≤ i ∧ (if s.1 = 0 then TL.numL N = s.2 else TL.numL N = TL.numL s.1 ++ s.2)) (N, []) (by wtm_at "e") ⟨by simpa using hN60, Nat.le_refl _, ?_⟩ ?_ ?_
  · dsimp only
    rw [if_neg (by omega), List.append_nil]
  · rintro i ⟨r, ds⟩ hi ⟨h1, h2, h3⟩
    dsimp only at h1 h2 h3 ⊢
    wtm_at "r"
    refine w_dec (fun q => ?_) (fun q => ?_)
    · have hr : r ≠ 0 := by omega
      rw [if_neg hr] at h3
      wtm_at "r"
      refine w_I (by decide) ?_
      wtm_at "r"
      rw [lit_digits, show ((r : Nat) : Int) % 10 = ((r % 10 : Nat) : Int) by omega]
      refine w_ixS (by decide) (atI_n (by omega) (by rw [Int.toNat_natCast]; exact dig_at (Nat.mod_lt _ (by decide)))) ?_
      wtm_at "r"
      refine w_addS (a := [48 + r % 10]) (by simp; omega) ?_
      wtm_at "r"
      refine w_I (wide_div (b := 200) (by decide) (by decide) (by decide) (by decide)) ?_
      wtm_at "r"
      rw [show ((r : Nat) : Int) / 10 = ((r / 10 : Nat) : Int) by omega]
      refine ⟨(r / 10, [48 + r % 10] ++ ds), by wtm_at "e", ?_, by simp; omega, ?_⟩
      · dsimp only
        by_cases hk : i < 60
        · have : 10 ^ (60 - i) = 10 ^ (60 - (i + 1)) * 10 := by rw [← Nat.pow_succ]; congr 1; omega
          rw [this] at h1
          exact Nat.div_lt_of_lt_mul (by omega)
        · rw [show 60 - i = 0 by omega] at h1
          omega
      · dsimp only
        by_cases hk : r < 10
        · rw [if_pos (by omega), h3, TL.numL_lt hk, Nat.mod_eq_of_lt hk]
        · rw [if_neg (by omega), h3, TL.numL_step (by omega), List.append_assoc]
    · wtm_at "r"
      refine ⟨(r, ds), by wtm_at "e", ?_, by dsimp only; omega, h3⟩
      have : r = 0 := by omega
      dsimp only
      rw [this]
      exact Nat.pow_pos (by decide)
  · rintro ⟨r, ds⟩ ⟨h1, h2, h3⟩
    dsimp only at h1 h2 h3 ⊢
    have hr : r = 0 := by
      have : (10 : Nat) ^ (60 - 80) = 1 := rfl
      omega
    rw [if_pos hr] at h3
    have e : intL n = (if decide (n < 0) = true then [45] else []) ++ ds := by
      unfold intL
      rw [hN, h3]
      by_cases hn : n < 0
      · rw [if_pos hn, if_pos (decide_eq_true hn)]; rfl
      · rw [if_neg hn, if_neg (by simpa using hn)]; rfl
    rw [e] at hR
    wtm_at "r"
    refine w_dash ?_
    wtm_at "r"
    refine w_addS (a := if decide (n < 0) = true then [45] else []) (b := ds) (by split <;> simp <;> omega) ?_
    exact rw_id hR
theorem sc__law_drawn_family : FnScope ["_law_stream_here", "_law_lists_here", "_law_k", "_law_told_here", "_law_m"] ["_law_stream_here"] (defScope s__law_drawn_family) := ⟨rfl, rfl, rfl, by decide +kernel, rfl, by decide +kernel, by decide +kernel⟩
def C__law_drawn_family : Con := fun xs O R => ∃ p, xs = [.o p] ∧ Strm O p ∧ ∀ O' l, Strm O' p → l.length ≤ 10000 → R (dS l) O'
theorem ok__law_drawn_family (T : TopOk K mg X_InvalidText X_CoverError X_Reader) : FnD P w K mg base 2 "_law_drawn_family" ["_law_stream_here"] C__law_drawn_family := by
  obtain ⟨f, fd, D⟩ := T.d__law_drawn_family
  have sc := sc__law_drawn_family
  refine fnd D sc (fun xs O R h => by obtain ⟨_, rfl, _⟩ := h; rfl) fun cdv A outer s H E hr => ⟨_, (qss_cons (qs_set (i := 1) sc.nd (qe_lst qa_nil))
  (qss_cons (qs_for PassesOwn.never rfl (qi_range1 (T.b_range) (qa_cons (qe_call (ok__law_next T) hr (qa_cons (qe_var 0) (qa_cons qe_int qa_nil))) qa_nil)) (qg_name (i := 2) sc.nd) (qss_cons (qs_setLcW (i := 3) (own := [("_law_m", 4)]) rfl sc.nd (qi_range1 (T.b_range) (qa_cons (qe_call (ok__law_next T) hr (qa_cons (qe_var 0) (qa_cons qe_int qa_nil))) qa_nil)) (blk_of (N := ["_law_stream_here", "_law_lists_here", "_law_k", "_law_told_here", "_law_m"]) (sc := defScope s__law_drawn_family) (by decide +kernel)) (gin_name (by decide)) sg_name (fun _ _ _ _ _ => pg_name (i := 4) sc.nd rfl (by first | exact .inl rfl | exact .inr rfl)) (fun _ _ _ _ _ => qts_nil) (fun _ _ _ _ _ => (qe_call (ok__law_number_text T) hr (qa_cons (qe_call (ok__law_next T) hr (qa_cons (qe_var 0) (qa_cons qe_int qa_nil))) qa_nil))))
  (qss_one (qs_expr (qe_bm PySem.F.plainAttrs_list PySem.F.slot_list_append PySem.F.type_list_append mt_append sm_append (qe_var 1) (qa_cons (qe_op op_add_str sr_addS (qe_bm PySem.F.plainAttrs_str PySem.F.slot_str_join PySem.F.type_str_join mt_join sm_join qe_str (qa_cons (qe_var 3) qa_nil)) (qe_op op_repS sr_repS qe_str (qe_callTy call_int1 sn_int1 (T.b_int) (by decide +kernel) (qa_cons (qe_cmp op_eq sr_eqI (qe_callB call_len_seq sn_len (T.b_len) PySem.boot_len (qa_cons (qe_var 3) qa_nil)) qe_int) qa_nil)))) qa_nil))))) (fun a b c => ps_for PassesOwn.never rfl a b c))
  (qss_one (qs_ret (qe_bm PySem.F.plainAttrs_str PySem.F.slot_str_join PySem.F.type_str_join mt_join sm_join qe_str (qa_cons (qe_wk (qe_var 1)) qa_nil)))))), ?_⟩
  rintro _ O R ⟨p, rfl, ⟨a, b, c, hs⟩, hR⟩
  wtm_at "r"
  intro q hq
  have qp : q ≠ p := fun z => by rw [z, hs] at hq; cases hq
  wtm_at "r"
  refine ⟨p, 4, rfl, ⟨a, b, c, (updO_ne qp.symm).trans hs⟩, by decide, by decide, fun r a b c r0 r4 => ?_⟩
  wtm_at "r"
  refine ⟨by omega, by omega, ?_⟩
  rw [updO_comm qp]
  refine w_forR (α := Oh × List (List Nat)) (lo := 0) (n := r.toNat) (fun _ => [some (.o p), some (.o q), none, none, none]) (fun s => s.1) (fun i s => Strm s.1 p ∧ s.1 q = some (.lst (s.2.map dS)) ∧ s.2.length = i ∧ ∀ t ∈ s.2, t.length ≤ 500) (updO (updO O p (.lst (Zs [a, b, c]))) q (.lst []), []) (by wtm_at "e") ⟨Strm.upd.ne qp.symm, updO_same, rfl, by simp⟩ ?_ ?_
  · rintro i ⟨h, ts⟩ hi ⟨h1, h2, h3, h4⟩
    dsimp only at h1 h2 h3 h4 ⊢
    wtm_at "r"
    refine ⟨p, 4, rfl, h1, by decide, by decide, fun r2 a b c r20 r24 => ?_⟩
    wtm_at "r"
    refine ⟨by omega, by omega, ?_⟩
    have hq2 : ∀ {o : OO}, updO h p o q = some (.lst (ts.map dS)) := (updO_ne qp).trans h2
    refine lcB_st (α := List (List Nat) × Int × Int × Int) r2.toNat (fun s => updO h p (.lst (Zs [s.2.1, s.2.2.1, s.2.2.2]))) (fun s => s.1.map dS) (fun i s => s.1.length = i ∧ ∀ t ∈ s.1, t.length ≤ 61) ([], a, b, c) rfl rfl ⟨rfl, by simp⟩ ?_ ?_
    · rintro j ⟨ws, a, b, c⟩ D hj ⟨w1, w2⟩ hD
      dsimp only at w1 w2 hD ⊢
      refine ⟨_, ⟨hj, rfl⟩, ?_⟩
      have nD : D ≠ p := fun z => by rw [z, updO_same] at hD; cases hD
      have hD0 : h D = none := by rw [updO_ne nD] at hD; exact hD
      wtm_at "r"
      refine ⟨p, 14, rfl, Strm.upd.ne nD.symm, by decide, by decide, fun x a b c x0 x14 => ?_⟩
      rw [updO_comm nD, updO_updO]
      have h60 : In60 x := Nat.lt_of_lt_of_le (show x.natAbs < 14 by omega) (by decide)
      wtm_at "r"
      refine ⟨x, rfl, h60, ?_⟩
      refine lcTo_leaf (ws ++ [intL x], a, b, c) (szl (by rw [List.length_map]; omega)) ⟨by show (ws ++ [intL x]).length = j + 1; rw [List.length_append, w1]; rfl, fun n hn => ?_⟩ (by rw [updO_ne nD]; exact hD0) rfl (by dsimp only; rw [List.map_append]; rfl)
      rcases List.mem_append.mp hn with z | z
      · exact w2 n z
      · rw [List.mem_singleton.mp z]; exact tok_len (tok_intL h60)
    · rintro ⟨ws, a, b, c⟩ D ⟨w1, w2⟩ hD
      dsimp only at w1 w2 hD ⊢
      refine ⟨Nat.le_refl _, frz_new (ds := ws.map pS) (by rw [List.map_map]; rfl) hD ?_⟩
      wtm_at "r"
      refine ⟨tym_o hq2, ?_⟩
      wtm_at "r"
      refine ⟨tym_s, ?_⟩
      wtm_at "r"
      rw [lit_space]
      have hwl : (TL.joinL [32] ws).length ≤ 3 * 62 := Nat.le_trans (join_len w2) (Nat.mul_le_mul (by omega) (by simp))
      refine w_joinS (S := [32]) w2 (n := 4) (by omega) (by decide) ?_
      wtm_at "r"
      refine w_dash ?_
      refine w_addS (by split <;> simp <;> omega) ?_
      have hnl : (TL.joinL [32] ws ++ if decide (((ws.map pS).length : Int) = 0) = true then [45] else []).length ≤ 500 := by rw [List.length_append]; split <;> simp <;> omega
      generalize TL.joinL [32] ws ++ (if decide (((ws.map pS).length : Int) = 0) = true then [45] else []) = new at *
      wtm_at "r"
      refine w_append hq2 (szlm (by rw [List.length_map]; omega)) ?_
      rw [show ts.map dS ++ [dS new] = (ts ++ [new]).map dS by rw [List.map_append]; rfl]
      wtm_at "r"
      refine ⟨(updO (updO h p (.lst (Zs [a, b, c]))) q (.lst ((ts ++ [new]).map dS)), ts ++ [new]), by wtm_at "e", Strm.upd.ne qp.symm, updO_same, by dsimp only; rw [List.length_append, h3]; rfl, fun t ht => ?_⟩
      rcases List.mem_append.mp ht with z | z
      · exact h4 t z
      · rw [List.mem_singleton.mp z]; exact hnl
  · rintro ⟨h, ts⟩ ⟨h1, h2, h3, h4⟩
    dsimp only at h1 h2 h3 h4 ⊢
    wtm_at "r"
    refine ⟨tym_s, ?_⟩
    wtm_at "r"
    refine ⟨_, _, Wk.flatG (ds := ts.map pS) (by rw [h2, List.map_map]; rfl), ?_⟩
    have hst : Strm (rmO h q) p := by
      obtain ⟨a, b, c, h1⟩ := h1
      exact ⟨a, b, c, (rmO_ne qp.symm).trans h1⟩
    have hwl : (TL.joinL [32, 47, 32] ts).length ≤ 3 * 503 := Nat.le_trans (join_len h4) (Nat.mul_le_mul (by omega) (by simp))
    wtm_at "r"
    rw [lit_sep]
    refine w_joinS (S := [32, 47, 32]) h4 (n := 4) (by omega) (by decide) ?_
    exact rw_id (hR _ _ hst (by omega))
theorem sc__law_drawn : FnScope ["_law_stream_here", "_law_kind", "_law_text", "_law_k", "_law_at"] ["_law_stream_here", "_law_kind"] (defScope s__law_drawn) := ⟨rfl, rfl, rfl, by decide +kernel, rfl, by decide +kernel, by decide +kernel⟩
def C__law_drawn : Con := fun xs O R => ∃ p k, xs = [.o p, dI k] ∧ Strm O p ∧ ∀ O' l, l.length ≤ 100000 → R (dS l) O'
theorem ok__law_drawn (T : TopOk K mg X_InvalidText X_CoverError X_Reader) : FnD P w K mg base 3 "_law_drawn" ["_law_stream_here", "_law_kind"] C__law_drawn := by
  obtain ⟨f, fd, D⟩ := T.d__law_drawn
  have sc := sc__law_drawn
  refine fnd D sc (fun xs O R h => by obtain ⟨_, _, rfl, _⟩ := h; rfl) fun cdv A outer s H E hr => ⟨_, (qss_cut (qs_if (qt_cmp op_eq sr_eqI (qe_var 1) qe_int) (qss_one (qs_set (i := 2) sc.nd (qe_call (ok__law_drawn_family T) hr (qa_cons (qe_var 0) qa_nil)))) (qss_one (qs_if (qt_cmp op_eq sr_eqI (qe_var 1) qe_int) (qss_one (qs_set (i := 2) sc.nd (qe_op op_add_str sr_addS (qe_op op_add_str sr_addS (qe_op op_add_str sr_addS qe_str (qe_call (ok__law_drawn_family T) hr (qa_cons (qe_var 0) qa_nil))) qe_str) (qe_call (ok__law_drawn_family T) hr (qa_cons (qe_var 0) qa_nil))))) (qss_one (qs_set (i := 2) sc.nd (qe_bm PySem.F.plainAttrs_str PySem.F.slot_str_join PySem.F.type_str_join mt_join sm_join qe_str (qa_cons (qe_wk (qe_lc (own := [("_law_k", 3)]) rfl sc.nd (qi_range1 (T.b_range) (qa_cons (qe_call (ok__law_next T) hr (qa_cons (qe_var 0) (qa_cons qe_int qa_nil))) qa_nil)) (blk_of (N := ["_law_stream_here", "_law_kind", "_law_text", "_law_k", "_law_at"]) (sc := defScope s__law_drawn) (by decide +kernel)) (gin_name (by decide)) sg_name (fun _ _ _ _ _ => pg_name (i := 3) sc.nd rfl (by first | exact .inl rfl | exact .inr rfl)) (fun _ _ _ _ _ => qts_nil) (fun _ _ _ _ _ => (qe_call (ok__law_number_text T) hr (qa_cons (qe_op op_sub sr_I0 (qe_call (ok__law_next T) hr (qa_cons (qe_var 0) (qa_cons qe_int qa_nil))) qe_int) qa_nil))))) qa_nil)))))))
  (qss_cut (qs_if (qt_cmp op_eq sr_eqI (qe_call (ok__law_next T) hr (qa_cons (qe_var 0) (qa_cons qe_int qa_nil))) qe_int) (qss_one (qs_set (i := 2) sc.nd (qe_op op_add_str sr_addS (qe_var 2) (qe_op op_repS sr_repS qe_str (qe_op op_add sr_I0 qe_int (qe_call (ok__law_next T) hr (qa_cons (qe_var 0) (qa_cons qe_int qa_nil)))))))) qss_nil)
  (qss_cons (qs_if (qt_cmp op_eq sr_eqI (qe_call (ok__law_next T) hr (qa_cons (qe_var 0) (qa_cons qe_int qa_nil))) qe_int) (qss_one (qs_ret (qe_var 2))) qss_nil)
  (qss_cons (qs_set (i := 4) sc.nd (qe_call (ok__law_next T) hr (qa_cons (qe_var 0) (qa_cons (qe_op op_add sr_I0 (qe_callB call_len_str sn_lenS (T.b_len) PySem.boot_len (qa_cons (qe_var 2) qa_nil)) qe_int) qa_nil))))
  (qss_cons (qs_if (qt_cmp op_eq sr_eqI (qe_call (ok__law_next T) hr (qa_cons (qe_var 0) (qa_cons qe_int qa_nil))) qe_int) (qss_one (qs_ret (qe_slice sl_str sl_s (qe_var 2) qo_none (qo_some (qe_var 4))))) qss_nil)
  (qss_one (qs_ret (qe_op op_add_str sr_addS (qe_op op_add_str sr_addS (qe_slice sl_str sl_s (qe_var 2) qo_none (qo_some (qe_var 4))) (qe_ix ix_str sr_ixS qe_str (qe_call (ok__law_next T) hr (qa_cons (qe_var 0) (qa_cons qe_int qa_nil))))) (qe_slice sl_str sl_s (qe_var 2) (qo_some (qe_op op_add sr_I0 (qe_var 4) (qe_call (ok__law_next T) hr (qa_cons (qe_var 0) (qa_cons qe_int qa_nil))))) qo_none))))))))), ?_⟩
  rintro _ O R ⟨p, k, rfl, hst, hR⟩
  wtm_at "r"
  refine w_cut (α := Oh × List Nat) (fun s => [some (.o p), some (dI k), some (dS s.2), none, none]) (fun s => s.1) (fun s => Strm s.1 p ∧ s.2.length ≤ 30000) ?_ ?_
  · wtm_at "r"
    refine w_dec (fun q => ?_) (fun q => ?_)
    · wtm_at "r"
      refine ⟨p, rfl, hst, fun O' l h1 h2 => ?_⟩
      exact ⟨(O', l), by wtm_at "e", h1, by dsimp only; omega⟩
    wtm_at "r"
    refine w_dec (fun q => ?_) (fun q => ?_)
    · have hr : risL.length = 7 := rfl
      have hf : falL.length = 10 := rfl
      wtm_at "r"
      refine ⟨p, rfl, hst, fun O1 l1 h1 h2 => ?_⟩
      rw [lit_ris]
      refine w_addS (a := risL) (by omega) ?_
      wtm_at "r"
      rw [lit_fal]
      refine w_addS (b := falL) (by rw [List.length_append]; omega) ?_
      wtm_at "r"
      refine ⟨p, rfl, h1, fun O2 l2 h3 h4 => ?_⟩
      refine w_addS (by rw [List.length_append, List.length_append]; omega) ?_
      exact ⟨(O2, risL ++ l1 ++ falL ++ l2), by wtm_at "e", h3, by dsimp only; rw [List.length_append, List.length_append, List.length_append]; omega⟩
    · wtm_at "r"
      refine ⟨tym_s, ?_⟩
      wtm_at "r"
      refine ⟨p, 6, rfl, hst, by decide, by decide, fun r2 a b c r20 r24 => ?_⟩
      wtm_at "r"
      refine ⟨by omega, by omega, ?_⟩
      refine lcB_st (α := List (List Nat) × Int × Int × Int) r2.toNat (fun s => updO O p (.lst (Zs [s.2.1, s.2.2.1, s.2.2.2]))) (fun s => s.1.map dS) (fun i s => s.1.length = i ∧ ∀ t ∈ s.1, t.length ≤ 61) ([], a, b, c) rfl rfl ⟨rfl, by simp⟩ ?_ ?_
      · rintro j ⟨ws, a, b, c⟩ D hj ⟨w1, w2⟩ hD
        dsimp only at w1 w2 hD ⊢
        refine ⟨_, ⟨hj, rfl⟩, ?_⟩
        have nD : D ≠ p := fun z => by rw [z, updO_same] at hD; cases hD
        have hD0 : O D = none := by rw [updO_ne nD] at hD; exact hD
        wtm_at "r"
        refine ⟨p, 14, rfl, Strm.upd.ne nD.symm, by decide, by decide, fun x a b c x0 x14 => ?_⟩
        rw [updO_comm nD, updO_updO]
        have h60 : In60 (x - 4) := Nat.lt_of_lt_of_le (show (x - 4).natAbs < 14 by omega) (by decide)
        wtm_at "r"
        refine ⟨x - 4, rfl, h60, ?_⟩
        refine lcTo_leaf (ws ++ [intL (x - 4)], a, b, c) (szl (by rw [List.length_map]; omega)) ⟨by show (ws ++ [intL (x - 4)]).length = j + 1; rw [List.length_append, w1]; rfl, fun n hn => ?_⟩ (by rw [updO_ne nD]; exact hD0) rfl (by dsimp only; rw [List.map_append]; rfl)
        rcases List.mem_append.mp hn with z | z
        · exact w2 n z
        · rw [List.mem_singleton.mp z]; exact tok_len (tok_intL h60)
      · rintro ⟨ws, a, b, c⟩ D ⟨w1, w2⟩ hD
        dsimp only at w1 w2 hD ⊢
        refine ⟨Nat.le_refl _, frz_new (ds := ws.map pS) (by rw [List.map_map]; rfl) hD ?_⟩
        wtm_at "r"
        rw [lit_space]
        have hwl : (TL.joinL [32] ws).length ≤ 5 * 62 := Nat.le_trans (join_len w2) (Nat.mul_le_mul (by omega) (by simp))
        refine w_joinS (S := [32]) w2 (n := 6) (by omega) (by decide) ?_
        exact ⟨(updO O p (.lst (Zs [a, b, c])), TL.joinL [32] ws), by wtm_at "e", Strm.upd, by dsimp only; omega⟩
  rintro ⟨h, l⟩ ⟨h1, h2⟩
  dsimp only at h1 h2 ⊢
  wtm_at "r"
  refine w_cut (α := Oh × List Nat) (fun s => [some (.o p), some (dI k), some (dS s.2), none, none]) (fun s => s.1) (fun s => Strm s.1 p ∧ s.2.length ≤ 40000) ?_ ?_
  · wtm_at "r"
    refine ⟨p, 10, rfl, h1, by decide, by decide, fun r a b c _ _ => ?_⟩
    wtm_at "r"
    refine w_dec (fun q => ?_) (fun q => ?_)
    · wtm_at "r"
      refine ⟨p, 6, rfl, Strm.upd, by decide, by decide, fun r2 a b c _ _ => ?_⟩
      wtm_at "r"
      refine w_five (by omega) (by omega) fun l5 hl5 => ?_
      refine w_addS (by omega) ?_
      exact ⟨(_, l ++ l5), by wtm_at "e", Strm.upd, by dsimp only; rw [List.length_append]; omega⟩
    · wtm_at "r"
      exact ⟨(_, l), by wtm_at "e", Strm.upd, by dsimp only; omega⟩
  clear h1 h2
  rintro ⟨h, l⟩ ⟨h1, h2⟩
  dsimp only at h1 h2 ⊢
  wtm_at "r"
  refine ⟨p, 3, rfl, h1, by decide, by decide, fun r a b c _ _ => ?_⟩
  wtm_at "r"
  refine w_dec (fun q => ?_) (fun q => ?_)
  · wtm_at "r"
    exact rw_id (hR _ l (by omega))
  wtm_at "r"
  refine w_lenS (by rw [strL_len]; unfold sizeLine; omega) ?_
  wtm_at "r"
  rw [strL_len]
  refine ⟨p, _, rfl, Strm.upd, by omega, by omega, fun y a b c y0 y1 => ?_⟩
  wtm_at "r"
  refine ⟨p, 4, rfl, Strm.upd, by decide, by decide, fun r2 a b c _ _ => ?_⟩
  obtain ⟨n, rfl⟩ := Int.eq_ofNat_of_zero_le y0
  wtm_at "r"
  refine w_dec (fun q => ?_) (fun q => ?_)
  · wtm_at "r"
    refine w_slS (by rw [strL_len]; unfold sizeLine; omega) ?_
    rw [cut_to (i := n) rfl (by omega)]
    exact rw_id (hR _ _ (by rw [List.length_take]; omega))
  wtm_at "r"
  refine w_slS (by rw [strL_len]; unfold sizeLine; omega) ?_
  rw [cut_to (i := n) rfl (by omega)]
  wtm_at "r"
  refine ⟨p, 19, rfl, Strm.upd, by decide, by decide, fun z a b c z0 z1 => ?_⟩
  obtain ⟨ch, hch⟩ : ∃ ch, (Str.ofString "0123456789-- //;x\n+" : Str).cps.toList[z.toNat]? = some ch := ⟨_, List.getElem?_eq_getElem (by rw [show (Str.ofString "0123456789-- //;x\n+" : Str).cps.toList.length = 19 by decide +kernel]; omega)⟩
  refine w_ixS (by decide +kernel) (atI_n z0 hch) ?_
  refine w_addS (b := [ch]) (by rw [List.length_take]; simp; omega) ?_
  wtm_at "r"
  refine ⟨p, 2, rfl, Strm.upd, by decide, by decide, fun v a b c v0 v1 => ?_⟩
  wtm_at "r"
  refine w_slS (by rw [strL_len]; unfold sizeLine; omega) ?_
  rw [cut_from (i := n + v.toNat) (by omega)]
  refine w_addS (by rw [List.length_append, List.length_take, List.length_drop]; simp; omega) ?_
  exact rw_id (hR _ _ (by rw [List.length_append, List.length_append, List.length_take, List.length_drop]; simp; omega))
theorem sc__law_walk_sign : FnScope ["_law_text", "_law_at", "_law_sign", "_law_k"] ["_law_text", "_law_at", "_law_sign"] (defScope s__law_walk_sign) := ⟨rfl, rfl, rfl, by decide +kernel, rfl, by decide +kernel, by decide +kernel⟩
def C__law_walk_sign : Con := fun xs O R => ∃ l i s, xs = [dS l, dI (i : Nat), dS s] ∧ l.length ≤ 100000 ∧ i ≤ l.length ∧ s.length ≤ 1000 ∧ R (dP2 (expR l s i).1 (expR l s i).2) O
theorem ok__law_walk_sign (T : TopOk K mg X_InvalidText X_CoverError X_Reader) : FnD P w K mg base 1 "_law_walk_sign" ["_law_text", "_law_at", "_law_sign"] C__law_walk_sign := by
  obtain ⟨f, fd, D⟩ := T.d__law_walk_sign
  have sc := sc__law_walk_sign
  refine fnd D sc (fun xs O R h => by obtain ⟨_, _, _, rfl, _⟩ := h; rfl) fun cdv A outer s H E hr => ⟨_, (qss_cons (qs_for PassesOwn.never rfl (qi_range1 (T.b_range) (qa_cons (qe_callB call_len_str sn_lenS (T.b_len) PySem.boot_len (qa_cons (qe_var 2) qa_nil)) qa_nil)) (qg_name (i := 3) sc.nd) (qss_one (qs_if (qt_cmp op_ne sr_neS (qe_slice sl_str sl_s (qe_var 0) (qo_some (qe_op op_add sr_I0 (qe_var 1) (qe_var 3))) (qo_some (qe_op op_add sr_I0 (qe_op op_add sr_I0 (qe_var 1) (qe_var 3)) qe_int))) (qe_ix ix_str sr_ixS (qe_var 2) (qe_var 3))) (qss_one (qs_ret (qe_tup (qa_cons (qe_op op_add sr_I0 (qe_var 1) (qe_var 3)) (qa_cons qe_bl qa_nil))))) qss_nil)) (fun a b c => ps_for PassesOwn.never rfl a b c))
  (qss_one (qs_ret (qe_tup (qa_cons (qe_op op_add sr_I0 (qe_var 1) (qe_callB call_len_str sn_lenS (T.b_len) PySem.boot_len (qa_cons (qe_var 2) qa_nil))) (qa_cons qe_bl qa_nil)))))), ?_⟩
  rintro _ O R ⟨l, i, s, rfl, hz, hi, hs, hR⟩
  wtm_at "r"
  refine w_lenS (by rw [strL_len]; unfold sizeLine; omega) ?_
  wtm_at "r"
  rw [strL_len]
  refine ⟨by omega, by omega, ?_⟩
  refine w_forR (α := Unit) (lo := 0) (n := ((s.length : Nat) : Int).toNat) (fun _ => [some (dS l), some (dI (i : Int)), some (dS s), none]) (fun _ => O) (fun m _ => expR l s i = expR l (s.drop m) (i + m)) () (by wtm_at "e") rfl ?_ ?_
  · rintro m _ hm he
    have hms : m < s.length := by omega
    obtain ⟨c, hc⟩ : ∃ c, s[m]? = some c := ⟨_, List.getElem?_eq_getElem hms⟩
    wtm_at "r"
    refine w_sg (i := i + m) hz (by omega) (by omega) ?_
    wtm_at "r"
    refine w_at (i := m) (by omega) (by omega) hc ?_
    wtm_at "r"
    refine w_ndec (fun q => ?_) (fun q => ?_)
    · rw [he, exp_miss hc (fun z => q (sgn_eq.mpr z))] at hR
      wtm_at "r"
      rw [show (i : Int) + (0 + (m : Int)) = ((i + m : Nat) : Int) by omega]
      exact rw_id hR
    · wtm_at "r"
      exact ⟨(), by wtm_at "e", by rw [he, exp_hit hc (sgn_eq.mp q)]⟩
  · rintro _ he
    rw [Int.toNat_natCast, List.drop_length] at he
    rw [he] at hR
    wtm_at "r"
    refine w_lenS (by rw [strL_len]; unfold sizeLine; omega) ?_
    wtm_at "r"
    rw [strL_len, show (i : Int) + ((s.length : Nat) : Int) = ((i + s.length : Nat) : Int) by omega]
    exact rw_id hR
theorem sc__law_walk_number : FnScope ["_law_text", "_law_at", "_law_may_be_negative", "_law_begin", "_law_count"] ["_law_text", "_law_at", "_law_may_be_negative"] (defScope s__law_walk_number) := ⟨rfl, rfl, rfl, by decide +kernel, rfl, by decide +kernel, by decide +kernel⟩
def C__law_walk_number : Con := fun xs O R => ∃ l i b, xs = [dS l, dI (i : Nat), dB b] ∧ l.length ≤ 100000 ∧ i ≤ 100001 ∧ R (dP2 (num1 b l i).1 (num1 b l i).2) O
theorem ok__law_walk_number (T : TopOk K mg X_InvalidText X_CoverError X_Reader) : FnD P w K mg base 1 "_law_walk_number" ["_law_text", "_law_at", "_law_may_be_negative"] C__law_walk_number := by
  obtain ⟨f, fd, D⟩ := T.d__law_walk_number
  have sc := sc__law_walk_number
  refine fnd D sc (fun xs O R h => by obtain ⟨_, _, _, rfl, _⟩ := h; rfl) fun cdv A outer s H E hr => ⟨_, (qss_cons (qs_set (i := 3) sc.nd (qe_var 1))
  (qss_cut (qs_if (qw_pt (qw_and (qt_val (qe_var 2)) (qw_and1 (qt_cmp op_eq sr_eqS (qe_slice sl_str sl_s (qe_var 0) (qo_some (qe_var 1)) (qo_some (qe_op op_add sr_I0 (qe_var 1) qe_int))) qe_str)))) (qss_one (qs_set (i := 1) sc.nd (qe_op op_add sr_I0 (qe_var 1) qe_int))) qss_nil)
  (qss_cut (qs_if (qw_pt (qw_and (qt_cmp op_eq sr_eqS (qe_slice sl_str sl_s (qe_var 0) (qo_some (qe_var 1)) (qo_some (qe_op op_add sr_I0 (qe_var 1) qe_int))) qe_str) (qw_and1 (qt_cmp op_eq sr_eqI (qe_var 1) (qe_var 3))))) (qss_one (qs_ret (qe_tup (qa_cons (qe_op op_add sr_I0 (qe_var 1) qe_int) (qa_cons qe_bl qa_nil))))) qss_nil)
  (qss_cons (qs_set (i := 4) sc.nd qe_int)
  (qss_cons (qs_while PassesOwn.never (qw_pt (qw_and (qt_cmp op_lt sr_B0 (qe_var 1) (qe_callB call_len_str sn_lenS (T.b_len) PySem.boot_len (qa_cons (qe_var 0) qa_nil))) (qw_and (qt_cmp op_in_sign sr_inS (qe_ix ix_str sr_ixS (qe_var 0) (qe_var 1)) qe_str) (qw_and (qt_cmp op_lt sr_B0 (qe_var 4) qe_int) (qw_and1 (qt_not (qw_pt (qw_and (qt_cmp op_eq sr_eqI (qe_var 4) qe_int) (qw_and1 (qt_cmp op_eq sr_eqS (qe_ix ix_str sr_ixS (qe_var 0) (qe_var 1)) qe_str)))))))))) (qss_cons (qs_set (i := 1) sc.nd (qe_op op_add sr_I0 (qe_var 1) qe_int))
  (qss_one (qs_set (i := 4) sc.nd (qe_op op_add sr_I0 (qe_var 4) qe_int)))))
  (qss_one (qs_ret (qe_tup (qa_cons (qe_var 1) (qa_cons (qe_cmp op_gt sr_B0 (qe_var 4) qe_int) qa_nil)))))))))), ?_⟩
  rintro _ O R ⟨l, i, b, rfl, hz, hi, hR⟩
  wtm_at "r"
  generalize hbb : (if (b && decide (l[i]? = some 45)) = true then i + 1 else i) = bb
  have hbi : i ≤ bb := by rw [← hbb]; split <;> omega
  rw [num1_b hbb] at hR
  refine w_cut (α := Unit) (fun _ => [some (dS l), some (dI (bb : Int)), some (dB b), some (dI (i : Int)), none]) (fun _ => O) (fun _ => True) ?_ ?_
  · wtm_at "r"
    cases b with
    | false =>
      wtm_at "r"
      refine ⟨(), ?_, trivial⟩
      rw [← hbb]
      wtm_at "e"
    | true =>
      wtm_at "r"
      refine w_sg hz rfl rfl ?_
      wtm_at "r"
      rw [lit_dash]
      refine w_dec (fun q => ?_) (fun q => ?_)
      · have q := sgn_eq.mp q
        wtm_at "r"
        refine ⟨(), ?_, trivial⟩
        rw [← hbb, q]
        wtm_at "e"
      · have q : l[i]? ≠ some 45 := fun z => q (sgn_eq.mpr z)
        wtm_at "r"
        refine ⟨(), ?_, trivial⟩
        rw [← hbb, decide_eq_false q]
        wtm_at "e"
  rintro _ -
  wtm_at "r"
  refine w_cut (α := Unit) (fun _ => [some (dS l), some (dI (bb : Int)), some (dB b), some (dI (i : Int)), none]) (fun _ => O) (fun _ => l[bb]? = some 48 → bb ≠ i) ?_ ?_
  · wtm_at "r"
    refine w_sg hz rfl rfl ?_
    wtm_at "r"
    rw [lit_zero]
    refine w_dec (fun q => ?_) (fun q => ?_)
    · have q := sgn_eq.mp q
      wtm_at "r"
      refine w_dec (fun q2 => ?_) (fun q2 => ?_)
      · wtm_at "r"
        rw [if_pos q, if_pos (by omega)] at hR
        have e : bb = i := by omega
        rw [e]
        exact rw_id hR
      · wtm_at "r"
        exact ⟨(), by wtm_at "e", fun _ => by omega⟩
    · wtm_at "r"
      exact ⟨(), by wtm_at "e", fun z => absurd (sgn_eq.mpr z) q⟩
  rintro _ hne
  wtm_at "r"
  refine w_while (α := Nat) (fun k => [some (dS l), some (dI ((bb + k : Nat) : Int)), some (dB b), some (dI (i : Int)), some (dI (k : Int))]) (fun _ => O) (fun k => k ≤ 60 ∧ (∀ m, m < k → digAt l (bb + m) = true) ∧ (l[bb]? = some 48 → k = 0)) (fun k => 61 - k) 0 (by wtm_at "e") ⟨by omega, fun m hm => by omega, fun _ => rfl⟩ ?_
  rintro k ⟨hk, hall, hk0⟩
  have fin : (l[bb]? = some 48 ∨ k = 60 ∨ digAt l (bb + k) = false) → R (.d (.tuple [.int ((bb + k : Nat) : Int), .bool (decide ((0 : Int) < (k : Int)))])) O := fun h => by
    rw [show decide ((0 : Int) < (k : Int)) = decide (0 < k) from decide_eq_decide.mpr (by omega)]
    by_cases z : l[bb]? = some 48
    · rw [if_pos z, if_neg (hne z)] at hR
      rw [hk0 z]
      exact hR
    · rw [if_neg z, runD_eq hk hall (h.resolve_left z)] at hR
      exact hR
  wtm_at "r"
  refine w_lenS (by rw [strL_len]; unfold sizeLine; omega) ?_
  wtm_at "r"
  rw [strL_len]
  refine w_dec (fun q => ?_) (fun q => ?_)
  · have hl : bb + k < l.length := by omega
    obtain ⟨c, hc⟩ : ∃ c, l[bb + k]? = some c := ⟨_, List.getElem?_eq_getElem hl⟩
    wtm_at "r"
    refine w_at hz rfl hc ?_
    wtm_at "r"
    refine w_inS ?_
    rw [dig_in, Bool.false_bne]
    have hdc := digAt_some hc
    refine ⟨_, rfl, ?_⟩
    cases hd : isD c with
    | false =>
      wtm_at "r"
      exact rw_id (fin (.inr (.inr (by rw [hdc, hd]))))
    | true =>
      wtm_at "r"
      refine w_dec (fun q2 => ?_) (fun q2 => ?_)
      · have hdk : digAt l (bb + k) = true := by rw [hdc, hd]
        have hall2 : ∀ m, m < k + 1 → digAt l (bb + m) = true := fun m hm => by
          by_cases e : m = k
          · rw [e]; exact hdk
          · exact hall m (by omega)
        wtm_at "r"
        refine w_dec (fun q3 => ?_) (fun q3 => ?_)
        · wtm_at "r"
          refine w_at hz rfl hc ?_
          wtm_at "r"
          rw [lit_zero]
          have k0 : k = 0 := by omega
          refine w_ndec (fun q4 => ?_) (fun q4 => ?_)
          rotate_left
          · have q4 := one_eq.mp q4
            wtm_at "r"
            refine rw_id (fin (.inl ?_))
            rw [k0, Nat.add_zero] at hc
            rw [hc, q4]
          · have q4 : ¬ c = 48 := fun z => q4 (one_eq.mpr z)
            wtm_at "r"
            rw [show ((bb + k : Nat) : Int) + 1 = ((bb + (k + 1) : Nat) : Int) by omega, show (k : Int) + 1 = ((k + 1 : Nat) : Int) by omega]
            refine ⟨k + 1, by wtm_at "e", ⟨by omega, hall2, fun z => ?_⟩, by omega⟩
            rw [k0, Nat.add_zero] at hc
            rw [hc] at z
            exact absurd (Option.some.inj z) q4
        · wtm_at "r"
          rw [show ((bb + k : Nat) : Int) + 1 = ((bb + (k + 1) : Nat) : Int) by omega, show (k : Int) + 1 = ((k + 1 : Nat) : Int) by omega]
          exact ⟨k + 1, by wtm_at "e", ⟨by omega, hall2, fun z => absurd (hk0 z) (by omega)⟩, by omega⟩
      · wtm_at "r"
        exact rw_id (fin (.inr (.inl (by omega))))
  · wtm_at "r"
    exact rw_id (fin (.inr (.inr (digAt_none (List.getElem?_eq_none (by omega))))))
theorem sc__law_walk_word : FnScope ["_law_text", "_law_at", "_law_good"] ["_law_text", "_law_at"] (defScope s__law_walk_word) := ⟨rfl, rfl, rfl, by decide +kernel, rfl, by decide +kernel, by decide +kernel⟩
def C__law_walk_word : Con := fun xs O R => ∃ l, xs = [dS l, dI 0] ∧ l.length ≤ 100000 ∧ R (dP2 (wrdR l).1 (wrdR l).2.isSome) O
theorem ok__law_walk_word (T : TopOk K mg X_InvalidText X_CoverError X_Reader) : FnD P w K mg base 2 "_law_walk_word" ["_law_text", "_law_at"] C__law_walk_word := by
  obtain ⟨f, fd, D⟩ := T.d__law_walk_word
  have sc := sc__law_walk_word
  refine fnd D sc (fun xs O R h => by obtain ⟨_, rfl, _⟩ := h; rfl) fun cdv A outer s H E hr => ⟨_, (qss_cons (qs_if (qt_cmp op_eq sr_eqI (qe_var 1) (qe_callB call_len_str sn_lenS (T.b_len) PySem.boot_len (qa_cons (qe_var 0) qa_nil))) (qss_one (qs_ret (qe_tup (qa_cons (qe_var 1) (qa_cons qe_bl qa_nil))))) qss_nil)
  (qss_cons (qs_asg (qe_call (ok__law_walk_number T) hr (qa_cons (qe_var 0) (qa_cons (qe_var 1) (qa_cons qe_bl qa_nil)))) (qg_tup rfl (qgs_name (i := 1) sc.nd (qgs_name (i := 2) sc.nd qgs_nil))))
  (qss_cons (qs_while PassesOwn.never (qw_pt (qw_and (qt_val (qe_var 2)) (qw_and1 (qt_cmp op_lt sr_B0 (qe_var 1) (qe_callB call_len_str sn_lenS (T.b_len) PySem.boot_len (qa_cons (qe_var 0) qa_nil)))))) (qss_cons (qs_if (qt_cmp op_ne sr_neS (qe_ix ix_str sr_ixS (qe_var 0) (qe_var 1)) qe_str) (qss_one (qs_ret (qe_tup (qa_cons (qe_var 1) (qa_cons qe_bl qa_nil))))) qss_nil)
  (qss_one (qs_asg (qe_call (ok__law_walk_number T) hr (qa_cons (qe_var 0) (qa_cons (qe_op op_add sr_I0 (qe_var 1) qe_int) (qa_cons qe_bl qa_nil)))) (qg_tup rfl (qgs_name (i := 1) sc.nd (qgs_name (i := 2) sc.nd qgs_nil)))))))
  (qss_one (qs_ret (qe_tup (qa_cons (qe_var 1) (qa_cons (qe_var 2) qa_nil)))))))), ?_⟩
  rintro _ O R ⟨l, rfl, hz, hR⟩
  wtm_at "r"
  refine w_lenS (by rw [strL_len]; unfold sizeLine; omega) ?_
  wtm_at "r"
  rw [strL_len]
  refine w_dec (fun q => ?_) (fun q => ?_)
  · have q : l = [] := List.length_eq_zero_iff.mp (by omega)
    subst q
    rw [wrdR_nil] at hR
    wtm_at "r"
    exact rw_id hR
  have q : l ≠ [] := fun z => q (by rw [z]; rfl)
  wtm_at "r"
  refine ⟨l, 0, true, rfl, hz, by omega, ?_⟩
  obtain ⟨j0, g0, e0⟩ : ∃ a b, num1 true l 0 = (a, b) := ⟨_, _, rfl⟩
  rw [e0]
  wtm_at "r"
  refine w_while (α := Nat × Bool) (fun s => [some (dS l), some (dI (s.1 : Int)), some (dB s.2)]) (fun _ => O) (fun s => s.1 ≤ l.length + 2 ∧ ((s.2 = true ∧ ∃ f acc, wrdR l = wrdL l f s.1 acc ∧ l.length < s.1 + f ∧ s.1 ≤ l.length) ∨ (wrdR l = (s.1, none) ∧ (s.2 = false ∨ digAt l s.1 = true)))) (fun s => if s.2 = true then l.length + 3 - s.1 else 0) (j0, g0) (by wtm_at "e") ⟨num1_le (by omega) e0, ?_⟩ ?_
  · rcases num_wlk e0 with ⟨rfl, hd, hn⟩ | ⟨hn, hb⟩
    · obtain ⟨_, h1, h2, _, _, _⟩ := num_tok hn
      exact .inl ⟨rfl, _, _, wrdR_go q hn, by dsimp only; omega, h2⟩
    · exact .inr ⟨wrdR_bad q hn, hb⟩
  rintro ⟨j, g⟩ ⟨hj, hI⟩
  dsimp only at hj hI ⊢
  wtm_at "r"
  cases g with
  | false =>
    have hI := hI.resolve_left (fun z => Bool.false_ne_true z.1)
    rw [hI.1] at hR
    wtm_at "r"
    exact rw_id hR
  | true =>
    have hI2 : (∃ f acc, wrdR l = wrdL l f j acc ∧ l.length < j + f ∧ j ≤ l.length) ∨ (wrdR l = (j, none) ∧ digAt l j = true) := by
      rcases hI with ⟨_, h⟩ | ⟨h1, h2⟩
      · exact .inl h
      · exact .inr ⟨h1, h2.resolve_left (fun z => Bool.false_ne_true z.symm)⟩
    wtm_at "r"
    refine w_lenS (by rw [strL_len]; unfold sizeLine; omega) ?_
    wtm_at "r"
    rw [strL_len]
    refine w_dec (fun q1 => ?_) (fun q1 => ?_)
    · have hjl : j < l.length := by omega
      obtain ⟨c, hc⟩ : ∃ c, l[j]? = some c := ⟨_, List.getElem?_eq_getElem hjl⟩
      wtm_at "r"
      refine w_at hz rfl hc ?_
      wtm_at "r"
      rw [lit_space]
      refine w_ndec (fun q2 => ?_) (fun q2 => ?_)
      · have q2 : ¬ c = 32 := fun z => q2 (one_eq.mpr z)
        wtm_at "r"
        have e : wrdR l = (j, none) := by
          rcases hI2 with ⟨f, acc, h1, h2, _⟩ | ⟨h1, _⟩
          · obtain ⟨f, rfl⟩ : ∃ g, f = g + 1 := ⟨f - 1, by omega⟩
            exact h1.trans (wrdL_off (by rw [hc]; simp) (by rw [hc]; simpa using q2))
          · exact h1
        rw [e] at hR
        exact rw_id hR
      · have q2 : l[j]? = some 32 := by rw [hc, one_eq.mp q2]
        have hnd : digAt l j = false := by rw [digAt_some q2]; rfl
        obtain ⟨f, acc, h1, h2, h3⟩ := hI2.resolve_right (fun z => by rw [hnd] at z; exact Bool.false_ne_true z.2)
        obtain ⟨f, rfl⟩ : ∃ g, f = g + 1 := ⟨f - 1, by omega⟩
        wtm_at "r"
        refine ⟨l, j + 1, true, rfl, hz, by omega, ?_⟩
        obtain ⟨j2, g2, e2⟩ : ∃ a b, num1 true l (j + 1) = (a, b) := ⟨_, _, rfl⟩
        rw [e2]
        wtm_at "r"
        refine ⟨(j2, g2), by wtm_at "e", ⟨num1_le (by omega) e2, ?_⟩, ?_⟩
        · rcases num_wlk e2 with ⟨rfl, hd, hn⟩ | ⟨hn, hb⟩
          · obtain ⟨_, t1, t2, _, _, _⟩ := num_tok hn
            exact .inl ⟨rfl, _, _, h1.trans (wrdL_go q2 hn), by dsimp only; omega, t2⟩
          · exact .inr ⟨h1.trans (wrdL_bad q2 hn), hb⟩
        · dsimp only
          rw [if_pos rfl]
          cases g2 with
          | false => rw [if_neg Bool.false_ne_true]; omega
          | true =>
            have := num1_lt e2
            rw [if_pos rfl]
            omega
    · wtm_at "r"
      have e : ∃ acc, wrdR l = (j, some acc) := by
        rcases hI2 with ⟨f, acc, h1, h2, _⟩ | ⟨_, h2⟩
        · exact ⟨acc, h1.trans (wrdL_end (List.getElem?_eq_none (by omega)))⟩
        · have := digAt_lt h2; omega
      obtain ⟨acc, e⟩ := e
      rw [e] at hR
      exact rw_id hR
theorem sc__law_walk_list : FnScope ["_law_text", "_law_at", "_law_good"] ["_law_text", "_law_at"] (defScope s__law_walk_list) := ⟨rfl, rfl, rfl, by decide +kernel, rfl, by decide +kernel, by decide +kernel⟩
/-- what the walk over a list tells -/
def WL (l : List Nat) (i j : Nat) (g : Bool) : Prop := (∃ ts, nxR l i = (j, some ts) ∧ g = true) ∨ (nxR l i = (j, none) ∧ (g = false ∨ (digAt l j = true ∧ i < j)))
def C__law_walk_list : Con := fun xs O R => ∃ l i, xs = [dS l, dI (i : Nat)] ∧ l.length ≤ 100000 ∧ i ≤ l.length ∧ ∀ j g, WL l i j g → R (dP2 j g) O
theorem ok__law_walk_list (T : TopOk K mg X_InvalidText X_CoverError X_Reader) : FnD P w K mg base 2 "_law_walk_list" ["_law_text", "_law_at"] C__law_walk_list := by
  obtain ⟨f, fd, D⟩ := T.d__law_walk_list
  have sc := sc__law_walk_list
  refine fnd D sc (fun xs O R h => by obtain ⟨_, _, rfl, _⟩ := h; rfl) fun cdv A outer s H E hr => ⟨_, (qss_cons (qs_if (qt_cmp op_eq sr_eqS (qe_slice sl_str sl_s (qe_var 0) (qo_some (qe_var 1)) (qo_some (qe_op op_add sr_I0 (qe_var 1) qe_int))) qe_str) (qss_one (qs_ret (qe_tup (qa_cons (qe_op op_add sr_I0 (qe_var 1) qe_int) (qa_cons qe_bl qa_nil))))) qss_nil)
  (qss_cons (qs_asg (qe_call (ok__law_walk_number T) hr (qa_cons (qe_var 0) (qa_cons (qe_var 1) (qa_cons qe_bl qa_nil)))) (qg_tup rfl (qgs_name (i := 1) sc.nd (qgs_name (i := 2) sc.nd qgs_nil))))
  (qss_cons (qs_while PassesOwn.never (qw_pt (qw_and (qt_val (qe_var 2)) (qw_and (qt_cmp op_eq sr_eqS (qe_slice sl_str sl_s (qe_var 0) (qo_some (qe_var 1)) (qo_some (qe_op op_add sr_I0 (qe_var 1) qe_int))) qe_str) (qw_and1 (qt_cmp op_ne sr_neS (qe_slice sl_str sl_s (qe_var 0) (qo_some (qe_op op_add sr_I0 (qe_var 1) qe_int)) (qo_some (qe_op op_add sr_I0 (qe_var 1) qe_int))) qe_str))))) (qss_one (qs_asg (qe_call (ok__law_walk_number T) hr (qa_cons (qe_var 0) (qa_cons (qe_op op_add sr_I0 (qe_var 1) qe_int) (qa_cons qe_bl qa_nil)))) (qg_tup rfl (qgs_name (i := 1) sc.nd (qgs_name (i := 2) sc.nd qgs_nil))))))
  (qss_one (qs_ret (qe_tup (qa_cons (qe_var 1) (qa_cons (qe_var 2) qa_nil)))))))), ?_⟩
  rintro _ O R ⟨l, i, rfl, hz, hi, hR⟩
  wtm_at "r"
  refine w_sg hz rfl rfl ?_
  wtm_at "r"
  rw [lit_dash]
  refine w_dec (fun q => ?_) (fun q => ?_)
  · have q := sgn_eq.mp q
    wtm_at "r"
    exact rw_id (hR (i + 1) true (.inl ⟨[], nxR_dash q, rfl⟩))
  have q : ¬ l[i]? = some 45 := fun z => q (sgn_eq.mpr z)
  wtm_at "r"
  refine ⟨l, i, false, rfl, hz, by omega, ?_⟩
  obtain ⟨j0, g0, e0⟩ : ∃ j g, num1 false l i = (j, g) := ⟨_, _, rfl⟩
  rw [e0]
  wtm_at "r"
  refine w_while (α := Nat × Bool) (fun s => [some (dS l), some (dI (s.1 : Int)), some (dB s.2)]) (fun _ => O) (fun s => s.1 ≤ l.length + 2 ∧ (s.2 = true → i < s.1) ∧ ((s.2 = true ∧ ∃ f acc, nxR l i = nxL l f s.1 acc ∧ l.length < s.1 + f ∧ s.1 ≤ l.length) ∨ (nxR l i = (s.1, none) ∧ (s.2 = false ∨ digAt l s.1 = true)))) (fun s => if s.2 = true then l.length + 3 - s.1 else 0) (j0, g0) (by wtm_at "e") ⟨num1_le (by omega) e0, fun h => num1_lt (by dsimp only at h; rw [h] at e0; exact e0), ?_⟩ ?_
  · rcases num_wlk e0 with ⟨rfl, hd, hn⟩ | ⟨hn, hb⟩
    · obtain ⟨_, h1, h2, _, _, _⟩ := num_tok hn
      exact .inl ⟨rfl, _, _, nxR_go q hn, by dsimp only; omega, h2⟩
    · exact .inr ⟨nxR_bad q hn, hb⟩
  rintro ⟨j, g⟩ ⟨hj, hij, hI⟩
  dsimp only at hj hij hI ⊢
  wtm_at "r"
  cases g with
  | false =>
    have hI := hI.resolve_left (fun z => Bool.false_ne_true z.1)
    wtm_at "r"
    exact rw_id (hR j false (.inr ⟨hI.1, .inl rfl⟩))
  | true =>
    wtm_at "r"
    refine w_sg hz rfl rfl ?_
    wtm_at "r"
    rw [lit_space]
    have hI2 : (∃ f acc, nxR l i = nxL l f j acc ∧ l.length < j + f ∧ j ≤ l.length) ∨ (nxR l i = (j, none) ∧ digAt l j = true) := by
      rcases hI with ⟨_, h⟩ | ⟨h1, h2⟩
      · exact .inl h
      · exact .inr ⟨h1, h2.resolve_left (fun z => Bool.false_ne_true z.symm)⟩
    have fin : ¬ (l[j]? = some 32 ∧ l[j + 1]? ≠ some 47) → R (dP2 j true) O := fun hn => by
      rcases hI2 with ⟨f, acc, h1, _, _⟩ | ⟨h1, h2⟩
      · exact hR j true (.inl ⟨acc, h1.trans (nxL_end hn), rfl⟩)
      · exact hR j true (.inr ⟨h1, .inr ⟨h2, hij rfl⟩⟩)
    refine w_dec (fun q1 => ?_) (fun q1 => ?_)
    · have q1 := sgn_eq.mp q1
      have hnd : digAt l j = false := by rw [digAt_some q1]; rfl
      obtain ⟨f, acc, h1, h2, h3⟩ := hI2.resolve_right (fun z => by rw [hnd] at z; exact Bool.false_ne_true z.2)
      wtm_at "r"
      refine w_sg (i := j + 1) hz rfl (by omega) ?_
      wtm_at "r"
      rw [lit_slash]
      refine w_ndec (fun q2 => ?_) (fun q2 => ?_)
      · have q2 : l[j + 1]? ≠ some 47 := fun z => q2 (sgn_eq.mpr z)
        obtain ⟨f, rfl⟩ : ∃ g, f = g + 1 := ⟨f - 1, by have := (List.getElem?_eq_some_iff.mp q1).1; omega⟩
        wtm_at "r"
        refine ⟨l, j + 1, false, rfl, hz, by omega, ?_⟩
        obtain ⟨j2, g2, e2⟩ : ∃ a b, num1 false l (j + 1) = (a, b) := ⟨_, _, rfl⟩
        rw [e2]
        wtm_at "r"
        refine ⟨(j2, g2), by wtm_at "e", ⟨num1_le (by have := (List.getElem?_eq_some_iff.mp q1).1; omega) e2, fun h => by have := num1_lt (by dsimp only at h; rw [h] at e2; exact e2); have := hij rfl; dsimp only; omega, ?_⟩, ?_⟩
        · rcases num_wlk e2 with ⟨rfl, hd, hn⟩ | ⟨hn, hb⟩
          · obtain ⟨_, t1, t2, _, _, _⟩ := num_tok hn
            exact .inl ⟨rfl, _, _, h1.trans (nxL_go ⟨q1, q2⟩ hn), by dsimp only; omega, t2⟩
          · exact .inr ⟨h1.trans (nxL_bad ⟨q1, q2⟩ hn), hb⟩
        · dsimp only
          rw [if_pos rfl]
          cases g2 with
          | false => rw [if_neg Bool.false_ne_true]; omega
          | true =>
            have := num1_lt e2
            rw [if_pos rfl]
            omega
      · wtm_at "r"
        exact rw_id (fin fun z => z.2 (sgn_eq.mp q2))
    · wtm_at "r"
      exact rw_id (fin fun z => q1 (sgn_eq.mpr z.1))
theorem sc__law_walk_family : FnScope ["_law_text", "_law_at", "_law_end", "_law_good"] ["_law_text", "_law_at", "_law_end"] (defScope s__law_walk_family) := ⟨rfl, rfl, rfl, by decide +kernel, rfl, by decide +kernel, by decide +kernel⟩
def C__law_walk_family : Con := fun xs O R => ∃ l i, ∃ e : Option Nat, xs = [dS l, dI (i : Nat), dS e.toList] ∧ (e = none ∨ e = some 59) ∧ l.length ≤ 100000 ∧ i ≤ l.length ∧ R (dP2 (famR e l i).1 (famR e l i).2.isSome) O
theorem ok__law_walk_family (T : TopOk K mg X_InvalidText X_CoverError X_Reader) : FnD P w K mg base 3 "_law_walk_family" ["_law_text", "_law_at", "_law_end"] C__law_walk_family := by
  obtain ⟨f, fd, D⟩ := T.d__law_walk_family
  have sc := sc__law_walk_family
  refine fnd D sc (fun xs O R h => by obtain ⟨_, _, _, rfl, _⟩ := h; rfl) fun cdv A outer s H E hr => ⟨_, (qss_cons (qs_if (qt_cmp op_eq sr_eqS (qe_slice sl_str sl_s (qe_var 0) (qo_some (qe_var 1)) (qo_some (qe_op op_add sr_I0 (qe_var 1) qe_int))) (qe_var 2)) (qss_one (qs_ret (qe_tup (qa_cons (qe_var 1) (qa_cons qe_bl qa_nil))))) qss_nil)
  (qss_cons (qs_asg (qe_call (ok__law_walk_list T) hr (qa_cons (qe_var 0) (qa_cons (qe_var 1) qa_nil))) (qg_tup rfl (qgs_name (i := 1) sc.nd (qgs_name (i := 3) sc.nd qgs_nil))))
  (qss_cons (qs_while PassesOwn.never (qw_pt (qw_and (qt_val (qe_var 3)) (qw_and1 (qt_cmp op_eq sr_eqS (qe_slice sl_str sl_s (qe_var 0) (qo_some (qe_var 1)) (qo_some (qe_op op_add sr_I0 (qe_var 1) qe_int))) qe_str)))) (qss_cons (qs_if (qt_cmp op_ne sr_neS (qe_slice sl_str sl_s (qe_var 0) (qo_some (qe_op op_add sr_I0 (qe_var 1) qe_int)) (qo_some (qe_op op_add sr_I0 (qe_var 1) qe_int))) qe_str) (qss_one (qs_ret (qe_tup (qa_cons (qe_op op_add sr_I0 (qe_var 1) qe_int) (qa_cons qe_bl qa_nil))))) qss_nil)
  (qss_cons (qs_if (qt_cmp op_ne sr_neS (qe_slice sl_str sl_s (qe_var 0) (qo_some (qe_op op_add sr_I0 (qe_var 1) qe_int)) (qo_some (qe_op op_add sr_I0 (qe_var 1) qe_int))) qe_str) (qss_one (qs_ret (qe_tup (qa_cons (qe_op op_add sr_I0 (qe_var 1) qe_int) (qa_cons qe_bl qa_nil))))) qss_nil)
  (qss_one (qs_asg (qe_call (ok__law_walk_list T) hr (qa_cons (qe_var 0) (qa_cons (qe_op op_add sr_I0 (qe_var 1) qe_int) qa_nil))) (qg_tup rfl (qgs_name (i := 1) sc.nd (qgs_name (i := 3) sc.nd qgs_nil))))))))
  (qss_cut (qs_if (qw_pt (qw_and (qt_val (qe_var 3)) (qw_and1 (qt_cmp op_ne sr_neS (qe_slice sl_str sl_s (qe_var 0) (qo_some (qe_var 1)) (qo_some (qe_op op_add sr_I0 (qe_var 1) qe_int))) (qe_var 2))))) (qss_one (qs_ret (qe_tup (qa_cons (qe_var 1) (qa_cons qe_bl qa_nil))))) qss_nil)
  (qss_one (qs_ret (qe_tup (qa_cons (qe_var 1) (qa_cons (qe_var 3) qa_nil))))))))), ?_⟩
  rintro _ O R ⟨l, i, e, rfl, he, hz, hi, hR⟩
  wtm_at "r"
  refine w_sg hz rfl rfl ?_
  wtm_at "r"
  refine w_dec (fun q => ?_) (fun q => ?_)
  · have q := sgn_opt.mp q
    rw [famR_nil q] at hR
    wtm_at "r"
    exact rw_id hR
  have q : ¬ l[i]? = e := fun z => q (sgn_opt.mpr z)
  wtm_at "r"
  refine ⟨l, i, rfl, hz, hi, fun j0 g0 hw => ?_⟩
  wtm_at "r"
  have nd : ∀ {j : Nat}, digAt l j = true → l[j]? ≠ some 32 ∧ l[j]? ≠ e := fun {j} h => by
    have hc : ∃ c, l[j]? = some c := ⟨_, List.getElem?_eq_getElem (digAt_lt h)⟩
    obtain ⟨c, hc⟩ := hc
    rw [digAt_some hc] at h
    have h := isD_iff.mp h
    rw [hc]
    refine ⟨fun z => by have := Option.some.inj z; omega, fun z => ?_⟩
    rcases he with rfl | rfl
    · cases z
    · have := Option.some.inj z; omega
  refine w_while (α := Nat × Bool) (fun s => [some (dS l), some (dI (s.1 : Int)), some (dS e.toList), some (dB s.2)]) (fun _ => O) (fun s => (s.2 = true → s.1 ≤ l.length) ∧ ((s.2 = true ∧ ∃ f acc, famR e l i = famE e l (famL l f s.1 acc) ∧ l.length < s.1 + f) ∨ (famR e l i = (s.1, none) ∧ (s.2 = false ∨ digAt l s.1 = true)))) (fun s => if s.2 = true then l.length + 3 - s.1 else 0) (j0, g0) (by wtm_at "e") ?_ ?_
  · rcases hw with ⟨ts, hn, rfl⟩ | ⟨hn, hb⟩
    · obtain ⟨_, _, h1, h2⟩ := nxR_sound hn
      exact ⟨fun _ => h2, .inl ⟨rfl, _, _, famR_go q hn, by dsimp only; omega⟩⟩
    · refine ⟨fun h => ?_, .inr ⟨famR_bad q hn, hb.imp id And.left⟩⟩
      have := digAt_lt (hb.resolve_left (fun z => by dsimp only at h; rw [z] at h; cases h)).1
      dsimp only
      omega
  rintro ⟨j, g⟩ ⟨hj, hI⟩
  dsimp only at hj hI ⊢
  wtm_at "r"
  cases g with
  | false =>
    have hI := hI.resolve_left (fun z => Bool.false_ne_true z.1)
    rw [hI.1] at hR
    wtm_at "r"
    refine w_cut (α := Unit) (fun _ => [some (dS l), some (dI (j : Int)), some (dS e.toList), some (dB false)]) (fun _ => O) (fun _ => True) ?_ ?_
    · wtm_at "r"
      exact ⟨(), by wtm_at "e", trivial⟩
    · rintro _ -
      wtm_at "r"
      exact rw_id hR
  | true =>
    have hj := hj rfl
    have hI2 : (∃ f acc, famR e l i = famE e l (famL l f j acc) ∧ l.length < j + f) ∨ (famR e l i = (j, none) ∧ digAt l j = true) := by
      rcases hI with ⟨_, h⟩ | ⟨h1, h2⟩
      · exact .inl h
      · exact .inr ⟨h1, h2.resolve_left (fun z => Bool.false_ne_true z.symm)⟩
    wtm_at "r"
    refine w_sg hz rfl rfl ?_
    wtm_at "r"
    rw [lit_space]
    refine w_dec (fun q1 => ?_) (fun q1 => ?_)
    · have q1 := sgn_eq.mp q1
      have hjl := (List.getElem?_eq_some_iff.mp q1).1
      obtain ⟨f, acc, h1, h2⟩ := hI2.resolve_right (fun z => (nd z.2).1 q1)
      obtain ⟨f, rfl⟩ : ∃ g, f = g + 1 := ⟨f - 1, by omega⟩
      wtm_at "r"
      refine w_sg (i := j + 1) hz rfl (by omega) ?_
      wtm_at "r"
      rw [lit_slash]
      refine w_ndec (fun q2 => ?_) (fun q2 => ?_)
      · have q2 : ¬ l[j + 1]? = some 47 := fun z => q2 (sgn_eq.mpr z)
        rw [h1, famL_bad1 q1 q2] at hR
        wtm_at "r"
        exact rw_id hR
      have q2 := sgn_eq.mp q2
      wtm_at "r"
      refine w_sg (i := j + 2) hz rfl (by omega) ?_
      wtm_at "r"
      refine w_ndec (fun q3 => ?_) (fun q3 => ?_)
      · have q3 : ¬ l[j + 2]? = some 32 := fun z => q3 (sgn_eq.mpr z)
        rw [h1, famL_bad2 q1 q2 q3] at hR
        wtm_at "r"
        exact rw_id hR
      have q3 := sgn_eq.mp q3
      have hj3 := (List.getElem?_eq_some_iff.mp q3).1
      wtm_at "r"
      refine ⟨l, j + 3, rfl, hz, by omega, fun j2 g2 hw => ?_⟩
      wtm_at "r"
      refine ⟨(j2, g2), by wtm_at "e", ?_, ?_⟩
      · rcases hw with ⟨ts, hn, rfl⟩ | ⟨hn, hb⟩
        · obtain ⟨_, _, t1, t2⟩ := nxR_sound hn
          exact ⟨fun _ => t2, .inl ⟨rfl, _, _, h1.trans (by rw [famL_go q1 q2 q3 hn]), by dsimp only; omega⟩⟩
        · refine ⟨fun h => ?_, .inr ⟨h1.trans (by rw [famL_bad q1 q2 q3 hn]; rfl), hb.imp id And.left⟩⟩
          have := digAt_lt (hb.resolve_left (fun z => by dsimp only at h; rw [z] at h; cases h)).1
          dsimp only
          omega
      · dsimp only
        rw [if_pos rfl]
        cases g2 with
        | false => rw [if_neg Bool.false_ne_true]; omega
        | true =>
          rw [if_pos rfl]
          rcases hw with ⟨ts, hn, _⟩ | ⟨hn, hb⟩
          · have := (nxR_sound hn).2.2.1
            omega
          · have := (hb.resolve_left (fun z => by cases z)).2
            omega
    · have q1 : ¬ l[j]? = some 32 := fun z => q1 (sgn_eq.mpr z)
      wtm_at "r"
      refine w_cut (α := Unit) (fun _ => [some (dS l), some (dI (j : Int)), some (dS e.toList), some (dB true)]) (fun _ => O) (fun _ => l[j]? = e) ?_ ?_
      · wtm_at "r"
        refine w_sg hz rfl rfl ?_
        wtm_at "r"
        refine w_ndec (fun q2 => ?_) (fun q2 => ?_)
        · have q2 : ¬ l[j]? = e := fun z => q2 (sgn_opt.mpr z)
          have h : famR e l i = (j, none) := by
            rcases hI2 with ⟨f, acc, h1, _⟩ | ⟨h1, _⟩
            · rw [famL_end q1, famE_no q2] at h1
              exact h1
            · exact h1
          rw [h] at hR
          wtm_at "r"
          exact rw_id hR
        · wtm_at "r"
          exact ⟨(), by wtm_at "e", sgn_opt.mp q2⟩
      · rintro _ q2
        obtain ⟨f, acc, h1, _⟩ := hI2.resolve_right (fun z => (nd z.2).2 q2)
        rw [famL_end q1, famE_yes q2] at h1
        rw [h1] at hR
        wtm_at "r"
        exact rw_id hR
theorem sc__law_walk : FnScope ["_law_text", "_law_kind", "_law_at", "_law_good"] ["_law_text", "_law_kind"] (defScope s__law_walk) := ⟨rfl, rfl, rfl, by decide +kernel, rfl, by decide +kernel, by decide +kernel⟩
def C__law_walk : Con := fun xs O R => ∃ l k, xs = [dS l, dI k] ∧ l.length ≤ 100000 ∧ R (dP2 (resR l k).1 (resR l k).2.isSome) O
theorem ok__law_walk (T : TopOk K mg X_InvalidText X_CoverError X_Reader) : FnD P w K mg base 4 "_law_walk" ["_law_text", "_law_kind"] C__law_walk := by
  obtain ⟨f, fd, D⟩ := T.d__law_walk
  have sc := sc__law_walk
  refine fnd D sc (fun xs O R h => by obtain ⟨_, _, rfl, _⟩ := h; rfl) fun cdv A outer s H E hr => ⟨_, (qss_cons (qs_if (qt_cmp op_eq sr_eqI (qe_var 1) qe_int) (qss_one (qs_ret (qe_call (ok__law_walk_word T) hr (qa_cons (qe_var 0) (qa_cons qe_int qa_nil))))) qss_nil)
  (qss_cons (qs_if (qt_cmp op_eq sr_eqI (qe_var 1) qe_int) (qss_one (qs_ret (qe_call (ok__law_walk_family T) hr (qa_cons (qe_var 0) (qa_cons qe_int (qa_cons qe_str qa_nil)))))) qss_nil)
  (qss_cons (qs_asg (qe_call (ok__law_walk_sign T) hr (qa_cons (qe_var 0) (qa_cons qe_int (qa_cons qe_str qa_nil)))) (qg_tup rfl (qgs_name (i := 2) sc.nd (qgs_name (i := 3) sc.nd qgs_nil))))
  (qss_cut (qs_if (qt_val (qe_var 3)) (qss_one (qs_asg (qe_call (ok__law_walk_family T) hr (qa_cons (qe_var 0) (qa_cons (qe_var 2) (qa_cons qe_str qa_nil)))) (qg_tup rfl (qgs_name (i := 2) sc.nd (qgs_name (i := 3) sc.nd qgs_nil))))) qss_nil)
  (qss_cut (qs_if (qt_val (qe_var 3)) (qss_one (qs_asg (qe_call (ok__law_walk_sign T) hr (qa_cons (qe_var 0) (qa_cons (qe_var 2) (qa_cons qe_str qa_nil)))) (qg_tup rfl (qgs_name (i := 2) sc.nd (qgs_name (i := 3) sc.nd qgs_nil))))) qss_nil)
  (qss_cut (qs_if (qt_val (qe_var 3)) (qss_one (qs_asg (qe_call (ok__law_walk_family T) hr (qa_cons (qe_var 0) (qa_cons (qe_var 2) (qa_cons qe_str qa_nil)))) (qg_tup rfl (qgs_name (i := 2) sc.nd (qgs_name (i := 3) sc.nd qgs_nil))))) qss_nil)
  (qss_one (qs_ret (qe_tup (qa_cons (qe_var 2) (qa_cons (qe_var 3) qa_nil))))))))))), ?_⟩
  rintro _ O R ⟨l, k, rfl, hz, hR⟩
  unfold resR at hR
  wtm_at "r"
  refine w_dec (fun q => ?_) (fun q => ?_)
  · subst q
    rw [if_pos rfl, Option.isSome_map] at hR
    wtm_at "r"
    exact ⟨l, rfl, hz, rw_id hR⟩
  rw [if_neg q] at hR
  wtm_at "r"
  refine w_dec (fun q1 => ?_) (fun q1 => ?_)
  · subst q1
    rw [if_pos rfl, Option.isSome_map] at hR
    wtm_at "r"
    exact ⟨l, 0, none, by rw [lit_empty]; rfl, .inl rfl, hz, by omega, rw_id hR⟩
  rw [if_neg q1, Option.isSome_map] at hR
  wtm_at "r"
  refine ⟨l, 0, risL, by rw [lit_ris]; rfl, hz, by omega, by decide, ?_⟩
  obtain ⟨a1, b1, e1⟩ : ∃ a b, expR l risL 0 = (a, b) := ⟨_, _, rfl⟩
  have h1 := exp_le _ (Nat.zero_le _) e1
  rw [e1]
  wtm_at "r"
  refine w_cut (α := Nat × Bool) (fun s => [some (dS l), some (dI k), some (dI (s.1 : Int)), some (dB s.2)]) (fun _ => O) (fun s => (s.2 = true ∧ s.1 ≤ l.length ∧ ∃ k1 fs, expR l risL 0 = (k1, true) ∧ famR (some 59) l k1 = (s.1, some fs)) ∨ (s.2 = false ∧ papR2 l = (s.1, none))) ?_ ?_
  · cases b1 with
    | false =>
      wtm_at "r"
      exact ⟨(a1, false), by wtm_at "e", .inr ⟨rfl, papR_1 e1⟩⟩
    | true =>
      wtm_at "r"
      refine ⟨l, a1, some 59, by rw [lit_semi]; rfl, .inr rfl, hz, h1, ?_⟩
      obtain ⟨a2, o2, e2⟩ : ∃ a b, famR (some 59) l a1 = (a, b) := ⟨_, _, rfl⟩
      rw [e2]
      wtm_at "r"
      refine ⟨(a2, o2.isSome), by wtm_at "e", ?_⟩
      cases o2 with
      | none => exact .inr ⟨rfl, papR_2 e1 e2⟩
      | some fs => exact .inl ⟨rfl, (famR_sound h1 e2).2.2.2.1, a1, fs, e1, e2⟩
  clear e1 h1
  rintro ⟨a2, b2⟩ h2
  dsimp only at h2 ⊢
  wtm_at "r"
  refine w_cut (α := Nat × Bool) (fun s => [some (dS l), some (dI k), some (dI (s.1 : Int)), some (dB s.2)]) (fun _ => O) (fun s => (s.2 = true ∧ s.1 ≤ l.length ∧ ∃ k1 m fs, expR l risL 0 = (k1, true) ∧ famR (some 59) l k1 = (m, some fs) ∧ expR l falL m = (s.1, true)) ∨ (s.2 = false ∧ papR2 l = (s.1, none))) ?_ ?_
  · rcases h2 with ⟨rfl, h2, k1, fs, f1, f2⟩ | ⟨rfl, f1⟩
    · wtm_at "r"
      refine ⟨l, a2, falL, by rw [lit_fal], hz, h2, by decide, ?_⟩
      obtain ⟨a3, b3, e3⟩ : ∃ a b, expR l falL a2 = (a, b) := ⟨_, _, rfl⟩
      rw [e3]
      wtm_at "r"
      refine ⟨(a3, b3), by wtm_at "e", ?_⟩
      cases b3 with
      | false => exact .inr ⟨rfl, papR_3 f1 f2 e3⟩
      | true => exact .inl ⟨rfl, exp_le _ h2 e3, k1, a2, fs, f1, f2, e3⟩
    · wtm_at "r"
      exact ⟨(a2, false), by wtm_at "e", .inr ⟨rfl, f1⟩⟩
  clear h2
  rintro ⟨a3, b3⟩ h3
  dsimp only at h3 ⊢
  wtm_at "r"
  refine w_cut (α := Nat × Bool) (fun s => [some (dS l), some (dI k), some (dI (s.1 : Int)), some (dB s.2)]) (fun _ => O) (fun s => ∃ o, papR2 l = (s.1, o) ∧ s.2 = o.isSome) ?_ ?_
  · rcases h3 with ⟨rfl, h3, k1, m, fs, f1, f2, f3⟩ | ⟨rfl, f1⟩
    · wtm_at "r"
      refine ⟨l, a3, none, by rw [lit_empty]; rfl, .inl rfl, hz, h3, ?_⟩
      obtain ⟨a4, o4, e4⟩ : ∃ a b, famR none l a3 = (a, b) := ⟨_, _, rfl⟩
      rw [e4]
      wtm_at "r"
      refine ⟨(a4, o4.isSome), by wtm_at "e", ?_⟩
      cases o4 with
      | none => exact ⟨none, papR_4 f1 f2 f3 e4, rfl⟩
      | some gs => exact ⟨_, papR_5 f1 f2 f3 e4, rfl⟩
    · wtm_at "r"
      exact ⟨(a3, false), by wtm_at "e", none, f1, rfl⟩
  rintro ⟨a4, b4⟩ ⟨o, h4, h5⟩
  dsimp only at h4 h5 ⊢
  rw [h4] at hR
  subst h5
  wtm_at "r"
  exact rw_id hR
theorem sc_Reader___init__ : FnScope ["self", "text"] ["self", "text"] (defScope s_Reader___init__) := ⟨rfl, rfl, rfl, by decide +kernel, rfl, by decide +kernel, by decide +kernel⟩
theorem ri_t {A : OV} : putO "text" A [] = [(("text" : Str), A)] := rfl
theorem ri_a {A B : OV} : putO "at" B [(("text" : Str), A)] = rdG A B := by simp only [putO, if_neg rne2]; rfl
def C_Reader___init__ (X : Addr) : Con := fun xs O R => ∃ a dx l, xs = [.o a, dS l] ∧ O a = some (.ins X dx []) ∧ ∀ O', Rdr O' X a dx l 0 → El O O' a → R (.d .none) O'
theorem okb_Reader___init__ (T : TopOk K mg X_InvalidText X_CoverError X_Reader) {f : Addr} {fd : FuncData} (D : InitAtN K X_Reader "Reader.__init__" s_Reader___init__ f fd) : FnOk P w K mg base CX0 1 f fd ["self", "text"] (spOf K (C_Reader___init__ X_Reader)) := by
  have sc := sc_Reader___init__
  refine D.ok sc (fun xs O R h => by obtain ⟨_, _, _, rfl, _⟩ := h; rfl) fun cdv A outer s H E hr => ⟨_, (qss_cons (qs_asg (qe_var 1) (qg_fld T.c_Reader T.n_Reader_text (qe_var 0)))
  (qss_one (qs_asg qe_int (qg_fld T.c_Reader T.n_Reader_at (qe_var 0))))), ?_⟩
  rintro _ O R ⟨a, dx, l, rfl, ha, hR⟩
  wtm_at "r"
  refine ⟨_, _, _, rfl, ha, (by show 0 < 1000; decide), ?_⟩
  rw [ri_t]
  wtm_at "r"
  refine ⟨_, _, _, rfl, updO_same, (by show 1 < 1000; decide), ?_⟩
  rw [updO_updO, ri_a]
  wtm_at "r"
  exact rw_id (hR _ (Rdr.put rfl) El.put)
theorem ok_Reader___init__ (T : TopOk K mg X_InvalidText X_CoverError X_Reader) : FnI P w K mg base 1 X_Reader ["self", "text"] [] (C_Reader___init__ X_Reader) := by
  obtain ⟨f, fd, D⟩ := T.d_Reader___init__
  exact ⟨f, fd, minitN D (fun _ _ _ _ _ _ us hl => match us, hl with | [_, _], _ => rfl), okb_Reader___init__ T D⟩
theorem sc_Reader_sign : FnScope ["self"] ["self"] (defScope s_Reader_sign) := ⟨rfl, rfl, rfl, by decide +kernel, rfl, by decide +kernel, by decide +kernel⟩
def C_Reader_sign (X : Addr) : ConX := fun xs O R _ => ∃ a dx l i, xs = [.o a] ∧ Rdr O X a dx l i ∧ l.length ≤ 100000 ∧ R (dS (sgn l i)) O
theorem okb_Reader_sign (T : TopOk K mg X_InvalidText X_CoverError X_Reader) {f : Addr} {fd : FuncData} (D : MethAt K X_Reader "sign" "Reader.sign" s_Reader_sign f fd [] []) : FnOk P w K mg base (L2.CX P w) 1 f fd ["self"] (spX K (C_Reader_sign X_Reader)) := by
  have sc := sc_Reader_sign
  refine D.ok sc (fun xs O R RX h => by obtain ⟨_, _, _, _, rfl, _⟩ := h; rfl) fun cdv A outer s H E RX hr => ?_
  have tk := takes_of (X := cxOf (L2.CX P w) P w K mg base ["self"] "Reader.sign" (defScope s_Reader_sign) f cdv A outer s H E) (E := E) rfl rfl rfl rfl
  refine ⟨_, (qss_one (qs_ret (qe_slice sl_str sl_s (qe_fld T.c_Reader T.n_Reader_text (qe_var 0)) (qo_some (qe_fld T.c_Reader T.n_Reader_at (qe_var 0))) (qo_some (qe_op op_add sr_I0 (qe_fld T.c_Reader T.n_Reader_at (qe_var 0)) qe_int))))), ?_⟩
  rintro _ O R ⟨a, dx, l, i, rfl, hd, hz, hR⟩
  wtm_at "r"
  refine ⟨_, _, _, _, rfl, hd, rk_t, ?_⟩
  wtm_at "r"
  refine ⟨_, _, _, _, rfl, hd, rk_a, ?_⟩
  wtm_at "r"
  refine ⟨_, _, _, _, rfl, hd, rk_a, ?_⟩
  wtm_at "r"
  refine w_slS (by rw [strL_len]; unfold sizeLine; omega) ?_
  rw [cut_nat (i := i) (j := i + 1) rfl (by omega), show i + 1 - i = 1 by omega]
  exact rw_id hR
theorem ok_Reader_sign (T : TopOk K mg X_InvalidText X_CoverError X_Reader) : FnM P w K mg base 1 X_Reader "sign" ["self"] 1 [] [] (C_Reader_sign X_Reader) := by
  obtain ⟨f, fd, D⟩ := T.d_Reader_sign
  exact ⟨f, fd, mbind_all D (fun _ _ _ _ _ _ us hl => match us, hl with | [_], _ => rfl), okb_Reader_sign T D⟩
theorem sc_Reader_fail : FnScope ["self"] ["self"] (defScope s_Reader_fail) := ⟨rfl, rfl, rfl, by decide +kernel, rfl, by decide +kernel, by decide +kernel⟩
def C_Reader_fail (X E : Addr) : ConX := fun xs O _ RX => ∃ a dx l i, xs = [.o a] ∧ Rdr O X a dx l i ∧ Bad RX E O a i
theorem okb_Reader_fail (T : TopOk K mg X_InvalidText X_CoverError X_Reader) {f : Addr} {fd : FuncData} (D : MethAt K X_Reader "fail" "Reader.fail" s_Reader_fail f fd [] []) : FnOk P w K mg base (L2.CX P w) 3 f fd ["self"] (spX K (C_Reader_fail X_Reader X_InvalidText)) := by
  have sc := sc_Reader_fail
  refine D.ok sc (fun xs O R RX h => by obtain ⟨_, _, _, _, rfl, _⟩ := h; rfl) fun cdv A outer s H E RX hr => ?_
  have tk := takes_of (X := cxOf (L2.CX P w) P w K mg base ["self"] "Reader.fail" (defScope s_Reader_fail) f cdv A outer s H E) (E := E) rfl rfl rfl rfl
  refine ⟨_, (qss_one (qs_raiseX (xi_InvalidText T) tk hr (qa_cons (qe_fld T.c_Reader T.n_Reader_at (qe_var 0)) qa_nil))), ?_⟩
  rintro _ O R ⟨a, dx, l, i, rfl, hd, hB⟩
  wtm_at "r"
  refine ⟨_, _, _, _, rfl, hd, rk_a, ?_⟩
  wtm_at "r"
  intro d hdn
  exact hB _ d (fun b u hb _ => sub_upd hdn b u hb) updO_same
theorem ok_Reader_fail (T : TopOk K mg X_InvalidText X_CoverError X_Reader) : FnM P w K mg base 3 X_Reader "fail" ["self"] 1 [] [] (C_Reader_fail X_Reader X_InvalidText) := by
  obtain ⟨f, fd, D⟩ := T.d_Reader_fail
  exact ⟨f, fd, mbind_all D (fun _ _ _ _ _ _ us hl => match us, hl with | [_], _ => rfl), okb_Reader_fail T D⟩
theorem sc_Reader_expect : FnScope ["self", "signs", "sign"] ["self", "signs"] (defScope s_Reader_expect) := ⟨rfl, rfl, rfl, by decide +kernel, rfl, by decide +kernel, by decide +kernel⟩
def C_Reader_expect (X E : Addr) : ConX := fun xs O R RX => ∃ a dx l i s, xs = [.o a, dS s] ∧ Rdr O X a dx l i ∧ l.length ≤ 100000 ∧ s.length ≤ 1000 ∧ (∀ j, expR l s i = (j, true) → ∀ O', Rdr O' X a dx l j → El O O' a → R (.d .none) O') ∧ ∀ j, expR l s i = (j, false) → Bad RX E O a j
theorem okb_Reader_expect (T : TopOk K mg X_InvalidText X_CoverError X_Reader) {f : Addr} {fd : FuncData} (D : MethAt K X_Reader "expect" "Reader.expect" s_Reader_expect f fd [] []) : FnOk P w K mg base (L2.CX P w) 4 f fd ["self", "signs"] (spX K (C_Reader_expect X_Reader X_InvalidText)) := by
  have sc := sc_Reader_expect
  refine D.ok sc (fun xs O R RX h => by obtain ⟨_, _, _, _, _, rfl, _⟩ := h; rfl) fun cdv A outer s H E RX hr => ?_
  have tk := takes_of (X := cxOf (L2.CX P w) P w K mg base ["self", "signs", "sign"] "Reader.expect" (defScope s_Reader_expect) f cdv A outer s H E) (E := E) rfl rfl rfl rfl
  refine ⟨_, (qss_one (qs_for (passes_of rfl) rfl (qi_str (qe_var 1)) (qg_name (i := 2) sc.nd) (qss_cut (qs_if (qt_cmp op_ne sr_neS (qe_meth0 T.c_Reader (ok_Reader_sign T) dvs_nil hr (qe_var 0)) (qe_var 2)) (qss_one (qs_expr (qe_methX0 tk T.c_Reader (ok_Reader_fail T) dvs_nil hr (qe_var 0)))) qss_nil)
  (qss_one (qs_fldAug T.c_Reader T.n_Reader_at (qe_var 0) qe_int))) (fun a b c => ps_for (passes_of rfl) rfl a b c))), ?_⟩
  rintro _ O R ⟨a, dx, l, i, s, rfl, hd, hz, hs, hR, hB⟩
  wtm_at "r"
  refine w_forS (α := Oh) (l := s) (fun _ => [some (.o a), some (dS s), none]) (fun h => h) (fun m h => Rdr h X_Reader a dx l (i + m) ∧ El O h a ∧ expR l s i = expR l (s.drop m) (i + m)) O (by wtm_at "e") ⟨hd, El.refl, rfl⟩ ?_ ?_
  · rintro m h c hc ⟨hd, hE, he⟩
    wtm_at "r"
    refine w_cut (α := Unit) (fun _ => [some (.o a), some (dS s), some (.d (.str ⟨#[c]⟩))]) (fun _ => h) (fun _ => l[i + m]? = some c) ?_ ?_
    · wtm_at "r"
      refine ⟨_, _, _, rfl, hd, rk_no (by decide +kernel) (by decide +kernel), ?_⟩
      wtm_at "r"
      refine ⟨rfl, rfl, ?_⟩
      refine ⟨a, dx, l, i + m, rfl, hd, hz, ?_⟩
      wtm_at "r"
      refine w_ndec (fun q => ?_) (fun q => ?_)
      · wtm_at "r"
        refine ⟨_, _, _, rfl, hd, rk_no (by decide +kernel) (by decide +kernel), ?_⟩
        wtm_at "r"
        refine ⟨rfl, rfl, ?_⟩
        refine ⟨a, dx, l, i + m, rfl, hd, ?_⟩
        exact (hB (i + m) (by rw [he, exp_miss hc (fun z => q (sgn_eq.mpr z))])).up hE.sub
      · wtm_at "r"
        exact ⟨(), by wtm_at "e", sgn_eq.mp q⟩
    rintro _ q
    wtm_at "r"
    refine ⟨_, _, _, _, rfl, hd, rk_a, ?_⟩
    wtm_at "r"
    refine ⟨1, _, _, rfl, hd, rdG_len, ?_⟩
    rw [rt_a]
    wtm_at "r"
    exact ⟨_, by wtm_at "e", Rdr.put (by omega), hE.trans El.put, by rw [he, exp_hit hc q]⟩
  · rintro h ⟨hd, hE, he⟩
    rw [List.drop_length] at he
    wtm_at "r"
    exact rw_id (hR _ he h hd hE)
theorem ok_Reader_expect (T : TopOk K mg X_InvalidText X_CoverError X_Reader) : FnM P w K mg base 4 X_Reader "expect" ["self", "signs"] 2 [] [] (C_Reader_expect X_Reader X_InvalidText) := by
  obtain ⟨f, fd, D⟩ := T.d_Reader_expect
  exact ⟨f, fd, mbind_all D (fun _ _ _ _ _ _ us hl => match us, hl with | [_, _], _ => rfl), okb_Reader_expect T D⟩
theorem sc_Reader_at_digit : FnScope ["self"] ["self"] (defScope s_Reader_at_digit) := ⟨rfl, rfl, rfl, by decide +kernel, rfl, by decide +kernel, by decide +kernel⟩
def C_Reader_at_digit (X : Addr) : ConX := fun xs O R _ => ∃ a dx l i, xs = [.o a] ∧ Rdr O X a dx l i ∧ l.length ≤ 100000 ∧ R (dB (digAt l i)) O
theorem okb_Reader_at_digit (T : TopOk K mg X_InvalidText X_CoverError X_Reader) {f : Addr} {fd : FuncData} (D : MethAt K X_Reader "at_digit" "Reader.at_digit" s_Reader_at_digit f fd [] []) : FnOk P w K mg base (L2.CX P w) 2 f fd ["self"] (spX K (C_Reader_at_digit X_Reader)) := by
  have sc := sc_Reader_at_digit
  refine D.ok sc (fun xs O R RX h => by obtain ⟨_, _, _, _, rfl, _⟩ := h; rfl) fun cdv A outer s H E RX hr => ?_
  have tk := takes_of (X := cxOf (L2.CX P w) P w K mg base ["self"] "Reader.at_digit" (defScope s_Reader_at_digit) f cdv A outer s H E) (E := E) rfl rfl rfl rfl
  refine ⟨_, (qss_one (qs_ret (qe_and (qe_cmp op_ne sr_neS (qe_meth0 T.c_Reader (ok_Reader_sign T) dvs_nil hr (qe_var 0)) qe_str) (qe_one (qe_cmp op_in_sign sr_inS (qe_meth0 T.c_Reader (ok_Reader_sign T) dvs_nil hr (qe_var 0)) (qe_globD T.g_DIGITS)))))), ?_⟩
  rintro _ O R ⟨a, dx, l, i, rfl, hd, hz, hR⟩
  wtm_at "r"
  refine ⟨_, _, _, rfl, hd, rk_no (by decide +kernel) (by decide +kernel), ?_⟩
  wtm_at "r"
  refine ⟨rfl, rfl, ?_⟩
  refine ⟨a, dx, l, i, rfl, hd, hz, ?_⟩
  wtm_at "r"
  rw [lit_empty]
  refine w_ndec (fun h => ?_) (fun h => ?_)
  · obtain ⟨c, hc⟩ : ∃ c, l[i]? = some c := by
      cases e : l[i]? with
      | none => exact absurd (sgn_end.mpr e) h
      | some c => exact ⟨c, rfl⟩
    wtm_at "r"
    refine ⟨_, _, _, rfl, hd, rk_no (by decide +kernel) (by decide +kernel), ?_⟩
    wtm_at "r"
    refine ⟨rfl, rfl, ?_⟩
    refine ⟨a, dx, l, i, rfl, hd, hz, ?_⟩
    wtm_at "r"
    rw [sgn_some hc]
    refine w_inS ?_
    rw [dig_in, Bool.false_bne, ← digAt_some hc]
    exact rw_id hR
  · rw [digAt_none (sgn_end.mp h)] at hR
    exact rw_id hR
theorem ok_Reader_at_digit (T : TopOk K mg X_InvalidText X_CoverError X_Reader) : FnM P w K mg base 2 X_Reader "at_digit" ["self"] 1 [] [] (C_Reader_at_digit X_Reader) := by
  obtain ⟨f, fd, D⟩ := T.d_Reader_at_digit
  exact ⟨f, fd, mbind_all D (fun _ _ _ _ _ _ us hl => match us, hl with | [_], _ => rfl), okb_Reader_at_digit T D⟩
theorem sc_Reader_number : FnScope ["self", "is_index", "begin", "first"] ["self", "is_index"] (defScope s_Reader_number) := ⟨rfl, rfl, rfl, by decide +kernel, rfl, by decide +kernel, by decide +kernel⟩
theorem numR_no {neg : Bool} {l : List Nat} {i j : Nat} (h : num1 neg l i = (j, false) ∨ num1 neg l i = (j, true) ∧ digAt l j = true) : numR neg l i = (j, none) := by
  unfold numR
  rcases h with h | ⟨h, hd⟩
  · rw [h]; rfl
  · rw [h]; simp only [hd]; rfl
theorem numR_yes {neg : Bool} {l : List Nat} {i j : Nat} (h : num1 neg l i = (j, true)) (hd : digAt l j = false) : numR neg l i = (j, some (slc l i j)) := by
  unfold numR
  rw [h]
  simp only [hd]
  rfl
def C_Reader_number (X E : Addr) : ConX := fun xs O R RX => ∃ a dx l i, ∃ b : Bool, xs = [.o a, dB b] ∧ Rdr O X a dx l i ∧ l.length ≤ 100000 ∧ (∀ j t, numR (!b) l i = (j, some t) → ∀ O', Rdr O' X a dx l j → El O O' a → R (dI (tokV t)) O') ∧ ∀ j, numR (!b) l i = (j, none) → Bad RX E O a j
theorem okb_Reader_number (T : TopOk K mg X_InvalidText X_CoverError X_Reader) {f : Addr} {fd : FuncData} (D : MethAt K X_Reader "number" "Reader.number" s_Reader_number f fd [] []) : FnOk P w K mg base (L2.CX P w) 4 f fd ["self", "is_index"] (spX K (C_Reader_number X_Reader X_InvalidText)) := by
  have sc := sc_Reader_number
  refine D.ok sc (fun xs O R RX h => by obtain ⟨_, _, _, _, _, rfl, _⟩ := h; rfl) fun cdv A outer s H E RX hr => ?_
  have tk := takes_of (X := cxOf (L2.CX P w) P w K mg base ["self", "is_index", "begin", "first"] "Reader.number" (defScope s_Reader_number) f cdv A outer s H E) (E := E) rfl rfl rfl rfl
  refine ⟨_, (qss_cons (qs_set (i := 2) sc.nd (qe_fld T.c_Reader T.n_Reader_at (qe_var 0)))
  (qss_cut (qs_if (qw_pt (qw_and (qt_cmp op_eq sr_eqS (qe_meth0 T.c_Reader (ok_Reader_sign T) dvs_nil hr (qe_var 0)) qe_str) (qw_and1 (qt_not (qt_val (qe_var 1)))))) (qss_one (qs_fldAug T.c_Reader T.n_Reader_at (qe_var 0) qe_int)) qss_nil)
  (qss_cons (qs_set (i := 3) sc.nd (qe_fld T.c_Reader T.n_Reader_at (qe_var 0)))
  (qss_cut (qs_if (qw_pt (qw_or (qt_not (qt_val (qe_meth0 T.c_Reader (ok_Reader_at_digit T) dvs_nil hr (qe_var 0)))) (qw_or1 (qw_pt (qw_and (qt_cmp op_eq sr_eqS (qe_meth0 T.c_Reader (ok_Reader_sign T) dvs_nil hr (qe_var 0)) qe_str) (qw_and1 (qt_cmp op_gt sr_B0 (qe_var 3) (qe_var 2)))))))) (qss_one (qs_expr (qe_methX0 tk T.c_Reader (ok_Reader_fail T) dvs_nil hr (qe_var 0)))) qss_nil)
  (qss_cons (qs_while (passes_of rfl) (qt_val (qe_meth0 T.c_Reader (ok_Reader_at_digit T) dvs_nil hr (qe_var 0))) (qss_cut (qs_if (qw_pt (qw_or (qt_cmp op_eq sr_eqI (qe_fld T.c_Reader T.n_Reader_at (qe_var 0)) (qe_op op_add sr_I0 (qe_var 3) (qe_globD T.g_DIGIT_LIMIT))) (qw_or1 (qw_pt (qw_and (qt_cmp op_eq sr_eqI (qe_fld T.c_Reader T.n_Reader_at (qe_var 0)) (qe_op op_add sr_I0 (qe_var 3) qe_int)) (qw_and1 (qt_cmp op_eq sr_eqS (qe_ix ix_str sr_ixS (qe_fld T.c_Reader T.n_Reader_text (qe_var 0)) (qe_var 3)) qe_str))))))) (qss_one (qs_expr (qe_methX0 tk T.c_Reader (ok_Reader_fail T) dvs_nil hr (qe_var 0)))) qss_nil)
  (qss_one (qs_fldAug T.c_Reader T.n_Reader_at (qe_var 0) qe_int))))
  (qss_one (qs_ret (qe_callTy call_int_str sn_intS (T.b_int) (by decide +kernel) (qa_cons (qe_slice sl_str sl_s (qe_fld T.c_Reader T.n_Reader_text (qe_var 0)) (qo_some (qe_var 2)) (qo_some (qe_fld T.c_Reader T.n_Reader_at (qe_var 0)))) qa_nil))))))))), ?_⟩
  rintro _ O R ⟨a, dx, l, i, b, rfl, hd, hz, hR, hB⟩
  wtm_at "r"
  refine ⟨_, _, _, _, rfl, hd, rk_a, ?_⟩
  wtm_at "r"
  generalize hbb : (if (!b && decide (l[i]? = some 45)) = true then i + 1 else i) = bb
  have hbi : i ≤ bb := by rw [← hbb]; split <;> omega
  have hn1 := num1_b hbb
  refine w_cut (α := Oh) (fun _ => [some (.o a), some (dB b), some (dI (i : Int)), none]) (fun h => h) (fun h => Rdr h X_Reader a dx l bb ∧ El O h a) ?_ ?_
  · wtm_at "r"
    refine ⟨_, _, _, rfl, hd, rk_no (by decide +kernel) (by decide +kernel), ?_⟩
    wtm_at "r"
    refine ⟨rfl, rfl, ?_⟩
    refine ⟨a, dx, l, i, rfl, hd, hz, ?_⟩
    wtm_at "r"
    rw [lit_dash]
    refine w_dec (fun q => ?_) (fun q => ?_)
    · have q := sgn_eq.mp q
      wtm_at "r"
      cases b with
      | true =>
        wtm_at "r"
        refine ⟨O, by wtm_at "e", ?_, El.refl⟩
        rw [← hbb]
        exact hd
      | false =>
        wtm_at "r"
        refine ⟨_, _, _, _, rfl, hd, rk_a, ?_⟩
        wtm_at "r"
        refine ⟨1, _, _, rfl, hd, rdG_len, ?_⟩
        rw [rt_a]
        wtm_at "r"
        refine ⟨_, by wtm_at "e", Rdr.put ?_, El.put⟩
        rw [← hbb, q]
        simp
    · have q : l[i]? ≠ some 45 := fun z => q (sgn_eq.mpr z)
      wtm_at "r"
      refine ⟨O, by wtm_at "e", ?_, El.refl⟩
      rw [← hbb, decide_eq_false q, Bool.and_false, if_neg Bool.false_ne_true]
      exact hd
  clear hd
  rintro h0 ⟨hd, hE⟩
  wtm_at "r"
  refine ⟨_, _, _, _, rfl, hd, rk_a, ?_⟩
  wtm_at "r"
  refine w_cut (α := Unit) (fun _ => [some (.o a), some (dB b), some (dI (i : Int)), some (dI (bb : Int))]) (fun _ => h0) (fun _ => digAt l bb = true ∧ (l[bb]? = some 48 → bb = i)) ?_ ?_
  · wtm_at "r"
    refine ⟨_, _, _, rfl, hd, rk_no (by decide +kernel) (by decide +kernel), ?_⟩
    wtm_at "r"
    refine ⟨rfl, rfl, ?_⟩
    refine ⟨a, dx, l, bb, rfl, hd, hz, ?_⟩
    wtm_at "r"
    cases hdg : digAt l bb with
    | false =>
      have hz1 : l[bb]? ≠ some 48 := fun z => by rw [digAt_some z] at hdg; cases hdg
      have hr0 : runD l bb = 0 := runD_eq (by omega) (fun m hm => by omega) (.inr hdg)
      wtm_at "r"
      refine ⟨_, _, _, rfl, hd, rk_no (by decide +kernel) (by decide +kernel), ?_⟩
      wtm_at "r"
      refine ⟨rfl, rfl, ?_⟩
      refine ⟨a, dx, l, bb, rfl, hd, ?_⟩
      exact (hB bb (numR_no (.inl (by rw [hn1, if_neg hz1, hr0]; rfl)))).up hE.sub
    | true =>
      wtm_at "r"
      refine ⟨_, _, _, rfl, hd, rk_no (by decide +kernel) (by decide +kernel), ?_⟩
      wtm_at "r"
      refine ⟨rfl, rfl, ?_⟩
      refine ⟨a, dx, l, bb, rfl, hd, hz, ?_⟩
      wtm_at "r"
      rw [lit_zero]
      refine w_dec (fun q => ?_) (fun q => ?_)
      · have q := sgn_eq.mp q
        wtm_at "r"
        refine w_dec (fun q2 => ?_) (fun q2 => ?_)
        · wtm_at "r"
          refine ⟨_, _, _, rfl, hd, rk_no (by decide +kernel) (by decide +kernel), ?_⟩
          wtm_at "r"
          refine ⟨rfl, rfl, ?_⟩
          refine ⟨a, dx, l, bb, rfl, hd, ?_⟩
          exact (hB bb (numR_no (.inl (by rw [hn1, if_pos q, if_neg (by omega)])))).up hE.sub
        · wtm_at "r"
          exact ⟨(), by wtm_at "e", rfl, fun _ => by omega⟩
      · wtm_at "r"
        exact ⟨(), by wtm_at "e", rfl, fun z => absurd (sgn_eq.mpr z) q⟩
  rintro _ ⟨hdg, hz0⟩
  wtm_at "r"
  refine w_while (α := Nat × Oh) (fun _ => [some (.o a), some (dB b), some (dI (i : Int)), some (dI (bb : Int))]) (fun s => s.2) (fun s => Rdr s.2 X_Reader a dx l (bb + s.1) ∧ El O s.2 a ∧ s.1 ≤ 60 ∧ (∀ m, m < s.1 → digAt l (bb + m) = true) ∧ (l[bb]? = some 48 → s.1 ≤ 1)) (fun s => 61 - s.1) (0, h0) (by wtm_at "e") ⟨hd, hE, by omega, fun m hm => by omega, fun _ => by omega⟩ ?_
  clear hd hE
  rintro ⟨k, h⟩ ⟨hd, hE, hk, hall, hk1⟩
  dsimp only at hd hE hk hall hk1 ⊢
  wtm_at "r"
  refine ⟨_, _, _, rfl, hd, rk_no (by decide +kernel) (by decide +kernel), ?_⟩
  wtm_at "r"
  refine ⟨rfl, rfl, ?_⟩
  refine ⟨a, dx, l, bb + k, rfl, hd, hz, ?_⟩
  wtm_at "r"
  cases hdk : digAt l (bb + k) with
  | true =>
    wtm_at "r"
    have h60 : k = 60 → numR (!b) l i = (bb + k, none) := fun e => by
      have hz1 : l[bb]? ≠ some 48 := fun z => by have := hk1 z; omega
      have hr : runD l bb = k := runD_eq hk hall (.inl e)
      refine numR_no (.inr ⟨?_, hdk⟩)
      rw [hn1, if_neg hz1, hr, decide_eq_true (by omega)]
    have h48 : k = 1 → l[bb]? = some 48 → numR (!b) l i = (bb + k, none) := fun e z => by
      refine numR_no (.inr ⟨?_, hdk⟩)
      rw [hn1, if_pos z, if_pos (hz0 z), hz0 z, e]
    refine w_cut (α := Unit) (fun _ => [some (.o a), some (dB b), some (dI (i : Int)), some (dI (bb : Int))]) (fun _ => h) (fun _ => k < 60 ∧ (l[bb]? = some 48 → k ≠ 1)) ?_ ?_
    · wtm_at "r"
      refine ⟨_, _, _, _, rfl, hd, rk_a, ?_⟩
      wtm_at "r"
      refine w_dec (fun q => ?_) (fun q => ?_)
      · wtm_at "r"
        refine ⟨_, _, _, rfl, hd, rk_no (by decide +kernel) (by decide +kernel), ?_⟩
        wtm_at "r"
        refine ⟨rfl, rfl, ?_⟩
        refine ⟨a, dx, l, bb + k, rfl, hd, ?_⟩
        exact (hB _ (h60 (by omega))).up hE.sub
      · wtm_at "r"
        refine ⟨_, _, _, _, rfl, hd, rk_a, ?_⟩
        wtm_at "r"
        refine w_dec (fun q2 => ?_) (fun q2 => ?_)
        · wtm_at "r"
          refine ⟨_, _, _, _, rfl, hd, rk_t, ?_⟩
          wtm_at "r"
          obtain ⟨c, hc⟩ : ∃ c, l[bb]? = some c := ⟨_, List.getElem?_eq_getElem (digAt_lt hdg)⟩
          refine ⟨_, _, c, rfl, rfl, by rw [strL_len]; unfold sizeLine; omega, atI_n (i := (bb : Int)) (by omega) (by rw [Int.toNat_natCast]; exact hc), ?_⟩
          wtm_at "r"
          rw [lit_zero]
          refine w_dec (fun q3 => ?_) (fun q3 => ?_)
          · have q3 := one_eq.mp q3
            wtm_at "r"
            refine ⟨_, _, _, rfl, hd, rk_no (by decide +kernel) (by decide +kernel), ?_⟩
            wtm_at "r"
            refine ⟨rfl, rfl, ?_⟩
            refine ⟨a, dx, l, bb + k, rfl, hd, ?_⟩
            exact (hB _ (h48 (by omega) (by rw [hc, q3]))).up hE.sub
          · wtm_at "r"
            exact ⟨(), by wtm_at "e", by omega, fun z => absurd (one_eq.mpr (by rw [hc] at z; exact Option.some.inj z)) q3⟩
        · wtm_at "r"
          exact ⟨(), by wtm_at "e", by omega, fun _ => by omega⟩
    rintro _ ⟨q1, q2⟩
    wtm_at "r"
    refine ⟨_, _, _, _, rfl, hd, rk_a, ?_⟩
    wtm_at "r"
    refine ⟨1, _, _, rfl, hd, rdG_len, ?_⟩
    rw [rt_a]
    wtm_at "r"
    refine ⟨(k + 1, _), by wtm_at "e", ⟨Rdr.put (by omega), hE.trans El.put, by dsimp only; omega, fun m hm => ?_, fun z => ?_⟩, by dsimp only; omega⟩
    · by_cases e : m = k
      · rw [e]; exact hdk
      · exact hall m (by dsimp only at hm; omega)
    · have := hk1 z
      have := q2 z
      dsimp only
      omega
  | false =>
    have hk0 : 0 < k := Nat.pos_of_ne_zero fun z => by rw [z, Nat.add_zero, hdg] at hdk; cases hdk
    have hy : numR (!b) l i = (bb + k, some (slc l i (bb + k))) := by
      refine numR_yes ?_ hdk
      rw [hn1]
      by_cases z : l[bb]? = some 48
      · have := hk1 z
        rw [if_pos z, if_pos (hz0 z), hz0 z, show k = 1 by omega]
      · rw [if_neg z, runD_eq hk hall (.inr hdk), decide_eq_true hk0]
    have ht := (num_tok hy).1
    wtm_at "r"
    refine ⟨_, _, _, _, rfl, hd, rk_t, ?_⟩
    wtm_at "r"
    refine ⟨_, _, _, _, rfl, hd, rk_a, ?_⟩
    wtm_at "r"
    refine w_slS (by rw [strL_len]; unfold sizeLine; omega) ?_
    rw [cut_nat (i := i) (j := bb + k) rfl (by omega)]
    wtm_at "r"
    refine ⟨_, _, rfl, tok_int ht, by rw [strL_len]; have := tok_len ht; unfold slc at this; omega, ?_⟩
    exact rw_id (hR _ _ hy h hd hE)
theorem ok_Reader_number_K (T : TopOk K mg X_InvalidText X_CoverError X_Reader) : FnM P w K mg base 4 X_Reader "number" ["self", "is_index"] 1 ["is_index"] [] (C_Reader_number X_Reader X_InvalidText) := by
  obtain ⟨f, fd, D⟩ := T.d_Reader_number
  exact ⟨f, fd, mbind_kw D 1 ["is_index"] (fun _ _ _ _ _ _ us ws hl hw => match us, ws, hl, hw with | [_], [_], _, _ => rfl), okb_Reader_number T D⟩
theorem sc_Reader_indexes : FnScope ["self", "told"] ["self"] (defScope s_Reader_indexes) := ⟨rfl, rfl, rfl, by decide +kernel, rfl, by decide +kernel, by decide +kernel⟩
def C_Reader_indexes (X E : Addr) : ConX := fun xs O R RX => ∃ a dx l i, xs = [.o a] ∧ Rdr O X a dx l i ∧ l.length ≤ 100000 ∧ (∀ j ts, nxR l i = (j, some ts) → ∀ O' q, Rdr O' X a dx l j → Fr O O' a → O q = none → O' q = some (.lst (Zs (vT ts))) → R (.o q) O') ∧ ∀ j, nxR l i = (j, none) → Bad RX E O a j
theorem okb_Reader_indexes (T : TopOk K mg X_InvalidText X_CoverError X_Reader) {f : Addr} {fd : FuncData} (D : MethAt K X_Reader "indexes" "Reader.indexes" s_Reader_indexes f fd [] []) : FnOk P w K mg base (L2.CX P w) 5 f fd ["self"] (spX K (C_Reader_indexes X_Reader X_InvalidText)) := by
  have sc := sc_Reader_indexes
  refine D.ok sc (fun xs O R RX h => by obtain ⟨_, _, _, _, rfl, _⟩ := h; rfl) fun cdv A outer s H E RX hr => ?_
  have tk := takes_of (X := cxOf (L2.CX P w) P w K mg base ["self", "told"] "Reader.indexes" (defScope s_Reader_indexes) f cdv A outer s H E) (E := E) rfl rfl rfl rfl
  refine ⟨_, (qss_cons (qs_if (qt_cmp op_eq sr_eqS (qe_meth0 T.c_Reader (ok_Reader_sign T) dvs_nil hr (qe_var 0)) qe_str) (qss_cons (qs_fldAug T.c_Reader T.n_Reader_at (qe_var 0) qe_int)
  (qss_one (qs_ret (qe_lst qa_nil)))) qss_nil)
  (qss_cons (qs_set (i := 1) sc.nd (qe_lst (qa_cons (qe_methXK0 tk T.c_Reader (ok_Reader_number_K T) dvs_nil hr (qe_var 0) (qk_cons qe_bl qk_nil)) qa_nil)))
  (qss_cons (qs_while (passes_of rfl) (qw_pt (qw_and (qt_cmp op_eq sr_eqS (qe_meth0 T.c_Reader (ok_Reader_sign T) dvs_nil hr (qe_var 0)) qe_str) (qw_and1 (qt_cmp op_ne sr_neS (qe_slice sl_str sl_s (qe_fld T.c_Reader T.n_Reader_text (qe_var 0)) (qo_some (qe_op op_add sr_I0 (qe_fld T.c_Reader T.n_Reader_at (qe_var 0)) qe_int)) (qo_some (qe_op op_add sr_I0 (qe_fld T.c_Reader T.n_Reader_at (qe_var 0)) qe_int))) qe_str)))) (qss_cons (qs_fldAug T.c_Reader T.n_Reader_at (qe_var 0) qe_int)
  (qss_one (qs_expr (qe_bm PySem.F.plainAttrs_list PySem.F.slot_list_append PySem.F.type_list_append mt_append sm_append (qe_var 1) (qa_cons (qe_methXK0 tk T.c_Reader (ok_Reader_number_K T) dvs_nil hr (qe_var 0) (qk_cons qe_bl qk_nil)) qa_nil))))))
  (qss_one (qs_ret (qe_var 1)))))), ?_⟩
  rintro _ O R ⟨a, dx, l, i, rfl, hd, hz, hR, hB⟩
  wtm_at "r"
  refine ⟨_, _, _, rfl, hd, rk_no (by decide +kernel) (by decide +kernel), ?_⟩
  wtm_at "r"
  refine ⟨rfl, rfl, ?_⟩
  refine ⟨a, dx, l, i, rfl, hd, hz, ?_⟩
  wtm_at "r"
  rw [lit_dash]
  refine w_dec (fun q => ?_) (fun q => ?_)
  · have q := sgn_eq.mp q
    wtm_at "r"
    refine ⟨_, _, _, _, rfl, hd, rk_a, ?_⟩
    wtm_at "r"
    refine ⟨1, _, _, rfl, hd, rdG_len, ?_⟩
    rw [rt_a]
    wtm_at "r"
    intro p hp
    have pa : p ≠ a := fun z => by rw [z, updO_same] at hp; cases hp
    have hp0 : O p = none := (updO_ne pa).symm.trans hp
    exact rw_id (hR (i + 1) [] (nxR_dash q) _ p ((Rdr.put (by omega)).ne pa) ((Fr.refl (O := O) (a := a)).put.new hp0) hp0 updO_same)
  have q : ¬ l[i]? = some 45 := fun z => q (sgn_eq.mpr z)
  wtm_at "r"
  refine ⟨_, _, _, rfl, hd, rk_no (by decide +kernel) (by decide +kernel), ?_⟩
  wtm_at "r"
  refine ⟨rfl, rfl, ?_⟩
  refine ⟨a, dx, l, i, true, rfl, hd, hz, fun j t hj O1 hd1 hE1 => ?_, fun j hj => hB j (nxR_bad q hj)⟩
  have hi := nxR_go q hj
  obtain ⟨_, t2, t3, _, _, _⟩ := num_tok hj
  wtm_at "r"
  intro p hp
  have pa : p ≠ a := hd1.no hp
  have hF1 : Fr O O1 a := (Fr.refl (O := O) (a := a)).el hE1
  have hp0 : O p = none := hF1.none pa hp
  wtm_at "r"
  refine w_while (α := (Nat × Nat × List (List Nat)) × Oh) (fun _ => [some (.o a), some (.o p)]) (fun s => s.2) (fun s => Rdr s.2 X_Reader a dx l s.1.2.1 ∧ s.2 p = some (.lst (Zs (vT s.1.2.2))) ∧ Fr O s.2 a ∧ nxR l i = nxL l s.1.1 s.1.2.1 s.1.2.2 ∧ l.length < s.1.2.1 + s.1.1 ∧ s.1.2.2.length ≤ s.1.2.1 ∧ s.1.2.1 ≤ l.length) (fun s => s.1.1) ((l.length + 1, j, [t]), updO O1 p (.lst [dI (tokV t)])) (by wtm_at "e") ⟨hd1.ne pa, updO_same, hF1.new hp0, hi, by dsimp only; omega, by dsimp only; show 1 ≤ j; omega, t3⟩ ?_
  clear hd1 hp hE1 hF1
  rintro ⟨⟨f, k, acc⟩, h⟩ ⟨hd, hq, hE, he, hf, hal, hkl⟩
  dsimp only at hd hq hE he hf hal hkl ⊢
  wtm_at "r"
  refine ⟨_, _, _, rfl, hd, rk_no (by decide +kernel) (by decide +kernel), ?_⟩
  wtm_at "r"
  refine ⟨rfl, rfl, ?_⟩
  refine ⟨a, dx, l, k, rfl, hd, hz, ?_⟩
  wtm_at "r"
  rw [lit_space]
  have fin : ¬ (l[k]? = some 32 ∧ l[k + 1]? ≠ some 47) → RW R (.o p) h := fun hn => rw_id (hR k acc (he.trans (nxL_end hn)) h p hd hE hp0 hq)
  refine w_dec (fun q1 => ?_) (fun q1 => ?_)
  · have q1 := sgn_eq.mp q1
    wtm_at "r"
    refine ⟨_, _, _, _, rfl, hd, rk_t, ?_⟩
    wtm_at "r"
    refine ⟨_, _, _, _, rfl, hd, rk_a, ?_⟩
    wtm_at "r"
    refine ⟨_, _, _, _, rfl, hd, rk_a, ?_⟩
    wtm_at "r"
    refine w_slS (by rw [strL_len]; unfold sizeLine; omega) ?_
    rw [cut_nat (i := k + 1) (j := k + 2) (by omega) (by omega), show k + 2 - (k + 1) = 1 by omega]
    wtm_at "r"
    rw [lit_slash]
    refine w_ndec (fun q2 => ?_) (fun q2 => ?_)
    · have q2 : l[k + 1]? ≠ some 47 := fun z => q2 (sgn_eq.mpr z)
      obtain ⟨f, rfl⟩ : ∃ g, f = g + 1 := ⟨f - 1, by have := (List.getElem?_eq_some_iff.mp q1).1; omega⟩
      wtm_at "r"
      refine ⟨_, _, _, _, rfl, hd, rk_a, ?_⟩
      wtm_at "r"
      refine ⟨1, _, _, rfl, hd, rdG_len, ?_⟩
      rw [rt_a]
      have hd2 : Rdr (updO h a (.ins X_Reader dx (rdG (dS l) (.d (.int ((k : Int) + 1)))))) X_Reader a dx l (k + 1) := Rdr.put (by omega)
      have hq2 : updO h a (.ins X_Reader dx (rdG (dS l) (.d (.int ((k : Int) + 1))))) p = some (.lst (Zs (vT acc))) := (updO_ne pa).trans hq
      have hE2 : Fr O (updO h a (.ins X_Reader dx (rdG (dS l) (.d (.int ((k : Int) + 1)))))) a := hE.put
      generalize updO h a (.ins X_Reader dx (rdG (dS l) (.d (.int ((k : Int) + 1))))) = h2 at *
      wtm_at "r"
      refine ⟨tym_o hq2, ?_⟩
      wtm_at "r"
      refine ⟨_, _, _, rfl, hd2, rk_no (by decide +kernel) (by decide +kernel), ?_⟩
      wtm_at "r"
      refine ⟨rfl, rfl, ?_⟩
      refine ⟨a, dx, l, k + 1, true, rfl, hd2, hz, fun j2 t2 hj2 O3 hd3 hE3 => ?_, fun j2 hj2 => (hB j2 (he.trans (nxL_bad ⟨q1, q2⟩ hj2))).up hE2⟩
      obtain ⟨_, u2, u3, _, _, _⟩ := num_tok hj2
      have hq3 : O3 p = some (.lst (Zs (vT acc))) := (hE3 p pa).trans hq2
      wtm_at "r"
      refine w_append hq3 (szlm (by rw [zs_len, List.length_map]; omega)) ?_
      rw [zs_snoc, show vT acc ++ [tokV t2] = vT (acc ++ [t2]) by unfold vT; rw [List.map_append]; rfl]
      wtm_at "r"
      exact ⟨((f, j2, acc ++ [t2]), updO O3 p (.lst (Zs (vT (acc ++ [t2]))))), by wtm_at "e", ⟨hd3.ne pa, updO_same, (hE2.el hE3).new hp0, he.trans (nxL_go ⟨q1, q2⟩ hj2), by dsimp only; omega, by dsimp only; rw [List.length_append]; show acc.length + 1 ≤ j2; omega, u3⟩, by dsimp only; omega⟩
    · wtm_at "r"
      exact fin fun z => z.2 (sgn_eq.mp q2)
  · wtm_at "r"
    exact fin fun z => q1 (sgn_eq.mpr z.1)
theorem ok_Reader_indexes (T : TopOk K mg X_InvalidText X_CoverError X_Reader) : FnM P w K mg base 5 X_Reader "indexes" ["self"] 1 [] [] (C_Reader_indexes X_Reader X_InvalidText) := by
  obtain ⟨f, fd, D⟩ := T.d_Reader_indexes
  exact ⟨f, fd, mbind_all D (fun _ _ _ _ _ _ us hl => match us, hl with | [_], _ => rfl), okb_Reader_indexes T D⟩
theorem sc_Reader_family : FnScope ["self", "end", "lists"] ["self", "end"] (defScope s_Reader_family) := ⟨rfl, rfl, rfl, by decide +kernel, rfl, by decide +kernel, by decide +kernel⟩
def C_Reader_family (X E : Addr) : ConX := fun xs O R RX => ∃ a dx l i, ∃ e : Option Nat, xs = [.o a, dS e.toList] ∧ Rdr O X a dx l i ∧ l.length ≤ 100000 ∧ i ≤ l.length ∧ (∀ j tss, famR e l i = (j, some tss) → ∀ O' q, Rdr O' X a dx l j → Fr O O' a → O q = none → O' q = some (.lst ((vF tss).map OV.d)) → R (.o q) O') ∧ ∀ j, famR e l i = (j, none) → Bad RX E O a j
theorem exp_sep {l : List Nat} {j : Nat} (h : l[j]? = some 32) : expR l [32, 47, 32] j = if l[j + 1]? = some 47 then (if l[j + 2]? = some 32 then (j + 3, true) else (j + 2, false)) else (j + 1, false) := by
  show (if l[j]? = some 32 then _ else _) = _
  rw [if_pos h]
  rfl
theorem okb_Reader_family (T : TopOk K mg X_InvalidText X_CoverError X_Reader) {f : Addr} {fd : FuncData} (D : MethAt K X_Reader "family" "Reader.family" s_Reader_family f fd [] []) : FnOk P w K mg base (L2.CX P w) 6 f fd ["self", "end"] (spX K (C_Reader_family X_Reader X_InvalidText)) := by
  have sc := sc_Reader_family
  refine D.ok sc (fun xs O R RX h => by obtain ⟨_, _, _, _, _, rfl, _⟩ := h; rfl) fun cdv A outer s H E RX hr => ?_
  have tk := takes_of (X := cxOf (L2.CX P w) P w K mg base ["self", "end", "lists"] "Reader.family" (defScope s_Reader_family) f cdv A outer s H E) (E := E) rfl rfl rfl rfl
  refine ⟨_, (qss_cons (qs_if (qt_cmp op_eq sr_eqS (qe_meth0 T.c_Reader (ok_Reader_sign T) dvs_nil hr (qe_var 0)) (qe_var 1)) (qss_one (qs_ret (qe_lst qa_nil))) qss_nil)
  (qss_cons (qs_set (i := 2) sc.nd (qe_lst (qa_cons (qe_wk (qe_methX0 tk T.c_Reader (ok_Reader_indexes T) dvs_nil hr (qe_var 0))) qa_nil)))
  (qss_cons (qs_while (passes_of rfl) (qt_cmp op_eq sr_eqS (qe_meth0 T.c_Reader (ok_Reader_sign T) dvs_nil hr (qe_var 0)) qe_str) (qss_cons (qs_expr (qe_methX tk T.c_Reader (ok_Reader_expect T) dvs_nil hr (qe_var 0) (qa_cons qe_str qa_nil)))
  (qss_one (qs_expr (qe_bm PySem.F.plainAttrs_list PySem.F.slot_list_append PySem.F.type_list_append mt_append sm_append (qe_var 2) (qa_cons (qe_wk (qe_methX0 tk T.c_Reader (ok_Reader_indexes T) dvs_nil hr (qe_var 0))) qa_nil))))))
  (qss_cut (qs_if (qt_cmp op_ne sr_neS (qe_meth0 T.c_Reader (ok_Reader_sign T) dvs_nil hr (qe_var 0)) (qe_var 1)) (qss_one (qs_expr (qe_methX0 tk T.c_Reader (ok_Reader_fail T) dvs_nil hr (qe_var 0)))) qss_nil)
  (qss_one (qs_ret (qe_var 2))))))), ?_⟩
  rintro _ O R ⟨a, dx, l, i, e, rfl, hd, hz, hil, hR, hB⟩
  wtm_at "r"
  refine ⟨_, _, _, rfl, hd, rk_no (by decide +kernel) (by decide +kernel), ?_⟩
  wtm_at "r"
  refine ⟨rfl, rfl, ?_⟩
  refine ⟨a, dx, l, i, rfl, hd, hz, ?_⟩
  wtm_at "r"
  refine w_dec (fun q => ?_) (fun q => ?_)
  · have q := sgn_opt.mp q
    wtm_at "r"
    intro p hp
    have pa : p ≠ a := hd.no hp
    exact rw_id (hR i [] (famR_nil q) _ p (hd.ne pa) ((Fr.refl (O := O) (a := a)).new hp) hp updO_same)
  have q : ¬ l[i]? = e := fun z => q (sgn_opt.mpr z)
  wtm_at "r"
  refine ⟨_, _, _, rfl, hd, rk_no (by decide +kernel) (by decide +kernel), ?_⟩
  wtm_at "r"
  refine ⟨rfl, rfl, ?_⟩
  refine ⟨a, dx, l, i, rfl, hd, hz, fun j t hj O1 q1 hd1 hE1 hq0 hq1 => ?_, fun j hj => hB j (famR_bad q hj)⟩
  obtain ⟨_, _, t2, t3⟩ := nxR_sound hj
  have hi := famR_go q hj
  refine ⟨_, _, Wk.flatG (ds := (vT t).map PyData.int) (by rw [hq1, Zs_eq]), ?_⟩
  have qa : q1 ≠ a := hd.no hq0
  have hd1 : Rdr (rmO O1 q1) X_Reader a dx l j := hd1.rm qa
  have hE1 : Fr O (rmO O1 q1) a := hE1.rm hq0
  generalize rmO O1 q1 = O2 at *
  wtm_at "r"
  intro p hp
  have pa : p ≠ a := hd1.no hp
  have hp0 : O p = none := hE1.none pa hp
  wtm_at "r"
  refine w_while (α := (Nat × Nat × List (List (List Nat))) × Oh) (fun _ => [some (.o a), some (dS e.toList), some (.o p)]) (fun s => s.2) (fun s => Rdr s.2 X_Reader a dx l s.1.2.1 ∧ s.2 p = some (.lst ((vF s.1.2.2).map OV.d)) ∧ Fr O s.2 a ∧ famR e l i = famE e l (famL l s.1.1 s.1.2.1 s.1.2.2) ∧ l.length < s.1.2.1 + s.1.1 ∧ s.1.2.2.length ≤ s.1.2.1 ∧ s.1.2.1 ≤ l.length) (fun s => s.1.1) ((l.length + 1, j, [t]), updO O2 p (.lst [.d (pW (vT t))])) (by wtm_at "e") ⟨hd1.ne pa, updO_same, hE1.new hp0, hi, by dsimp only; omega, by dsimp only; show 1 ≤ j; omega, t3⟩ ?_
  clear hd1 hp hE1 hi
  rintro ⟨⟨f, k, acc⟩, h⟩ ⟨hd, hq, hE, he, hf, hal, hkl⟩
  dsimp only at hd hq hE he hf hal hkl ⊢
  wtm_at "r"
  refine ⟨_, _, _, rfl, hd, rk_no (by decide +kernel) (by decide +kernel), ?_⟩
  wtm_at "r"
  refine ⟨rfl, rfl, ?_⟩
  refine ⟨a, dx, l, k, rfl, hd, hz, ?_⟩
  wtm_at "r"
  rw [lit_space]
  refine w_dec (fun q1 => ?_) (fun q1 => ?_)
  · have q1 := sgn_eq.mp q1
    obtain ⟨f, rfl⟩ : ∃ g, f = g + 1 := ⟨f - 1, by have := (List.getElem?_eq_some_iff.mp q1).1; omega⟩
    wtm_at "r"
    refine ⟨_, _, _, rfl, hd, rk_no (by decide +kernel) (by decide +kernel), ?_⟩
    wtm_at "r"
    refine ⟨rfl, rfl, ?_⟩
    refine ⟨a, dx, l, k, [32, 47, 32], by rw [lit_sep]; rfl, hd, hz, by decide, fun j2 hj2 O3 hd3 hE3 => ?_, fun j2 hj2 => (hB j2 ?_).up hE⟩
    · rw [exp_sep q1] at hj2
      have c1 : l[k + 1]? = some 47 := by
        refine Classical.byContradiction fun z => ?_
        rw [if_neg z] at hj2; cases hj2
      have c2 : l[k + 2]? = some 32 := by
        refine Classical.byContradiction fun z => ?_
        rw [if_pos c1, if_neg z] at hj2; cases hj2
      rw [if_pos c1, if_pos c2] at hj2
      obtain rfl : k + 3 = j2 := by cases hj2; rfl
      have hq3 : O3 p = some (.lst ((vF acc).map OV.d)) := (hE3 p pa).trans hq
      have hE3 : Fr O O3 a := hE.el hE3
      wtm_at "r"
      refine ⟨tym_o hq3, ?_⟩
      wtm_at "r"
      refine ⟨_, _, _, rfl, hd3, rk_no (by decide +kernel) (by decide +kernel), ?_⟩
      wtm_at "r"
      refine ⟨rfl, rfl, ?_⟩
      refine ⟨a, dx, l, k + 3, rfl, hd3, hz, fun j4 t4 hj4 O4 q4 hd4 hE4 hq40 hq4 => ?_, fun j4 hj4 => (hB j4 (he.trans ?_)).up hE3⟩
      · obtain ⟨_, _, u2, u3⟩ := nxR_sound hj4
        refine ⟨_, _, Wk.flatG (ds := (vT t4).map PyData.int) (by rw [hq4, Zs_eq]), ?_⟩
        have q4a : q4 ≠ a := hd3.no hq40
        have q4p : p ≠ q4 := fun z => by rw [← z, hq3] at hq40; cases hq40
        have q40 : O q4 = none := hE3.none q4a hq40
        have hq5 : rmO O4 q4 p = some (.lst ((vF acc).map OV.d)) := (rmO_ne q4p).trans (hE4 p _ hq3 pa)
        have hd5 : Rdr (rmO O4 q4) X_Reader a dx l j4 := hd4.rm q4a
        have hE5 : Fr O (rmO O4 q4) a := (hE3.trans hE4).rm q40
        generalize rmO O4 q4 = O5 at *
        wtm_at "r"
        refine w_append hq5 (szlm (by rw [List.length_map, List.length_map]; omega)) ?_
        have hv : (vF acc).map OV.d ++ [OV.d (.list ((vT t4).map PyData.int))] = (vF (acc ++ [t4])).map OV.d := by unfold vF; rw [List.map_append, List.map_append]; rfl
        rw [hv]
        wtm_at "r"
        exact ⟨((f, j4, acc ++ [t4]), updO O5 p (.lst ((vF (acc ++ [t4])).map OV.d))), by wtm_at "e", ⟨hd5.ne pa, updO_same, hE5.new hp0, he.trans (by rw [famL_go q1 c1 c2 hj4]), by dsimp only; omega, by dsimp only; rw [List.length_append]; show acc.length + 1 ≤ j4; omega, u3⟩, by dsimp only; omega⟩
      · rw [famL_bad q1 c1 c2 hj4]; rfl
    · rw [exp_sep q1] at hj2
      refine he.trans ?_
      by_cases c1 : l[k + 1]? = some 47
      · rw [if_pos c1] at hj2
        by_cases c2 : l[k + 2]? = some 32
        · rw [if_pos c2] at hj2; cases hj2
        · rw [if_neg c2] at hj2
          rw [famL_bad2 q1 c1 c2]
          cases hj2
          rfl
      · rw [if_neg c1] at hj2
        rw [famL_bad1 q1 c1]
        cases hj2
        rfl
  · have q1 : ¬ l[k]? = some 32 := fun z => q1 (sgn_eq.mpr z)
    rw [famL_end q1] at he
    wtm_at "r"
    refine w_cut (α := Unit) (fun _ => [some (.o a), some (dS e.toList), some (.o p)]) (fun _ => h) (fun _ => l[k]? = e) ?_ ?_
    · wtm_at "r"
      refine ⟨_, _, _, rfl, hd, rk_no (by decide +kernel) (by decide +kernel), ?_⟩
      wtm_at "r"
      refine ⟨rfl, rfl, ?_⟩
      refine ⟨a, dx, l, k, rfl, hd, hz, ?_⟩
      wtm_at "r"
      refine w_ndec (fun q2 => ?_) (fun q2 => ?_)
      · wtm_at "r"
        refine ⟨_, _, _, rfl, hd, rk_no (by decide +kernel) (by decide +kernel), ?_⟩
        wtm_at "r"
        refine ⟨rfl, rfl, ?_⟩
        refine ⟨a, dx, l, k, rfl, hd, ?_⟩
        exact (hB k (he.trans (famE_no (fun z => q2 (sgn_opt.mpr z))))).up hE
      · wtm_at "r"
        exact ⟨(), by wtm_at "e", sgn_opt.mp q2⟩
    rintro _ q2
    wtm_at "r"
    exact rw_id (hR k acc (he.trans (famE_yes q2)) h p hd hE hp0 hq)
theorem ok_Reader_family (T : TopOk K mg X_InvalidText X_CoverError X_Reader) : FnM P w K mg base 6 X_Reader "family" ["self", "end"] 2 [] [] (C_Reader_family X_Reader X_InvalidText) := by
  obtain ⟨f, fd, D⟩ := T.d_Reader_family
  exact ⟨f, fd, mbind_all D (fun _ _ _ _ _ _ us hl => match us, hl with | [_, _], _ => rfl), okb_Reader_family T D⟩
theorem sc_parse_paper : FnScope ["text", "reader", "rising"] ["text"] (defScope s_parse_paper) := ⟨rfl, rfl, rfl, by decide +kernel, rfl, by decide +kernel, by decide +kernel⟩
def C_parse_paper (E : Addr) : ConX := fun xs O R RX => ∃ l, xs = [dS l] ∧ l.length ≤ 100000 ∧ (∀ j fs gs, papR2 l = (j, some (fs, gs)) → ∀ O', (∀ b u, O b = some u → O' b = some u) → R (.d (.tuple [.list (vF fs), .list (vF gs)])) O') ∧ ∀ j, papR2 l = (j, none) → Bad2 RX E O j
theorem ok_parse_paper (T : TopOk K mg X_InvalidText X_CoverError X_Reader) : FnX P w K mg base 7 "parse_paper" ["text"] (C_parse_paper X_InvalidText) := by
  obtain ⟨f, fd, D⟩ := T.d_parse_paper
  have sc := sc_parse_paper
  refine fnx D sc (fun xs O R RX h => by obtain ⟨_, rfl, _⟩ := h; rfl) fun cdv A outer s H E RX hr => ?_
  have tk := takes_of (X := cxOf (L2.CX P w) P w K mg base ["text", "reader", "rising"] "parse_paper" (defScope s_parse_paper) f cdv A outer s H E) (E := E) rfl rfl rfl rfl
  refine ⟨_, (qss_cons (qs_set (i := 1) sc.nd (qe_make (ok_Reader___init__ T) dvs_nil hr T.g_Reader (qa_cons (qe_var 0) qa_nil)))
  (qss_cons (qs_expr (qe_methX tk T.c_Reader (ok_Reader_expect T) dvs_nil hr (qe_var 1) (qa_cons qe_str qa_nil)))
  (qss_cons (qs_set (i := 2) sc.nd (qe_wk (qe_methX tk T.c_Reader (ok_Reader_family T) dvs_nil hr (qe_var 1) (qa_cons qe_str qa_nil))))
  (qss_cons (qs_expr (qe_methX tk T.c_Reader (ok_Reader_expect T) dvs_nil hr (qe_var 1) (qa_cons qe_str qa_nil)))
  (qss_one (qs_ret (qe_tup (qa_cons (qe_var 2) (qa_cons (qe_wk (qe_methX tk T.c_Reader (ok_Reader_family T) dvs_nil hr (qe_var 1) (qa_cons qe_str qa_nil))) qa_nil))))))))), ?_⟩
  rintro _ O R ⟨l, rfl, hz, hR, hB⟩
  wtm_at "r"
  intro a dx haw hdx hne
  refine ⟨a, dx, l, rfl, updO_same, fun O1 hd hE => ⟨rfl, ?_⟩⟩
  have hF := Fr.mk hdx hE
  clear hE
  wtm_at "r"
  refine ⟨_, _, _, rfl, hd, rk_no (by decide +kernel) (by decide +kernel), ?_⟩
  wtm_at "r"
  refine ⟨rfl, rfl, ?_⟩
  refine ⟨a, dx, l, 0, risL, by rw [lit_ris]; rfl, hd, hz, by decide, fun k hk O2 hd2 hE2 => ?_, fun j hj => (hB j (papR_1 hj)).bad hF haw⟩
  have hkl := exp_le _ (Nat.zero_le _) hk
  have hF2 := hF.el hE2
  wtm_at "r"
  refine ⟨_, _, _, rfl, hd2, rk_no (by decide +kernel) (by decide +kernel), ?_⟩
  wtm_at "r"
  refine ⟨rfl, rfl, ?_⟩
  refine ⟨a, dx, l, k, some 59, by rw [lit_semi]; rfl, hd2, hz, hkl, fun m fs hm O3 p hd3 hF3 hp hq => ?_, fun j hj => (hB j (papR_2 hk hj)).bad hF2 haw⟩
  have hml := (famR_sound hkl hm).2.2.2.1
  refine ⟨_, _, Wk.flatG (ds := vF fs) hq, ?_⟩
  have hd3 := hd3.rm (hd2.no hp)
  have hF3 := (hF2.trans hF3).rm (hF2.none (hd2.no hp) hp)
  generalize rmO O3 p = O4 at *
  wtm_at "r"
  refine ⟨_, _, _, rfl, hd3, rk_no (by decide +kernel) (by decide +kernel), ?_⟩
  wtm_at "r"
  refine ⟨rfl, rfl, ?_⟩
  refine ⟨a, dx, l, m, falL, by rw [lit_fal]; rfl, hd3, hz, by decide, fun n hn O5 hd5 hE5 => ?_, fun j hj => (hB j (papR_3 hk hm hj)).bad hF3 haw⟩
  have hnl := exp_le _ hml hn
  have hF5 := hF3.el hE5
  wtm_at "r"
  refine ⟨_, _, _, rfl, hd5, rk_no (by decide +kernel) (by decide +kernel), ?_⟩
  wtm_at "r"
  refine ⟨rfl, rfl, ?_⟩
  refine ⟨a, dx, l, n, none, by rw [lit_empty]; rfl, hd5, hz, hnl, fun q gs hq2 O6 p2 hd6 hF6 hp2 hq6 => ?_, fun j hj => (hB j (papR_4 hk hm hn hj)).bad hF5 haw⟩
  refine ⟨_, _, Wk.flatG (ds := vF gs) hq6, ?_⟩
  wtm_at "r"
  exact rw_id (hR q fs gs (papR_5 hk hm hn hq2) _ (((hF5.trans hF6).rm (hF5.none (hd5.no hp2) hp2)).all haw))

theorem sc_parse_word : FnScope ["text", "reader", "word"] ["text"] (defScope s_parse_word) := ⟨rfl, rfl, rfl, by decide +kernel, rfl, by decide +kernel, by decide +kernel⟩
def C_parse_word (E : Addr) : ConX := fun xs O R RX => ∃ l, xs = [dS l] ∧ l.length ≤ 100000 ∧ (∀ j ts, wrdR l = (j, some ts) → ∀ O' q, (∀ b u, O b = some u → O' b = some u) → O q = none → O' q = some (.lst (Zs (vT ts))) → R (.o q) O') ∧ ∀ j, wrdR l = (j, none) → Bad2 RX E O j
theorem ok_parse_word (T : TopOk K mg X_InvalidText X_CoverError X_Reader) : FnX P w K mg base 7 "parse_word" ["text"] (C_parse_word X_InvalidText) := by
  obtain ⟨f, fd, D⟩ := T.d_parse_word
  have sc := sc_parse_word
  refine fnx D sc (fun xs O R RX h => by obtain ⟨_, rfl, _⟩ := h; rfl) fun cdv A outer s H E RX hr => ?_
  have tk := takes_of (X := cxOf (L2.CX P w) P w K mg base ["text", "reader", "word"] "parse_word" (defScope s_parse_word) f cdv A outer s H E) (E := E) rfl rfl rfl rfl
  refine ⟨_, (qss_cons (qs_set (i := 1) sc.nd (qe_make (ok_Reader___init__ T) dvs_nil hr T.g_Reader (qa_cons (qe_var 0) qa_nil)))
  (qss_cons (qs_if (qt_cmp op_eq sr_eqS (qe_var 0) qe_str) (qss_one (qs_ret (qe_lst qa_nil))) qss_nil)
  (qss_cons (qs_set (i := 2) sc.nd (qe_lst (qa_cons (qe_methXK0 tk T.c_Reader (ok_Reader_number_K T) dvs_nil hr (qe_var 1) (qk_cons qe_bl qk_nil)) qa_nil)))
  (qss_cons (qs_while (passes_of rfl) (qt_cmp op_ne sr_neS (qe_meth0 T.c_Reader (ok_Reader_sign T) dvs_nil hr (qe_var 1)) qe_str) (qss_cons (qs_expr (qe_methX tk T.c_Reader (ok_Reader_expect T) dvs_nil hr (qe_var 1) (qa_cons qe_str qa_nil)))
  (qss_one (qs_expr (qe_bm PySem.F.plainAttrs_list PySem.F.slot_list_append PySem.F.type_list_append mt_append sm_append (qe_var 2) (qa_cons (qe_methXK0 tk T.c_Reader (ok_Reader_number_K T) dvs_nil hr (qe_var 1) (qk_cons qe_bl qk_nil)) qa_nil))))))
  (qss_one (qs_ret (qe_var 2))))))), ?_⟩
  rintro _ O R ⟨l, rfl, hz, hR, hB⟩
  wtm_at "r"
  intro a dx haw hdx hne
  refine ⟨a, dx, l, rfl, updO_same, fun O1 hd hE => ⟨rfl, ?_⟩⟩
  have hF := Fr.mk hdx hE
  clear hE
  wtm_at "r"
  rw [lit_empty]
  refine w_dec (fun q => ?_) (fun q => ?_)
  · have q : l = [] := by have := strL_inj.mp q; exact this
    subst q
    wtm_at "r"
    intro p hp
    have pa : p ≠ a := hd.no hp
    have hp0 := hF.none pa hp
    exact rw_id (hR 0 [] wrdR_nil _ p ((hF.new hp0).all haw) hp0 updO_same)
  have q : l ≠ [] := fun z => q (by rw [z])
  wtm_at "r"
  refine ⟨_, _, _, rfl, hd, rk_no (by decide +kernel) (by decide +kernel), ?_⟩
  wtm_at "r"
  refine ⟨rfl, rfl, ?_⟩
  refine ⟨a, dx, l, 0, false, rfl, hd, hz, fun j t hj O2 hd2 hE2 => ?_, fun j hj => (hB j (wrdR_bad q hj)).bad hF haw⟩
  have hi := wrdR_go q hj
  obtain ⟨_, t2, t3, _, _, _⟩ := num_tok hj
  wtm_at "r"
  intro p hp
  have pa : p ≠ a := hd2.no hp
  have hF2 := hF.el hE2
  have hp0 : O p = none := hF2.none pa hp
  wtm_at "r"
  refine w_while (α := (Nat × Nat × List (List Nat)) × Oh) (fun _ => [some (dS l), some (.o a), some (.o p)]) (fun s => s.2) (fun s => Rdr s.2 X_Reader a dx l s.1.2.1 ∧ s.2 p = some (.lst (Zs (vT s.1.2.2))) ∧ Fr O s.2 a ∧ wrdR l = wrdL l s.1.1 s.1.2.1 s.1.2.2 ∧ l.length < s.1.2.1 + s.1.1 ∧ s.1.2.2.length ≤ s.1.2.1 ∧ s.1.2.1 ≤ l.length) (fun s => s.1.1) ((l.length + 1, j, [t]), updO O2 p (.lst [dI (tokV t)])) (by wtm_at "e") ⟨hd2.ne pa, updO_same, hF2.new hp0, hi, by dsimp only; omega, by dsimp only; show 1 ≤ j; omega, t3⟩ ?_
  clear hd hd2 hp hE2 hF hF2
  rintro ⟨⟨f, k, acc⟩, h⟩ ⟨hd, hq, hE, he, hf, hal, hkl⟩
  dsimp only at hd hq hE he hf hal hkl ⊢
  wtm_at "r"
  refine ⟨_, _, _, rfl, hd, rk_no (by decide +kernel) (by decide +kernel), ?_⟩
  wtm_at "r"
  refine ⟨rfl, rfl, ?_⟩
  refine ⟨a, dx, l, k, rfl, hd, hz, ?_⟩
  wtm_at "r"
  refine w_ndec (fun q1 => ?_) (fun q1 => ?_)
  · have q1 : ¬ l[k]? = none := fun z => q1 (sgn_end.mpr z)
    obtain ⟨c, hc⟩ : ∃ c, l[k]? = some c := Option.ne_none_iff_exists'.mp q1
    obtain ⟨f, rfl⟩ : ∃ g, f = g + 1 := ⟨f - 1, by have := (List.getElem?_eq_some_iff.mp hc).1; omega⟩
    wtm_at "r"
    refine ⟨_, _, _, rfl, hd, rk_no (by decide +kernel) (by decide +kernel), ?_⟩
    wtm_at "r"
    refine ⟨rfl, rfl, ?_⟩
    refine ⟨a, dx, l, k, [32], by rw [lit_space]; rfl, hd, hz, by decide, fun j2 hj2 O3 hd3 hE3 => ?_, fun j2 hj2 => (hB j2 ?_).bad hE haw⟩
    · have hj2 : (if l[k]? = some 32 then (k + 1, true) else (k, false)) = (j2, true) := hj2
      by_cases c0 : l[k]? = some 32
      · rw [if_pos c0] at hj2
        obtain rfl : k + 1 = j2 := by cases hj2; rfl
        have hq3 : O3 p = some (.lst (Zs (vT acc))) := (hE3 p pa).trans hq
        have hF3 := hE.el hE3
        wtm_at "r"
        refine ⟨tym_o hq3, ?_⟩
        wtm_at "r"
        refine ⟨_, _, _, rfl, hd3, rk_no (by decide +kernel) (by decide +kernel), ?_⟩
        wtm_at "r"
        refine ⟨rfl, rfl, ?_⟩
        refine ⟨a, dx, l, k + 1, false, rfl, hd3, hz, fun j4 t4 hj4 O4 hd4 hE4 => ?_, fun j4 hj4 => (hB j4 (he.trans (wrdL_bad c0 hj4))).bad hF3 haw⟩
        obtain ⟨_, u2, u3, _, _, _⟩ := num_tok hj4
        have hq4 : O4 p = some (.lst (Zs (vT acc))) := (hE4 p pa).trans hq3
        wtm_at "r"
        refine w_append hq4 (szlm (by rw [zs_len, List.length_map]; omega)) ?_
        rw [zs_snoc, show vT acc ++ [tokV t4] = vT (acc ++ [t4]) by unfold vT; rw [List.map_append]; rfl]
        wtm_at "r"
        exact ⟨((f, j4, acc ++ [t4]), updO O4 p (.lst (Zs (vT (acc ++ [t4]))))), by wtm_at "e", ⟨hd4.ne pa, updO_same, (hF3.el hE4).new hp0, he.trans (wrdL_go c0 hj4), by dsimp only; omega, by dsimp only; rw [List.length_append]; show acc.length + 1 ≤ j4; omega, u3⟩, by dsimp only; omega⟩
      · rw [if_neg c0] at hj2
        cases hj2
    · have hj2 : (if l[k]? = some 32 then (k + 1, true) else (k, false)) = (j2, false) := hj2
      by_cases c0 : l[k]? = some 32
      · rw [if_pos c0] at hj2
        cases hj2
      · rw [if_neg c0] at hj2
        obtain rfl : k = j2 := by cases hj2; rfl
        exact he.trans (wrdL_off q1 c0)
  · have q1 := sgn_end.mp q1
    wtm_at "r"
    exact rw_id (hR k acc (he.trans (wrdL_end q1)) h p (hE.all haw) hp0 hq)
theorem sc_parse_family : FnScope ["text"] ["text"] (defScope s_parse_family) := ⟨rfl, rfl, rfl, by decide +kernel, rfl, by decide +kernel, by decide +kernel⟩
def C_parse_family (E : Addr) : ConX := fun xs O R RX => ∃ l, xs = [dS l] ∧ l.length ≤ 100000 ∧ (∀ j tss, famR none l 0 = (j, some tss) → ∀ O' q, (∀ b u, O b = some u → O' b = some u) → O q = none → O' q = some (.lst ((vF tss).map OV.d)) → R (.o q) O') ∧ ∀ j, famR none l 0 = (j, none) → Bad2 RX E O j
theorem ok_parse_family (T : TopOk K mg X_InvalidText X_CoverError X_Reader) : FnX P w K mg base 7 "parse_family" ["text"] (C_parse_family X_InvalidText) := by
  obtain ⟨f, fd, D⟩ := T.d_parse_family
  have sc := sc_parse_family
  refine fnx D sc (fun xs O R RX h => by obtain ⟨_, rfl, _⟩ := h; rfl) fun cdv A outer s H E RX hr => ?_
  have tk := takes_of (X := cxOf (L2.CX P w) P w K mg base ["text"] "parse_family" (defScope s_parse_family) f cdv A outer s H E) (E := E) rfl rfl rfl rfl
  refine ⟨_, (qss_one (qs_ret (qe_methX tk T.c_Reader (ok_Reader_family T) dvs_nil hr (qe_make (ok_Reader___init__ T) dvs_nil hr T.g_Reader (qa_cons (qe_var 0) qa_nil)) (qa_cons qe_str qa_nil)))), ?_⟩
  rintro _ O R ⟨l, rfl, hz, hR, hB⟩
  wtm_at "r"
  intro a dx haw hdx hne
  refine ⟨a, dx, l, rfl, updO_same, fun O1 hd hE => ⟨rfl, ?_⟩⟩
  have hF := Fr.mk hdx hE
  clear hE
  refine ⟨_, _, _, rfl, hd, rk_no (by decide +kernel) (by decide +kernel), ?_⟩
  wtm_at "r"
  refine ⟨rfl, rfl, ?_⟩
  refine ⟨a, dx, l, 0, none, by rw [lit_empty]; rfl, hd, hz, by omega, fun j tss hj O2 p hd2 hF2 hp hq => ?_, fun j hj => (hB j hj).bad hF haw⟩
  have pa : p ≠ a := hd.no hp
  exact rw_id (hR j tss hj O2 p ((hF.trans hF2).all haw) (hF.none pa hp) hq)
theorem sc__law_told : FnScope ["_law_text", "_law_kind", "e"] ["_law_text", "_law_kind"] (defScope s__law_told) := ⟨rfl, rfl, rfl, by decide +kernel, rfl, by decide +kernel, by decide +kernel⟩
def C__law_told : Con := fun xs O R => ∃ l k, xs = [dS l, dI k] ∧ l.length ≤ 100000 ∧ (∀ d, (resR l k).2 = some d → ∀ O', R (.d (.tuple [.str (Str.ofString ""), d])) O') ∧ ((resR l k).2 = none → ∀ O', R (.d (.tuple [.str (Str.ofString "text"), .int ((resR l k).1 : Int)])) O')
theorem ok__law_told (T : TopOk K mg X_InvalidText X_CoverError X_Reader) : FnD P w K mg base 8 "_law_told" ["_law_text", "_law_kind"] C__law_told := by
  obtain ⟨f, fd, D⟩ := T.d__law_told
  have sc := sc__law_told
  refine fnd D sc (fun xs O R h => by obtain ⟨_, _, rfl, _⟩ := h; rfl) fun cdv A outer s H E hr => ⟨_, (qss_one (qs_tryAs (i := 2) sc.nd ⟨rfl, by decide, .inl T.x_InvalidText.g⟩ takes0 (fun W1 AW1 pn1 xe1 tk1 po1 => (qss_cons (qs_if (qt_cmp op_eq sr_eqI (qe_var 1) qe_int) (qss_one (qs_ret (qe_tup (qa_cons qe_str (qa_cons (qe_wk (qe_callX tk1 (ok_parse_word T) hr (qa_cons (qe_var 0) qa_nil))) qa_nil))))) qss_nil)
  (qss_cons (qs_if (qt_cmp op_eq sr_eqI (qe_var 1) qe_int) (qss_one (qs_ret (qe_tup (qa_cons qe_str (qa_cons (qe_wk (qe_callX tk1 (ok_parse_family T) hr (qa_cons (qe_var 0) qa_nil))) qa_nil))))) qss_nil)
  (qss_one (qs_ret (qe_tup (qa_cons qe_str (qa_cons (qe_callX tk1 (ok_parse_paper T) hr (qa_cons (qe_var 0) qa_nil)) qa_nil)))))))) (fun a1 oe1 cls1 d1 pn1 hz1 hf1 => (qss_one (qs_ret (qe_tup (qa_cons (qe_ix ix_list sr_ixL (qe_lstF (qa_cons qe_str (qa_cons qe_str qa_nil))) (qe_callTy call_int1 sn_int1 (T.b_int) (by decide +kernel) (qa_cons (qe_isE2 hz1 hf1 (T.b_isinstance) (qe_var 2) (pe_glob (v := .ref X_CoverError) rfl T.x_CoverError.g rfl) (cv := .ref X_CoverError) (fun u h => h)) qa_nil))) (qa_cons (qe_xf T.xf_InvalidText T.nx_InvalidText hz1 hf1 (qe_var 2)) qa_nil)))))))), ?_⟩
  rintro _ O R ⟨l, k, rfl, hz, h1, h2⟩
  unfold resR at h1 h2
  wtm_at "r"
  refine w_dec (fun q => ?_) (fun q => ?_)
  · subst q
    rw [if_pos rfl] at h1 h2
    wtm_at "r"
    refine ⟨l, rfl, hz, fun j ts hj O2 p hs hp hq => ?_, fun j hj O2 d hs hd => ?_⟩
    · rw [hj] at h1
      refine ⟨_, _, Wk.flatG (ds := (vT ts).map PyData.int) (by rw [hq, Zs_eq]), ?_⟩
      wtm_at "r"
      exact rw_id (h1 _ rfl _)
    · rw [hj] at h2
      refine ⟨true, T.x_InvalidText.exm T.s_InvalidText_InvalidText, fun _ a => ?_, fun h => by cases h⟩
      wtm_at "r"
      refine w_isE2 ⟨_, rfl, T.x_InvalidText.e⟩ ?_
      wtm_at "r"
      refine ⟨rfl, true, fun D e => by cases e; exact T.k_InvalidText_CoverError, fun dd e => by cases e; exact ⟨_, hd⟩, ?_⟩
      wtm_at "r"
      refine w_ixL (d := .str (Str.ofString "text")) rfl ?_
      wtm_at "r"
      refine ⟨rfl, rfl, d, _, dI (j : Int), rfl, hd, rfl, ?_⟩
      wtm_at "r"
      exact rw_id (h2 rfl _)
  rw [if_neg q] at h1 h2
  wtm_at "r"
  refine w_dec (fun q1 => ?_) (fun q1 => ?_)
  · subst q1
    rw [if_pos rfl] at h1 h2
    wtm_at "r"
    refine ⟨l, rfl, hz, fun j tss hj O2 p hs hp hq => ?_, fun j hj O2 d hs hd => ?_⟩
    · rw [hj] at h1
      refine ⟨_, _, Wk.flatG hq, ?_⟩
      wtm_at "r"
      exact rw_id (h1 _ rfl _)
    · rw [hj] at h2
      refine ⟨true, T.x_InvalidText.exm T.s_InvalidText_InvalidText, fun _ a => ?_, fun h => by cases h⟩
      wtm_at "r"
      refine w_isE2 ⟨_, rfl, T.x_InvalidText.e⟩ ?_
      wtm_at "r"
      refine ⟨rfl, true, fun D e => by cases e; exact T.k_InvalidText_CoverError, fun dd e => by cases e; exact ⟨_, hd⟩, ?_⟩
      wtm_at "r"
      refine w_ixL (d := .str (Str.ofString "text")) rfl ?_
      wtm_at "r"
      refine ⟨rfl, rfl, d, _, dI (j : Int), rfl, hd, rfl, ?_⟩
      wtm_at "r"
      exact rw_id (h2 rfl _)
  rw [if_neg q1] at h1 h2
  wtm_at "r"
  refine ⟨l, rfl, hz, fun j fs gs hj O2 hs => ?_, fun j hj O2 d hs hd => ?_⟩
  · rw [hj] at h1
    wtm_at "r"
    exact rw_id (h1 _ rfl _)
  · rw [hj] at h2
    refine ⟨true, T.x_InvalidText.exm T.s_InvalidText_InvalidText, fun _ a => ?_, fun h => by cases h⟩
    wtm_at "r"
    refine w_isE2 ⟨_, rfl, T.x_InvalidText.e⟩ ?_
    wtm_at "r"
    refine ⟨rfl, true, fun D e => by cases e; exact T.k_InvalidText_CoverError, fun dd e => by cases e; exact ⟨_, hd⟩, ?_⟩
    wtm_at "r"
    refine w_ixL (d := .str (Str.ofString "text")) rfl ?_
    wtm_at "r"
    refine ⟨rfl, rfl, d, _, dI (j : Int), rfl, hd, rfl, ?_⟩
    wtm_at "r"
    exact rw_id (h2 rfl _)
theorem sc__law_stream : FnScope ["_law_cell_here"] ["_law_cell_here"] (defScope s__law_stream) := ⟨rfl, rfl, rfl, by decide +kernel, rfl, by decide +kernel, by decide +kernel⟩
def C__law_stream : Con := fun xs O R => ∃ c, xs = [dI c] ∧ ∀ p a b d, O p = none → R (.o p) (updO O p (.lst (Zs [a, b, d])))
theorem ok__law_stream (T : TopOk K mg X_InvalidText X_CoverError X_Reader) : FnD P w K mg base 1 "_law_stream" ["_law_cell_here"] C__law_stream := by
  obtain ⟨f, fd, D⟩ := T.d__law_stream
  have sc := sc__law_stream
  refine fnd D sc (fun xs O R h => by obtain ⟨_, rfl, _⟩ := h; rfl) fun cdv A outer s H E hr => ⟨_, (qss_cons (qs_if (qt_cmp op_ge sr_B0 (qe_var 0) (qe_op op_pow sr_I qe_int qe_int)) (qss_one (qs_ret (qe_lst (qa_cons (qe_var 0) (qa_cons qe_int (qa_cons (qe_op op_mod sr_I (qe_callTy call_int1 sn_int1 (T.b_int) (by decide +kernel) (qa_cons (qe_var 0) qa_nil)) qe_int) qa_nil)))))) qss_nil)
  (qss_one (qs_ret (qe_lst (qa_cons qe_int (qa_cons qe_int (qa_cons (qe_op op_mod sr_I (qe_callTy call_int1 sn_int1 (T.b_int) (by decide +kernel) (qa_cons (qe_var 0) qa_nil)) qe_int) qa_nil))))))), ?_⟩
  rintro _ O R ⟨c, rfl, hR⟩
  wtm_at "r"
  refine w_I ⟨by decide, by decide, by decide⟩ ?_
  wtm_at "r"
  refine w_dec (fun h => ?_) (fun h => ?_)
  · wtm_at "r"
    refine w_I (by decide) ?_
    wtm_at "r"
    exact fun p hp => rw_id (hR p _ _ _ hp)
  · wtm_at "r"
    refine w_I (by decide) ?_
    wtm_at "r"
    exact fun p hp => rw_id (hR p _ _ _ hp)
theorem sc__law_cell : FnScope ["_law_script", "_law_k"] ["_law_script", "_law_k"] (defScope s__law_cell) := ⟨rfl, rfl, rfl, by decide +kernel, rfl, by decide +kernel, by decide +kernel⟩
def C__law_cell : Con := fun xs O R => ∃ ns k, xs = [.s ns, dI k] ∧ 0 ≤ k ∧ ∀ c, R (dI c) O
theorem ok__law_cell (T : TopOk K mg X_InvalidText X_CoverError X_Reader) : FnD P w K mg base 1 "_law_cell" ["_law_script", "_law_k"] C__law_cell := by
  obtain ⟨f, fd, D⟩ := T.d__law_cell
  have sc := sc__law_cell
  refine fnd D sc (fun xs O R h => by obtain ⟨_, _, rfl, _⟩ := h; rfl) fun cdv A outer s H E hr => ⟨_, (qss_cons (qs_if (qt_cmp op_lt sr_B0 (qe_var 1) (qe_callB call_len_seq sn_len (T.b_len) PySem.boot_len (qa_cons (qe_var 0) qa_nil))) (qss_one (qs_ret (qe_ix ix_list sr_ixL (qe_var 0) (qe_var 1)))) qss_nil)
  (qss_one (qs_ret qe_int))), ?_⟩
  rintro _ O R ⟨ns, k, rfl, hk, hR⟩
  wtm_at "r"
  refine w_dec (fun h => ?_) (fun h => ?_)
  · wtm_at "r"
    refine w_ixs (atI_n hk (List.getElem?_eq_getElem (show k.toNat < ns.length by omega))) ?_
    exact rw_id (hR _)
  · wtm_at "r"
    exact rw_id (hR _)
theorem sc__law_is_integer : FnScope ["_law_actual"] ["_law_actual"] (defScope s__law_is_integer) := ⟨rfl, rfl, rfl, by decide +kernel, rfl, by decide +kernel, by decide +kernel⟩
def isIntD : PyData → Bool
  | .int _ => true
  | _ => false
def C__law_is_integer : Con := fun xs O R => ∃ x, xs = [.d x] ∧ (∀ k, x ≠ .dict k) ∧ R (dB (isIntD x)) O
theorem ok__law_is_integer (T : TopOk K mg X_InvalidText X_CoverError X_Reader) : FnD P w K mg base 1 "_law_is_integer" ["_law_actual"] C__law_is_integer := by
  obtain ⟨f, fd, D⟩ := T.d__law_is_integer
  have sc := sc__law_is_integer
  refine fnd D sc (fun xs O R h => by obtain ⟨_, rfl, _⟩ := h; rfl) fun cdv A outer s H E hr => ⟨_, (qss_one (qs_ret (qe_and (qe_callB call_isi sn_isi (T.b_isinstance) (by decide +kernel) (qa_cons (qe_var 0) (qa_cons (qe_ty (n := "int") (T.b_int) (by decide +kernel)) qa_nil))) (qe_one (qe_not (qe_callB call_isi sn_isi (T.b_isinstance) (by decide +kernel) (qa_cons (qe_var 0) (qa_cons (qe_ty (n := "bool") (T.b_bool) (by decide +kernel)) qa_nil)))))))), ?_⟩
  rintro _ O R ⟨x, rfl, hd, hR⟩
  wtm_at "r"
  cases x with
  | dict k => exact absurd rfl (hd k)
  | _ => wtm_at "r"; exact rw_id hR
theorem sc__law_lists : FnScope ["_law_text", "_law_family", "_law_told_here", "_law_number"] ["_law_text"] (defScope s__law_lists) := ⟨rfl, rfl, rfl, by decide +kernel, rfl, by decide +kernel, by decide +kernel⟩
def C__law_lists : Con := fun xs O R => ∃ tss : List (List (List Nat)), xs = [dS (famT tss)] ∧ (∀ t ∈ tss, OkL t) ∧ (famT tss).length ≤ 100000 ∧ ∀ O' q, O q = none → (∀ b u, O b = some u → O' b = some u) → O' q = some (.lst ((vF tss).map OV.d)) → R (.o q) O'
theorem ok__law_lists (T : TopOk K mg X_InvalidText X_CoverError X_Reader) : FnD P w K mg base 1 "_law_lists" ["_law_text"] C__law_lists := by
  obtain ⟨f, fd, D⟩ := T.d__law_lists
  have sc := sc__law_lists
  refine fnd D sc (fun xs O R h => by obtain ⟨_, rfl, _⟩ := h; rfl) fun cdv A outer s H E hr => ⟨_, (qss_cons (qs_set (i := 1) sc.nd (qe_lst qa_nil))
  (qss_cons (qs_for PassesOwn.never rfl (qi_list (qe_bm PySem.F.plainAttrs_str PySem.F.slot_str_split PySem.F.type_str_split mt_split sm_split (qe_var 0) (qa_cons qe_str qa_nil))) (qg_name (i := 2) sc.nd) (qss_one (qs_if (qw_pt (qw_and (qt_cmp op_ne sr_neS (qe_var 0) qe_str) (qw_and1 (qt_cmp op_eq sr_eqS (qe_var 2) qe_str)))) (qss_one (qs_expr (qe_bm PySem.F.plainAttrs_list PySem.F.slot_list_append PySem.F.type_list_append mt_append sm_append (qe_var 1) (qa_cons (qe_lstF qa_nil) qa_nil)))) (qss_one (qs_if (qt_cmp op_ne sr_neS (qe_var 0) qe_str) (qss_one (qs_expr (qe_bm PySem.F.plainAttrs_list PySem.F.slot_list_append PySem.F.type_list_append mt_append sm_append (qe_var 1) (qa_cons (qe_wk (qe_lc (own := [("_law_number", 3)]) rfl sc.nd (qi_list (qe_bm PySem.F.plainAttrs_str PySem.F.slot_str_split PySem.F.type_str_split mt_split sm_split (qe_var 2) (qa_cons qe_str qa_nil))) (blk_of (N := ["_law_text", "_law_family", "_law_told_here", "_law_number"]) (sc := defScope s__law_lists) (by decide +kernel)) (gin_name (by decide)) sg_name (fun _ _ _ _ _ => pg_name (i := 3) sc.nd rfl (by first | exact .inl rfl | exact .inr rfl)) (fun _ _ _ _ _ => qts_nil) (fun _ _ _ _ _ => (qe_callTy call_int_str sn_intS (T.b_int) (by decide +kernel) (qa_cons (qe_var 3) qa_nil))))) qa_nil)))) qss_nil)))) (fun a b c => ps_for PassesOwn.never rfl a b c))
  (qss_one (qs_ret (qe_var 1))))), ?_⟩
  rintro _ O R ⟨tss, rfl, hok, hz, hR⟩
  wtm_at "r"
  intro q hq
  wtm_at "r"
  refine ⟨tym_s, ?_⟩
  wtm_at "r"
  rw [lit_sep]
  refine ⟨_, _, rfl, rfl, by decide, by rw [strL_len]; unfold sizeLine; omega, fun s hs => ?_⟩
  have sq : s ≠ q := fun z => by rw [z, updO_same] at hs; cases hs
  have hs0 : O s = none := (updO_ne sq).symm.trans hs
  by_cases hne : tss = []
  · subst hne
    rw [show Txt.split (⟨(famT []).toArray⟩ : Str) ⟨[32, 47, 32].toArray⟩ = [(⟨[].toArray⟩ : Str)] from split_none]
    refine ⟨⟨_, updO_same⟩, ?_⟩
    refine w_forO (α := Unit) (xs := [dS []]) (fun _ => [some (dS (famT [])), some (.o q), none, none]) (fun _ => updO (updO O q (.lst [])) s (.lst [dS []])) (fun _ _ => True) () (by wtm_at "e") trivial (fun _ _ _ => updO_same) ?_ ?_
    · rintro i _ x hx -
      wtm_at "r"
      exact ⟨(), by wtm_at "e", trivial⟩
    · rintro _ -
      wtm_at "r"
      refine rw_id (hR _ q hq (fun b u hb => ?_) ((updO_ne sq.symm).trans updO_same))
      exact sub_upd hs b u (sub_upd hq b u hb)
  rw [split_sep hok hne, strs_dS]
  refine ⟨⟨_, updO_same⟩, ?_⟩
  refine w_forO (α := Oh) (xs := (tss.map pieceT).map dS) (fun _ => [some (dS (famT tss)), some (.o q), none, none]) (fun h => h) (fun i h => h q = some (.lst ((vF (tss.take i)).map OV.d)) ∧ h s = some (.lst ((tss.map pieceT).map dS)) ∧ ∀ b u, O b = some u → h b = some u) (updO (updO O q (.lst [])) s (.lst ((tss.map pieceT).map dS))) (by wtm_at "e") ⟨(updO_ne sq.symm).trans updO_same, updO_same, fun b u hb => sub_upd hs b u (sub_upd hq b u hb)⟩ (fun _ _ hI => hI.2.1) ?_ ?_
  · rintro i h x hx ⟨h1, h2, h3⟩
    obtain ⟨t, ht, rfl⟩ : ∃ t, tss[i]? = some t ∧ x = dS (pieceT t) := by
      rw [List.getElem?_map, List.getElem?_map] at hx
      cases e : tss[i]? with
      | none => rw [e] at hx; cases hx
      | some t => rw [e] at hx; exact ⟨t, rfl, (Option.some.inj hx).symm⟩
    have hm := List.mem_of_getElem? ht
    have hi : i < tss.length := (List.getElem?_eq_some_iff.mp ht).1
    have hc := fam_cnt hok
    have hpl := piece_le hm
    have hfn : ¬ famT tss = [] := fun z => hne ((famt_nil hok).mp z)
    have snoc : (vF (tss.take i)).map OV.d ++ [OV.d (pW (vT t))] = (vF (tss.take (i + 1))).map OV.d := by
      rw [List.take_add_one, ht]
      show _ = ((tss.take i ++ [t]).map fun ts => pW (vT ts)).map OV.d
      rw [List.map_append, List.map_append]
      rfl
    wtm_at "r"
    rw [lit_empty]
    refine w_ndec (fun _ => ?_) (fun z => absurd (strL_inj.mp z) hfn)
    wtm_at "r"
    rw [lit_dash]
    refine w_dec (fun z => ?_) (fun z => ?_)
    · have z : t = [] := (piece_dash (hok t hm)).mp (strL_inj.mp z)
      wtm_at "r"
      refine ⟨tym_o h1, ?_⟩
      wtm_at "r"
      refine w_append h1 (szlm (by rw [List.length_map, List.length_map, List.length_take]; omega)) ?_
      rw [z] at snoc
      rw [show (vF (tss.take i)).map OV.d ++ [OV.d (.list [])] = (vF (tss.take (i + 1))).map OV.d from snoc]
      wtm_at "r"
      refine ⟨updO h q (.lst ((vF (tss.take (i + 1))).map OV.d)), by wtm_at "e", updO_same, (updO_ne sq).trans h2, fun b u hb => (updO_ne (fun z => by rw [z, hq] at hb; cases hb)).trans (h3 b u hb)⟩
    · have z : t ≠ [] := fun e => z (by rw [e]; rfl)
      wtm_at "r"
      refine w_ndec (fun _ => ?_) (fun z => absurd (strL_inj.mp z) hfn)
      wtm_at "r"
      refine ⟨tym_o h1, ?_⟩
      wtm_at "r"
      refine ⟨tym_s, ?_⟩
      wtm_at "r"
      rw [lit_space]
      refine ⟨_, _, rfl, rfl, by decide, by rw [strL_len]; unfold sizeLine; omega, fun s2 hs2 => ?_⟩
      rw [piece_join z, split_space (hok t hm) z, strs_dS]
      have sq2 : q ≠ s2 := fun e => by rw [← e, h1] at hs2; cases hs2
      have ss2 : s ≠ s2 := fun e => by rw [← e, h2] at hs2; cases hs2
      have hcnt : t.length ≤ 200000 := by
        have := join_cnt (S := [32]) (ps := t) fun p hp => tok_ne (hok t hm p hp)
        rw [← piece_join z] at this
        omega
      refine ⟨⟨_, updO_same⟩, ?_⟩
      refine w_lcI updO_same hcnt (fun j u D hu hD Q qq => ?_) (fun D hD => frz_new (Zs_eq _) hD ?_)
      · have hu := hok t hm u (List.mem_of_getElem? hu)
        wtm_at "r"
        exact ⟨_, _, rfl, tok_int hu, by rw [strL_len]; have := tok_len hu; omega, qq⟩
      wtm_at "r"
      refine w_append ((updO_ne sq2).trans h1) (szlm (by rw [List.length_map, List.length_map, List.length_take]; omega)) ?_
      rw [show (vF (tss.take i)).map OV.d ++ [OV.d (.list ((vT t).map PyData.int))] = (vF (tss.take (i + 1))).map OV.d from snoc]
      wtm_at "r"
      refine ⟨_, by wtm_at "e", updO_same, (updO_ne sq).trans ((updO_ne ss2).trans h2), fun b u hb => ?_⟩
      refine (updO_ne (fun z => by rw [z, hq] at hb; cases hb)).trans (sub_upd hs2 b u (h3 b u hb))
  · rintro h ⟨h1, h2, h3⟩
    rw [List.take_of_length_le (by rw [List.length_map, List.length_map]; exact Nat.le_refl _)] at h1
    wtm_at "r"
    exact rw_id (hR h q hq h3 h1)
theorem sc__law_meaning : FnScope ["_law_text", "_law_kind", "_law_number", "_law_parts"] ["_law_text", "_law_kind"] (defScope s__law_meaning) := ⟨rfl, rfl, rfl, by decide +kernel, rfl, by decide +kernel, by decide +kernel⟩
def C__law_meaning : Con := fun xs O R => ∃ l k, xs = [dS l, dI k] ∧ l.length ≤ 100000 ∧ ∃ d, (resR l k).2 = some d ∧ ∀ O' x, Fz O' x d → R x O'
theorem ok__law_meaning (T : TopOk K mg X_InvalidText X_CoverError X_Reader) : FnD P w K mg base 2 "_law_meaning" ["_law_text", "_law_kind"] C__law_meaning := by
  obtain ⟨f, fd, D⟩ := T.d__law_meaning
  have sc := sc__law_meaning
  refine fnd D sc (fun xs O R h => by obtain ⟨_, _, rfl, _⟩ := h; rfl) fun cdv A outer s H E hr => ⟨_, (qss_cut (qs_if (qw_pt (qw_and (qt_cmp op_eq sr_eqI (qe_var 1) qe_int) (qw_and1 (qt_cmp op_eq sr_eqS (qe_var 0) qe_str)))) (qss_one (qs_ret (qe_lst qa_nil))) qss_nil)
  (qss_cons (qs_if (qt_cmp op_eq sr_eqI (qe_var 1) qe_int) (qss_one (qs_ret (qe_lc (own := [("_law_number", 2)]) rfl sc.nd (qi_list (qe_bm PySem.F.plainAttrs_str PySem.F.slot_str_split PySem.F.type_str_split mt_split sm_split (qe_var 0) (qa_cons qe_str qa_nil))) (blk_of (N := ["_law_text", "_law_kind", "_law_number", "_law_parts"]) (sc := defScope s__law_meaning) (by decide +kernel)) (gin_name (by decide)) sg_name (fun _ _ _ _ _ => pg_name (i := 2) sc.nd rfl (by first | exact .inl rfl | exact .inr rfl)) (fun _ _ _ _ _ => qts_nil) (fun _ _ _ _ _ => (qe_callTy call_int_str sn_intS (T.b_int) (by decide +kernel) (qa_cons (qe_var 2) qa_nil)))))) qss_nil)
  (qss_cons (qs_if (qt_cmp op_eq sr_eqI (qe_var 1) qe_int) (qss_one (qs_ret (qe_call (ok__law_lists T) hr (qa_cons (qe_var 0) qa_nil)))) qss_nil)
  (qss_cons (qs_set (i := 3) sc.nd (qe_bm PySem.F.plainAttrs_str PySem.F.slot_str_split PySem.F.type_str_split mt_split sm_split (qe_slice sl_str sl_s (qe_var 0) (qo_some qe_int) qo_none) (qa_cons qe_str qa_nil)))
  (qss_one (qs_ret (qe_tup (qa_cons (qe_wk (qe_call (ok__law_lists T) hr (qa_cons (qe_ix ix_list sr_ixL (qe_var 3) qe_int) qa_nil))) (qa_cons (qe_wk (qe_call (ok__law_lists T) hr (qa_cons (qe_ix ix_list sr_ixL (qe_var 3) qe_int) qa_nil))) qa_nil))))))))), ?_⟩
  rintro _ O R ⟨l, k, rfl, hz, d, hd, hR⟩
  unfold resR at hd
  wtm_at "r"
  by_cases hk : k = 0
  · subst hk
    rw [if_pos rfl] at hd
    obtain ⟨j, o, e⟩ : ∃ j o, wrdR l = (j, o) := ⟨_, _, rfl⟩
    rw [e] at hd
    cases o with
    | none => cases hd
    | some ts =>
      obtain rfl : pW (vT ts) = d := by cases hd; rfl
      obtain ⟨t1, t2, t3, t4⟩ := wrdR_sound e
      subst t2
      refine w_cut (α := Unit) (fun _ => [some (dS (TL.joinL [32] ts)), some (dI 0), none, none]) (fun _ => O) (fun _ => ts ≠ []) ?_ ?_
      · wtm_at "r"
        rw [lit_empty]
        refine w_dec (fun z => ?_) (fun z => ?_)
        · have z : ts = [] := t4.mp (strL_inj.mp z)
          subst z
          wtm_at "r"
          intro p hp
          exact rw_id (hR _ _ (.o updO_same .nil))
        · wtm_at "r"
          exact ⟨(), by wtm_at "e", fun e => z (by rw [e]; rfl)⟩
      rintro _ hne
      wtm_at "r"
      refine ⟨tym_s, ?_⟩
      wtm_at "r"
      rw [lit_space]
      refine ⟨_, _, rfl, rfl, by decide, by rw [strL_len]; unfold sizeLine; omega, fun s hs => ?_⟩
      rw [split_space t1 hne, strs_dS]
      refine ⟨⟨_, updO_same⟩, ?_⟩
      refine w_lcI updO_same ?_ (fun j u D hu hD Q qq => ?_) (fun D hD => rw_id (hR _ _ (Vw.fz (.inr ⟨D, rfl, updO_same⟩))))
      · have := join_cnt (S := [32]) (ps := ts) fun p hp => tok_ne (t1 p hp)
        omega
      · have hu := t1 u (List.mem_of_getElem? hu)
        wtm_at "r"
        exact ⟨_, _, rfl, tok_int hu, by rw [strL_len]; have := tok_len hu; omega, qq⟩
  rw [if_neg hk] at hd
  refine w_cut (α := Unit) (fun _ => [some (dS l), some (dI k), none, none]) (fun _ => O) (fun _ => True) ?_ ?_
  · wtm_at "r"
    refine w_dec (fun z => absurd z hk) (fun _ => ?_)
    wtm_at "r"
    exact ⟨(), by wtm_at "e", trivial⟩
  rintro _ -
  wtm_at "r"
  refine w_dec (fun z => absurd z hk) (fun _ => ?_)
  wtm_at "r"
  by_cases hk1 : k = 1
  · subst hk1
    rw [if_pos rfl] at hd
    obtain ⟨j, o, e⟩ : ∃ j o, famR none l 0 = (j, o) := ⟨_, _, rfl⟩
    rw [e] at hd
    cases o with
    | none => cases hd
    | some tss =>
      obtain rfl : .list (vF tss) = d := by cases hd; rfl
      obtain ⟨f1, f2, f3, f4, f5⟩ := famR_sound (Nat.zero_le _) e
      rw [List.drop_eq_nil_of_le (List.getElem?_eq_none_iff.mp f5), List.append_nil, List.drop_zero] at f1
      subst f1
      wtm_at "r"
      exact ⟨tss, rfl, f2, hz, fun O' q hq hs hq2 => rw_id (hR _ _ (.o hq2 (FzA.ofData _)))⟩
  rw [if_neg hk1] at hd
  refine w_dec (fun z => absurd z hk1) (fun _ => ?_)
  obtain ⟨j, o, e⟩ : ∃ j o, papR2 l = (j, o) := ⟨_, _, rfl⟩
  rw [e] at hd
  cases o with
  | none => cases hd
  | some p =>
    obtain ⟨fs, gs⟩ := p
    obtain rfl : .tuple [.list (vF fs), .list (vF gs)] = d := by cases hd; rfl
    obtain ⟨f1, f2, f3⟩ := pap_sound e
    have hlen := congrArg List.length f1
    have hr : risL.length = 7 := rfl
    have hf : falL.length = 10 := rfl
    simp only [List.length_append] at hlen
    wtm_at "r"
    refine w_slS (by rw [strL_len]; unfold sizeLine; omega) ?_
    rw [cut_from (i := 7) (a := 7) rfl]
    have hd7 : l.drop 7 = famT fs ++ (falL ++ famT gs) := by
      conv => lhs; rw [f1]
      exact List.drop_left' hr
    wtm_at "r"
    refine ⟨tym_s, ?_⟩
    wtm_at "r"
    rw [lit_fal, hd7]
    refine ⟨_, _, rfl, rfl, by decide, by rw [strL_len]; unfold sizeLine; simp only [List.length_append]; omega, fun s hs => ?_⟩
    rw [split_fal f2 f3]
    have hs1 : updO O s (.lst [dS (famT fs), dS (famT gs)]) s = some (.lst [dS (famT fs), dS (famT gs)]) := updO_same
    rw [show ([(⟨(famT fs).toArray⟩ : Str), ⟨(famT gs).toArray⟩].map fun s => OV.d (.str s)) = [dS (famT fs), dS (famT gs)] from rfl]
    generalize updO O s (.lst [dS (famT fs), dS (famT gs)]) = O1 at *
    wtm_at "r"
    refine w_ixO hs1 (i := 0) rfl ?_
    wtm_at "r"
    refine ⟨fs, rfl, f2, by omega, fun O2 q hq hsb hq2 => ?_⟩
    refine ⟨_, _, Wk.flatG hq2, ?_⟩
    have hs2 : rmO O2 q s = some (.lst [dS (famT fs), dS (famT gs)]) := by
      rw [rmO_ne (fun z => by rw [z, hq] at hs1; cases hs1)]
      exact hsb _ _ hs1
    generalize rmO O2 q = O3 at *
    wtm_at "r"
    refine w_ixO hs2 (i := 1) rfl ?_
    wtm_at "r"
    refine ⟨gs, rfl, f3, by omega, fun O4 q4 hq4 hsb4 hq24 => ?_⟩
    refine ⟨_, _, Wk.flatG hq24, ?_⟩
    wtm_at "r"
    exact rw_id (hR _ _ (.d _))
theorem sc_law : FnScope ["_law_script", "_law_kind", "_law_text", "_law_at", "_law_good", "_law_word", "_law_told_here"] ["_law_script"] (defScope s_law) := ⟨rfl, rfl, rfl, by decide +kernel, rfl, by decide +kernel, by decide +kernel⟩

def C_law : Con := fun xs O R => ∃ ns, xs = [.s ns] ∧ ns.length ≤ 63 ∧ ∀ O', R (dB true) O'
theorem law_ok {ns : List Int} (h : ns.length ≤ 63) : C_law [.s ns] (fun _ => none) fun r _ => r = .d (.bool true) := ⟨ns, rfl, h, fun _ => rfl⟩
set_option maxHeartbeats 0 in
theorem ok_law (T : TopOk K mg X_InvalidText X_CoverError X_Reader) {f : Addr} {fd : FuncData} (D : DefAt K mg "law" s_law ["_law_script"] f fd) : FnOk P w K mg base CX0 9 f fd ["_law_script"] (spOf K C_law) := by
  have sc := sc_law
  refine fnd_at D sc (fun xs O R h => by obtain ⟨_, rfl, _⟩ := h; rfl) fun cdv A outer s H E hr => ⟨_, (qss_cons (qs_for PassesOwn.never rfl (qi_range1 (T.b_range) (qa_cons qe_int qa_nil)) (qg_name (i := 1) sc.nd) (qss_cons (qs_set (i := 2) sc.nd (qe_call (ok__law_drawn T) hr (qa_cons (qe_call (ok__law_stream T) hr (qa_cons (qe_call (ok__law_cell T) hr (qa_cons (qe_var 0) (qa_cons (qe_var 1) qa_nil))) qa_nil)) (qa_cons (qe_var 1) qa_nil))))
  (qss_cons (qs_asg (qe_call (ok__law_walk T) hr (qa_cons (qe_var 2) (qa_cons (qe_var 1) qa_nil))) (qg_tup rfl (qgs_name (i := 3) sc.nd (qgs_name (i := 4) sc.nd qgs_nil))))
  (qss_cons (qs_asg (qe_call (ok__law_told T) hr (qa_cons (qe_var 2) (qa_cons (qe_var 1) qa_nil))) (qg_tup rfl (qgs_name (i := 5) sc.nd (qgs_name (i := 6) sc.nd qgs_nil))))
  (qss_cut (qs_if (qw_pt (qw_and (qt_not (qt_val (qe_var 4))) (qw_and1 (qw_pt (qw_or (qt_cmp op_ne sr_neS (qe_var 5) qe_str) (qw_or (qt_not (qt_val (qe_call (ok__law_is_integer T) hr (qa_cons (qe_var 6) qa_nil)))) (qw_or1 (qt_cmp (op_neD hr.units) sr_ne (qe_var 6) (qe_var 3))))))))) (qss_one (qs_ret qe_bl)) qss_nil)
  (qss_one (qs_if (qw_pt (qw_and (qt_val (qe_var 4)) (qw_and1 (qw_pt (qw_or (qt_cmp op_ne sr_neS (qe_var 5) qe_str) (qw_or1 (qt_cmp (op_neD hr.units) sr_ne (qe_var 6) (qe_call (ok__law_meaning T) hr (qa_cons (qe_var 2) (qa_cons (qe_var 1) qa_nil)))))))))) (qss_one (qs_ret qe_bl)) qss_nil)))))) (fun a b c => ps_for PassesOwn.never rfl a b c))
  (qss_one (qs_ret qe_bl))), ?_⟩
  rintro _ O R ⟨sc0, rfl, hl, hR⟩
  wtm_at "r"
  refine ⟨by decide, by decide, ?_⟩
  refine w_forR (α := Oh) (lo := 0) (n := 3) (fun _ => [some (.s sc0), none, none, none, none, none, none]) (fun h => h) (fun _ _ => True) O (by wtm_at "e") trivial ?_ ?_
  · rintro i h hi -
    wtm_at "r"
    refine ⟨sc0, _, rfl, by omega, fun c => ?_⟩
    wtm_at "r"
    refine ⟨c, rfl, fun p a b d hp => ?_⟩
    wtm_at "r"
    refine ⟨p, _, rfl, Strm.upd, fun O1 l hl => ?_⟩
    wtm_at "r"
    refine ⟨l, _, rfl, hl, ?_⟩
    wtm_at "r"
    refine ⟨l, _, rfl, hl, fun d hd O2 => ?_, fun hd O2 => ?_⟩
    · rw [hd]
      wtm_at "r"
      refine w_cut (α := Unit) (fun _ => [some (.s sc0), some (dI (0 + (i : Int))), some (dS l), some (dI ((resR l (0 + (i : Int))).1 : Int)), some (dB true), some (.d (.str (Str.ofString ""))), some (.d d)]) (fun _ => O2) (fun _ => True) ?_ ?_
      · wtm_at "r"
        exact ⟨(), by wtm_at "e", trivial⟩
      rintro _ -
      wtm_at "r"
      refine ⟨l, _, rfl, hl, d, hd, fun O3 x hx => ?_⟩
      have sh := (res_shp hd).ok (by decide)
      refine w_eqz (.d _) hx sh sh ?_
      rw [show PyData.eqv d d = true from eqv_self (res_shp hd)]
      wtm_at "r"
      exact ⟨O3, by wtm_at "e", trivial⟩
    · rw [hd]
      wtm_at "r"
      refine w_cut (α := Unit) (fun _ => [some (.s sc0), some (dI (0 + (i : Int))), some (dS l), some (dI ((resR l (0 + (i : Int))).1 : Int)), some (dB false), some (.d (.str (Str.ofString "text"))), some (dI ((resR l (0 + (i : Int))).1 : Int))]) (fun _ => O2) (fun _ => True) ?_ ?_
      · wtm_at "r"
        refine ⟨_, rfl, (fun k => nofun), ?_⟩
        wtm_at "r"
        refine w_neY 0 (shp_int _) rfl ?_
        wtm_at "r"
        exact ⟨(), by wtm_at "e", trivial⟩
      rintro _ -
      wtm_at "r"
      exact ⟨O2, by wtm_at "e", trivial⟩
  · rintro h -
    wtm_at "r"
    exact rw_id (hR _)

end
theorem lawFin {l : PySem.W.OpenLaw} {w : World} {K : PySem.W.Frag} {h : Heap} {mg : Str → Option Value} {fa f X_InvalidText X_CoverError X_Reader : Addr} (X : K.In h) (G : h.Ns mainGlobals mg) (hfa : mg "law" = some (.ref fa)) (T : TopOk K mg X_InvalidText X_CoverError X_Reader) {od an : Option Addr} {sl : Array (Option Value)} {oc kV dc pm cd ct : Value}
    (a : PySem.W.nsIn K mainGlobals "law" = some (some (.ref f))) (hl : K.lookup f = some ⟨oc, od, .func (PySem.W.fnOf "law" "law" (defArgs s_law) (defBody s_law) (defScope s_law) .none kV dc pm an cd ct), sl⟩) (c : PySem.W.codeIn K cd "law" = true) (kp : PySem.W.keepIn K (.ref f) = true) :
    ∃ fd : FuncData, (∀ (s : Shared) (v : Value), BindsTo s fd ⟨[v], []⟩ [("_law_script", v)]) ∧ ∀ base : Heap, K.In base → base.Ns mainGlobals mg → FnOk l.prog w K mg base CX0 9 fa fd ["_law_script"] (spOf K C_law) := by
  have e := hfa.symm.trans (PySem.W.mg_of X G a)
  cases e
  exact ⟨PySem.W.fnOf "law" "law" (defArgs s_law) (defBody s_law) (defScope s_law) .none kV dc pm an cd ct, fun s v => .of_eq rfl, fun base _ _ => ok_law T (defAt_mk X G a hl c kp fun _ _ _ _ _ _ us hl => match us, hl with | [_], _ => rfl)⟩
end Y
open PySem PySem.W PyProof.Rows
set_option maxHeartbeats 0 in
theorem PySem.Challenge.cw_coverpapers_k29_invalid_texts_holds : PySem.Challenge.rw_coverpapers_k29_invalid_texts.Holds := by
  w_on; o_law; k_head; (case hw => w_witness2)
  k_fill
  refine L2.walk_of (l := PySem.Challenge.rw_coverpapers_k29_invalid_texts) (n := 63) (k := 9) (x := "_law_script") (CX := fun _ => L2.CX0) (sp := fun w => Y.spOf _ Y.C_law) rfl (by decide) rfl ⟨rfl, by decide, by decide⟩ (fun w h Y => PySem.W.kIn_of Y) ?F (fun _ _ a ns hl _ hS => Y.law_sp hS (Y.law_ok hl)) (fun _ _ _ _ _ h => h)
  case F =>
    intro w mg fa h KX G hmg
    refine' Y.lawFin KX G hmg ⟨PySem.W.mg_none_of KX G ?b_abs, PySem.W.mg_none_of KX G ?b_bool, PySem.W.mg_none_of KX G ?b_int, PySem.W.mg_none_of KX G ?b_isinstance, PySem.W.mg_none_of KX G ?b_len, PySem.W.mg_none_of KX G ?b_range, Y.defA_mk KX G (fun _ _ _ _ _ _ us hl => match us, hl with | [_], _ => rfl) ?a_parse_word ?l_parse_word ?c_parse_word ?k_parse_word, Y.defA_mk KX G (fun _ _ _ _ _ _ us hl => match us, hl with | [_], _ => rfl) ?a_parse_family ?l_parse_family ?c_parse_family ?k_parse_family, Y.defA_mk KX G (fun _ _ _ _ _ _ us hl => match us, hl with | [_], _ => rfl) ?a_parse_paper ?l_parse_paper ?c_parse_paper ?k_parse_paper, Y.defA_mk KX G (fun _ _ _ _ _ _ us hl => match us, hl with | [_, _], _ => rfl) ?a__law_cell ?l__law_cell ?c__law_cell ?k__law_cell, Y.defA_mk KX G (fun _ _ _ _ _ _ us hl => match us, hl with | [_], _ => rfl) ?a__law_stream ?l__law_stream ?c__law_stream ?k__law_stream, Y.defA_mk KX G (fun _ _ _ _ _ _ us hl => match us, hl with | [_, _], _ => rfl) ?a__law_next ?l__law_next ?c__law_next ?k__law_next, Y.defA_mk KX G (fun _ _ _ _ _ _ us hl => match us, hl with | [_], _ => rfl) ?a__law_is_integer ?l__law_is_integer ?c__law_is_integer ?k__law_is_integer, Y.defA_mk KX G (fun _ _ _ _ _ _ us hl => match us, hl with | [_], _ => rfl) ?a__law_number_text ?l__law_number_text ?c__law_number_text ?k__law_number_text, Y.defA_mk KX G (fun _ _ _ _ _ _ us hl => match us, hl with | [_, _, _], _ => rfl) ?a__law_walk_number ?l__law_walk_number ?c__law_walk_number ?k__law_walk_number, Y.defA_mk KX G (fun _ _ _ _ _ _ us hl => match us, hl with | [_, _], _ => rfl) ?a__law_walk_word ?l__law_walk_word ?c__law_walk_word ?k__law_walk_word, Y.defA_mk KX G (fun _ _ _ _ _ _ us hl => match us, hl with | [_, _], _ => rfl) ?a__law_walk_list ?l__law_walk_list ?c__law_walk_list ?k__law_walk_list, Y.defA_mk KX G (fun _ _ _ _ _ _ us hl => match us, hl with | [_, _, _], _ => rfl) ?a__law_walk_family ?l__law_walk_family ?c__law_walk_family ?k__law_walk_family, Y.defA_mk KX G (fun _ _ _ _ _ _ us hl => match us, hl with | [_, _, _], _ => rfl) ?a__law_walk_sign ?l__law_walk_sign ?c__law_walk_sign ?k__law_walk_sign, Y.defA_mk KX G (fun _ _ _ _ _ _ us hl => match us, hl with | [_, _], _ => rfl) ?a__law_walk ?l__law_walk ?c__law_walk ?k__law_walk, Y.defA_mk KX G (fun _ _ _ _ _ _ us hl => match us, hl with | [_], _ => rfl) ?a__law_lists ?l__law_lists ?c__law_lists ?k__law_lists, Y.defA_mk KX G (fun _ _ _ _ _ _ us hl => match us, hl with | [_, _], _ => rfl) ?a__law_meaning ?l__law_meaning ?c__law_meaning ?k__law_meaning, Y.defA_mk KX G (fun _ _ _ _ _ _ us hl => match us, hl with | [_, _], _ => rfl) ?a__law_told ?l__law_told ?c__law_told ?k__law_told, Y.defA_mk KX G (fun _ _ _ _ _ _ us hl => match us, hl with | [_], _ => rfl) ?a__law_drawn_family ?l__law_drawn_family ?c__law_drawn_family ?k__law_drawn_family, Y.defA_mk KX G (fun _ _ _ _ _ _ us hl => match us, hl with | [_, _], _ => rfl) ?a__law_drawn ?l__law_drawn ?c__law_drawn ?k__law_drawn, Y.initDN_mk ?mk_Reader___init__ ?at_Reader___init__ ?in_Reader___init__ ?kc_Reader___init__ ?l_Reader___init__ ?c_Reader___init__ ?k_Reader___init__, Y.methD_mk ?at_Reader_sign ?in_Reader_sign ?l_Reader_sign ?c_Reader_sign ?k_Reader_sign, Y.methD_mk ?at_Reader_fail ?in_Reader_fail ?l_Reader_fail ?c_Reader_fail ?k_Reader_fail, Y.methD_mk ?at_Reader_expect ?in_Reader_expect ?l_Reader_expect ?c_Reader_expect ?k_Reader_expect, Y.methD_mk ?at_Reader_number ?in_Reader_number ?l_Reader_number ?c_Reader_number ?k_Reader_number, Y.methD_mk ?at_Reader_at_digit ?in_Reader_at_digit ?l_Reader_at_digit ?c_Reader_at_digit ?k_Reader_at_digit, Y.methD_mk ?at_Reader_indexes ?in_Reader_indexes ?l_Reader_indexes ?c_Reader_indexes ?k_Reader_indexes, Y.methD_mk ?at_Reader_family ?in_Reader_family ?l_Reader_family ?c_Reader_family ?k_Reader_family, Y.globD_int (PySem.W.mg_of KX G ?ca_DIGIT_LIMIT), Y.globD_str (PySem.W.mg_of KX G ?ca_DIGITS), PySem.W.mg_of KX G ?gg_Reader, ⟨?pg_Reader, ?hd_Reader, ?po_Reader, ?sa_Reader⟩, ?na_Reader_text, ?na_Reader_at, ⟨PySem.W.mg_of KX G ?xg_InvalidText, ?xk_InvalidText, ?xb_InvalidText, ?xt_InvalidText, ⟨?xe1_InvalidText, ?xe2_InvalidText, ?xe3_InvalidText, ?xe4_InvalidText, ?xe5_InvalidText, ?xe6_InvalidText, ?xe7_InvalidText, ?xe8_InvalidText⟩⟩, ⟨PySem.W.mg_of KX G ?xg_CoverError, ?xx_CoverError, ?xk_CoverError, ?xb_CoverError, ?xt_CoverError, ⟨?xe1_CoverError, ?xe2_CoverError, ?xe3_CoverError, ?xe4_CoverError, ?xe5_CoverError, ?xe6_CoverError, ?xe7_CoverError, ?xe8_CoverError⟩⟩, Y.initXD_mk ?ih_InvalidText ?iq_InvalidText ?isa_InvalidText ?iex_InvalidText ?ity_InvalidText ?ikc_InvalidText ?ina_InvalidText ?iic_InvalidText ?iti_InvalidText ?il_InvalidText ?ic_InvalidText ?ik_InvalidText, ⟨?fa_InvalidText, ?fb_InvalidText, ?fc_InvalidText, ?fd_InvalidText⟩, ?fe_InvalidText, ?s_InvalidText_InvalidText, Y.kit_ref ?ik_InvalidText_CoverError ?tk_InvalidText_CoverError ?sk_InvalidText_CoverError⟩ ?zza ?zzl ?zzc ?zzk
    (case gg_Reader => first | k_is | k_exc); (case b_abs => first | k_is | k_exc); (case b_bool => first | k_is | k_exc); (case b_int => first | k_is | k_exc); (case b_isinstance => first | k_is | k_exc); (case b_len => first | k_is | k_exc); (case b_range => first | k_is | k_exc); (case a_parse_word => first | k_is | k_exc); (case l_parse_word => first | k_is | k_exc); (case c_parse_word => first | k_is | k_exc); (case k_parse_word => first | k_is | k_exc); (case a_parse_family => first | k_is | k_exc); (case l_parse_family => first | k_is | k_exc); (case c_parse_family => first | k_is | k_exc); (case k_parse_family => first | k_is | k_exc); (case a_parse_paper => first | k_is | k_exc); (case l_parse_paper => first | k_is | k_exc); (case c_parse_paper => first | k_is | k_exc); (case k_parse_paper => first | k_is | k_exc); (case a__law_cell => first | k_is | k_exc); (case l__law_cell => first | k_is | k_exc); (case c__law_cell => first | k_is | k_exc); (case k__law_cell => first | k_is | k_exc); (case a__law_stream => first | k_is | k_exc); (case l__law_stream => first | k_is | k_exc); (case c__law_stream => first | k_is | k_exc); (case k__law_stream => first | k_is | k_exc); (case a__law_next => first | k_is | k_exc); (case l__law_next => first | k_is | k_exc); (case c__law_next => first | k_is | k_exc); (case k__law_next => first | k_is | k_exc); (case a__law_is_integer => first | k_is | k_exc); (case l__law_is_integer => first | k_is | k_exc); (case c__law_is_integer => first | k_is | k_exc); (case k__law_is_integer => first | k_is | k_exc); (case a__law_number_text => first | k_is | k_exc); (case l__law_number_text => first | k_is | k_exc); (case c__law_number_text => first | k_is | k_exc); (case k__law_number_text => first | k_is | k_exc); (case a__law_walk_number => first | k_is | k_exc); (case l__law_walk_number => first | k_is | k_exc); (case c__law_walk_number => first | k_is | k_exc); (case k__law_walk_number => first | k_is | k_exc); (case a__law_walk_word => first | k_is | k_exc); (case l__law_walk_word => first | k_is | k_exc); (case c__law_walk_word => first | k_is | k_exc); (case k__law_walk_word => first | k_is | k_exc); (case a__law_walk_list => first | k_is | k_exc); (case l__law_walk_list => first | k_is | k_exc); (case c__law_walk_list => first | k_is | k_exc); (case k__law_walk_list => first | k_is | k_exc); (case a__law_walk_family => first | k_is | k_exc); (case l__law_walk_family => first | k_is | k_exc); (case c__law_walk_family => first | k_is | k_exc); (case k__law_walk_family => first | k_is | k_exc); (case a__law_walk_sign => first | k_is | k_exc); (case l__law_walk_sign => first | k_is | k_exc); (case c__law_walk_sign => first | k_is | k_exc); (case k__law_walk_sign => first | k_is | k_exc); (case a__law_walk => first | k_is | k_exc); (case l__law_walk => first | k_is | k_exc); (case c__law_walk => first | k_is | k_exc); (case k__law_walk => first | k_is | k_exc); (case a__law_lists => first | k_is | k_exc); (case l__law_lists => first | k_is | k_exc); (case c__law_lists => first | k_is | k_exc); (case k__law_lists => first | k_is | k_exc); (case a__law_meaning => first | k_is | k_exc); (case l__law_meaning => first | k_is | k_exc); (case c__law_meaning => first | k_is | k_exc); (case k__law_meaning => first | k_is | k_exc); (case a__law_told => first | k_is | k_exc); (case l__law_told => first | k_is | k_exc); (case c__law_told => first | k_is | k_exc); (case k__law_told => first | k_is | k_exc); (case a__law_drawn_family => first | k_is | k_exc); (case l__law_drawn_family => first | k_is | k_exc); (case c__law_drawn_family => first | k_is | k_exc); (case k__law_drawn_family => first | k_is | k_exc); (case a__law_drawn => first | k_is | k_exc); (case l__law_drawn => first | k_is | k_exc); (case c__law_drawn => first | k_is | k_exc); (case k__law_drawn => first | k_is | k_exc); (case mk_Reader___init__ => first | k_is | k_exc); (case at_Reader___init__ => first | k_is | k_exc); (case in_Reader___init__ => first | k_is | k_exc); (case kc_Reader___init__ => first | k_is | k_exc); (case l_Reader___init__ => first | k_is | k_exc); (case c_Reader___init__ => first | k_is | k_exc); (case k_Reader___init__ => first | k_is | k_exc); (case at_Reader_sign => first | k_is | k_exc); (case in_Reader_sign => first | k_is | k_exc); (case l_Reader_sign => first | k_is | k_exc); (case c_Reader_sign => first | k_is | k_exc); (case k_Reader_sign => first | k_is | k_exc); (case at_Reader_fail => first | k_is | k_exc); (case in_Reader_fail => first | k_is | k_exc); (case l_Reader_fail => first | k_is | k_exc); (case c_Reader_fail => first | k_is | k_exc); (case k_Reader_fail => first | k_is | k_exc); (case at_Reader_expect => first | k_is | k_exc); (case in_Reader_expect => first | k_is | k_exc); (case l_Reader_expect => first | k_is | k_exc); (case c_Reader_expect => first | k_is | k_exc); (case k_Reader_expect => first | k_is | k_exc); (case at_Reader_number => first | k_is | k_exc); (case in_Reader_number => first | k_is | k_exc); (case l_Reader_number => first | k_is | k_exc); (case c_Reader_number => first | k_is | k_exc); (case k_Reader_number => first | k_is | k_exc); (case at_Reader_at_digit => first | k_is | k_exc); (case in_Reader_at_digit => first | k_is | k_exc); (case l_Reader_at_digit => first | k_is | k_exc); (case c_Reader_at_digit => first | k_is | k_exc); (case k_Reader_at_digit => first | k_is | k_exc); (case at_Reader_indexes => first | k_is | k_exc); (case in_Reader_indexes => first | k_is | k_exc); (case l_Reader_indexes => first | k_is | k_exc); (case c_Reader_indexes => first | k_is | k_exc); (case k_Reader_indexes => first | k_is | k_exc); (case at_Reader_family => first | k_is | k_exc); (case in_Reader_family => first | k_is | k_exc); (case l_Reader_family => first | k_is | k_exc); (case c_Reader_family => first | k_is | k_exc); (case k_Reader_family => first | k_is | k_exc); (case ca_DIGIT_LIMIT => first | k_is | k_exc); (case ca_DIGITS => first | k_is | k_exc); (case pg_Reader => first | k_is | k_exc); (case hd_Reader => first | k_is | k_exc); (case po_Reader => first | k_is | k_exc); (case sa_Reader => first | k_is | k_exc); (case na_Reader_text => show PySem.W.findIn _ _ _ = _; first | k_is | k_exc); (case na_Reader_at => show PySem.W.findIn _ _ _ = _; first | k_is | k_exc); (case xg_InvalidText => first | k_is | k_exc); (case xk_InvalidText => first | k_is | k_exc); (case xb_InvalidText => first | k_is | k_exc); (case xt_InvalidText => first | k_is | k_exc); (case xe1_InvalidText => first | k_is | k_exc); (case xe2_InvalidText => first | k_is | k_exc); (case xe3_InvalidText => first | k_is | k_exc); (case xe4_InvalidText => first | k_is | k_exc); (case xe5_InvalidText => first | k_is | k_exc); (case xe6_InvalidText => first | k_is | k_exc); (case xe7_InvalidText => first | k_is | k_exc); (case xe8_InvalidText => first | k_is | k_exc); (case xg_CoverError => first | k_is | k_exc); (case xx_CoverError => first | k_is | k_exc); (case xk_CoverError => first | k_is | k_exc); (case xb_CoverError => first | k_is | k_exc); (case xt_CoverError => first | k_is | k_exc); (case xe1_CoverError => first | k_is | k_exc); (case xe2_CoverError => first | k_is | k_exc); (case xe3_CoverError => first | k_is | k_exc); (case xe4_CoverError => first | k_is | k_exc); (case xe5_CoverError => first | k_is | k_exc); (case xe6_CoverError => first | k_is | k_exc); (case xe7_CoverError => first | k_is | k_exc); (case xe8_CoverError => first | k_is | k_exc); (case ih_InvalidText => first | k_is | k_exc); (case iq_InvalidText => decide +kernel); (case isa_InvalidText => first | k_is | k_exc); (case iex_InvalidText => first | k_is | k_exc); (case ity_InvalidText => first | k_is | k_exc); (case ikc_InvalidText => first | k_is | k_exc); (case ina_InvalidText => first | k_is | k_exc); (case iic_InvalidText => first | k_is | k_exc); (case iti_InvalidText => first | k_is | k_exc); (case il_InvalidText => first | k_is | k_exc); (case ic_InvalidText => first | k_is | k_exc); (case ik_InvalidText => first | k_is | k_exc); (case fa_InvalidText => first | k_is | k_exc); (case fb_InvalidText => first | k_is | k_exc); (case fc_InvalidText => first | k_is | k_exc); (case fd_InvalidText => first | k_is | k_exc); (case fe_InvalidText => first | k_is | k_exc); (case s_InvalidText_InvalidText => first | k_is | k_exc); (case ik_InvalidText_CoverError => first | k_is | k_exc); (case tk_InvalidText_CoverError => first | k_is | k_exc); (case sk_InvalidText_CoverError => first | k_is | k_exc); (case zza => first | k_is | k_exc); (case zzl => first | k_is | k_exc); (case zzc => first | k_is | k_exc); (case zzk => first | k_is | k_exc)
