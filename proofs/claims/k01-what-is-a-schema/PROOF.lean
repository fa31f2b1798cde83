import PyProof.Rows.All
import Wide.All
import OpenK.AllK
import Wide.FinOn
import HandS.ForMost
import HandS.ForExc
import HandS.Walk
import HandS.Deep
import HandS.Wide
import HandS.TupAny
import HandS.TupMul
import HandS.Style
import KE.LtData
import KE.GoesNew
import HandS.IsInst
import HandS.More
import PyProof.TwoTypesSub
import PyProof.StrOps2
import HandS.Text
import HandS.WordsExc
import HandS.SetBool
import HandS.SetKeys
import HandS.Defaults
import HandS.Lambda
import HandS.Words
import HandS.Head0
import HandS.Head1
import HandS.Head2
import HandS.HeadEnd
import HandS.HeadHook1
import HandS.HeadHook2
import PySem.Challenge.RW_putagain_k01_what_is_a_schema
set_option Elab.async false
set_option linter.all false
set_option maxRecDepth 100000
set_option maxHeartbeats 0
/-! F1: data, frames of slots, readings of data. My own layer over HandS: what a def computes is a plain function of data. -/
namespace PF
open PySem PySem.Spec L2
open PyProof.Rows hiding St

/-! ### what never changes -/
def isFz : HO → Bool
  | .tup _ => true
  | .frz _ _ => true
  | _ => false
def FzLe (H H' : Hp) : Prop := ∀ a o, isFz o = true → H a = some o → H' a = some o
theorem FzLe.refl (H : Hp) : FzLe H H := fun _ _ _ h => h
theorem FzLe.trans {H H1 H2 : Hp} (h : FzLe H H1) (k : FzLe H1 H2) : FzLe H H2 := fun a o z q => k a o z (h a o z q)
theorem fz_same {H H' : Hp} (h : Same H H') : FzLe H H' := fun a o _ q => h a o q
theorem same_new {H : Hp} {p : Addr} {o : HO} (h : H p = none) : Same H (upd H p o) := fun b x e => by
  rw [upd_ne (ne_of_none e h)]
  exact e
theorem fz_lst {H : Hp} {a : Addr} {xs : List V} {o : HO} (h : H a = some (.lst xs)) : FzLe H (upd H a o) := fun b u z e => by
  by_cases hb : b = a
  · subst hb
    rw [h] at e
    cases e
    cases z
  · rw [upd_ne hb]
    exact e

/-- a list that never changes -/
def FL (H : Hp) (a : Addr) (xs : List V) : Prop := ∃ o, H a = some (.frz o (.lst xs))
theorem FL.sql {K : PySem.W.Frag} {H : Hp} {a : Addr} {xs : List V} (h : FL H a xs) : SqL K H a xs := .inl (.inr h)
theorem FL.mono {H H' : Hp} {a : Addr} {xs : List V} (k : FzLe H H') (h : FL H a xs) : FL H' a xs := let ⟨o, h⟩ := h; ⟨o, k _ _ rfl h⟩
/-- .. or of the written part -/
def FLK (K : PySem.W.Frag) (H : Hp) (a : Addr) (xs : List V) : Prop :=
  FL H a xs ∨
    ∃ (o : Obj) (its : Array Value) (n :
          Nat), K.lookup a = some o ∧ o.cls = .type "list" ∧ o.dict = none ∧ o.data = .seq its n ∧ its.size ≤ sizeLine ∧ Vals xs its.toList
theorem FLK.sql {K : PySem.W.Frag} {H : Hp} {a : Addr} {xs : List V} (h : FLK K H a xs) : SqL K H a xs := by
  rcases h with h | h
  · exact h.sql
  · exact .inr h
theorem FLK.mono {K : PySem.W.Frag} {H H' : Hp} {a : Addr} {xs : List V} (k : FzLe H H') (h : FLK K H a xs) : FLK K H' a xs := by
  rcases h with h | h
  · exact .inl (h.mono k)
  · exact .inr h
theorem sqt_mono {K : PySem.W.Frag} {H H' : Hp} {a : Addr} {xs : List V} (k : FzLe H H') (h : SqT K H a xs) : SqT K H' a xs := by
  rcases h with (h
        | ⟨o, h⟩) | h
  · exact .inl (.inl (k _ _ rfl h))
  · exact .inl (.inr ⟨o, k _ _ rfl h⟩)
  · exact .inr h

/-! ### data that never change -/
mutual
inductive Dz (K : PySem.W.Frag) (H : Hp) : V → PyData → Prop
  | non : Dz K H .non .none
  | bl (b : Bool) : Dz K H (.bl b) (.bool b)
  | int (i : Int) : Dz K H (.int i) (.int i)
  | str (x : Str) : Dz K H (.str x) (.str x)
  | lst {a : Addr} {xs : List V} {ds : List PyData} : FL H a xs → xs.length ≤ sizeLine → DzA K H xs ds → Dz K H (.ref a) (.list ds)
  | tup {a : Addr} {xs : List V} {ds : List PyData} : SqT K H a xs → xs.length ≤ sizeLine → DzA K H xs ds → Dz K H (.ref a) (.tuple ds)
inductive DzA (K : PySem.W.Frag) (H : Hp) : List V → List PyData → Prop
  | nil : DzA K H [] []
  | cons {v : V} {vs : List V} {d : PyData} {ds : List PyData} : Dz K H v d → DzA K H vs ds → DzA K H (v :: vs) (d :: ds)
end
mutual
theorem Dz.mono {K : PySem.W.Frag} {H H' : Hp} (k : FzLe H H') : ∀ (d : PyData) (v : V), Dz K H v d → Dz K H' v d
  | .none, _, h => by cases h; exact .non
  | .bool b, _, h => by cases h; exact .bl b
  | .int i, _, h => by cases h; exact .int i
  | .str x, _, h => by cases h; exact .str x
  | .list ds, _, h => by
    cases h with
    | lst h1 h2 h3 => exact .lst (h1.mono k) h2 (DzA.mono k ds _ h3)
  | .tuple ds, _, h => by
    cases h with
    | tup h1 h2 h3 => exact .tup (sqt_mono k h1) h2 (DzA.mono k ds _ h3)
  | .dict _, _, h => by cases h
theorem DzA.mono {K : PySem.W.Frag} {H H' : Hp} (k : FzLe H H') : ∀ (ds : List PyData) (vs : List V), DzA K H vs ds → DzA K H' vs ds
  | [], _, h => by cases h; exact .nil
  | d :: ds, _, h => by
    cases h with
    | cons h1 h2 => exact .cons (Dz.mono k d _ h1) (DzA.mono k ds _ h2)
end
mutual
theorem Dz.dp {K : PySem.W.Frag} {H : Hp} : ∀ (d : PyData) (v : V), Dz K H v d → Dp K H v d
  | .none, _, h => by cases h; exact .non
  | .bool b, _, h => by cases h; exact .bl b
  | .int i, _, h => by cases h; exact .int i
  | .str x, _, h => by cases h; exact .str x
  | .list ds, _, h => by
    cases h with
    | lst h1 h2 h3 => exact .lst h1.sql (DzA.dp ds _ h3)
  | .tuple ds, _, h => by
    cases h with
    | tup h1 h2 h3 => exact .tup h1 (DzA.dp ds _ h3)
  | .dict _, _, h => by cases h
theorem DzA.dp {K : PySem.W.Frag} {H : Hp} : ∀ (ds : List PyData) (vs : List V), DzA K H vs ds → DpAll K H vs ds
  | [], _, h => by cases h; exact .nil
  | d :: ds, _, h => by
    cases h with
    | cons h1 h2 => exact .cons (Dz.dp d _ h1) (DzA.dp ds _ h2)
end
theorem DzA.length {K : PySem.W.Frag} {H : Hp} : ∀ {ds : List PyData} {vs : List V}, DzA K H vs ds → vs.length = ds.length
  | [], _, h => by cases h; rfl
  | d :: ds, _, h => by
    cases h with
    | cons h1 h2 => exact congrArg (· + 1) (DzA.length h2)
theorem DzA.get {K : PySem.W.Frag} {H : Hp} : ∀ {ds : List PyData} {vs : List V} {i : Nat} {d : PyData}, DzA K H vs ds → ds[i]? = some d → ∃ v, vs[i]? = some v ∧ Dz K H v d
  | [], _, i, d, h, e => by simp at e
  | d :: ds, _, 0, d', h, e => by
    cases h with
    | cons h1 h2 =>
      simp at e
      subst e
      exact ⟨_, rfl, h1⟩
  | d :: ds, _, i + 1, d', h, e => by
    cases h with
    | cons h1 h2 =>
      obtain ⟨v, h3, h4⟩ := DzA.get h2 (by simpa using e)
      exact ⟨v, by simpa using h3, h4⟩
theorem DzA.getV {K : PySem.W.Frag} {H : Hp} : ∀ {ds : List PyData} {vs : List V} {i : Nat} {v : V}, DzA K H vs ds → vs[i]? = some v → ∃ d, ds[i]? = some d ∧ Dz K H v d
  | [], _, i, d, h, e => by cases h; simp at e
  | d :: ds, _, 0, d', h, e => by
    cases h with
    | cons h1 h2 =>
      simp at e
      subst e
      exact ⟨_, rfl, h1⟩
  | d :: ds, _, i + 1, d', h, e => by
    cases h with
    | cons h1 h2 =>
      obtain ⟨v, h3, h4⟩ := DzA.getV h2 (by simpa using e)
      exact ⟨v, by simpa using h3, h4⟩
theorem DzA.append {K : PySem.W.Frag} {H : Hp} : ∀ {ds es : List PyData} {vs ws : List V}, DzA K H vs ds → DzA K H ws es → DzA K H (vs ++ ws) (ds ++ es)
  | [], es, _, ws, h, k => by cases h; exact k
  | d :: ds, es, _, ws, h, k => by
    cases h with
    | cons h1 h2 => exact .cons h1 (h2.append k)
theorem DzA.one {K : PySem.W.Frag} {H : Hp} {v : V} {d : PyData} (h : Dz K H v d) : DzA K H [v] [d] := .cons h .nil
theorem DzA.drop {K : PySem.W.Frag} {H : Hp} : ∀ (n : Nat) {ds : List PyData} {vs : List V}, DzA K H vs ds → DzA K H (vs.drop n) (ds.drop n)
  | 0, _, _, h => h
  | n + 1, [], _, h => by cases h; exact .nil
  | n + 1, d :: ds, _, h => by
    cases h with
    | cons h1 h2 => exact DzA.drop n h2
theorem DzA.take {K : PySem.W.Frag} {H : Hp} : ∀ (n : Nat) {ds : List PyData} {vs : List V}, DzA K H vs ds → DzA K H (vs.take n) (ds.take n)
  | 0, _, _, h => .nil
  | n + 1, [], _, h => by cases h; exact .nil
  | n + 1, d :: ds, _, h => by
    cases h with
    | cons h1 h2 => exact .cons h1 (DzA.take n h2)
theorem DzA.set {K : PySem.W.Frag} {H : Hp} {v : V} {d : PyData} (h : Dz K H v d) : ∀ (n : Nat) {ds : List PyData} {vs : List V}, DzA K H vs ds → DzA K H (vs.set n v) (ds.set n d)
  | n, [], _, k => by cases k; exact .nil
  | 0, e :: ds, _, k => by
    cases k with
    | cons h1 h2 => exact .cons h h2
  | n + 1, e :: ds, _, k => by
    cases k with
    | cons h1 h2 => exact .cons h1 (DzA.set h n h2)
theorem DzA.reverse {K : PySem.W.Frag} {H : Hp} : ∀ {ds : List PyData} {vs : List V}, DzA K H vs ds → DzA K H vs.reverse ds.reverse
  | [], _, h => by cases h; exact .nil
  | d :: ds, _, h => by
    cases h with
    | cons h1 h2 =>
      rw [List.reverse_cons,
            List.reverse_cons]
      exact h2.reverse.append (.one h1)

/-! ### what a slot holds: data; a list of one's own that may change; a list that was lent -/
inductive SV where
  | dat (d : PyData)
  | own (ds : List PyData)
  | ino (ds : List PyData)
  | scr (ds : List PyData)
abbrev Env := List (Option SV)
/-- an exception: the name of its class, its one field -/
structure Xn where
  cls : Str
  arg : Option PyData
inductive Res (α : Type) where
  | ok (a : α) (e : Env)
  | exc (x : Xn) (e : Env)
  | bad
abbrev M (α : Type) := Env → Res α
def M.bind {α β : Type} (f : M α) (k : α → M β) : M β := fun e => match f e with
  | .ok a e' => k a e'
  | .exc x e' => .exc x e'
  | .bad => .bad
def M.pure {α : Type} (a : α) : M α := fun e => .ok a e
def M.map {α β : Type} (f : M α) (g : α → β) : M β := M.bind f fun a => M.pure (g a)
/-- an option into the monad: none is a fault -/
def M.lift {α : Type} (o : Option α) : M α := fun e => match o with
  | some a => .ok a e
  | none => .bad

/-- what is kept (G), where the lent lists stand -/
structure Gx where
  G : Hp
  pin : Nat → Option Addr
def Gx.plus (Γ : Gx) (a : Addr) (o : HO) : Gx := ⟨upd Γ.G a o, Γ.pin⟩
def RV (K : PySem.W.Frag) (H : Hp) (pin : Nat → Option Addr) (g : Addr → Option Nat) (i : Nat) (v : V) : SV → Prop
  | .dat d => Dz K H v d
  | .own ds => ∃ a vs, v = .ref a ∧ g a = some i ∧ H a = some (.lst vs) ∧ vs.length ≤ sizeLine ∧ DzA K H vs ds
  | .ino ds => ∃ a vs, v = .ref a ∧ g a = some i ∧ H a = some (.lst vs) ∧ vs.length ≤ sizeLine ∧ DzA K H vs ds ∧ pin i = some a
  | .scr ds => ∃ a vs, v = .ref a ∧ FLK K H a vs ∧ vs.length ≤ sizeLine ∧ DzA K H vs ds
structure RepG (K : PySem.W.Frag) (Γ : Gx) (g : Addr → Option Nat) (H : Hp) (σ : St) (e : Env) : Prop where
  len : e.length = σ.length
  at_ : ∀ i sv, e[i]? = some (some sv) → ∃ v, σ[i]? = some (some v) ∧ RV K H Γ.pin g i v sv
  gh : ∀ a i, g a = some i → Γ.G a = none ∧ ∃ xs, H a = some (.lst xs)
  keep : ∀ a o, Γ.G a = some o → H a = some o
def Rep (K : PySem.W.Frag) (Γ : Gx) (H : Hp) (σ : St) (e : Env) : Prop := ∃ g, RepG K Γ g H σ e

section
variable {K : PySem.W.Frag} {Γ : Gx} {g : Addr → Option Nat} {H H' : Hp} {σ : St} {e : Env} {a : Addr} {i : Nat} {v : V}
theorem RV.mono {sv : SV} (k : FzLe H H') (kg : ∀ a, g a = some i → H' a = H a) (h : RV K H Γ.pin g i v sv) : RV K H' Γ.pin g i v sv := by
  cases sv with
  | dat d => exact Dz.mono k d v h
  | own ds =>
    obtain ⟨a, vs, e1, e2, e3, e4, e5⟩ := h
    exact ⟨a, vs, e1, e2, (kg a e2).trans e3, e4, DzA.mono k ds vs e5⟩
  | ino ds =>
    obtain ⟨a, vs, e1, e2, e3, e4, e5, e6⟩ := h
    exact ⟨a, vs, e1, e2, (kg a e2).trans e3, e4, DzA.mono k ds vs e5, e6⟩
  | scr ds =>
    obtain ⟨a, vs, e1, e2, e3, e4⟩ := h
    exact ⟨a, vs, e1, e2.mono k, e3, DzA.mono k ds vs e4⟩
theorem RepG.grow (R : RepG K Γ g H σ e) (k : FzLe H H') (kg : ∀ a i, g a = some i → H' a = H a) (kk : ∀ a o, Γ.G a = some o → H' a = some o) : RepG K Γ g H' σ e :=
  ⟨R.len, fun i sv h => let ⟨v, h1, h2⟩ := R.at_ i sv h; ⟨v, h1, h2.mono k fun a ha => kg a i ha⟩, fun a i h => let ⟨h1, xs, h2⟩ := R.gh a i h; ⟨h1, xs, (kg a i h).trans h2⟩, kk⟩
theorem RepG.same (R : RepG K Γ g H σ e) (k : Same H H') : RepG K Γ g H' σ e :=
  R.grow (fz_same k) (fun a i h => by
    obtain ⟨_, xs, h2⟩ := R.gh a i h
    rw [h2]
    exact k _ _ h2) fun a o h => k _ _ (R.keep a o h)
theorem Rep.same (R : Rep K Γ H σ e) (k : Same H H') : Rep K Γ H' σ e := let ⟨g, R⟩ := R; ⟨g, R.same k⟩
theorem Rep.new {o : HO} (R : Rep K Γ H σ e) (h : H a = none) : Rep K Γ (upd H a o) σ e := R.same (same_new h)
theorem Rep.free (R : Rep K Γ H σ e) (h : H a = none) : Γ.G a = none := by
  obtain ⟨g, R⟩ := R
  cases q : Γ.G a with
  | none => rfl
  | some o =>
    rw [R.keep a o q] at h
    cases h
/-- a new object stands among what is kept -/
theorem Rep.guard {o : HO} (R : Rep K Γ H σ e) (h : H a = none) : Rep K (Γ.plus a o) (upd H a o) σ e := by
  obtain ⟨g, R⟩ := R
  have S := R.same (H' := upd H a o) (same_new h)
  have ng : ∀ i, g a ≠ some i := fun i q => by
    obtain ⟨_, xs, h2⟩ := R.gh a i q
    rw [h] at h2
    cases h2
  refine ⟨g, S.len, S.at_, fun b i q => ?_, fun b u q => ?_⟩
  · obtain ⟨h1, h2⟩ := S.gh b i q
    have nb : b ≠ a := fun z => ng i (by rw [← z]; exact q)
    exact ⟨by show upd Γ.G a o b = none; rw [upd_ne nb]; exact h1, h2⟩
  · have q : upd Γ.G a o b = some u := q
    by_cases nb : b = a
    · subst nb
      rw [upd_same] at q
      rw [upd_same]
      exact q
    · rw [upd_ne nb] at q
      exact S.keep b u q
/-- .. and is kept no more -/
theorem Rep.unguard {o : HO} (hG : Γ.G a = none) (R : Rep K (Γ.plus a o) H σ e) : Rep K Γ H σ e := by
  obtain ⟨g, R⟩ := R
  refine ⟨g, R.len, R.at_, fun b i q => ?_, fun b u q => ?_⟩
  · obtain ⟨h1, h2⟩ := R.gh b i q
    refine ⟨?_, h2⟩
    by_cases nb : b = a
    · rw [nb]; exact hG
    · have h1 : upd Γ.G a o b = none := h1
      rw [upd_ne nb] at h1
      exact h1
  · refine R.keep b u ?_
    show upd Γ.G a o b = some u
    rw [upd_ne]
    · exact q
    · intro z
      rw [z, hG] at q
      cases q
theorem Rep.at_guard {o : HO} (R : Rep K (Γ.plus a o) H σ e) : H a = some o := by
  obtain ⟨g, R⟩ := R
  exact R.keep a o upd_same
/-- what is kept at a is written, and kept as it then is -/
theorem Rep.reguard {xs : List V} {o : HO} (R : Rep K (Γ.plus a (.lst xs)) H σ e) : Rep K (Γ.plus a o) (upd H a o) σ e := by
  have ha := R.at_guard
  obtain ⟨g, R⟩ := R
  have ng : ∀ i, g a ≠ some i := fun i q => by
    obtain ⟨h1, _⟩ := R.gh a i q
    have h1 : upd Γ.G a (.lst xs) a = none := h1
    rw [upd_same] at h1
    cases h1
  have kg : ∀ b i, g b = some i → upd H a o b = H b := fun b i q => upd_ne fun z => ng i (by rw [← z]; exact q)
  refine ⟨g, R.len, fun i sv h => ?_, fun b i q => ?_, fun b u q => ?_⟩
  · obtain ⟨v, h1, h2⟩ := R.at_ i sv h
    exact ⟨v, h1, RV.mono (Γ := Γ) (fz_lst ha) (fun b hb => kg b i hb) h2⟩
  · obtain ⟨h1, ys, h2⟩ := R.gh b i q
    have nb : b ≠ a := fun z => ng i (by rw [← z]; exact q)
    have h1 : upd Γ.G a (.lst xs) b = none := h1
    rw [upd_ne nb] at h1
    refine ⟨?_, ys, (kg b i q).trans h2⟩
    show upd Γ.G a o b = none
    rw [upd_ne nb]
    exact h1
  · have q : upd Γ.G a o b = some u := q
    by_cases nb : b = a
    · subst nb
      rw [upd_same] at q
      rw [upd_same]
      exact q
    · rw [upd_ne nb] at q
      rw [upd_ne nb]
      refine R.keep b u ?_
      show upd Γ.G a _ b = some u
      rw [upd_ne nb]
      exact q
/-- slot i is given data -/
theorem Rep.setD {d : PyData} (R : Rep K Γ H σ e) (h : Dz K H v d) : Rep K Γ H (σ.set i (some v)) (e.set i (some (.dat d))) := by
  obtain ⟨g, R⟩ := R
  refine ⟨fun b => if g b = some i then none else g b, by rw [List.length_set, List.length_set]; exact R.len, fun j sv q => ?_, fun b j q => ?_, R.keep⟩
  · by_cases hj : i = j
    · subst hj
      by_cases hl : i < e.length
      · rw [List.getElem?_set_self hl] at q
        cases q
        exact ⟨v, List.getElem?_set_self (by rw [← R.len]; exact hl), h⟩
      · rw [List.getElem?_eq_none (by simpa using hl)] at q
        cases q
    · rw [List.getElem?_set_ne hj] at q
      obtain ⟨w, h1, h2⟩ := R.at_ j sv q
      refine ⟨w, by rw [List.getElem?_set_ne hj]; exact h1, ?_⟩
      have keep : ∀ b, g b = some j → (if g b = some i then none else g b) = some j := fun b hb => by
        rw [hb, if_neg (fun z => hj (Option.some.inj z).symm)]
      cases sv with
      | dat d => exact h2
      | own ds =>
        obtain ⟨b, vs, e1, e2, e3⟩ := h2
        exact ⟨b, vs, e1, keep b e2, e3⟩
      | ino ds =>
        obtain ⟨b, vs, e1, e2, e3⟩ := h2
        exact ⟨b, vs, e1, keep b e2, e3⟩
      | scr ds => exact h2
  · have q : (if g b = some i then none else g b) = some j := q
    split at q
    · cases q
    · exact R.gh b j q
/-- slot i is given a new list of its own, that stood guarded -/
theorem Rep.setO {vs : List V} {ds : List PyData} (hG : Γ.G a = none) (R : Rep K (Γ.plus a (.lst vs)) H σ e) (hl : vs.length ≤ sizeLine) (h : DzA K H vs ds) : Rep K Γ H (σ.set i (some (.ref a))) (e.set i (some (.own ds))) := by
  have ha := R.at_guard
  have R0 := R.unguard hG
  obtain ⟨g, R⟩ := R
  have ng : ∀ i, g a ≠ some i := fun i q => by
    obtain ⟨h1, _⟩ := R.gh a i q
    have h1 : upd Γ.G a (.lst vs) a = none := h1
    rw [upd_same] at h1
    cases h1
  refine ⟨fun b => if b = a then some i else if g b = some i then none else g b, by rw [List.length_set, List.length_set]; exact R.len, fun j sv q => ?_, fun b j q => ?_, ?_⟩
  · by_cases hj : i = j
    · subst hj
      by_cases hl' : i < e.length
      · rw [List.getElem?_set_self hl'] at q
        cases q
        exact ⟨.ref a, List.getElem?_set_self (by rw [← R.len]; exact hl'), a, vs, rfl, if_pos rfl, ha, hl, h⟩
      · rw [List.getElem?_eq_none (by simpa using hl')] at q
        cases q
    · rw [List.getElem?_set_ne hj] at q
      obtain ⟨w, h1, h2⟩ := R.at_ j sv q
      refine ⟨w, by rw [List.getElem?_set_ne hj]; exact h1, ?_⟩
      have keep : ∀ b, g b = some j → (if b = a then some i else if g b = some i then none else g b) = some j := fun b hb => by
        rw [if_neg (fun z => ng j (by rw [← z]; exact hb)), hb, if_neg (fun z => hj (Option.some.inj z).symm)]
      cases sv with
      | dat d => exact h2
      | own ds =>
        obtain ⟨b, vs, e1, e2, e3⟩ := h2
        exact ⟨b, vs, e1, keep b e2, e3⟩
      | ino ds =>
        obtain ⟨b, vs, e1, e2, e3⟩ := h2
        exact ⟨b, vs, e1, keep b e2, e3⟩
      | scr ds => exact h2
  · have q : (if b = a then some i else if g b = some i then none else g b) = some j := q
    split at q
    · rename_i hb
      rw [hb]
      exact ⟨hG, vs, ha⟩
    · split at q
      · cases q
      · rename_i hb _
        obtain ⟨h1, h2⟩ := R.gh b j q
        have h1 : upd Γ.G a (.lst vs) b = none := h1
        rw [upd_ne hb] at h1
        exact ⟨h1, h2⟩
  · obtain ⟨g', R0⟩ := R0
    exact R0.keep
/-- slot i is forgotten -/
theorem Rep.drop (i : Nat) (R : Rep K Γ H σ e) (o : Option V) : Rep K Γ H (σ.set i o) (e.set i none) := by
  obtain ⟨g, R⟩ := R
  refine ⟨g, by rw [List.length_set, List.length_set]; exact R.len, fun j sv q => ?_, R.gh, R.keep⟩
  by_cases hj : i = j
  · subst hj
    by_cases hl : i < e.length
    · rw [List.getElem?_set_self hl] at q
      cases q
    · rw [List.getElem?_eq_none (by simpa using hl)] at q
      cases q
  · rw [List.getElem?_set_ne hj] at q
    obtain ⟨w, h1, h2⟩ := R.at_ j sv q
    exact ⟨w, by rw [List.getElem?_set_ne hj]; exact h1, h2⟩

/-- the list that a slot holds -/
def ownOf : Option (Option SV) → Option (List PyData)
  | some (some (.own ds)) => some ds
  | some (some (.ino ds)) => some ds
  | _ => none
/-- .. changed -/
def putOwn (e : Env) (i : Nat) (ds : List PyData) : Env := match e[i]? with
  | some (some (.own _)) => e.set i (some (.own ds))
  | some (some (.ino _)) => e.set i (some (.ino ds))
  | _ => e
theorem RepG.ownAt {ds : List PyData} (R : RepG K Γ g H σ e) (h : ownOf e[i]? = some ds) : ∃ a vs, σ[i]? = some (some (.ref a)) ∧ g a = some i ∧ H a = some (.lst vs) ∧ vs.length ≤ sizeLine ∧ DzA K H vs ds := by
  unfold ownOf at h
  split at h
  · cases h
    rename_i q
    obtain ⟨v, h1, a, vs, rfl, h3⟩ := R.at_ _ _ q
    exact ⟨a, vs, h1, h3⟩
  · cases h
    rename_i q
    obtain ⟨v, h1, a, vs, rfl, h3, h4, h5, h6, _⟩ := R.at_ _ _ q
    exact ⟨a, vs, h1, h3, h4, h5, h6⟩
  · cases h
/-- a slot's own list is written -/
theorem RepG.put {ds ds' : List PyData} {vs vs' : List V} (R : RepG K Γ g H σ e) (h : ownOf e[i]? = some ds) (hs : σ[i]? = some (some (.ref a))) (hg : g a = some i) (ha : H a = some (.lst vs)) (hl : vs'.length ≤ sizeLine) (hd : DzA K H vs' ds') :
    RepG K Γ g (upd H a (.lst vs')) σ (putOwn e i ds') := by
  have fz : FzLe H (upd H a (.lst vs')) := fz_lst ha
  have keep : ∀ a' o, Γ.G a' = some o → upd H a (.lst vs') a' = some o := fun a' o q => by
    rw [upd_ne]
    · exact R.keep a' o q
    · intro z
      rw [z, (R.gh a i hg).1] at q
      cases q
  have gh : ∀ a' j, g a' = some j → Γ.G a' = none ∧ ∃ xs, upd H a (.lst vs') a' = some (.lst xs) := fun a' j q => by
    obtain ⟨h1, xs, h2⟩ := R.gh a' j q
    refine ⟨h1, ?_⟩
    by_cases z : a' = a
    · subst z
      exact ⟨vs', upd_same⟩
    · exact ⟨xs, by rw [upd_ne z]; exact h2⟩
  have other : ∀ j sv, j ≠ i → e[j]? = some (some sv) → ∃ v, σ[j]? = some (some v) ∧ RV K (upd H a (.lst vs')) Γ.pin g j v sv := fun j sv hj q => by
    obtain ⟨w, h1, h2⟩ := R.at_ j sv q
    refine ⟨w, h1, h2.mono fz fun b hb => upd_ne fun z => ?_⟩
    rw [z, hg] at hb
    exact hj (Option.some.inj hb).symm
  have hi : i < e.length := by
    cases q : e[i]? with
    | none => rw [q] at h; cases h
    | some o => exact (List.getElem?_eq_some_iff.mp q).1
  unfold ownOf at h
  unfold putOwn
  split at h
  · rename_i q
    refine ⟨by rw [List.length_set]; exact R.len, fun j sv q' => ?_, gh, keep⟩
    by_cases hj : i = j
    · subst hj
      rw [List.getElem?_set_self hi] at q'
      cases q'
      exact ⟨.ref a, hs, a, vs', rfl, hg, upd_same, hl, DzA.mono fz _ _ hd⟩
    · rw [List.getElem?_set_ne hj] at q'
      exact other j sv (Ne.symm hj) q'
  · rename_i q
    refine ⟨by rw [List.length_set]; exact R.len, fun j sv q' => ?_, gh, keep⟩
    by_cases hj : i = j
    · subst hj
      rw [List.getElem?_set_self hi] at q'
      cases q'
      obtain ⟨v, h1, b, ws, rfl, _, _, _, _, h6⟩ := R.at_ _ _ q
      rw [hs] at h1
      cases h1
      exact ⟨.ref a, hs, a, vs', rfl, hg, upd_same, hl, DzA.mono fz _ _ hd, h6⟩
    · rw [List.getElem?_set_ne hj] at q'
      exact other j sv (Ne.symm hj) q'
  · cases h
/-- a slot's own list is frozen -/
theorem RepG.freeze {ds : List PyData} {vs : List V} {ob : Obj} (R : RepG K Γ g H σ e) (h : e[i]? = some (some (.own ds))) (hs : σ[i]? = some (some (.ref a))) (hg : g a = some i) (ha : H a = some (.lst vs)) (hl : vs.length ≤ sizeLine) (hd : DzA K H vs ds) :
    Rep K Γ (upd H a (.frz ob (.lst vs))) σ (e.set i (some (.dat (.list ds)))) := by
  have fz : FzLe H (upd H a (.frz ob (.lst vs))) := fz_lst ha
  have hi : i < e.length := (List.getElem?_eq_some_iff.mp h).1
  refine ⟨fun b => if g b = some i then none else g b, by rw [List.length_set]; exact R.len, fun j sv q => ?_, fun b j q => ?_, fun b o q => ?_⟩
  · by_cases hj : i = j
    · subst hj
      rw [List.getElem?_set_self hi] at q
      cases q
      exact ⟨.ref a, hs, .lst ⟨ob, upd_same⟩ hl (DzA.mono fz _ _ hd)⟩
    · rw [List.getElem?_set_ne hj] at q
      obtain ⟨w, h1, h2⟩ := R.at_ j sv q
      refine ⟨w, h1, ?_⟩
      have h3 : RV K (upd H a (.frz ob (.lst vs))) Γ.pin g j w sv := h2.mono fz fun b hb => upd_ne fun z => by
        rw [z, hg] at hb
        exact hj (Option.some.inj hb)
      have keep : ∀ b, g b = some j → (if g b = some i then none else g b) = some j := fun b hb => by
        rw [hb, if_neg (fun z => hj (Option.some.inj z).symm)]
      cases sv with
      | dat d => exact h3
      | own ds =>
        obtain ⟨b, vs, e1, e2, e3⟩ := h3
        exact ⟨b, vs, e1, keep b e2, e3⟩
      | ino ds =>
        obtain ⟨b, vs, e1, e2, e3⟩ := h3
        exact ⟨b, vs, e1, keep b e2, e3⟩
      | scr ds => exact h3
  · have q : (if g b = some i then none else g b) = some j := q
    split at q
    · cases q
    · rename_i hb
      obtain ⟨h1, xs, h2⟩ := R.gh b j q
      refine ⟨h1, xs, ?_⟩
      rw [upd_ne]
      · exact h2
      · intro z
        rw [z] at hb
        exact hb hg
  · rw [upd_ne]
    · exact R.keep b o q
    · intro z
      rw [z, (R.gh a i hg).1] at q
      cases q
end

/-! ### the ghost step: a list is frozen -/
section
variable {X : Cx} {pins : List (Addr × Obj)} {σ : St} {H : Hp} {s : Shared} {a : Addr} {vs : List V}
theorem inv_freeze (I : Inv X pins σ H s) (h : H a = some (.lst vs)) : ∃ o, Inv X pins σ (upd H a (.frz o (.lst vs))) s := by
  have ok := I.hok a _ h
  obtain ⟨z, its, n, r, e⟩ : vs.length ≤ sizeLine ∧ ∃ (its : List Value) (n : Nat), Vals vs its ∧ s.heap.get? a = some { cls := .type "list", data := .seq its.toArray n } := ok
  refine ⟨_, I.write (t' := s.toks) (h' := s.heap) (e := a) (o := .frz { cls := .type "list", data := .seq its.toArray n } (.lst vs)) (by rw [h]; trivial) (.inl rfl) (fun b u _ q => q) ⟨_, e⟩ ?_⟩
  exact ⟨e, z, its, n, r, e⟩
/-- an expression whose value is a list just made: it is frozen -/
theorem pe_frz {e : Expr} {t : TE} (h : PE X e t) : PE X e (fun σ H Q => t σ H fun v H' => ∃ a vs, v = .ref a ∧ H' a = some (.lst vs) ∧ ∀ o, Q (.ref a) (upd H' a (.frz o (.lst vs)))) := by
  refine ⟨fun pins s σ H Q I q => thn (h.run pins s σ H _ I q) fun u s1 ⟨x, H1, I1, r1, a, vs, e1, ha, hq⟩ => ?_⟩
  subst e1
  obtain ⟨o, I2⟩ := inv_freeze I1 ha
  exact ⟨.ref a, _, I2, r1, hq o⟩
theorem _root_.L2.PE.imp {e : Expr} {t t' : TE} (h : PE X e t) (w : ∀ σ H Q, t' σ H Q → t σ H Q) : PE X e t' := ⟨fun pins s σ H Q I q => h.run pins s σ H Q I (w σ H Q q)⟩
theorem _root_.L2.PT.imp {e : Expr} {t t' : TT} (h : PT X e t) (w : ∀ σ H Q, t' σ H Q → t σ H Q) : PT X e t' := ⟨fun pins s σ H Q I q => h.run pins s σ H Q I (w σ H Q q)⟩
theorem _root_.L2.PW.imp {e : Expr} {t t' : TT} (h : PW X e t) (w : ∀ σ H Q, t' σ H Q → t σ H Q) : PW X e t' := ⟨fun wh pins s σ H Q I q => h.run wh pins s σ H Q I (w σ H Q q)⟩
theorem _root_.L2.PTs.imp {e : List Expr} {t t' : TT} (h : PTs X e t) (w : ∀ σ H Q, t' σ H Q → t σ H Q) : PTs X e t' := ⟨fun pins s σ H Q I q => h.run pins s σ H Q I (w σ H Q q)⟩
theorem _root_.L2.PA.imp {es : List Expr} {t t' : TA} (h : PA X es t) (w : ∀ σ H Q, t' σ H Q → t σ H Q) : PA X es t' := ⟨fun pos pins s σ H Q I q => h.run pos pins s σ H Q I (w σ H Q q)⟩
theorem _root_.L2.PI.imp {tg it : Expr} {t t' : TI} (h : PI X tg it t) (w : ∀ σ H Q, t' σ H Q → t σ H Q) : PI X tg it t' := ⟨fun pins s σ H Q I q => h.run pins s σ H Q I (w σ H Q q)⟩
theorem _root_.L2.PS.imp {st : Stmt} {t t' : TS} (h : PS X st t) (w : ∀ D σ H, t' D σ H → t D σ H) : PS X st t' := ⟨fun pins s σ H D I q => h.run pins s σ H D I (w D σ H q)⟩
theorem _root_.L2.PSs.imp {st : List Stmt} {t t' : TS} (h : PSs X st t) (w : ∀ D σ H, t' D σ H → t D σ H) : PSs X st t' := ⟨fun pins s σ H D I q => h.run pins s σ H D I (w D σ H q)⟩
theorem _root_.L2.PG.imp {tg : Expr} {t t' : TG} (h : PG X tg t) (w : ∀ v σ H Q, t' v σ H Q → t v σ H Q) : PG X tg t' := ⟨fun pins s σ H v u Q I r q => h.run pins s σ H v u Q I r (w v σ H Q q)⟩
theorem _root_.L2.PGs.imp {tg : List Expr} {t t' : TGs} (h : PGs X tg t) (w : ∀ v σ H Q, t' v σ H Q → t v σ H Q) : PGs X tg t' := ⟨fun pins s σ H v u Q I r q => h.run pins s σ H v u Q I r (w v σ H Q q)⟩
end
end PF
/-! F2: judgements over data, and how they follow one another. -/
namespace PF
open PySem PySem.Spec L2
open PyProof.Rows hiding St

/-! ### results -/
/-- how an exception of ours stands -/
def XnAt (mg : Str → Option Value) (K : PySem.W.Frag) (H : Hp) (x : Xn) (c : Value) (o : Option Addr) : Prop :=
  ∃ C, mg x.cls = some (.ref C) ∧ c = .ref C ∧ match x.arg with
    | none => o = none
    | some p => ∃ a f v, o = some a ∧ H a = some (.xd [(f, v)]) ∧ Dz K H v p
/-- what a result is, in values: K, what is kept, the heap, the slots, the frame, the value, the datum -/
abbrev Rl (ν α : Type) := PySem.W.Frag → Gx → Hp → St → Env → ν → α → Prop
def post {ν α : Type} (R : Rl ν α) (K : PySem.W.Frag) (mg : Str → Option Value) (W : WX) (Γ : Gx) (σ : St) (H : Hp) (r : Res α) (Q : ν → Hp → Prop) : Prop := match r with
  | .ok a e => ∀ v H', R K Γ H' σ e v a → FzLe H H' → Q v H'
  | .exc x e => ∀ c o H', XnAt mg K H' x c o → Rep K Γ H' σ e → FzLe H H' → W c o σ H'
  | .bad => False
def tR {ν α : Type} (R : Rl ν α) (K : PySem.W.Frag) (mg : Str → Option Value) (W : WX) (f : M α) : St → Hp → (ν → Hp → Prop) → Prop := fun σ H Q =>
  ∃ Γ e, Rep K Γ H σ e ∧ post R K mg W Γ σ H (f e) Q

section
variable {ν μ α β : Type} {R : Rl ν α} {R' : Rl μ β} {K : PySem.W.Frag} {mg : Str → Option Value} {W : WX} {Γ : Gx} {σ : St} {H H1 : Hp} {e : Env}
theorem post.imp {r : Res α} {Q Q' : ν → Hp → Prop} (h : post R K mg W Γ σ H r Q) (k : ∀ v H', Q v H' → Q' v H') : post R K mg W Γ σ H r Q' := by
  cases r with
  | ok a e => exact fun v H' h1 h2 => k v H' (h v H' h1 h2)
  | exc x e => exact h
  | bad => exact h
theorem post.later {r : Res α} {Q : ν → Hp → Prop} (k : FzLe H H1) (h : post R K mg W Γ σ H r Q) : post R K mg W Γ σ H1 r Q := by
  cases r with
  | ok a e => exact fun v H' h1 h2 => h v H' h1 (k.trans h2)
  | exc x e => exact fun c o H' h1 h2 h3 => h c o H' h1 h2 (k.trans h3)
  | bad => exact h
theorem post.seq {f : M α} {k : α → M β} {Q : μ → Hp → Prop} (h : post R' K mg W Γ σ H (M.bind f k e) Q) :
    post R K mg W Γ σ H (f e) (fun v H1 => ∃ a e1, R K Γ H1 σ e1 v a ∧ FzLe H H1 ∧ post R' K mg W Γ σ H1 (k a e1) Q) := by
  unfold M.bind at h
  cases q : f e with
  | ok a e1 =>
    rw [q] at h
    exact fun v H' h1 h2 => ⟨a, e1, h1, h2, post.later h2 h⟩
  | exc x e1 =>
    rw [q] at h
    exact h
  | bad =>
    rw [q] at h
    exact h
theorem post.step {f : M α} {k : α → M β} {Q : μ → Hp → Prop} {P : ν → Hp → Prop} (h : post R' K mg W Γ σ H (M.bind f k e) Q)
    (w : ∀ v H1 a e1, R K Γ H1 σ e1 v a → FzLe H H1 → post R' K mg W Γ σ H1 (k a e1) Q → P v H1) : post R K mg W Γ σ H (f e) P :=
  (post.seq h).imp fun v H1 ⟨a, e1, h1, h2, h3⟩ => w v H1 a e1 h1 h2 h3
theorem post.ok {a : α} {v : ν} {Q : ν → Hp → Prop} (h : post R K mg W Γ σ H (M.pure a e) Q) (r : R K Γ H σ e v a) : Q v H := h v H r (FzLe.refl H)
end

/-! ### what is read now: data, or a slot's own list -/
inductive Opd where
  | val (d : PyData)
  | var (i : Nat)
def Opd.get (e : Env) : Opd → Option PyData
  | .val d => some d
  | .var i => match e[i]? with
    | some (some (.dat d)) => some d
    | some (some (.own ds)) => some (.list ds)
    | some (some (.ino ds)) => some (.list ds)
    | _ => none
/-- what may be read as the datum now -/
def Tk (K : PySem.W.Frag) (H : Hp) (x : V) (d : PyData) : Prop :=
  Dz K H x d ∨ ∃ a vs ds, x = .ref a ∧ d = .list ds ∧ H a = some (.lst vs) ∧ vs.length ≤ sizeLine ∧ DzA K H vs ds
def TkV (K : PySem.W.Frag) (H : Hp) (σ : St) (x : V) : Opd → Prop
  | .val d => Dz K H x d
  | .var i => σ[i]? = some (some x)
def RlD : Rl V PyData := fun K Γ H σ e v d => Rep K Γ H σ e ∧ Dz K H v d
def RlT : Rl V Opd := fun K Γ H σ e v t => Rep K Γ H σ e ∧ TkV K H σ v t
def RlO : Rl V (List PyData) := fun K Γ H σ e v ds => ∃ a vs, v = .ref a ∧ Γ.G a = none ∧ vs.length ≤ sizeLine ∧ DzA K H vs ds ∧ Rep K (Γ.plus a (.lst vs)) H σ e
def RlB : Rl Bool Bool := fun K Γ H σ e v b => Rep K Γ H σ e ∧ v = b
def RlTs : Rl (List V) (List Opd) := fun K Γ H σ e vs ts => Rep K Γ H σ e ∧ Paired (TkV K H σ) vs ts
def RlDs : Rl (List V) (List PyData) := fun K Γ H σ e vs ds => Rep K Γ H σ e ∧ DzA K H vs ds

section
variable {K : PySem.W.Frag} {Γ : Gx} {H H1 H' : Hp} {σ : St} {e : Env} {x : V}
theorem TkV.mono {t : Opd} (k : FzLe H H1) (h : TkV K H σ x t) : TkV K H1 σ x t := by
  cases t with
  | val d => exact Dz.mono k d x h
  | var i => exact h
theorem tkvs_mono (k : FzLe H H1) : ∀ {vs : List V} {ts : List Opd}, Paired (TkV K H σ) vs ts → Paired (TkV K H1 σ) vs ts
  | _, _, .nil => .nil
  | _, _, .cons h t => .cons (h.mono k) (tkvs_mono k t)
theorem Rep.tk {t : Opd} {d : PyData} (R : Rep K Γ H σ e) (h : TkV K H σ x t) (hg : t.get e = some d) : Tk K H x d := by
  cases t with
  | val d' =>
    cases hg
    exact .inl h
  | var i =>
    obtain ⟨g, R⟩ := R
    have h : σ[i]? = some (some x) := h
    unfold Opd.get at hg
    dsimp only at hg
    split at hg
    · rename_i d' q
      cases hg
      obtain ⟨v, h1, h2⟩ := R.at_ _ _ q
      rw [h] at h1
      cases h1
      exact .inl h2
    · rename_i ds q
      cases hg
      obtain ⟨v, h1, a, vs, rfl, h3, h4, h5, h6⟩ := R.at_ _ _ q
      rw [h] at h1
      cases h1
      exact .inr ⟨a, vs, ds, rfl, rfl, h4, h5, h6⟩
    · rename_i ds q
      cases hg
      obtain ⟨v, h1, a, vs, rfl, h3, h4, h5, h6, h7⟩ := R.at_ _ _ q
      rw [h] at h1
      cases h1
      exact .inr ⟨a, vs, ds, rfl, rfl, h4, h5, h6⟩
    · cases hg
end
theorem DzA.dpa {K : PySem.W.Frag} {H : Hp} {ds : List PyData} {vs : List V} (h : DzA K H vs ds) : DpAll K H vs ds := DzA.dp ds vs h
theorem Tk.dp {K : PySem.W.Frag} {H : Hp} {x : V} {d : PyData} (h : Tk K H x d) : Dp K H x d := by
  rcases h with h | ⟨a, vs, ds, rfl, rfl, h1, h2, h3⟩
  · exact Dz.dp d x h
  · exact .lst (.inl (.inl h1)) h3.dpa
theorem Tk.int {K : PySem.W.Frag} {H : Hp} {x : V} {i : Int} (h : Tk K H x (.int i)) : x = .int i := by
  rcases h with h | ⟨a, vs, ds, rfl, e, _⟩
  · cases h; rfl
  · cases e
theorem Tk.str {K : PySem.W.Frag} {H : Hp} {x : V} {i : Str} (h : Tk K H x (.str i)) : x = .str i := by
  rcases h with h | ⟨a, vs, ds, rfl, e, _⟩
  · cases h; rfl
  · cases e
theorem Tk.bool {K : PySem.W.Frag} {H : Hp} {x : V} {i : Bool} (h : Tk K H x (.bool i)) : x = .bl i := by
  rcases h with h | ⟨a, vs, ds, rfl, e, _⟩
  · cases h; rfl
  · cases e
theorem Tk.none {K : PySem.W.Frag} {H : Hp} {x : V} (h : Tk K H x .none) : x = .non := by
  rcases h with h | ⟨a, vs, ds, rfl, e, _⟩
  · cases h; rfl
  · cases e
theorem Tk.tup {K : PySem.W.Frag} {H : Hp} {x : V} {ds : List PyData} (h : Tk K H x (.tuple ds)) : ∃ a xs, x = .ref a ∧ SqT K H a xs ∧ xs.length ≤ sizeLine ∧ DzA K H xs ds := by
  rcases h with h | ⟨a, vs, ds, rfl, e, _⟩
  · cases h with
    | tup h1 h2 h3 => exact ⟨_, _, rfl, h1, h2, h3⟩
  · cases e
theorem Tk.lst {K : PySem.W.Frag} {H : Hp} {x : V} {ds : List PyData} (h : Tk K H x (.list ds)) : ∃ a xs, x = .ref a ∧ (H a = some (.lst xs) ∨ FL H a xs) ∧ xs.length ≤ sizeLine ∧ DzA K H xs ds := by
  rcases h with h | ⟨a, vs, ds', rfl, e, h1, h2, h3⟩
  · cases h with
    | lst h1 h2 h3 => exact ⟨_, _, rfl, .inr h1, h2, h3⟩
  · cases e
    exact ⟨a, vs, rfl, .inl h1, h2, h3⟩
theorem sql_of {K : PySem.W.Frag} {H : Hp} {a : Addr} {xs : List V} (h : H a = some (.lst xs) ∨ FL H a xs) : SqL K H a xs := by
  rcases h with h | h
  · exact .inl (.inl h)
  · exact h.sql

/-! ### an end that may freeze a list just made -/
def QF (Q : VK) : VK := fun v H => Q v H ∨ ∃ a vs, v = .ref a ∧ H a = some (.lst vs) ∧ ∀ o, Q (.ref a) (upd H a (.frz o (.lst vs)))
theorem ep_frz {X : Cx} {pins : List (Addr × Obj)} {σ : St} {Q : VK} {u : Value} {s : Shared} (h : EP X pins σ (QF Q) u s) : EP X pins σ Q u s := by
  obtain ⟨v, H', I, r, q | ⟨a, vs, rfl, h1, h2⟩⟩ := h
  · exact ⟨v, H', I, r, q⟩
  · obtain ⟨o, I2⟩ := inv_freeze I h1
    exact ⟨.ref a, _, I2, r, h2 o⟩
/-- a result that is a new object -/
def Out (K : PySem.W.Frag) (H : Hp) (Q : VK) (r : PyData) : Prop := ∀ v H', Same H H' → Dz K H' v r → Q v H'
theorem Out.val {K : PySem.W.Frag} {H : Hp} {Q : VK} {r : PyData} {v : V} (h : Out K H Q r) (d : Dz K H v r) : Q v H := h v H (Same.refl H) d
theorem Out.lst {K : PySem.W.Frag} {H : Hp} {Q : VK} {ds : List PyData} {vs : List V} {p : Addr} (h : Out K H Q (.list ds)) (hp : H p = none) (hl : vs.length ≤ sizeLine) (hd : DzA K H vs ds) : QF Q (.ref p) (upd H p (.lst vs)) := by
  refine .inr ⟨p, vs, rfl, upd_same, fun o => ?_⟩
  rw [upd_upd]
  have s := same_new (o := .frz o (.lst vs)) hp
  exact h _ _ s (.lst ⟨o, upd_same⟩ hl (DzA.mono (fz_same s) _ _ hd))
theorem Out.tup {K : PySem.W.Frag} {H : Hp} {Q : VK} {ds : List PyData} {vs : List V} {p : Addr} (h : Out K H Q (.tuple ds)) (hp : H p = none) (hl : vs.length ≤ sizeLine) (hd : DzA K H vs ds) : Q (.ref p) (upd H p (.tup vs)) := by
  have s := same_new (o := .tup vs) hp
  exact h _ _ s (.tup (.inl (.inl upd_same)) hl (DzA.mono (fz_same s) _ _ hd))
/-- an operation of data -/
def rD (K : PySem.W.Frag) (op : PyData → PyData → Option PyData) : R2 := fun x y H Q => ∃ d e r, Tk K H x d ∧ Tk K H y e ∧ op d e = some r ∧ Out K H Q r
theorem opr_of {X : Cx} {f : Value → Value → Sem Value} {r : R2} {op : PyData → PyData → Option PyData} (h : OpR X f r) (w : ∀ x y H Q d e z, Tk X.K H x d → Tk X.K H y e → op d e = some z → Out X.K H Q z → r x y H (QF Q)) : OpR X f (rD X.K op) := by
  intro pins s σ H x y v u Q I rx ry ⟨d, e, z, h1, h2, h3, h4⟩
  exact thn (h pins s σ H x y v u (QF Q) I rx ry (w x y H Q d e z h1 h2 h3 h4)) fun _ _ q => ep_frz q
/-- a call of values -/
def rC (K : PySem.W.Frag) (op : List PyData → Option PyData) : List V → Hp → VK → Prop := fun xs H Q => ∃ ds r, Paired (Tk K H) xs ds ∧ op ds = some r ∧ Out K H Q r
theorem callr_of {X : Cx} {f : Value} {r : List V → Hp → VK → Prop} {op : List PyData → Option PyData} (h : CallR X f r) (w : ∀ xs H Q ds z, Paired (Tk X.K H) xs ds → op ds = some z → Out X.K H Q z → r xs H (QF Q)) : CallR X f (rC X.K op) := by
  intro pins s σ H xs us Q I r ⟨ds, z, h1, h2, h3⟩
  exact thn (h pins s σ H xs us (QF Q) I r (w xs H Q ds z h1 h2 h3)) fun _ _ q => ep_frz q
theorem CallR.or {X : Cx} {f : Value} {r r' : List V → Hp → VK → Prop} (h : CallR X f r) (h' : CallR X f r') : CallR X f (fun xs H Q => r xs H Q ∨ r' xs H Q) := by
  intro pins s σ H xs us Q I rr q
  rcases q with q | q
  · exact h pins s σ H xs us Q I rr q
  · exact h' pins s σ H xs us Q I rr q
theorem MtR.or {X : Cx} {id : String} {r r' : V → List V → Hp → VK → Prop} (h : MtR X id r) (h' : MtR X id r') : MtR X id (fun x xs H Q => r x xs H Q ∨ r' x xs H Q) := by
  intro pins s σ H x xs v us Q I r1 rr q
  rcases q with q | q
  · exact h pins s σ H x xs v us Q I r1 rr q
  · exact h' pins s σ H x xs v us Q I r1 rr q

/-! ### the judgements -/
abbrev DE (X : Cx) (W : WX) (e : Expr) (f : M PyData) : Prop := PE X e (tR RlD X.K X.mg W f)
abbrev DT (X : Cx) (W : WX) (e : Expr) (f : M Opd) : Prop := PE X e (tR RlT X.K X.mg W f)
abbrev DO (X : Cx) (W : WX) (e : Expr) (f : M (List PyData)) : Prop := PE X e (tR RlO X.K X.mg W f)
abbrev DB (X : Cx) (W : WX) (e : Expr) (f : M Bool) : Prop := PT X e (tR RlB X.K X.mg W f)
abbrev DW (X : Cx) (W : WX) (e : Expr) (f : M Bool) : Prop := PW X e (tR RlB X.K X.mg W f)
abbrev DTs (X : Cx) (W : WX) (es : List Expr) (f : M (List Opd)) : Prop := PA X es (tR RlTs X.K X.mg W f)
abbrev DDs (X : Cx) (W : WX) (es : List Expr) (f : M (List PyData)) : Prop := PA X es (tR RlDs X.K X.mg W f)

section
variable {X : Cx} {W : WX} {a b c : Expr} {es : List Expr} {pos : Pos}
/-- an expression just made is frozen -/
theorem de_frz {f : M (List PyData)} (h : DO X W a f) : DE X W a (M.bind f fun ds => M.pure (.list ds)) := by
  refine (pe_frz h).imp fun σ H Q ⟨Γ, e, R, p⟩ => ⟨Γ, e, R, post.step p fun v H1 ds e1 ⟨p, vs, h1, h2, h3, h4, h5⟩ _ q => ?_⟩
  subst h1
  have ha := h5.at_guard
  refine ⟨p, vs, rfl, ha, fun o => ?_⟩
  have fz := fz_lst (o := .frz o (.lst vs)) ha
  exact q _ _ ⟨(h5.reguard).unguard h2, .lst ⟨o, upd_same⟩ h3 (DzA.mono fz _ _ h4)⟩ fz
theorem dt_of {f : M PyData} (h : DE X W a f) : DT X W a (M.bind f fun d => M.pure (.val d)) :=
  h.imp fun σ H Q ⟨Γ, e, R, p⟩ => ⟨Γ, e, R, post.step p fun v H1 ds e1 ⟨h1, h2⟩ _ q => q.ok ⟨h1, h2⟩⟩

/-! ### arguments -/
theorem dts_nil : DTs X W [] (M.pure []) := pa_nil.imp fun σ H Q ⟨Γ, e, R, p⟩ => p.ok (v := []) ⟨R, .nil⟩
def notStar : Expr → Bool
  | .Starred _ _ => false
  | _ => true
theorem star_one (e : Expr) (es : List Expr) (env : PySem.Env) (h : notStar e = true) : starEach (e :: es) env = (false, eval e env) :: starEach es env := by
  cases e <;> first | rfl | cases h
theorem dts_cons {f : M Opd} {g : M (List Opd)} (h : DT X W a f) (k : DTs X W es g) (hs : notStar a = true := by rfl) : DTs X W (a :: es) (M.bind f fun t => M.bind g fun ts => M.pure (t :: ts)) := by
  refine (pa_cons h k (star_one a es X.env hs)).imp fun σ H Q ⟨Γ, e, R, p⟩ => ⟨Γ, e, R, post.step p fun v H1 t e1 ⟨R1, h1⟩ _ q => ⟨Γ, e1, R1, post.step q fun vs H2 ts e2 ⟨R2, h2⟩ fz q2 => ?_⟩⟩
  exact q2.ok ⟨R2, .cons (h1.mono fz) h2⟩
theorem dds_nil : DDs X W [] (M.pure []) := pa_nil.imp fun σ H Q ⟨Γ, e, R, p⟩ => p.ok (v := []) ⟨R, .nil⟩
theorem dds_cons {f : M PyData} {g : M (List PyData)} (h : DE X W a f) (k : DDs X W es g) (hs : notStar a = true := by rfl) : DDs X W (a :: es) (M.bind f fun t => M.bind g fun ts => M.pure (t :: ts)) := by
  refine (pa_cons h k (star_one a es X.env hs)).imp fun σ H Q ⟨Γ, e, R, p⟩ => ⟨Γ, e, R, post.step p fun v H1 t e1 ⟨R1, h1⟩ _ q => ⟨Γ, e1, R1, post.step q fun vs H2 ts e2 ⟨R2, h2⟩ fz q2 => ?_⟩⟩
  exact q2.ok ⟨R2, .cons (Dz.mono fz _ _ h1) h2⟩

/-! ### constants, names -/
theorem de_int {i : Int} {j} : DE X W (.Constant (.int i) j pos) (M.pure (.int i)) := pe_int.imp fun σ H Q ⟨Γ, e, R, p⟩ => show Q (.int i) H from p.ok ⟨R, .int i⟩
theorem de_bl {i : Bool} {j} : DE X W (.Constant (.bool i) j pos) (M.pure (.bool i)) := pe_bl.imp fun σ H Q ⟨Γ, e, R, p⟩ => show Q (.bl i) H from p.ok ⟨R, .bl i⟩
theorem de_non {j} : DE X W (.Constant .none j pos) (M.pure .none) := pe_non.imp fun σ H Q ⟨Γ, e, R, p⟩ => show Q .non H from p.ok ⟨R, .non⟩
theorem de_str {i : Str} {j} : DE X W (.Constant (.str i) j pos) (M.pure (.str i)) := pe_str.imp fun σ H Q ⟨Γ, e, R, p⟩ => show Q (.str i) H from p.ok ⟨R, .str i⟩
/-- a slot's data -/
def eName (i : Nat) : M PyData := fun e => match e[i]? with
  | some (some (.dat d)) => .ok d e
  | some (some (.own ds)) => .ok (.list ds) (e.set i (some (.dat (.list ds))))
  | _ => .bad
/-- a slot, as it is when it is read -/
def eVar (i : Nat) : M Opd := fun e => match e[i]? with
  | some (some _) => .ok (.var i) e
  | _ => .bad
theorem dt_var {i : Nat} (h : PE X a (tVar i)) : DT X W a (eVar i) := h.imp fun σ H Q ⟨Γ, e, R, p⟩ => by
  unfold eVar at p
  split at p
  · rename_i sv q
    have R0 := R
    obtain ⟨g, R⟩ := R
    obtain ⟨v, h1, h2⟩ := R.at_ i sv q
    exact ⟨v, h1, p v H ⟨R0, h1⟩ (FzLe.refl H)⟩
  · exact p.elim
theorem de_name {i : Nat} (h : PE X a (tVar i)) : DE X W a (eName i) := by
  refine ⟨fun pins s σ H Q I ⟨Γ, e, R, p⟩ => ?_⟩
  unfold eName at p
  split at p
  · rename_i d q
    have R0 := R
    obtain ⟨g, R⟩ := R
    obtain ⟨v, h1, h2⟩ := R.at_ i _ q
    exact h.run pins s σ H Q I ⟨v, h1, p v H ⟨R0, h2⟩ (FzLe.refl H)⟩
  · rename_i ds q
    obtain ⟨g, R⟩ := R
    obtain ⟨v, h1, a, vs, rfl, h3, h4, h5, h6⟩ := R.at_ i _ q
    refine (pe_frz h).run pins s σ H Q I ⟨_, h1, a, vs, rfl, h4, fun o => ?_⟩
    have fz := fz_lst (o := .frz o (.lst vs)) h4
    exact p _ _ ⟨R.freeze q h1 h3 h4 h5 h6, .lst ⟨o, upd_same⟩ h5 (DzA.mono fz _ _ h6)⟩ fz
  · exact p.elim
/-- a name of the module that is a flat constant -/
theorem de_glob {x : Str} {u : Value} {d : PyData} {v : V} (hg : Gl X x) (hm : X.mg x = some u) (r : RelV v u) (hd : ∀ K H, Dz K H v d) (hdb : (x == ("__debug__" : Str)) = false := by decide) : DE X W (.Name x pos) (M.pure d) :=
  (pe_glob hg hm r hdb).imp fun σ H Q ⟨Γ, e, R, p⟩ => show Q v H from p.ok ⟨R, hd _ _⟩

/-! ### operators -/
/-- the two data, read when both sides are known -/
def eOp (op : PyData → PyData → Option PyData) (f g : M Opd) : M PyData := M.bind f fun s => M.bind g fun t => fun e => match s.get e, t.get e with
  | some d, some d' => match op d d' with
    | some r => .ok r e
    | none => .bad
  | _, _ => .bad
theorem opd_read {K : PySem.W.Frag} {mg : Str → Option Value} {op : PyData → PyData → Option PyData} {f g : M Opd} {σ : St} {H : Hp} {Q : VK} (h : tR RlD K mg W (eOp op f g) σ H Q) : tOp (rD K op) (tR RlT K mg W f) (tR RlT K mg W g) σ H Q := by
  obtain ⟨Γ, e, R, p⟩ := h
  refine ⟨Γ, e, R, post.step p fun v H1 t e1 ⟨R1, h1⟩ _ q => ⟨Γ, e1, R1, post.step q fun v2 H2 t2 e2 ⟨R2, h2⟩ fz q2 => ?_⟩⟩
  split at q2
  · rename_i d d' g1 g2
    split at q2
    · rename_i r g3
      exact ⟨d, d', r, R2.tk (h1.mono fz) g1, R2.tk h2 g2, g3, fun v H' s z => q2 v H' ⟨R2.same s, z⟩ (fz_same s)⟩
    · exact q2.elim
  · exact q2.elim
theorem de_op {o : Operator} {op : PyData → PyData → Option PyData} {f g : M Opd} (ho : OpR X (binaryOp o) (rD X.K op)) (ha : DT X W a f) (hb : DT X W b g) : DE X W (.BinOp a o b pos) (eOp op f g) :=
  (pe_op ho ha hb).imp fun σ H Q h => opd_read h
theorem de_cmp {o : CmpOp} {op : PyData → PyData → Option PyData} {f g : M Opd} (ho : OpR X (compareOp o) (rD X.K op)) (ha : DT X W a f) (hb : DT X W b g) (hm : behindInMarks o b = false) : DE X W (.Compare a [o] [b] pos) (eOp op f g) :=
  (pe_cmpR ho ha hb hm).imp fun σ H Q h => opd_read h
/-- a datum that is a truth value -/
def eTest (f : M PyData) : M Bool := M.bind f fun d => match d with
  | .bool b => M.pure b
  | _ => fun _ => .bad
theorem test_read {K : PySem.W.Frag} {mg : Str → Option Value} {f : M PyData} {σ : St} {H : Hp} {Q : Bool → Hp → Prop} (h : tR RlB K mg W (eTest f) σ H Q) : tR RlD K mg W f σ H (fun x H' => ∃ k, x = .bl k ∧ Q k H') := by
  obtain ⟨Γ, e, R, p⟩ := h
  refine ⟨Γ, e, R, post.step p fun v H1 d e1 ⟨R1, h1⟩ _ q => ?_⟩
  cases d with
  | bool b =>
    cases h1
    exact ⟨b, rfl, q.ok ⟨R1, rfl⟩⟩
  | _ => exact q.elim
theorem db_cmp {o : CmpOp} {op : PyData → PyData → Option PyData} {f g : M Opd} (ho : OpR X (compareOp o) (rD X.K op)) (ha : DT X W a f) (hb : DT X W b g) (hm : behindInMarks o b = false) : DB X W (.Compare a [o] [b] pos) (eTest (eOp op f g)) :=
  (pt_cmpR ho ha hb hm).imp fun σ H Q h => by
    have h2 := test_read h
    exact opd_read h2
theorem db_val {f : M PyData} (h : DE X W a f) (he : ∀ whole, isTrue a X.env whole = (do let v ← whole; standAt a.pos; holding [v] (truthy v)) := by intro _; rfl) : DB X W a (eTest f) :=
  (pt_val h he).imp fun σ H Q h => test_read h
/-- a < b < c -/
def eChain (op op' : PyData → PyData → Option PyData) (f g h : M Opd) : M PyData := M.bind f fun s => M.bind g fun t => fun e => match s.get e, t.get e with
  | some d, some d' => match op d d' with
    | some (.bool true) => M.bind h (fun u e' => match t.get e', u.get e' with
      | some d1, some d2 => match op' d1 d2 with
        | some r => .ok r e'
        | none => .bad
      | _, _ => .bad) e
    | some (.bool false) => .ok (.bool false) e
    | _ => .bad
  | _, _ => .bad
theorem chain_read {K : PySem.W.Frag} {mg : Str → Option Value} {op op' : PyData → PyData → Option PyData} {f g h : M Opd} {σ : St} {H : Hp} {Q : VK} (w : tR RlD K mg W (eChain op op' f g h) σ H Q) :
    tChain (rD K op) (rD K op') (tR RlT K mg W f) (tR RlT K mg W g) (tR RlT K mg W h) σ H Q := by
  obtain ⟨Γ, e, R, p⟩ := w
  refine ⟨Γ, e, R, post.step p fun v H1 t e1 ⟨R1, h1⟩ _ q => ⟨Γ, e1, R1, post.step q fun v2 H2 t2 e2 ⟨R2, h2⟩ fz q2 => ?_⟩⟩
  split at q2
  · rename_i d d' g1 g2
    split at q2
    · rename_i g3
      refine ⟨d, d', _, R2.tk (h1.mono fz) g1, R2.tk h2 g2, g3, fun z H' s hz => ?_⟩
      cases hz
      refine ⟨true, rfl, ?_⟩
      rw [if_pos rfl]
      refine ⟨Γ, e2, R2.same s, post.later (fz_same s) (post.step q2 fun v3 H3 t3 e3 ⟨R3, h3⟩ fz3 q3 => ?_)⟩
      split at q3
      · rename_i d1 d2 g4 g5
        split at q3
        · rename_i r g6
          exact ⟨d1, d2, r, R3.tk (h2.mono fz3) g4, R3.tk h3 g5, g6, fun v H' s z => q3 v H' ⟨R3.same s, z⟩ (fz_same s)⟩
        · exact q3.elim
      · exact q3.elim
    · rename_i g3
      refine ⟨d, d', _, R2.tk (h1.mono fz) g1, R2.tk h2 g2, g3, fun z H' s hz => ?_⟩
      cases hz
      refine ⟨false, rfl, ?_⟩
      rw [if_neg
            Bool.false_ne_true]
      exact q2 (.bl false) H' ⟨R2.same s, .bl false⟩ (fz_same s)
    · exact q2.elim
  · exact q2.elim
end
end PF
/-! F3: operators of data, tests, displays, subscripts. -/
namespace PF
open PySem PySem.Spec L2
open PyProof.Rows hiding St

theorem catF_list {X : Cx} : OpR X (binaryOp .Add) (fun x y H Q => ∃ a b xs ys, x = .ref a ∧ y = .ref b ∧ (H a = some (.lst xs) ∨ FL H a xs) ∧ (H b = some (.lst ys) ∨ FL H b ys) ∧ xs.length + ys.length ≤ sizeLine ∧ ∀ p, H p = none → Q (.ref p) (upd H p (.lst (xs ++ ys)))) := by
  intro pins s σ H x y v u Q I rx ry ⟨a, b, xs, ys, h1, h2, ha, hb, hz, q⟩
  subst h1 h2
  cases rx
  cases ry
  have look : ∀ {a : Addr} {xs : List V}, (H a = some (.lst xs) ∨ FL H a xs) → ∃ (its : List Value) (n : Nat), Vals xs its ∧ s.heap.get? a = some { cls := .type "list", data := .seq its.toArray n } := fun {a xs} h => by
    rcases h with h | ⟨o, h⟩
    · obtain ⟨_, its, n, r, e⟩ := I.hok a _ h
      exact ⟨its, n, r, e⟩
    · obtain ⟨_, _, its, n, r, e⟩ := I.hok a _ h
      exact ⟨its, n, r, e⟩
  obtain ⟨its, n, r, e⟩ := look ha
  obtain ⟨its2, n2, r2, e2⟩ := look hb
  have l1 := r.length
  have l2 := r2.length
  refine PySem.P.add_list e e2 ?_ (by rw
        [List.size_toArray, List.size_toArray]; omega)
  refine ⟨.ref s.heap.objs.size, _, I.laid (t' := s.toks) (o := .lst (xs ++ ys)) (fun b ob q => Heap.get?_push_of_some _ q) (Nat.le_refl _) ?_, rfl, q _ (I.hok.fresh (Nat.le_refl _))⟩
  refine ⟨by rw [List.length_append]; exact hz, its ++ its2, 0, r.append r2, ?_⟩
  rw [show its.toArray ++ its2.toArray = (its ++ its2).toArray by simp]
  exact
        Heap.get?_push_size _ rfl

def addD : PyData → PyData → Option PyData
  | .int i, .int j => some (.int (i + j))
  | .str a, .str b => if a.length + b.length ≤ sizeLine then some (.str (a ++ b)) else none
  | .tuple a, .tuple b => if a.length + b.length ≤ sizeLine then some (.tuple (a ++ b)) else none
  | .list a, .list b => if a.length + b.length ≤ sizeLine then some (.list (a ++ b)) else none
  | _, _ => none
theorem DzA.nil_iff {K : PySem.W.Frag} {H : Hp} {ds : List PyData} {vs : List V} (h : DzA K H vs ds) : vs = [] ↔ ds = [] := by
  cases h <;> simp
theorem ho_add {X : Cx} : OpR X (binaryOp .Add) (rD X.K addD) := by
  refine opr_of (((op_add (X := X)).or op_add_str).or (op_catA.or catF_list)) fun x y H Q d e z h1 h2 h3 h4 => ?_
  unfold addD at h3
  split at h3
  · cases h3
    exact .inl (.inl ⟨_, _, h1.int, h2.int, .inl (h4.val (.int _))⟩)
  · split at h3
    · cases h3
      exact .inl (.inr ⟨_, _, h1.str, h2.str, by assumption, .inl (h4.val (.str _))⟩)
    · cases h3
  · split at h3
    · rename_i hl
      cases h3
      obtain ⟨a, xs, rfl, q1, q2, q3⟩ := h1.tup
      obtain ⟨b, ys, rfl, p1, p2, p3⟩ := h2.tup
      have l1 := q3.length
      have l2 := p3.length
      refine .inr (.inl ⟨a, b, xs, ys, rfl, rfl, q1, p1, by omega, fun hx => ?_, fun hx hy => ?_, fun hx hy p hp => ?_⟩)
      · rw [q3.nil_iff.mp hx, List.nil_append] at h4
        exact .inl (h4.val (.tup p1 p2 p3))
      · rw [p3.nil_iff.mp hy, List.append_nil] at h4
        exact .inl (h4.val (.tup q1 q2 q3))
      · exact .inl (h4.tup hp (by rw [List.length_append]; omega) (q3.append p3))
    · cases h3
  · split at h3
    · rename_i hl
      cases h3
      obtain ⟨a, xs, rfl, q1, q2, q3⟩ := h1.lst
      obtain ⟨b, ys, rfl, p1, p2, p3⟩ := h2.lst
      have l1 := q3.length
      have l2 := p3.length
      exact .inr (.inr ⟨a, b, xs, ys, rfl, rfl, q1, p1, by omega, fun p hp => h4.lst hp (by rw [List.length_append]; omega) (q3.append p3)⟩)
    · cases h3
  · cases h3
def subD : PyData → PyData → Option PyData
  | .int i, .int j => some (.int (i - j))
  | _, _ => none
theorem ho_sub {X : Cx} : OpR X (binaryOp .Sub) (rD X.K subD) := by
  refine opr_of op_sub fun x y H Q d e z h1 h2 h3 h4 => ?_
  unfold subD at h3
  split at h3
  · cases h3
    exact ⟨_, _, h1.int, h2.int, .inl (h4.val (.int _))⟩
  · cases h3
def CMulB (i j : Int) : Bool := i.natAbs.log2 + j.natAbs.log2 < 1000000
/-- ints alone -/
def mulD : PyData → PyData → Option PyData
  | .int i, .int j => if CMulB i j then some (.int (i * j)) else none
  | .tuple xs, .int k => if xs ≠ [] ∧ 2 ≤ k ∧ k ≤ 1000 ∧ xs.length ≤ 1000 then some (.tuple (List.replicate k.toNat xs).flatten) else none
  | _, _ => none
theorem DzA.rep {K : PySem.W.Frag} {H : Hp} {ds : List PyData} {vs : List V} (h : DzA K H vs ds) : ∀ n, DzA K H (List.replicate n vs).flatten (List.replicate n ds).flatten
  | 0 => .nil
  | n + 1 => by
    rw [List.replicate_succ, List.replicate_succ,
          List.flatten_cons, List.flatten_cons]
    exact h.append (h.rep n)
theorem ho_mul {X : Cx} : OpR X (binaryOp .Mult) (rD X.K mulD) := by
  refine opr_of ((op_mulW (X := X)).or op_repT) fun x y H Q d e z h1 h2 h3 h4 => ?_
  unfold mulD at h3
  split at h3
  · split at h3
    · rename_i hb
      cases h3
      exact .inl ⟨_, _, h1.int, h2.int, (by unfold CMulB at hb; unfold CMulW; simpa using hb), .inl (h4.val (.int _))⟩
    · cases h3
  · split at h3
    · rename_i hb
      cases h3
      obtain ⟨a, xs, rfl, q1, q2, q3⟩ := h1.tup
      have l1 := q3.length
      obtain ⟨b1, b2, b3, b4⟩ := hb
      refine .inr ⟨a, _, xs, rfl, h2.int, q1, fun z => b1 (q3.nil_iff.mp z), b2, b3, by omega, fun p hp => .inl (h4.tup hp ?_ (q3.rep _))⟩
      rename_i k
      rw [PyProof.Rows.lm_len_rep_flat, l1, sizeLine_eq]
      have a1 := Nat.mul_le_mul (show k.toNat ≤ 1000 by omega) b4
      omega
    · cases h3
  · cases h3
def fdivD : PyData → PyData → Option PyData
  | .int i, .int j => if 0 < j ∧ j.natAbs.log2 < 9000 then some (.int (i / j)) else none
  | _, _ => none
theorem ho_fdiv {X : Cx} : OpR X (binaryOp .FloorDiv) (rD X.K fdivD) := by
  refine opr_of op_fdivW fun x y H Q d e z h1 h2 h3 h4 => ?_
  unfold fdivD at h3
  split at h3
  · split at h3
    · cases h3
      exact ⟨_, _, h1.int, h2.int, by assumption, .inl (h4.val (.int _))⟩
    · cases h3
  · cases h3
def modD : PyData → PyData → Option PyData
  | .int i, .int j => if 0 < j then some (.int (i % j)) else none
  | _, _ => none
theorem ho_mod {X : Cx} : OpR X (binaryOp .Mod) (rD X.K modD) := by
  refine opr_of op_mod fun x y H Q d e z h1 h2 h3 h4 => ?_
  unfold modD at h3
  split at h3
  · split at h3
    · cases h3
      exact ⟨_, _, h1.int, h2.int, by assumption, .inl (h4.val (.int _))⟩
    · cases h3
  · cases h3
def powD : PyData → PyData → Option PyData
  | .int i, .int j => if 0 ≤ j ∧ j ≤ 1000000 ∧ i.natAbs < 2 ^ 64 then some (.int (i ^ j.toNat)) else none
  | _, _ => none
theorem ho_pow {X : Cx} : OpR X (binaryOp .Pow) (rD X.K powD) := by
  refine opr_of op_pow fun x y H Q d e z h1 h2 h3 h4 => ?_
  unfold powD at h3
  split at h3
  · split at h3
    · cases h3
      exact ⟨_, _, h1.int, h2.int, by assumption, .inl (h4.val (.int _))⟩
    · cases h3
  · cases h3

/-! ### comparisons -/
def eqD (d e : PyData) : Option PyData := if SeqAt.shaped d && SeqAt.shaped e then some (.bool (PyData.eqv d e)) else none
def neD (d e : PyData) : Option PyData := if SeqAt.shaped d && SeqAt.shaped e then some (.bool (!PyData.eqv d e)) else none
theorem ho_eq {X : Cx} (hu : X.A.units + 64 < cLine) : OpR X (compareOp .Eq) (rD X.K eqD) := by
  refine opr_of (op_eqD hu) fun x y H Q d e z h1 h2 h3 h4 => ?_
  unfold eqD at h3
  split at h3
  · rename_i hb
    cases h3
    rw [Bool.and_eq_true] at hb
    exact ⟨d, e, h1.dp, h2.dp, hb.1, hb.2, .inl (h4.val (.bl _))⟩
  · cases h3
theorem ho_ne {X : Cx} (hu : X.A.units + 64 < cLine) : OpR X (compareOp .NotEq) (rD X.K neD) := by
  refine opr_of (op_neD hu) fun x y H Q d e z h1 h2 h3 h4 => ?_
  unfold neD at h3
  split at h3
  · rename_i hb
    cases h3
    rw [Bool.and_eq_true] at hb
    exact ⟨d, e, h1.dp, h2.dp, hb.1, hb.2, .inl (h4.val (.bl _))⟩
  · cases h3
theorem op_inDT {X : Cx} (hu : X.A.units + 65 < cLine) : OpR X (compareOp .In) (fun x y H Q => ∃ d ds, Dp X.K H x d ∧ Dp X.K H y (.tuple ds) ∧ SeqAt.shaped d = true ∧ SeqAt.shaped (.tuple ds) = true ∧ Q (.bl (ds.any fun z => PyData.eqv z d)) H) := by
  intro pins s σ H x
  intro y v u Q I rx ry h
  obtain ⟨d, ds, hd,
        he, sd, se, q⟩ := h
  obtain ⟨as,
        r1⟩ := Dp.reads I d x v hd rx
  obtain ⟨bs, r2⟩ := Dp.reads I (.tuple ds) y u he ry
  exact SeqAt.in_tuple_reads r2 r1 (SeqAt.canLay_of_shaped se) (SeqAt.canLay_of_shaped sd) (PyProof.Rows.room_in_shaped sd hu) ⟨.bl _, H, I, rfl, q⟩
theorem op_notInDT {X : Cx} (hu : X.A.units + 65 < cLine) : OpR X (compareOp .NotIn) (fun x y H Q => ∃ d ds, Dp X.K H x d ∧ Dp X.K H y (.tuple ds) ∧ SeqAt.shaped d = true ∧ SeqAt.shaped (.tuple ds) = true ∧ Q (.bl (!ds.any fun z => PyData.eqv z d)) H) := by
  intro pins s σ H x
  intro y v u Q I rx ry h
  obtain ⟨d, ds, hd,
        he, sd, se, q⟩ := h
  obtain ⟨as,
        r1⟩ := Dp.reads I d x v hd rx
  obtain ⟨bs, r2⟩ := Dp.reads I (.tuple ds) y u he ry
  exact SeqAt.notIn_tuple_reads r2 r1 (SeqAt.canLay_of_shaped se) (SeqAt.canLay_of_shaped sd) (PyProof.Rows.room_in_shaped sd hu) ⟨.bl _, H, I, rfl, q⟩
/-- x in y; in a text: one sign -/
def isIn (d : PyData) : PyData → Option Bool
  | .list ds => if SeqAt.shaped d && SeqAt.shaped (.list ds) then some (ds.any fun z => PyData.eqv z d) else none
  | .tuple ds => if SeqAt.shaped d && SeqAt.shaped (.tuple ds) then some (ds.any fun z => PyData.eqv z d) else none
  | .str z => match d with
    | .str ⟨⟨[c]⟩⟩ => some (decide (c ∈ z.cps.toList))
    | _ => none
  | _ => none
def inD (d e : PyData) : Option PyData := (isIn d e).map .bool
def ninD (d e : PyData) : Option PyData := (isIn d e).map fun b => .bool (!b)
theorem ho_in {X : Cx} (hu : X.A.units + 65 < cLine) : OpR X (compareOp .In) (rD X.K inD) := by
  refine opr_of (((op_inD hu).or (op_inDT hu)).or op_in_sign) fun x y H Q d e z h1 h2 h3 h4 => ?_
  unfold inD isIn at h3
  split at h3
  · split at h3
    · rename_i hb
      cases h3
      rw [Bool.and_eq_true] at hb
      exact .inl (.inl ⟨d, _, h1.dp, h2.dp, hb.1, hb.2, .inl (h4.val (.bl _))⟩)
    · cases h3
  · split at h3
    · rename_i hb
      cases h3
      rw [Bool.and_eq_true] at hb
      exact .inl (.inr ⟨d, _, h1.dp, h2.dp, hb.1, hb.2, .inl (h4.val (.bl _))⟩)
    · cases h3
  · split at h3
    · cases h3
      exact .inr ⟨_, _, h1.str, h2.str, .inl (h4.val (.bl _))⟩
    · cases h3
  · cases h3
theorem op_notin_sign1 {X : Cx} : OpR X (compareOp .NotIn) (fun x y H Q => ∃ (c : Nat) (z : Str), x = .str ⟨#[c]⟩ ∧ y = .str z ∧ Q (.bl (!decide (c ∈ z.cps.toList))) H) := op_notIn_sign
theorem ho_nin {X : Cx} (hu : X.A.units + 65 < cLine) : OpR X (compareOp .NotIn) (rD X.K ninD) := by
  refine opr_of (((op_notInD hu).or (op_notInDT hu)).or op_notin_sign1) fun x y H Q d e z h1 h2 h3 h4 => ?_
  unfold ninD isIn at h3
  split at h3
  · split at h3
    · rename_i hb
      cases h3
      rw [Bool.and_eq_true] at hb
      exact .inl (.inl ⟨d, _, h1.dp, h2.dp, hb.1, hb.2, .inl (h4.val (.bl _))⟩)
    · cases h3
  · split at h3
    · rename_i hb
      cases h3
      rw [Bool.and_eq_true] at hb
      exact .inl (.inr ⟨d, _, h1.dp, h2.dp, hb.1, hb.2, .inl (h4.val (.bl _))⟩)
    · cases h3
  · split at h3
    · cases h3
      exact .inr ⟨_, _, h1.str, h2.str, .inl (h4.val (.bl _))⟩
    · cases h3
  · cases h3
def isNoneB : PyData → Bool
  | .none => true
  | _ => false
/-- < of alike data -/
def ltB (d e : PyData) : Option Bool := if PySem.W.alike d e && decide (d.depth ≤ 60) && !isNoneB d then some (PySem.W.dataLt d e) else none
def ltD (d e : PyData) : Option PyData := (ltB d e).map .bool
theorem op_ltA {X : Cx} (hu : X.A.units + 64 < cLine) : OpR X (compareOp .Lt) (fun x y H Q => ∃ d e b, Dp X.K H x d ∧ Dp X.K H y e ∧ ltB d e = some b ∧ Q (.bl b) H) := by
  intro pins s σ H x
  intro y v u Q I rx ry h
  obtain ⟨d, e, b, hd, he, hb, q⟩ := h
  obtain ⟨as,
        r1⟩ := Dp.reads I d x v hd rx
  obtain ⟨bs,
        r2⟩ := Dp.reads I e y u he ry
  unfold ltB at hb
  split at hb
  · rename_i hc
    cases hb
    rw [Bool.and_eq_true, Bool.and_eq_true] at hc
    have hd60 := of_decide_eq_true hc.1.2
    refine PySem.W.rcLt_alike d e X.A s v u as bs r1 r2 hc.1.1 (fun z => ?_) (by have := Nat.min_le_left d.depth e.depth; omega) X.prog X.w X.xe _ ⟨.bl _, H, I, rfl, q⟩
    subst z
    exact absurd hc.2 Bool.false_ne_true
  · cases hb
theorem ho_lt {X : Cx} (hu : X.A.units + 64 < cLine) : OpR X (compareOp .Lt) (rD X.K ltD) := by
  refine opr_of (op_ltA hu) fun x y H Q d e z h1 h2 h3 h4 => ?_
  unfold ltD at h3
  cases hb : ltB d e with
  | none => rw [hb] at h3; cases h3
  | some b =>
    rw [hb] at h3
    cases h3
    exact ⟨d, e, b, h1.dp, h2.dp, hb, .inl (h4.val (.bl _))⟩
def leD : PyData → PyData → Option PyData
  | .int i, .int j => some (.bool (decide (i ≤ j)))
  | .str i, .str j => some (.bool (!decide (j.cps.toList < i.cps.toList)))
  | _, _ => none
theorem ho_le {X : Cx} : OpR X (compareOp .LtE) (rD X.K leD) := by
  refine opr_of ((op_le (X := X)).or op_le_str) fun x y H Q d e z h1 h2 h3 h4 => ?_
  unfold leD at h3
  split at h3
  · cases h3
    exact .inl ⟨_, _, h1.int, h2.int, .inl (h4.val (.bl _))⟩
  · cases h3
    exact .inr ⟨_, _, h1.str, h2.str, .inl (h4.val (.bl _))⟩
  · cases h3
def gtD : PyData → PyData → Option PyData
  | .int i, .int j => some (.bool (decide (j < i)))
  | _, _ => none
theorem ho_gt {X : Cx} : OpR X (compareOp .Gt) (rD X.K gtD) := by
  refine opr_of op_gt fun x y H Q d e z h1 h2 h3 h4 => ?_
  unfold gtD at h3
  split at h3
  · cases h3
    exact ⟨_, _, h1.int, h2.int, .inl (h4.val (.bl _))⟩
  · cases h3
def geD : PyData → PyData → Option PyData
  | .int i, .int j => some (.bool (decide (j ≤ i)))
  | _, _ => none
theorem ho_ge {X : Cx} : OpR X (compareOp .GtE) (rD X.K geD) := by
  refine opr_of op_ge fun x y H Q d e z h1 h2 h3 h4 => ?_
  unfold geD at h3
  split at h3
  · cases h3
    exact ⟨_, _, h1.int, h2.int, .inl (h4.val (.bl _))⟩
  · cases h3
/-- x is None; x is True, False of a truth value -/
def isB (d : PyData) : PyData → Option Bool
  | .none => some (isNoneB d)
  | .bool b => match d with
    | .bool c => some (c == b)
    | _ => none
  | _ => none
def isD (d e : PyData) : Option PyData := (isB d e).map .bool
def isnD (d e : PyData) : Option PyData := (isB d e).map fun b => .bool (!b)
theorem Tk.isN {K : PySem.W.Frag} {H : Hp} {x : V} {d : PyData} (h : Tk K H x d) : decide (x = .non) = isNoneB d := by
  cases d with
  | none => rw [h.none]; rfl
  | bool b => rw [h.bool]; rfl
  | int b => rw [h.int]; rfl
  | str b => rw [h.str]; rfl
  | list ds => obtain ⟨a, xs, rfl, _⟩ := h.lst; rfl
  | tuple ds => obtain ⟨a, xs, rfl, _⟩ := h.tup; rfl
  | dict ds =>
    rcases h with h | ⟨_, _, _, _, e, _⟩
    · cases h
    · cases e
theorem op_isB1 {X : Cx} : OpR X (compareOp .Is) (fun x y H Q => ∃ c b, x = .bl c ∧ y = .bl b ∧ Q (.bl (c == b)) H) := by
  intro pins s σ H x y v u Q I rx ry ⟨c, b, h1, h2, q⟩
  subst h1 h2
  cases rx
  cases ry
  exact is_bool ⟨.bl _, H, I, rfl, q⟩
theorem ho_is {X : Cx} : OpR X (compareOp .Is) (rD X.K isD) := by
  refine opr_of ((op_isN (X := X)).or op_isB1) fun x y H Q d e z h1 h2 h3 h4 => ?_
  unfold isD isB at h3
  split at h3
  · cases h3
    refine .inl ⟨h2.none, .inl ?_⟩
    rw [h1.isN]
    exact h4.val (.bl _)
  · split at h3
    · cases h3
      exact .inr ⟨_, _, h1.bool, h2.bool, .inl (h4.val (.bl _))⟩
    · cases h3
  · cases h3
theorem op_isnB1 {X : Cx} : OpR X (compareOp .IsNot) (fun x y H Q => ∃ c b, x = .bl c ∧ y = .bl b ∧ Q (.bl (!(c == b))) H) := by
  intro pins s σ H x y v u Q I rx ry ⟨c, b, h1, h2, q⟩
  subst h1 h2
  cases rx
  cases ry
  refine wpAny_of_eq (a := Value.bool (!(c == b))) ?_ ⟨.bl _, H, I, rfl, q⟩
  cases c <;> cases b <;> rfl
theorem ho_isn {X : Cx} : OpR X (compareOp .IsNot) (rD X.K isnD) := by
  refine opr_of ((op_notN (X := X)).or op_isnB1) fun x y H Q d e z h1 h2 h3 h4 => ?_
  unfold isnD isB at h3
  split at h3
  · cases h3
    refine .inl ⟨h2.none, .inl ?_⟩
    rw [h1.isN]
    exact h4.val (.bl _)
  · split at h3
    · cases h3
      exact .inr ⟨_, _, h1.bool, h2.bool, .inl (h4.val (.bl _))⟩
    · cases h3
  · cases h3
end PF
/-! F4: truth, displays, subscripts, slices. -/
namespace PF
open PySem PySem.Spec L2
open PyProof.Rows hiding St

section
variable {X : Cx} {W : WX} {a b c : Expr} {es : List Expr} {pos : Pos} {α β : Type}

/-! ### truth -/
def eIf (c : M Bool) (f g : M α) : M α := M.bind c fun k => if k = true then f else g
theorem if_read {ν : Type} {R : Rl ν α} {K : PySem.W.Frag} {mg : Str → Option Value} {c : M Bool} {f g : M α} {σ : St} {H : Hp} {Q : ν → Hp → Prop} (w : tR R K mg W (eIf c f g) σ H Q) :
    tR RlB K mg W c σ H (fun k H1 => if k = true then tR R K mg W f σ H1 Q else tR R K mg W g σ H1 Q) := by
  obtain ⟨Γ, e, R0, p⟩ := w
  refine ⟨Γ, e, R0, post.step p fun v H1 k e1 ⟨R1, h1⟩ _ q => ?_⟩
  subst h1
  cases v with
  | true =>
    rw [if_pos rfl] at q ⊢
    exact ⟨Γ, e1, R1, q⟩
  | false =>
    rw [if_neg Bool.false_ne_true] at q ⊢
    exact ⟨Γ, e1, R1, q⟩
theorem de_if {f : M Bool} {g h : M PyData} (hc : DB X W c f) (ha : DE X W a g) (hb : DE X W b h) : DE X W (.IfExp c a b pos) (eIf f g h) := (pe_ifExp hc ha hb).imp fun σ H Q w => if_read w
theorem dt_if {f : M Bool} {g h : M Opd} (hc : DB X W c f) (ha : DT X W a g) (hb : DT X W b h) : DT X W (.IfExp c a b pos) (eIf f g h) := (pe_ifExp hc ha hb).imp fun σ H Q w => if_read w
theorem do_if {f : M Bool} {g h : M (List PyData)} (hc : DB X W c f) (ha : DO X W a g) (hb : DO X W b h) : DO X W (.IfExp c a b pos) (eIf f g h) := (pe_ifExp hc ha hb).imp fun σ H Q w => if_read w
def eNotB (f : M Bool) : M Bool := M.bind f fun k => M.pure (!k)
theorem db_not {f : M Bool} (h : DB X W a f) : DB X W (.UnaryOp .Not a pos) (eNotB f) := (pt_not h).imp fun σ H Q ⟨Γ, e, R, p⟩ => ⟨Γ, e, R, post.step p fun v H1 k e1 ⟨R1, h1⟩ _ q => by
  subst h1
  exact q.ok ⟨R1, rfl⟩⟩
/-- a test as a value -/
def eBool (f : M Bool) : M PyData := M.bind f fun k => M.pure (.bool k)
def eNotV (f : M PyData) : M PyData := M.bind (eTest f) fun k => M.pure (.bool (!k))
theorem de_not {f : M PyData} (h : DE X W a f) : DE X W (.UnaryOp .Not a pos) (eNotV f) := (pe_not h).imp fun σ H Q w => by
  obtain ⟨Γ, e, R, p⟩ := w
  have t : tR RlB X.K X.mg W (eTest f) σ H (fun k H1 => Q (.bl (!k)) H1) := ⟨Γ, e, R, post.step p fun v H1 k e1 ⟨R1, h1⟩ _ q => by
    subst h1
    exact q.ok ⟨R1, .bl _⟩⟩
  exact test_read t
def eAndB (f g : M Bool) : M Bool := eIf f g (M.pure false)
def eOrB (f g : M Bool) : M Bool := eIf f (M.pure true) g
theorem dw_and1 {f : M Bool} (h : DB X W a f) : DW X W (.BoolOp .And [a] pos) f := (pw_and1 h).imp fun σ H Q w => w
theorem dw_or1 {f : M Bool} (h : DB X W a f) : DW X W (.BoolOp .Or [a] pos) f := (pw_or1 h).imp fun σ H Q w => w
theorem and_read {K : PySem.W.Frag} {mg : Str → Option Value} {f g : M Bool} {σ : St} {H : Hp} {Q : Bool → Hp → Prop} (w : tR RlB K mg W (eAndB f g) σ H Q) : tAnd (tR RlB K mg W f) (tR RlB K mg W g) σ H Q := by
  obtain ⟨Γ, e, R, p⟩ := if_read w
  refine ⟨Γ, e, R, p.imp fun k H1 q => ?_⟩
  cases k with
  | true => exact q
  | false =>
    obtain ⟨Γ, e, R, p⟩ := (if_neg Bool.false_ne_true).mp q
    exact (if_neg Bool.false_ne_true).mpr (p.ok ⟨R, rfl⟩)
theorem or_read {K : PySem.W.Frag} {mg : Str → Option Value} {f g : M Bool} {σ : St} {H : Hp} {Q : Bool → Hp → Prop} (w : tR RlB K mg W (eOrB f g) σ H Q) : tOr (tR RlB K mg W f) (tR RlB K mg W g) σ H Q := by
  obtain ⟨Γ, e, R, p⟩ := if_read w
  refine ⟨Γ, e, R, p.imp fun k H1 q => ?_⟩
  cases k with
  | true =>
    obtain ⟨Γ, e, R, p⟩ := (if_pos rfl).mp q
    exact (if_pos rfl).mpr (p.ok ⟨R, rfl⟩)
  | false => exact q
theorem dw_and {f g : M Bool} (ha : DB X W a f) (hb : DW X W (.BoolOp .And (b :: es) pos) g) : DW X W (.BoolOp .And (a :: b :: es) pos) (eAndB f g) := (pw_and ha hb).imp fun σ H Q w => and_read w
theorem dw_or {f g : M Bool} (ha : DB X W a f) (hb : DW X W (.BoolOp .Or (b :: es) pos) g) : DW X W (.BoolOp .Or (a :: b :: es) pos) (eOrB f g) := (pw_or ha hb).imp fun σ H Q w => or_read w
theorem db_w {f : M Bool} (h : DW X W a f) : DB X W a f := h.pt
def eAndV (f g : M PyData) : M PyData := eIf (eTest f) g (M.pure (.bool false))
def eOrV (f g : M PyData) : M PyData := eIf (eTest f) (M.pure (.bool true)) g
theorem de_bo1 {o} {f : M PyData} (h : DE X W a f) : DE X W (.BoolOp o [a] pos) f := pe_one h
theorem de_and {f g : M PyData} (ha : DE X W a f) (hb : DE X W (.BoolOp .And (b :: es) pos) g) : DE X W (.BoolOp .And (a :: b :: es) pos) (eAndV f g) := (pe_and ha hb).imp fun σ H Q w => by
  have t := test_read (if_read w)
  obtain ⟨Γ, e, R, p⟩ := t
  refine ⟨Γ, e, R, p.imp fun x H1 ⟨k, e, q⟩ => ⟨k, e, ?_⟩⟩
  cases k with
  | true => exact q
  | false =>
    obtain ⟨Γ, e, R, p⟩ := (if_neg Bool.false_ne_true).mp q
    exact (if_neg Bool.false_ne_true).mpr (p.ok ⟨R, .bl _⟩)
theorem de_or {f g : M PyData} (ha : DE X W a f) (hb : DE X W (.BoolOp .Or (b :: es) pos) g) : DE X W (.BoolOp .Or (a :: b :: es) pos) (eOrV f g) := (pe_or ha hb).imp fun σ H Q w => by
  have t := test_read (if_read w)
  obtain ⟨Γ, e, R, p⟩ := t
  refine ⟨Γ, e, R, p.imp fun x H1 ⟨k, e, q⟩ => ⟨k, e, ?_⟩⟩
  cases k with
  | true =>
    obtain ⟨Γ, e, R, p⟩ := (if_pos rfl).mp q
    exact (if_pos rfl).mpr (p.ok ⟨R, .bl _⟩)
  | false => exact q
theorem de_chain {o o' : CmpOp} {op op' : PyData → PyData → Option PyData} {f g h : M Opd} (ho : OpR X (compareOp o) (rD X.K op)) (ho' : OpR X (compareOp o') (rD X.K op')) (ha : DT X W a f) (hb : DT X W b g) (hc : DT X W c h) (hm : lastMarks [o, o'] [b, c] = false) :
    DE X W (.Compare a [o, o'] [b, c] pos) (eChain op op' f g h) := (pe_chain ho ho' ha hb hc hm).imp fun σ H Q w => chain_read w
theorem db_chain {o o' : CmpOp} {op op' : PyData → PyData → Option PyData} {f g h : M Opd} (ho : OpR X (compareOp o) (rD X.K op)) (ho' : OpR X (compareOp o') (rD X.K op')) (ha : DT X W a f) (hb : DT X W b g) (hc : DT X W c h) (hm : lastMarks [o, o'] [b, c] = false) :
    DB X W (.Compare a [o, o'] [b, c] pos) (eTest (eChain op op' f g h)) := (pt_chain ho ho' ha hb hc hm).imp fun σ H Q w => chain_read (test_read w)

/-! ### displays, signs -/
def eTup (f : M (List PyData)) : M PyData := M.bind f fun ds e => if ds.length ≤ sizeLine then .ok (.tuple ds) e else .bad
def eLst (f : M (List PyData)) : M (List PyData) := M.bind f fun ds e => if ds.length ≤ sizeLine then .ok ds e else .bad
theorem de_tup {f : M (List PyData)} {k} (h : DDs X W es f) : DE X W (.Tuple es k pos) (eTup f) := (pe_tup h).imp fun σ H Q ⟨Γ, e, R, p⟩ => ⟨Γ, e, R, post.step p fun vs H1 ds e1 ⟨R1, h1⟩ _ q => by
  split at q
  · have l := h1.length
    refine ⟨by omega, fun p hp => q _ _ ⟨R1.new hp, .tup (.inl (.inl upd_same)) (by omega) (DzA.mono (fz_same (same_new hp)) _ _ h1)⟩ (fz_same (same_new hp))⟩
  · exact q.elim⟩
theorem do_lst {f : M (List PyData)} (h : DDs X W es f) : DO X W (.List es pos) (eLst f) := (pe_lst h).imp fun σ H Q ⟨Γ, e, R, p⟩ => ⟨Γ, e, R, post.step p fun vs H1 ds e1 ⟨R1, h1⟩ _ q => by
  split at q
  · have l := h1.length
    refine ⟨by omega, fun p hp => q _ _ ⟨p, vs, rfl, R1.free hp, by omega, DzA.mono (fz_same (same_new hp)) _ _ h1, R1.guard hp⟩ (fz_same (same_new hp))⟩
  · exact q.elim⟩
def eNeg (f : M PyData) : M PyData := M.bind f fun d => match d with
  | .int i => M.pure (.int (-i))
  | _ => fun _ => .bad
theorem de_neg {f : M PyData} (h : DE X W a f) : DE X W (.UnaryOp .USub a pos) (eNeg f) := (pe_un un_neg h).imp fun σ H Q ⟨Γ, e, R, p⟩ => ⟨Γ, e, R, post.step p fun v H1 d e1 ⟨R1, h1⟩ _ q => by
  cases d with
  | int i =>
    cases h1
    exact ⟨i, rfl, show Q (.int (-i)) H1 from q.ok ⟨R1, .int _⟩⟩
  | _ => exact q.elim⟩

/-! ### subscripts -/
theorem DzA.atI {K : PySem.W.Frag} {H : Hp} {ds : List PyData} {vs : List V} {i : Int} {d : PyData} (h : DzA K H vs ds) (e : L2.atI ds i = some d) : ∃ v, L2.atI vs i = some v ∧ Dz K H v d := by
  unfold L2.atI at e ⊢
  rw [h.length]
  cases q : ixN ds.length i with
  | none =>
    rw [q] at e
    cases e
  | some j =>
    rw [q] at e
    exact h.get e
def ixD : PyData → PyData → Option PyData
  | .list ds, .int i => L2.atI ds i
  | .tuple ds, .int i => L2.atI ds i
  | .str z, .int i => if z.length ≤ sizeLine then (L2.atI z.cps.toList i).map fun c => .str ⟨#[c]⟩ else none
  | _, _ => none
theorem ixr_frz {r : R2} (h : IxR X r) : IxR X (fun x y H Q => r x y H (QF Q)) := by
  intro value slice pins s
  intro σ H x y v u Q I rx ry q hs
  exact thn (h value slice pins s σ H x y v u (QF Q) I rx ry q hs) fun _ _ q => ep_frz q
theorem ho_ix : IxR X (rD X.K ixD) := by
  intro value slice pins s σ H x y v u Q I rx ry ⟨d, e, z, h1, h2, h3, h4⟩ hs
  refine ix_seq value slice pins s σ H x y v u Q I rx ry ?_ hs
  unfold ixD at h3
  split at h3
  · obtain ⟨a, xs, rfl, q1, q2, q3⟩ := h1.lst
    obtain ⟨w, e1, e2⟩ := q3.atI h3
    exact .inl ⟨a, xs, _, w, rfl, h2.int, sql_of q1, e1, h4.val e2⟩
  · obtain ⟨a, xs, rfl, q1, q2, q3⟩ := h1.tup
    obtain ⟨w, e1, e2⟩ := q3.atI h3
    exact .inr (.inl ⟨a, xs, _, w, rfl, h2.int, q1, e1, h4.val e2⟩)
  · split at h3
    · rename_i hl
      rename_i z' i'
      cases q : L2.atI z'.cps.toList i' with
      | none => rw [q] at h3; cases h3
      | some c =>
        rw [q] at h3
        cases h3
        exact .inr (.inr ⟨_, _, c, h1.str, h2.int, hl, q, h4.val (.str _)⟩)
    · cases h3
  · cases h3
theorem de_ix {f g : M Opd} (ha : DT X W a f) (hb : DT X W b g) (hs : PlainIx b) : DE X W (.Subscript a b pos) (eOp ixD f g) := (pe_ix ho_ix ha hb hs).imp fun σ H Q w => opd_read w

/-! ### slices -/
def RlP : Rl (Option Int) (Option Int) := fun K Γ H σ e v k => Rep K Γ H σ e ∧ v = k
abbrev DP (X : Cx) (W : WX) (e : Option Expr) (f : M (Option Int)) : Prop := PO X e (tR RlP X.K X.mg W f)
theorem _root_.L2.PO.imp {X : Cx} {e : Option Expr} {t t' : TO} (h : PO X e t) (w : ∀ σ H Q, t' σ H Q → t σ H Q) : PO X e t' := ⟨fun pins s σ H Q I q => h.run pins s σ H Q I (w σ H Q q)⟩
theorem dp_none : DP X W none (M.pure none) := po_none.imp fun σ H Q ⟨Γ, e, R, p⟩ => show Q none H from p.ok ⟨R, rfl⟩
def ePart (f : M PyData) : M (Option Int) := M.bind f fun d => match d with
  | .int i => M.pure (some i)
  | _ => fun _ => .bad
theorem dp_some {f : M PyData} (h : DE X W a f) : DP X W (some a) (ePart f) := (po_some h).imp fun σ H Q ⟨Γ, e, R, p⟩ => ⟨Γ, e, R, post.step p fun v H1 d e1 ⟨R1, h1⟩ _ q => by
  cases d with
  | int i =>
    cases h1
    exact ⟨i, rfl, q.ok ⟨R1, rfl⟩⟩
  | _ => exact q.elim⟩
def cutD {α : Type} (xs : List α) (lo hi : Option Int) : List α := (xs.drop (HT.sIx xs.length 0 lo)).take (HT.sIx xs.length xs.length hi - HT.sIx xs.length 0 lo)
theorem DzA.cut {K : PySem.W.Frag} {H : Hp} {ds : List PyData} {vs : List V} (h : DzA K H vs ds) (lo hi : Option Int) : DzA K H (cutV vs lo hi) (cutD ds lo hi) := by
  unfold cutV cutD
  rw [h.length]
  exact (h.drop _).take _
theorem cut_whole {vs : List V} {lo hi : Option Int} (h : HT.sIx vs.length 0 lo = 0 ∧ HT.sIx vs.length vs.length hi = vs.length) : cutV vs lo hi = vs := by
  unfold cutV
  rw [h.1, h.2, List.drop_zero, Nat.sub_zero, List.take_length]
def sliceD (lo hi : Option Int) : PyData → Option PyData
  | .list ds => some (.list (cutD ds lo hi))
  | .tuple ds => some (.tuple (cutD ds lo hi))
  | .str z => if z.length ≤ sizeLine then some (.str (cutS z lo hi)) else none
  | _ => none
def rSlD (K : PySem.W.Frag) : V → Option Int → Option Int → Hp → VK → Prop := fun x lo hi H Q => ∃ d r, Tk K H x d ∧ sliceD lo hi d = some r ∧ Out K H Q r
theorem slr_frz {r : V → Option Int → Option Int → Hp → VK → Prop} (h : SlR X r) : SlR X (fun x lo hi H Q => r x lo hi H (QF Q)) := by
  intro pins s σ H x v vl vu
  intro lo hi sl Q I rx hs pl pu q
  obtain ⟨T, id, h1, h2, h3⟩ := h pins s σ H x v vl vu lo hi sl (QF Q) I rx hs pl pu q
  exact ⟨T, id, h1, h2, thn h3 fun _ _ q => ep_frz q⟩
theorem ho_slice : SlR X (rSlD X.K) := by
  intro pins s σ H x v vl vu lo hi sl Q I rx hs pl pu ⟨d, r, h1, h2, h3⟩
  refine slr_frz ((sl_list.or sl_tupA).or sl_str) pins s σ H x v vl vu lo hi sl Q I rx hs pl pu ?_
  unfold sliceD at h2
  split at h2
  · cases h2
    obtain ⟨a, xs, rfl, q1, q2, q3⟩ := h1.lst
    exact .inl (.inl ⟨a, xs, rfl, sql_of q1, fun p hp => h3.lst hp (Nat.le_trans (cutV_length xs lo hi) q2) (q3.cut lo hi)⟩)
  · cases h2
    obtain ⟨a, xs, rfl, q1, q2, q3⟩ := h1.tup
    refine .inl (.inr ⟨a, xs, rfl, q1, fun hw => .inl (h3.val ?_), fun hw p hp => .inl (h3.tup hp (Nat.le_trans (cutV_length xs lo hi) q2) (q3.cut lo hi))⟩)
    have k := q3.cut lo hi
    rw [cut_whole hw] at k
    exact .tup q1 q2 k
  · split at h2
    · cases h2
      exact .inr ⟨_, h1.str, by assumption, .inl (h3.val (.str _))⟩
    · cases h2
  · cases h2
def eSlice (f : M Opd) (g h : M (Option Int)) : M PyData := M.bind f fun t => M.bind g fun lo => M.bind h fun hi e => match t.get e with
  | some d => match sliceD lo hi d with
    | some r => .ok r e
    | none => .bad
  | none => .bad
theorem de_slice {f : M Opd} {g h : M (Option Int)} {lo hi : Option Expr} {p2 : Pos} (ha : DT X W a f) (hl : DP X W lo g) (hh : DP X W hi h) : DE X W (.Subscript a (.Slice lo hi none p2) pos) (eSlice f g h) :=
  (pe_slice ho_slice ha hl hh).imp fun σ H Q ⟨Γ, e, R, p⟩ => ⟨Γ, e, R, post.step p fun v H1 t e1 ⟨R1, h1⟩ _ q => ⟨Γ, e1, R1, post.step q fun l H2 l' e2 ⟨R2, h2⟩ fz q2 => ⟨Γ, e2, R2, post.step q2 fun u H3 u' e3 ⟨R3, h3⟩ fz2 q3 => by
    subst h2 h3
    split at q3
    · rename_i d g1
      split at q3
      · rename_i r g2
        exact ⟨d, r, R3.tk (h1.mono (fz.trans fz2)) g1, g2, fun v H' s z => q3 v H' ⟨R3.same s, z⟩ (fz_same s)⟩
      · exact q3.elim
    · exact q3.elim⟩⟩⟩
end
end PF
/-! F5: what a loop walks: sequences, texts, ranges, enumerate, zip of lists and tuples in any mix. -/
namespace PF
open PySem PySem.Spec L2
open PyProof.Rows hiding St

/-- a list or a tuple that is walked -/
inductive Src where
  | L (a : Addr)
  | T (a : Addr)
def Src.a : Src → Addr
  | .L a => a
  | .T a => a
def Src.At (K : PySem.W.Frag) (H : Hp) : Src → List V → Prop
  | .L a, xs => SqL K H a xs
  | .T a, xs => SqT K H a xs
def Src.it (h : Heap) : Src → Addr → Nat → Prop
  | .L a, it, i => h.IsListIter it a i
  | .T a, it, i => h.IsTupleIter it a i
def Src.is (h : Heap) : Src → Array Value → Prop
  | .L a, its => h.IsList a its
  | .T a, its => h.IsTuple a its
def Src.o : Src → Obj
  | .L a => { cls := .type "list_iterator", data := .fields #[.ref a, .int 0 0] }
  | .T a => { cls := .type "tuple_iterator", data := .fields #[.ref a, .int 0 0] }
theorem Src.draws {P : Program} {w : World} {A : Around} (hh : A.handled = none) (c : Src) (it : Addr) (ne : c.a ≠ it) (its : Array Value) :
    Draws P w A it [it, c.a] its.size (fun i v => its[i]? = some v) (fun i h => c.it h it i ∧ c.is h its) := by
  cases c with
  | L a => exact Draws.list hh it a ne its
  | T a => exact Draws.tuple hh it a ne its
theorem Src.begins (c : Src) (its : Array Value) : Begins (.ref c.a) c.o (fun h => c.is h its) := by
  cases c with
  | L a => exact begins_list a its
  | T a => exact begins_tuple a its
theorem Src.obj {c : Src} {h : Heap} {it : Addr} {i : Nat} (st : c.it h it i) : ∃ o, h.get? it = some o ∧ ∀ v, o.data ≠ .cell v := by
  cases c with
  | L a =>
    obtain ⟨o, e, k, d⟩ := st
    exact ⟨o, e, fun v z
          => by rw [d] at z; cases z⟩
  | T a =>
    obtain ⟨o, e, k, d⟩ := st
    exact ⟨o, e, fun v z
          => by rw [d] at z; cases z⟩
theorem Src.keep {c : Src} {h h' : Heap} {it : Addr} {i : Nat} (st : c.it h it i) (k : ∀ o, h.get? it = some o → h'.get? it = some o) : c.it h' it i := by
  cases c with
  | L a => exact st.at fun o e => k o e
  | T a => exact st.at fun o e => k o e
theorem Src.start {c : Src} {h : Heap} {it : Addr} (e : h.get? it = some c.o) : c.it h it 0 := by
  cases c with
  | L a => exact ⟨_, e, rfl, rfl⟩
  | T a => exact ⟨_, e, rfl, rfl⟩
section
variable {X : Cx} {pins : List (Addr × Obj)} {σ : St} {H : Hp} {s : Shared} {xs ys : List V}
theorem Src.inv {c : Src} (I : L2.Inv X pins σ H s) (h : c.At X.K H xs) : ∃ its : List Value, Vals xs its ∧ c.is s.heap its.toArray := by
  cases c with
  | L a =>
    obtain ⟨its, r, p, _⟩ := I.list h
    exact ⟨its, r, p.isList⟩
  | T a =>
    obtain ⟨its, r, p, _⟩ := I.tuple h
    exact ⟨its, r, p⟩
theorem Src.inj {c : Src} (I : L2.Inv X pins σ H s) (h : c.At X.K H xs) (k : c.At X.K H ys) : ys = xs := by
  cases c with
  | L a => exact I.list_inj k h
  | T a => exact I.tuple_inj k h
theorem Src.lt {c : Src} (I : L2.Inv X pins σ H s) (h : c.At X.K H xs) : c.a < s.heap.objs.size := by
  obtain ⟨its, r, p⟩ := Src.inv I h
  cases c with
  | L a =>
    obtain ⟨o, e, _⟩ := p
    exact Heap.lt_size e
  | T a =>
    obtain ⟨o, e, _⟩ := p
    exact Heap.lt_size e
end
/-- the new tuple of values that next gives -/
theorem newTup_ok {P : Program} {w : World} {H : Hp} {h : Heap} {T : Addr} {vs : List V} {us : List Value} (r : Vals vs us) (hl : vs.length ≤ sizeLine) (hT : h.IsTuple T us.toArray) : ObjOk P w (upd H T (.tup vs)) h T (.tup vs) := ⟨hl, us, r, hT⟩

/-! ### zip of two -/
def ItZ2 (K : PySem.W.Frag) (c d : Src) : It where
  go := fun i H => ∃ xs ys x y, c.At K H xs ∧ d.At K H ys ∧ xs[i]? = some x ∧ ys[i]? = some y
  yld := fun i H v H' => ∃ T x y, v = .ref T ∧ H T = none ∧ H' = upd H T (.tup [x, y]) ∧ (∀ xs, c.At K H xs → xs[i]? = some x) ∧ ∀ ys, d.At K H ys → ys[i]? = some y
  stop := fun i H => ∃ xs ys, c.At K H xs ∧ d.At K H ys ∧ i = min xs.length ys.length
def tnZ2 (c d : Src) (z TI TO i1 i2 : Addr) (i : Nat) (h : Heap) : Prop := IsZip h z TI TO .none ∧ IsTupOf2 h TI (.ref i1) (.ref i2) ∧ (∃ a1 a2, IsTupOf2 h TO a1 a2) ∧ c.it h i1 i ∧ d.it h i2 i
theorem tnZ2.obj {c d : Src} {z TI TO i1 i2 : Addr} {i : Nat} {h : Heap} (st : tnZ2 c d z TI TO i1 i2 i h) (b : Addr) (hb : b ∈ [z, TI, TO, i1, i2]) : ∃ o, h.get? b = some o ∧ ∀ v, o.data ≠ .cell v := by
  obtain ⟨q1, q2, ⟨x, y, q3⟩, q4, q5⟩ := st
  simp only [List.mem_cons,
        List.not_mem_nil, or_false] at hb
  rcases hb with rfl | rfl | rfl | rfl | rfl
  · exact ⟨_, q1, fun v q => nomatch q⟩
  · exact ⟨_, q2, fun v q => nomatch q⟩
  · exact ⟨_, q3, fun v q => nomatch q⟩
  · exact Src.obj q4
  · exact Src.obj q5
theorem free_new {X : Cx} {pins : List (Addr × Obj)} {H : Hp} {h : Heap} {T : Addr} {o : HO} {fp : List Addr} (hf : ∀ b ∈ fp, FpOk X pins H b) (ob : ∀ b ∈ fp, ∃ o, h.get? b = some o ∧ ∀ v, o.data ≠ .cell v) (hT : h.objs.size ≤ T) : ∀ b ∈ fp, upd H T o b = none := fun b hb => by
  obtain ⟨o, ho, _⟩ := ob b hb
  rw [upd_ne (Nat.ne_of_lt (Nat.lt_of_lt_of_le (Heap.lt_size ho) hT))]
  exact (hf b hb).1
theorem turn_z2 {P : Program} {w : World} {K : PySem.W.Frag} {elts : List Expr} {kk : Nat} {tp : Pos} {c d : Src} {z TI TO i1 i2 : Addr} (S : ZipSep2 z TI TO i1 i2 [i1, c.a] [i2, d.a]) (n1 : c.a ≠ i1) (n2 : d.a ≠ i2) :
    Turn P w K (.Tuple elts kk tp) (ItZ2 K c d) [z, TI, TO, i1, i2] z (tnZ2 c d z TI TO i1 i2) where
  mem := List.mem_cons_self
  obj := fun i h st => tnZ2.obj st
  keep := fun i h h' st k => by
    obtain ⟨q1, q2, ⟨x, y, q3⟩, q4, q5⟩ := st
    refine ⟨k z ?_ _ q1, k TI ?_ _ q2, ⟨x, y, k TO ?_ _ q3⟩, Src.keep q4 (k i1 ?_), Src.keep q5 (k i2 ?_)⟩ <;> simp
  item := by
    intro X hP hw hK hc i
    intro pins s σ H E I hf st hg
    subst hP hw hK
    obtain ⟨xs, ys, x, y, e1, e2, e3, e4⟩ := hg
    obtain ⟨us, r1, p1⟩ := Src.inv I e1
    obtain ⟨ws, r2, p2⟩ := Src.inv I e2
    have hh : X.A.in1.handled = none := I.ok.hd hc
    have GN := GoesN.zip2 (elts := elts) (x1 := kk) (pos := tp) S (Src.draws (P := X.prog) (w := X.w) hh c i1 n1 us.toArray) (Src.draws hh d i2 n2 ws.toArray)
    have l1 := r1.length
    have l2 := r2.length
    have b1 := (List.getElem?_eq_some_iff.mp e3).1
    have b2 := (List.getElem?_eq_some_iff.mp e4).1
    refine GN.goes i s _ E (by rw [List.size_toArray, List.size_toArray]; omega) ⟨st.1, st.2.1, st.2.2.1, ⟨st.2.2.2.1, p1⟩, st.2.2.2.2, p2⟩ fun v h' tk hY st' hk _ => ?_
    obtain ⟨T, u1, u2, rfl, hT, g1, g2, iT⟩ := hY
    obtain ⟨x', hx', rx⟩ := r1.get e3
    obtain ⟨y', hy', ry⟩ := r2.get e4
    have f1 : u1 = x' := by rw [List.getElem?_toArray, hx'] at g1; exact (Option.some.inj g1).symm
    have f2 : u2 = y' := by rw [List.getElem?_toArray, hy'] at g2; exact (Option.some.inj g2).symm
    subst f1 f2
    have new : ObjOk X.prog X.w (upd H T (.tup [x, y])) h' T (.tup [x, y]) := newTup_ok (.cons rx (.cons ry .nil)) (show 2 ≤ sizeLine by decide) iT
    have I1 := I.turnedNew (t' := tk) (ch := [z, TI, TO, i1, i2]) (fun b o hb q => hk b o (fun w => hb (by simp only [List.mem_cons, List.not_mem_nil, or_false] at w ⊢; rcases w with w | w | w | w <;> simp [w])) q) hf hT new
    refine ⟨.ref T, _, I1, rfl, ⟨T, x, y, rfl, I.hok.fresh hT, rfl, fun l hl => ?_, fun l hl => ?_⟩, ⟨st'.1, st'.2.1, st'.2.2.1, st'.2.2.2.1.1, st'.2.2.2.2.1⟩, free_new hf (tnZ2.obj st) hT⟩
    · rw [Src.inj I e1 hl]; exact e3
    · rw [Src.inj I e2 hl]; exact e4
  done := by
    intro X hP hw hK hc i
    intro pins s σ H E I hf st hg
    subst hP hw hK
    obtain ⟨xs, ys, e1, e2, ei⟩ := hg
    obtain ⟨us, r1, p1⟩ := Src.inv I e1
    obtain ⟨ws, r2, p2⟩ := Src.inv I e2
    have hh : X.A.in1.handled = none := I.ok.hd hc
    have GN := GoesN.zip2 (elts := elts) (x1 := kk) (pos := tp) S (Src.draws (P := X.prog) (w := X.w) hh c i1 n1 us.toArray) (Src.draws hh d i2 n2 ws.toArray)
    have l1 := r1.length
    have l2 := r2.length
    have en : min us.toArray.size ws.toArray.size = i := by rw [List.size_toArray, List.size_toArray]; omega
    have st' : tnZ2 c d z TI TO i1 i2 i s.heap := st
    refine GN.stops s _ E (by rw [en]; exact ⟨st'.1, st'.2.1, st'.2.2.1, ⟨st'.2.2.2.1, p1⟩, st'.2.2.2.2, p2⟩) fun h' tk hk _ => ?_
    exact I.turnedL (ch := [z, TI, TO, i1, i2]) (fun b o hb q => hk b o (fun w => hb (by simp only [List.mem_cons, List.not_mem_nil, or_false] at w ⊢; rcases w with w | w | w | w <;> simp [w])) q) hf
  self := fun A i
        s Q E st h => by
    have st' : tnZ2 c d z TI TO i1 i2 i s.heap := st
    exact wpAny_pyIter_zip st'.1 h

/-! ### zip of three -/
def ItZ3 (K : PySem.W.Frag) (c d f : Src) : It where
  go := fun i H => ∃ xs ys zs x y z, c.At K H xs ∧ d.At K H ys ∧ f.At K H zs ∧ xs[i]? = some x ∧ ys[i]? = some y ∧ zs[i]? = some z
  yld := fun i H v H' => ∃ T x y z, v = .ref T ∧ H T = none ∧ H' = upd H T (.tup [x, y, z]) ∧ (∀ xs, c.At K H xs → xs[i]? = some x) ∧ (∀ ys, d.At K H ys → ys[i]? = some y) ∧ ∀ zs, f.At K H zs → zs[i]? = some z
  stop := fun i H => ∃ xs ys zs, c.At K H xs ∧ d.At K H ys ∧ f.At K H zs ∧ i = min (min xs.length ys.length) zs.length
def tnZ3 (c d f : Src) (z TI TO i1 i2 i3 : Addr) (i : Nat) (h : Heap) : Prop :=
  IsZip h z TI TO .none ∧ IsTupOf3 h TI (.ref i1) (.ref i2) (.ref i3) ∧ (∃ a1 a2 a3, IsTupOf3 h TO a1 a2 a3) ∧ c.it h i1 i ∧ d.it h i2 i ∧ f.it h i3 i
theorem tnZ3.obj {c d f : Src} {z TI TO i1 i2 i3 : Addr} {i : Nat} {h : Heap} (st : tnZ3 c d f z TI TO i1 i2 i3 i h) (b : Addr) (hb : b ∈ [z, TI, TO, i1, i2, i3]) : ∃ o, h.get? b = some o ∧ ∀ v, o.data ≠ .cell v := by
  obtain ⟨q1, q2, ⟨x, y, u, q3⟩, q4, q5, q6⟩ := st
  simp only [List.mem_cons,
        List.not_mem_nil, or_false] at hb
  rcases hb with rfl | rfl | rfl | rfl | rfl | rfl
  · exact ⟨_, q1, fun v q => nomatch q⟩
  · exact ⟨_, q2, fun v q => nomatch q⟩
  · exact ⟨_, q3, fun v q => nomatch q⟩
  · exact Src.obj q4
  · exact Src.obj q5
  · exact Src.obj q6
theorem turn_z3 {P : Program} {w : World} {K : PySem.W.Frag} {elts : List Expr} {kk : Nat} {tp : Pos} {c d f : Src} {z TI TO i1 i2 i3 : Addr} (S : ZipSep3 z TI TO i1 i2 i3 [i1, c.a] [i2, d.a] [i3, f.a]) (n1 : c.a ≠ i1) (n2 : d.a ≠ i2) (n3 : f.a ≠ i3) :
    Turn P w K (.Tuple elts kk tp) (ItZ3 K c d f) [z, TI, TO, i1, i2, i3] z (tnZ3 c d f z TI TO i1 i2 i3) where
  mem := List.mem_cons_self
  obj := fun i h st => tnZ3.obj st
  keep := fun i h h' st k => by
    obtain ⟨q1, q2, ⟨x, y, u, q3⟩, q4, q5, q6⟩ := st
    refine ⟨k z ?_ _ q1, k TI ?_ _ q2, ⟨x, y, u, k TO ?_ _ q3⟩, Src.keep q4 (k i1 ?_), Src.keep q5 (k i2 ?_), Src.keep q6 (k i3 ?_)⟩ <;> simp
  item := by
    intro X hP hw hK hc i
    intro pins s σ H E I hf st hg
    subst hP hw hK
    obtain ⟨xs, ys, zs, x, y, u, e1, e2, e3, e4, e5, e6⟩ := hg
    obtain ⟨us, r1, p1⟩ := Src.inv I e1
    obtain ⟨ws, r2, p2⟩ := Src.inv I e2
    obtain ⟨ts, r3, p3⟩ := Src.inv I e3
    have hh : X.A.in1.handled = none := I.ok.hd hc
    have GN := GoesN.zip3 (elts := elts) (x1 := kk) (pos := tp) S (Src.draws (P := X.prog) (w := X.w) hh c i1 n1 us.toArray) (Src.draws hh d i2 n2 ws.toArray) (Src.draws hh f i3 n3 ts.toArray)
    have l1 := r1.length
    have l2 := r2.length
    have l3 := r3.length
    have b1 := (List.getElem?_eq_some_iff.mp e4).1
    have b2 := (List.getElem?_eq_some_iff.mp e5).1
    have b3 := (List.getElem?_eq_some_iff.mp e6).1
    refine GN.goes i s _ E (by rw [List.size_toArray, List.size_toArray, List.size_toArray]; omega) ⟨st.1, st.2.1, st.2.2.1, ⟨st.2.2.2.1, p1⟩, ⟨st.2.2.2.2.1, p2⟩, st.2.2.2.2.2, p3⟩ fun v h' tk hY st' hk _ => ?_
    obtain ⟨T, u1, u2, u3, rfl, hT, g1, g2, g3, iT⟩ := hY
    obtain ⟨x', hx', rx⟩ := r1.get e4
    obtain ⟨y', hy', ry⟩ := r2.get e5
    obtain ⟨z', hz', rz⟩ := r3.get e6
    have f1 : u1 = x' := by rw [List.getElem?_toArray, hx'] at g1; exact (Option.some.inj g1).symm
    have f2 : u2 = y' := by rw [List.getElem?_toArray, hy'] at g2; exact (Option.some.inj g2).symm
    have f3 : u3 = z' := by rw [List.getElem?_toArray, hz'] at g3; exact (Option.some.inj g3).symm
    subst f1 f2 f3
    have new : ObjOk X.prog X.w (upd H T (.tup [x, y, u])) h' T (.tup [x, y, u]) := newTup_ok (.cons rx (.cons ry (.cons rz .nil))) (show 3 ≤ sizeLine by decide) iT
    have I1 := I.turnedNew (t' := tk) (ch := [z, TI, TO, i1, i2, i3]) (fun b o hb q => hk b o (fun w => hb (by simp only [List.mem_cons, List.not_mem_nil, or_false] at w ⊢; rcases w with w | w | w | w | w <;> simp [w])) q) hf hT new
    refine ⟨.ref T, _, I1, rfl, ⟨T, x, y, u, rfl, I.hok.fresh hT, rfl, fun l hl => ?_, fun l hl => ?_, fun l hl => ?_⟩, ⟨st'.1, st'.2.1, st'.2.2.1, st'.2.2.2.1.1, st'.2.2.2.2.1.1, st'.2.2.2.2.2.1⟩, free_new hf (tnZ3.obj st) hT⟩
    · rw [Src.inj I e1 hl]; exact e4
    · rw [Src.inj I e2 hl]; exact e5
    · rw [Src.inj I e3 hl]; exact e6
  done := by
    intro X hP hw hK hc i
    intro pins s σ H E I hf st hg
    subst hP hw hK
    obtain ⟨xs, ys, zs, e1, e2, e3, ei⟩ := hg
    obtain ⟨us, r1, p1⟩ := Src.inv I e1
    obtain ⟨ws, r2, p2⟩ := Src.inv I e2
    obtain ⟨ts, r3, p3⟩ := Src.inv I e3
    have hh : X.A.in1.handled = none := I.ok.hd hc
    have GN := GoesN.zip3 (elts := elts) (x1 := kk) (pos := tp) S (Src.draws (P := X.prog) (w := X.w) hh c i1 n1 us.toArray) (Src.draws hh d i2 n2 ws.toArray) (Src.draws hh f i3 n3 ts.toArray)
    have l1 := r1.length
    have l2 := r2.length
    have l3 := r3.length
    have en : min (min us.toArray.size ws.toArray.size) ts.toArray.size = i := by rw [List.size_toArray, List.size_toArray, List.size_toArray]; omega
    have st' : tnZ3 c d f z TI TO i1 i2 i3 i s.heap := st
    refine GN.stops s _ E (by rw [en]; exact ⟨st'.1, st'.2.1, st'.2.2.1, ⟨st'.2.2.2.1, p1⟩, ⟨st'.2.2.2.2.1, p2⟩, st'.2.2.2.2.2, p3⟩) fun h' tk hk _ => ?_
    exact I.turnedL (ch := [z, TI, TO, i1, i2, i3]) (fun b o hb q => hk b o (fun w => hb (by simp only [List.mem_cons, List.not_mem_nil, or_false] at w ⊢; rcases w with w | w | w | w | w <;> simp [w])) q) hf
  self := fun A i
        s Q E st h => by
    have st' : tnZ3 c d f z TI TO i1 i2 i3 i s.heap := st
    exact wpAny_pyIter_zip st'.1 h

/-! ### enumerate -/
def ItEn (K : PySem.W.Frag) (c : Src) : It where
  go := fun i H => ∃ xs x, c.At K H xs ∧ xs[i]? = some x
  yld := fun i H v H' => ∃ T x, v = .ref T ∧ H T = none ∧ H' = upd H T (.tup [.int (i : Nat), x]) ∧ ∀ xs, c.At K H xs → xs[i]? = some x
  stop := fun i H => ∃ xs, c.At K H xs ∧ i = xs.length
def tnEn (c : Src) (e it : Addr) (i : Nat) (h : Heap) : Prop := (∃ old, IsEnum h e it (0 + (i : Int)) old) ∧ c.it h it i
theorem tnEn.obj {c : Src} {e it : Addr} {i : Nat} {h : Heap} (st : tnEn c e it i h) (b : Addr) (hb : b ∈ [e, it]) : ∃ o, h.get? b = some o ∧ ∀ v, o.data ≠ .cell v := by
  obtain ⟨⟨old, q1⟩, q2⟩ := st
  simp only [List.mem_cons,
        List.not_mem_nil, or_false] at hb
  rcases hb with rfl | rfl
  · exact ⟨_, q1, fun v q => nomatch q⟩
  · exact Src.obj q2
theorem turn_en {P : Program} {w : World} {K : PySem.W.Frag} {elts : List Expr} {kk : Nat} {tp : Pos} {c : Src} {e it : Addr} (n0 : e ≠ it) (n1 : c.a ≠ it) (n2 : e ≠ c.a) :
    Turn P w K (.Tuple elts kk tp) (ItEn K c) [e, it] e (tnEn c e it) where
  mem := List.mem_cons_self
  obj := fun i h st => tnEn.obj st
  keep := fun i h h' st k => by
    obtain ⟨⟨old, q1⟩, q2⟩ := st
    refine ⟨⟨old, k e ?_ _ q1⟩, Src.keep q2 (k it ?_)⟩ <;> simp
  item := by
    intro X hP hw hK hc i
    intro pins s σ H E I hf st hg
    subst hP hw hK
    obtain ⟨xs, x, e1, e2⟩ := hg
    obtain ⟨us, r1, p1⟩ := Src.inv I e1
    have hh : X.A.in1.handled = none := I.ok.hd hc
    have GN := GoesN.enumFrom (elts := elts) (x1 := kk) (pos := tp) 0 (Src.draws (P := X.prog) (w := X.w) hh c it n1 us.toArray) e n0 (by simp [n0, n2]) (by simp)
    have l1 := r1.length
    have b1 := (List.getElem?_eq_some_iff.mp e2).1
    refine GN.goes i s _ E (by rw [List.size_toArray]; omega) ⟨st.1, st.2, p1⟩ fun v h' tk hY st' hk _ => ?_
    obtain ⟨T, t, u1, rfl, hT, g1, iT⟩ := hY
    obtain ⟨x', hx', rx⟩ := r1.get e2
    have f1 : u1 = x' := by rw [List.getElem?_toArray, hx'] at g1; exact (Option.some.inj g1).symm
    subst f1
    have new : ObjOk X.prog X.w (upd H T (.tup [.int (i : Nat), x])) h' T (.tup [.int (i : Nat), x]) := newTup_ok (us := [.int (0 + (i : Int)) t, u1]) (.cons ⟨t, by rw [Int.zero_add]⟩ (.cons rx .nil)) (show 2 ≤ sizeLine by decide) iT
    have I1 := I.turnedNew (t' := tk) (ch := [e, it]) (fun b o hb q => hk b o hb q) hf hT new
    refine ⟨.ref T, _, I1, rfl, ⟨T, x, rfl, I.hok.fresh hT, rfl, fun l hl => ?_⟩, ⟨st'.1, st'.2.1⟩, free_new hf (tnEn.obj st) hT⟩
    rw [Src.inj I e1 hl]; exact e2
  done := by
    intro X hP hw hK hc i
    intro pins s σ H E I hf st hg
    subst hP hw hK
    obtain ⟨xs, e1, ei⟩ := hg
    obtain ⟨us, r1, p1⟩ := Src.inv I e1
    have hh : X.A.in1.handled = none := I.ok.hd hc
    have GN := GoesN.enumFrom (elts := elts) (x1 := kk) (pos := tp) 0 (Src.draws (P := X.prog) (w := X.w) hh c it n1 us.toArray) e n0 (by simp [n0, n2]) (by simp)
    have l1 := r1.length
    have en : us.toArray.size = i := by rw [List.size_toArray]; omega
    have st' : tnEn c e it i s.heap := st
    refine GN.stops s _ E (by rw [en]; exact ⟨st'.1, st'.2, p1⟩) fun h' tk hk _ => ?_
    exact I.turnedL (ch := [e, it]) (fun b o hb q => hk b o hb q) hf
  self := fun A i
        s Q E st h => by
    obtain ⟨⟨old, he⟩, _⟩ : tnEn c e it i s.heap := st
    exact wpAny_pyIter_enum he h
set_option maxHeartbeats 2000001 in
theorem enumNew1 {v : Value} {ob : Obj} {G : Heap → Prop} (B : Begins v ob G) :
    Meets (Builtin.«enumerate.__new__» ⟨[.type "enumerate", v], []⟩) (fun _ R s => G s.heap ∧
      R (.ok (.ret (.ref (s.heap.push ob).objs.size))) { s with heap := (s.heap.push ob).push { cls := .type "enumerate", data := .fields #[.none, .bool false, .ref s.heap.objs.size, rawInt 0, .none, .none] } }) :=
  .of_wp fun prog w A R s hyp => by
    obtain ⟨hp, ge, dr, tk, os⟩ := s
    obtain ⟨hG, hyp⟩ := hyp
    have hsub := sub_enumerate
    have walkIt : ∀ {A' : Around} {E : Value → Shared → Prop} {Q : Value → Shared → Prop}, Q (.ref hp.objs.size) ⟨hp.push ob, ge, dr, tk, os⟩ → wpAny (model prog w) A' (pyIter v) Q E ⟨hp, ge, dr, tk, os⟩ :=
      fun q => B.iter prog w _ _ ⟨hp, ge, dr, tk, os⟩ _ hG q
    wp_walk using walkIt
    refine wpAny_stack_any fun stk => wpAny_pure ?_
    split
    · rename_i cl _ _ _ _ _
      cases (cl == Value.type "enumerate")
      · wp_walk using walkIt
        exact ⟨_, rfl, hyp⟩
      · wp_walk using walkIt
        exact ⟨_, rfl, hyp⟩
    · wp_walk using walkIt
      exact ⟨_, rfl, hyp⟩
theorem enum1_begins {prog : Program} {w : World} {A : Around} {E : Value → Shared → Prop} {s : Shared} {v : Value} {ob : Obj} {G : Heap → Prop} {Q : Value → Shared → Prop} (B : Begins v ob G) (hG : G s.heap)
    (h : ∀ h', IsEnum h' (s.heap.objs.size + 1) s.heap.objs.size 0 .none → h'.get? s.heap.objs.size = some ob → (∀ b o, s.heap.get? b = some o → h'.get? b = some o) → Q (.ref (s.heap.objs.size + 1)) { s with heap := h' }) :
    wpAny (model prog w) A (call (.type "enumerate") [v]) Q E s := by
  refine callType_new F.called_enumerate (by decide) (F.typeCall_enumerate_1 _) (F.newCall_enumerate_1 _) (fun o => F.args_object_init_2 o _) F.entry_enumerate_new (enumNew1 B) ⟨hG, ?_⟩
  have size1 : (s.heap.push ob).objs.size = s.heap.objs.size + 1 := Heap.size_push ..
  show _ ∧ _
  rw [size1]
  have en : IsEnum ((s.heap.push ob).push { cls := .type "enumerate", data := .fields #[.none, .bool false, .ref s.heap.objs.size, rawInt 0, .none, .none] }) (s.heap.objs.size + 1) s.heap.objs.size 0 .none := by
    have g := Heap.get?_push_size (s.heap.push ob) (o := { cls := .type "enumerate", data := .fields #[.none, .bool false, .ref s.heap.objs.size, rawInt 0, .none, .none] }) rfl
    rw [size1] at g
    exact g
  exact ⟨⟨_, en, rfl⟩, h _ en (Heap.get?_push_of_some _ (Heap.get?_push_size _ B.free)) fun b o x => Heap.get?_push_of_some _ (Heap.get?_push_of_some _ x)⟩
end PF
/-! F6: walks of data; targets; comprehensions; loops. -/
namespace PF
open PySem PySem.Spec L2
open PyProof.Rows hiding St

section
variable {X : Cx} {e e1 e2 e3 : Expr} {ta : TA} {elts : List Expr} {kk : Nat} {p pos tp : Pos}
def iZ2 (K : PySem.W.Frag) (ta : TA) : TI := fun σ H R => ta σ H fun vs H1 => ∃ (c d : Src) (xs ys : List V), vs = [.ref c.a, .ref d.a] ∧ c.At K H1 xs ∧ d.At K H1 ys ∧ R (ItZ2 K c d) H1
theorem pi_z2 (hg : Gl X "zip") (hm : X.mg "zip" = none) (ha : PA X [e1, e2] ta) (hs : starEach [e1, e2] X.env = (false, eval e1 X.env) :: starEach [e2] X.env) (hpl : (backTo pos (starEach [e2] X.env)).any (·.1) = false) :
    PI X (.Tuple elts kk tp) (.Call (.Name "zip" p) [e1, e2] [] pos) (iZ2 X.K ta) := by
  refine ⟨fun pins
        s σ H R I h => ?_⟩
  refine Call_ (ld_blt I hg hm PyProof.Rows.boot_zip (PyProof.Rows.callWith_type1
        (thn (ha.run pos pins s σ H _ I h) fun us s1 ⟨vs, H1, I1, r1, q1⟩ => ?_) hs hpl))
  obtain ⟨c, d, xs, ys, rfl, hc, hd, q⟩ := q1
  obtain ⟨u1, u2, rfl, g1, g2⟩ := vals2 r1
  cases g1
  cases g2
  have lc := Src.lt I1 hc
  have ld := Src.lt I1 hd
  obtain ⟨i1, r1, p1⟩ := Src.inv I1 hc
  obtain ⟨i2, r2, p2⟩ := Src.inv I1 hd
  refine zip_begins2 (c.begins i1.toArray) (d.begins i2.toArray) p1 p2 fun h' z1 z2 z3 z4 z5 _ hk => wpAny_pyIter_zip z1 ?_
  refine ⟨_, [s1.heap.objs.size + 4, s1.heap.objs.size + 2, s1.heap.objs.size + 3, s1.heap.objs.size, s1.heap.objs.size + 1], _, _, H1, rfl, I1.kept (t' := s1.toks) hk, turn_z2 (c := c) (d := d) (zip_sep2 (fun b hb => ?_) (fun b hb => ?_)) (Nat.ne_of_lt lc) (Nat.ne_of_lt (Nat.lt_succ_of_lt ld)), ⟨z1, z2, ⟨_, _, z3⟩, Src.start z4, Src.start z5⟩, fun b hb => ?_, q⟩
  · rw [List.mem_singleton.mp hb]; exact lc
  · rw [List.mem_singleton.mp hb]; exact ld
  · have le : s1.heap.objs.size ≤ b := by
      simp only [List.mem_cons,
            List.not_mem_nil, or_false] at hb
      rcases hb with z | z | z | z | z <;> rw [z]
      · exact Nat.le_add_right _ _
      · exact Nat.le_add_right _ _
      · exact Nat.le_add_right _ _
      · exact Nat.le_refl _
      · exact Nat.le_add_right _ _
    exact I1.fpOk le (I1.hok.fresh le)
def iZ3 (K : PySem.W.Frag) (ta : TA) : TI := fun σ H R => ta σ H fun vs H1 => ∃ (c d f : Src) (xs ys zs : List V), vs = [.ref c.a, .ref d.a, .ref f.a] ∧ c.At K H1 xs ∧ d.At K H1 ys ∧ f.At K H1 zs ∧ R (ItZ3 K c d f) H1
theorem pi_z3 (hg : Gl X "zip") (hm : X.mg "zip" = none) (ha : PA X [e1, e2, e3] ta) (hs : starEach [e1, e2, e3] X.env = (false, eval e1 X.env) :: starEach [e2, e3] X.env) (hpl : (backTo pos (starEach [e2, e3] X.env)).any (·.1) = false) :
    PI X (.Tuple elts kk tp) (.Call (.Name "zip" p) [e1, e2, e3] [] pos) (iZ3 X.K ta) := by
  refine ⟨fun pins
        s σ H R I h => ?_⟩
  refine Call_ (ld_blt I hg hm PyProof.Rows.boot_zip (PyProof.Rows.callWith_type1
        (thn (ha.run pos pins s σ H _ I h) fun us s1 ⟨vs, H1, I1, r1, q1⟩ => ?_) hs hpl))
  obtain ⟨c, d, f, xs, ys, zs, rfl, hc, hd, hf, q⟩ := q1
  cases r1 with
  | cons g1 r1 =>
    cases r1 with
    | cons g2 r1 =>
      cases r1 with
      | cons g3 r1 =>
        cases r1
        cases g1
        cases g2
        cases g3
        have lc := Src.lt I1 hc
        have ld := Src.lt I1 hd
        have lf := Src.lt I1 hf
        obtain ⟨i1, r1, p1⟩ := Src.inv I1 hc
        obtain ⟨i2, r2, p2⟩ := Src.inv I1 hd
        obtain ⟨i3, r3, p3⟩ := Src.inv I1 hf
        refine zip_begins3 (c.begins i1.toArray) (d.begins i2.toArray) (f.begins i3.toArray) p1 p2 p3 fun h' z1 z2 z3 z4 z5 z6 _ hk => wpAny_pyIter_zip z1 ?_
        refine ⟨_, [s1.heap.objs.size + 5, s1.heap.objs.size + 3, s1.heap.objs.size + 4, s1.heap.objs.size, s1.heap.objs.size + 1, s1.heap.objs.size + 2], _, _, H1, rfl, I1.kept (t' := s1.toks) hk,
          turn_z3 (c := c) (d := d) (f := f) (zip_sep3 (fun b hb => ?_) (fun b hb => ?_) (fun b hb => ?_)) (Nat.ne_of_lt lc) (Nat.ne_of_lt (Nat.lt_succ_of_lt ld)) (Nat.ne_of_lt (Nat.lt_succ_of_lt (Nat.lt_succ_of_lt lf))), ⟨z1, z2, ⟨_, _, _, z3⟩, Src.start z4, Src.start z5, Src.start z6⟩, fun b hb => ?_, q⟩
        · rw [List.mem_singleton.mp hb]; exact lc
        · rw [List.mem_singleton.mp hb]; exact ld
        · rw [List.mem_singleton.mp hb]; exact lf
        · have le : s1.heap.objs.size ≤ b := by
            simp only [List.mem_cons,
                  List.not_mem_nil, or_false] at hb
            rcases hb with z | z | z | z | z | z <;> rw [z]
            · exact Nat.le_add_right _ _
            · exact Nat.le_add_right _ _
            · exact Nat.le_add_right _ _
            · exact Nat.le_refl _
            · exact Nat.le_add_right _ _
            · exact Nat.le_add_right _ _
          exact I1.fpOk le (I1.hok.fresh le)
def iEn (K : PySem.W.Frag) (ta : TA) : TI := fun σ H R => ta σ H fun vs H1 => ∃ (c : Src) (xs : List V), vs = [.ref c.a] ∧ c.At K H1 xs ∧ R (ItEn K c) H1
theorem pi_en (hg : Gl X "enumerate") (hm : X.mg "enumerate" = none) (ha : PA X [e] ta) (hs : starEach [e] X.env = [(false, eval e X.env)]) : PI X (.Tuple elts kk tp) (.Call (.Name "enumerate" p) [e] [] pos) (iEn X.K ta) := by
  refine ⟨fun pins
        s σ H R I h => ?_⟩
  refine Call_ (ld_blt I hg hm PyProof.Rows.boot_enumerate (PyProof.Rows.callWith_type1 (thn (ha.run pos pins s σ H _ I h) fun us s1 ⟨vs, H1, I1, r1, q1⟩ => ?_) hs rfl))
  obtain ⟨c, xs, rfl, hc, q⟩ := q1
  obtain ⟨u1, rfl, g1⟩ := vals1 r1
  cases g1
  have lc := Src.lt I1 hc
  obtain ⟨i1, r1, p1⟩ := Src.inv I1 hc
  refine enum1_begins (c.begins i1.toArray) p1 fun h' z1 z2 hk => wpAny_pyIter_enum z1 ?_
  refine ⟨_, [s1.heap.objs.size + 1, s1.heap.objs.size], _, _, H1, rfl, I1.kept (t' := s1.toks) hk, turn_en (c := c) (Nat.succ_ne_self _) (Nat.ne_of_lt lc) (Nat.ne_of_gt (Nat.lt_succ_of_lt lc)), ⟨⟨_, z1⟩, Src.start z2⟩, fun b hb => ?_, q⟩
  have le : s1.heap.objs.size ≤ b := by
    simp only [List.mem_cons,
          List.not_mem_nil, or_false] at hb
    rcases hb with z | z <;> rw [z]
    · exact Nat.le_add_right _ _
    · exact Nat.le_refl _
  exact I1.fpOk le (I1.hok.fresh le)
end

/-! ### walks of data -/
def DIt (K : PySem.W.Frag) (H : Hp) (ds : List PyData) (J : It) : Prop := ∀ i H', i ≤ ds.length → FzLe H H' → match ds[i]? with
  | some d => J.go i H' ∧ ∀ x H'', J.yld i H' x H'' → Same H' H'' ∧ Dz K H'' x d
  | none => J.stop i H'
def RlI : Rl It (List PyData) := fun K Γ H σ e J ds => Rep K Γ H σ e ∧ DIt K H ds J ∧ ds.length ≤ sizeLine
abbrev DI (X : Cx) (W : WX) (tg it : Expr) (f : M (List PyData)) : Prop := PI X tg it (tR RlI X.K X.mg W f)
def seqOf : PyData → Option (List PyData)
  | .list ds => some ds
  | .tuple ds => some ds
  | _ => none
theorem Dz.src {K : PySem.W.Frag} {H : Hp} {v : V} {d : PyData} {ds : List PyData} (h : Dz K H v d) (hs : seqOf d = some ds) : ∃ (c : Src) (xs : List V), v = .ref c.a ∧ DzA K H xs ds ∧ xs.length ≤ sizeLine ∧ ∀ H', FzLe H H' → c.At K H' xs := by
  cases h with
  | lst h1 h2 h3 =>
    cases hs
    exact ⟨.L _, _, rfl, h3, h2, fun H' k => (h1.mono k).sql⟩
  | tup h1 h2 h3 =>
    cases hs
    exact ⟨.T _, _, rfl, h3, h2, fun H' k => sqt_mono k h1⟩
  | _ => cases hs
theorem dz_pair {K : PySem.W.Frag} {H : Hp} {T : Addr} {vs : List V} {ds : List PyData} (hT : H T = none) (hl : vs.length ≤ sizeLine) (h : DzA K H vs ds) : Same H (upd H T (.tup vs)) ∧ Dz K (upd H T (.tup vs)) (.ref T) (.tuple ds) :=
  ⟨same_new hT, .tup (.inl (.inl upd_same)) hl (DzA.mono (fz_same (same_new hT)) _ _ h)⟩
section
variable {K : PySem.W.Frag} {H : Hp} {c d f : Src} {xs ys zs : List V} {ds es gs : List PyData}
theorem dit_seq (h : DzA K H xs ds) (hc : ∀ H', FzLe H H' → c.At K H' xs) : DIt K H ds (match c with | .L a => Itl K a | .T a => Itt K a) := by
  intro i H' hi fz
  have q := hc H' fz
  have hl := h.length
  split
  · rename_i d' e
    obtain ⟨v, e1, e2⟩ := h.get e
    cases c with
    | L a => exact ⟨⟨xs, v, q, e1⟩, fun x H'' ⟨g1, g2⟩ => by
        subst g1
        have g3 := g2 xs q
        rw [e1] at g3
        cases g3
        exact ⟨Same.refl _, Dz.mono fz _ _ e2⟩⟩
    | T a => exact ⟨⟨xs, v, q, e1⟩, fun x H'' ⟨g1, g2⟩ => by
        subst g1
        have g3 := g2 xs q
        rw [e1] at g3
        cases g3
        exact ⟨Same.refl _, Dz.mono fz _ _ e2⟩⟩
  · rename_i e
    have := List.getElem?_eq_none_iff.mp e
    cases c with
    | L a => exact ⟨xs, q, by omega⟩
    | T a => exact ⟨xs, q, by omega⟩
theorem dit_z2 (h : DzA K H xs ds) (k : DzA K H ys es) (hc : ∀ H', FzLe H H' → c.At K H' xs) (hd : ∀ H', FzLe H H' → d.At K H' ys) : DIt K H (List.zipWith (fun x y => .tuple [x, y]) ds es) (ItZ2 K c d) := by
  intro i H' hi fz
  have q1 := hc H' fz
  have q2 := hd H' fz
  have l1 := h.length
  have l2 := k.length
  rw [List.length_zipWith] at hi
  split
  · rename_i d' e
    rw [List.getElem?_zipWith] at e
    cases g1 : ds[i]? with
    | none => rw [g1] at e; cases e
    | some x =>
      cases g2 : es[i]? with
      | none => rw [g1, g2] at e; cases e
      | some y =>
        rw [g1, g2] at e
        cases e
        obtain ⟨v, e1, e2⟩ := h.get g1
        obtain ⟨w, e3, e4⟩ := k.get g2
        refine ⟨⟨xs, ys, v, w, q1, q2, e1, e3⟩, fun x' H'' ⟨T, v', w', f1, f2, f3, f4, f5⟩ => ?_⟩
        subst f1 f3
        have f4 := f4 xs q1
        have f5 := f5 ys q2
        rw [e1] at f4
        rw [e3] at f5
        cases f4
        cases f5
        exact dz_pair f2 (show 2 ≤ sizeLine by decide) (.cons (Dz.mono fz _ _ e2) (.cons (Dz.mono fz _ _ e4) .nil))
  · rename_i e
    have := List.getElem?_eq_none_iff.mp e
    rw [List.length_zipWith] at this
    exact ⟨xs, ys, q1, q2, by omega⟩
def zip3 : List PyData → List PyData → List PyData → List PyData
  | x :: xs, y :: ys, z :: zs => .tuple [x, y, z] :: zip3 xs ys zs
  | _, _, _ => []
theorem zip3_get : ∀ (i : Nat) (ds es gs : List PyData), (zip3 ds es gs)[i]? = (match ds[i]?, es[i]?, gs[i]? with | some x, some y, some z => some (.tuple [x, y, z]) | _, _, _ => none)
  | 0, [], _, _ => by simp [zip3]
  | 0, _ :: _, [], _ => by simp [zip3]
  | 0, _ :: _, _ :: _, [] => by simp [zip3]
  | 0, _ :: _, _ :: _, _ :: _ => by simp [zip3]
  | i + 1, [], _, _ => by simp [zip3]
  | i + 1, _ :: ds, [], _ => by simp [zip3]
  | i + 1, _ :: ds, _ :: es, [] => by simp [zip3]
  | i + 1, _ :: ds, _ :: es, _ :: gs => by
    simp only [zip3, List.getElem?_cons_succ]
    exact zip3_get i ds es gs
theorem zip3_length : ∀ (ds es gs : List PyData), (zip3 ds es gs).length = min (min ds.length es.length) gs.length
  | [], _, _ => by simp [zip3]
  | _ :: _, [], _ => by simp [zip3]
  | _ :: _, _ :: _, [] => by simp [zip3]
  | _ :: ds, _ :: es, _ :: gs => by
    simp only [zip3, List.length_cons, zip3_length ds es gs]
    omega
theorem dit_z3 (h : DzA K H xs ds) (k : DzA K H ys es) (m : DzA K H zs gs) (hc : ∀ H', FzLe H H' → c.At K H' xs) (hd : ∀ H', FzLe H H' → d.At K H' ys) (hf : ∀ H', FzLe H H' → f.At K H' zs) : DIt K H (zip3 ds es gs) (ItZ3 K c d f) := by
  intro i H' hi fz
  have q1 := hc H' fz
  have q2 := hd H' fz
  have q3 := hf H' fz
  have l1 := h.length
  have l2 := k.length
  have l3 := m.length
  rw [zip3_length] at hi
  split
  · rename_i d' e
    rw [zip3_get] at e
    split at e
    · rename_i x y z g1 g2 g3
      cases e
      obtain ⟨v, e1, e2⟩ := h.get g1
      obtain ⟨w, e3, e4⟩ := k.get g2
      obtain ⟨u, e5, e6⟩ := m.get g3
      refine ⟨⟨xs, ys, zs, v, w, u, q1, q2, q3, e1, e3, e5⟩, fun x' H'' ⟨T, v', w', u', f1, f2, f3, f4, f5, f6⟩ => ?_⟩
      subst f1 f3
      have f4 := f4 xs q1
      have f5 := f5 ys q2
      have f6 := f6 zs q3
      rw [e1] at f4
      rw [e3] at f5
      rw [e5] at f6
      cases f4
      cases f5
      cases f6
      exact dz_pair f2 (show 3 ≤ sizeLine by decide) (.cons (Dz.mono fz _ _ e2) (.cons (Dz.mono fz _ _ e4) (.cons (Dz.mono fz _ _ e6) .nil)))
    · cases e
  · rename_i e
    have := List.getElem?_eq_none_iff.mp e
    rw [zip3_length] at this
    exact ⟨xs, ys, zs, q1, q2, q3, by omega⟩
def enumD (n : Nat) : List PyData → List PyData
  | [] => []
  | d :: ds => .tuple [.int n, d] :: enumD (n + 1) ds
theorem enumD_get : ∀ (i n : Nat) (ds : List PyData), (enumD n ds)[i]? = ds[i]?.map fun d => .tuple [.int (n + i : Nat), d]
  | _, n, [] => by simp [enumD]
  | 0, n, d :: ds => by simp [enumD]
  | i + 1, n, d :: ds => by
    simp only [enumD, List.getElem?_cons_succ]
    rw [enumD_get i (n + 1) ds, show n + 1 + i = n + (i + 1) by omega]
theorem enumD_length : ∀ (n : Nat) (ds : List PyData), (enumD n ds).length = ds.length
  | n, [] => rfl
  | n, d :: ds => by simp [enumD, enumD_length (n + 1) ds]
theorem dit_en (h : DzA K H xs ds) (hc : ∀ H', FzLe H H' → c.At K H' xs) : DIt K H (enumD 0 ds) (ItEn K c) := by
  intro i H' hi fz
  have q1 := hc H' fz
  have l1 := h.length
  rw [enumD_length] at hi
  split
  · rename_i d' e
    rw [enumD_get] at e
    cases g1 : ds[i]? with
    | none => rw [g1] at e; cases e
    | some x =>
      rw [g1] at e
      cases e
      obtain ⟨v, e1, e2⟩ := h.get g1
      refine ⟨⟨xs, v, q1, e1⟩, fun x' H'' ⟨T, v', f1, f2, f3, f4⟩ => ?_⟩
      subst f1 f3
      have f4 := f4 xs q1
      rw [e1] at f4
      cases f4
      rw [Nat.zero_add]
      exact dz_pair f2 (show 2 ≤ sizeLine by decide) (.cons (.int _) (.cons (Dz.mono fz _ _ e2) .nil))
  · rename_i e
    have := List.getElem?_eq_none_iff.mp e
    rw [enumD_length] at this
    exact ⟨xs, q1, by omega⟩
def rangeD (lo : Int) (n : Nat) : List PyData := (List.range n).map fun i => .int (lo + (i : Nat))
theorem dit_range (lo : Int) (n : Nat) : DIt K H (rangeD lo n) (Itr lo n) := by
  intro i H' hi fz
  unfold rangeD at hi ⊢
  rw [List.length_map, List.length_range] at hi
  split
  · rename_i d' e
    rw [List.getElem?_map] at e
    by_cases hn : i < n
    · rw [List.getElem?_range hn] at e
      cases e
      exact ⟨hn, fun x H'' ⟨f1, f2⟩ => by
        subst f1 f2
        exact ⟨Same.refl _, .int _⟩⟩
    · rw [List.getElem?_eq_none (by rw [List.length_range]; omega)] at e
      cases e
  · rename_i e
    have := List.getElem?_eq_none_iff.mp e
    rw [List.length_map, List.length_range] at this
    exact this
def signsD (z : Str) : List PyData := z.cps.toList.map fun c => .str ⟨#[c]⟩
theorem dit_str (z : Str) : DIt K H (signsD z) (Its z) := by
  intro i H' hi fz
  unfold signsD at hi ⊢
  rw [List.length_map, Array.length_toList] at hi
  split
  · rename_i d' e
    rw [List.getElem?_map, Array.getElem?_toList] at e
    cases g1 : z.cps[i]? with
    | none => rw [g1] at e; cases e
    | some x =>
      rw [g1] at e
      cases e
      have hn : i < z.cps.size := (Array.getElem?_eq_some_iff.mp g1).1
      exact ⟨hn, fun x H'' ⟨f1, c', f2, f3⟩ => by
        subst f1 f3
        rw [g1] at f2
        cases f2
        exact ⟨Same.refl _, .str _⟩⟩
  · rename_i e
    have := List.getElem?_eq_none_iff.mp e
    rw [List.length_map, Array.length_toList] at this
    exact this
end
section
variable {X : Cx} {W : WX} {a b c : Expr} {es elts : List Expr} {kk : Nat} {p pos tp : Pos} {tg : Expr}
theorem _root_.L2.PI.or {tg it : Expr} {t t' : TI} (h : PI X tg it t) (k : PI X tg it t') : PI X tg it (fun σ H R => t σ H R ∨ t' σ H R) :=
  ⟨fun pins s σ H R I q => q.elim (h.run pins s σ H R I) (k.run pins s σ H R I)⟩
def iterOf : PyData → Option (List PyData)
  | .list ds => some ds
  | .tuple ds => some ds
  | .str z => if z.length ≤ sizeLine then some (signsD z) else none
  | _ => none
def eSeq (f : M PyData) : M (List PyData) := M.bind f fun d => M.lift (iterOf d)
theorem di_seq {f : M PyData} (h : DE X W a f) : DI X W tg a (eSeq f) := by
  refine (((pi_list h).or (pi_tup h)).or (pi_str h)).imp fun σ H R ⟨Γ, e, R0, p⟩ => ?_
  unfold eSeq M.bind at p
  cases q : f e with
  | ok d e1 =>
    rw [q] at p
    unfold M.lift at p
    dsimp only at p
    cases hd : iterOf d with
    | none => rw [hd] at p; exact p.elim
    | some ds =>
      rw [hd] at p
      have go : ∀ (Q : VK), (∀ v H1, Rep X.K Γ H1 σ e1 → Dz X.K H1 v d → FzLe H H1 → Q v H1) → tR RlD X.K X.mg W f σ H Q := fun Q hQ => ⟨Γ, e, R0, by
        rw [q]
        exact fun v H' ⟨h1, h2⟩ h3 => hQ v H' h1 h2 h3⟩
      cases d with
      | list ds' =>
        cases hd
        refine .inl (.inl (go _ fun v H1 R1 h1 fz => ?_))
        obtain ⟨c, xs, rfl, h2, h2l, h3⟩ := Dz.src h1 rfl
        cases h1 with
        | lst g1 g2 g3 => exact ⟨_, rfl, ⟨_, g1.sql⟩, p _ _ ⟨R1, dit_seq (c := .L _) g3 fun H' k => (g1.mono k).sql, by have := g3.length; omega⟩ fz⟩
      | tuple ds' =>
        cases hd
        refine .inl (.inr (go _ fun v H1 R1 h1 fz => ?_))
        cases h1 with
        | tup g1 g2 g3 => exact ⟨_, rfl, ⟨_, g1⟩, p _ _ ⟨R1, dit_seq (c := .T _) g3 fun H' k => sqt_mono k g1, by have := g3.length; omega⟩ fz⟩
      | str z =>
        have hd : (if z.length ≤ sizeLine then some (signsD z) else none) = some ds := hd
        split at hd
        · rename_i hz
          cases hd
          refine .inr (go _ fun v H1 R1 h1 fz => ?_)
          cases h1
          exact ⟨z, rfl, p _ _ ⟨R1, dit_str z, by unfold signsD; rw [List.length_map, Array.length_toList]; exact hz⟩ fz⟩
        · cases hd
      | _ => cases hd
  | exc x e1 =>
    rw [q] at p
    exact .inl (.inl ⟨Γ, e, R0, by rw [q]; exact p⟩)
  | bad =>
    rw [q] at p
    exact p.elim
theorem post.lift {ν α : Type} {R : Rl ν α} {K : PySem.W.Frag} {mg : Str → Option Value} {Γ : Gx} {σ : St} {H : Hp} {e : Env} {o : Option α} {Q : ν → Hp → Prop} (h : post R K mg W Γ σ H (M.lift o e) Q) : ∃ a, o = some a ∧ post R K mg W Γ σ H (M.pure a e) Q := by
  cases o with
  | none => exact h.elim
  | some a => exact ⟨a, rfl, h⟩
def zip2D : List PyData → Option (List PyData)
  | [x, y] => (seqOf x).bind fun xs => (seqOf y).map fun ys => List.zipWith (fun x y => .tuple [x, y]) xs ys
  | _ => none
def eCallI (g : List PyData → Option (List PyData)) (f : M (List PyData)) : M (List PyData) := M.bind f fun ds => M.lift (g ds)
theorem di_zip2 {f : M (List PyData)} (hg : Gl X "zip") (hm : X.mg "zip" = none) (h : DDs X W [a, b] f) (ha : notStar a = true) (hb : notStar b = true) : DI X W (.Tuple elts kk tp) (.Call (.Name "zip" p) [a, b] [] pos) (eCallI zip2D f) := by
  have s2 : starEach [b] X.env = [(false, eval b X.env)] := star_one b [] X.env hb
  refine (pi_z2 hg hm h (star_one a [b] X.env ha) (by rw [s2]; rfl)).imp fun σ H R ⟨Γ, e, R0, p⟩ => ⟨Γ, e, R0, post.step p fun vs H1 ds e1 ⟨R1, h1⟩ _ q => ?_⟩
  obtain ⟨r, hr, q⟩ := q.lift
  match ds, vs, h1, hr with
  | [x, y], _, .cons d1 (.cons d2 .nil), hr =>
    have hr : ((seqOf x).bind fun xs => (seqOf y).map fun ys => List.zipWith (fun x y => .tuple [x, y]) xs ys) = some r := hr
    cases g1 : seqOf x with
    | none => rw [g1] at hr; cases hr
    | some xs =>
      cases g2 : seqOf y with
      | none => rw [g1, g2] at hr; cases hr
      | some ys =>
        rw [g1, g2] at hr
        cases hr
        obtain ⟨c, us, rfl, k1, k1l, k2⟩ := Dz.src d1 g1
        obtain ⟨d, ws, rfl, k3, k3l, k4⟩ := Dz.src d2 g2
        have l1 := k1.length
        exact ⟨c, d, us, ws, rfl, k2 _ (FzLe.refl _), k4 _ (FzLe.refl _), q.ok ⟨R1, dit_z2 k1 k3 k2 k4, by rw [List.length_zipWith]; omega⟩⟩
  | [], _, _, hr => cases hr
  | [_], _, _, hr => cases hr
  | _ :: _ :: _ :: _, _, _, hr => cases hr
def zip3D : List PyData → Option (List PyData)
  | [x, y, z] => (seqOf x).bind fun xs => (seqOf y).bind fun ys => (seqOf z).map fun zs => zip3 xs ys zs
  | _ => none
theorem di_zip3 {f : M (List PyData)} (hg : Gl X "zip") (hm : X.mg "zip" = none) (h : DDs X W [a, b, c] f) (ha : notStar a = true) (hb : notStar b = true) (hc : notStar c = true) : DI X W (.Tuple elts kk tp) (.Call (.Name "zip" p) [a, b, c] [] pos) (eCallI zip3D f) := by
  have s3 : starEach [c] X.env = [(false, eval c X.env)] := star_one c [] X.env hc
  have s2 : starEach [b, c] X.env = [(false, eval b X.env), (false, eval c X.env)] := by rw [star_one b [c] X.env hb, s3]
  refine (pi_z3 hg hm h (star_one a [b, c] X.env ha) (by rw [s2]; rfl)).imp fun σ H R ⟨Γ, e, R0, p⟩ => ⟨Γ, e, R0, post.step p fun vs H1 ds e1 ⟨R1, h1⟩ _ q => ?_⟩
  obtain ⟨r, hr, q⟩ := q.lift
  match ds, vs, h1, hr with
  | [x, y, z], _, .cons d1 (.cons d2 (.cons d3 .nil)), hr =>
    have hr : ((seqOf x).bind fun xs => (seqOf y).bind fun ys => (seqOf z).map fun zs => zip3 xs ys zs) = some r := hr
    cases g1 : seqOf x with
    | none => rw [g1] at hr; cases hr
    | some xs =>
      cases g2 : seqOf y with
      | none => rw [g1, g2] at hr; cases hr
      | some ys =>
        cases g3 : seqOf z with
        | none => rw [g1, g2, g3] at hr; cases hr
        | some zs =>
          rw [g1, g2, g3] at hr
          cases hr
          obtain ⟨c, us, rfl, k1, k1l, k2⟩ := Dz.src d1 g1
          obtain ⟨d, ws, rfl, k3, k3l, k4⟩ := Dz.src d2 g2
          obtain ⟨f, ts, rfl, k5, k5l, k6⟩ := Dz.src d3 g3
          have l1 := k1.length
          exact ⟨c, d, f, us, ws, ts, rfl, k2 _ (FzLe.refl _), k4 _ (FzLe.refl _), k6 _ (FzLe.refl _), q.ok ⟨R1, dit_z3 k1 k3 k5 k2 k4 k6, by rw [zip3_length]; omega⟩⟩
  | [], _, _, hr => cases hr
  | [_], _, _, hr => cases hr
  | [_, _], _, _, hr => cases hr
  | _ :: _ :: _ :: _ :: _, _, _, hr => cases hr
def enum1D : List PyData → Option (List PyData)
  | [x] => (seqOf x).map (enumD 0)
  | _ => none
theorem di_enum {f : M (List PyData)} (hg : Gl X "enumerate") (hm : X.mg "enumerate" = none) (h : DDs X W [a] f) (ha : notStar a = true) : DI X W (.Tuple elts kk tp) (.Call (.Name "enumerate" p) [a] [] pos) (eCallI enum1D f) := by
  refine (pi_en hg hm h (star_one a [] X.env ha)).imp fun σ H R ⟨Γ, e, R0, p⟩ => ⟨Γ, e, R0, post.step p fun vs H1 ds e1 ⟨R1, h1⟩ _ q => ?_⟩
  obtain ⟨r, hr, q⟩ := q.lift
  match ds, vs, h1, hr with
  | [x], _, .cons d1 .nil, hr =>
    have hr : (seqOf x).map (enumD 0) = some r := hr
    cases g1 : seqOf x with
    | none => rw [g1] at hr; cases hr
    | some xs =>
      rw [g1] at hr
      cases hr
      obtain ⟨c, us, rfl, k1, k1l, k2⟩ := Dz.src d1 g1
      have l1 := k1.length
      exact ⟨c, us, rfl, k2 _ (FzLe.refl _), q.ok ⟨R1, dit_en k1 k2, by rw [enumD_length]; omega⟩⟩
  | [], _, _, hr => cases hr
  | _ :: _ :: _, _, _, hr => cases hr
def range1D : List PyData → Option (List PyData)
  | [.int j] => if j ≤ (sizeLine : Int) ∧ -(2 ^ 62) ≤ j then some (rangeD 0 j.toNat) else none
  | _ => none
theorem di_range1 {f : M (List PyData)} (hg : Gl X "range") (hm : X.mg "range" = none) (h : DDs X W [a] f) (ha : notStar a = true) : DI X W tg (.Call (.Name "range" p) [a] [] pos) (eCallI range1D f) := by
  refine (pi_range1 hg hm h (star_one a [] X.env ha)).imp fun σ H R ⟨Γ, e, R0, p⟩ => ⟨Γ, e, R0, post.step p fun vs H1 ds e1 ⟨R1, h1⟩ _ q => ?_⟩
  obtain ⟨r, hr, q⟩ := q.lift
  unfold range1D at hr
  split at hr
  · split at hr
    · rename_i hj
      cases hr
      cases h1 with
      | cons d1 h1 =>
        cases h1
        cases d1
        have e := sizeLine_eq
        exact ⟨_, rfl, hj.2, by omega, q.ok ⟨R1, dit_range 0 _, by unfold rangeD; rw [List.length_map, List.length_range]; omega⟩⟩
    · cases hr
  · cases hr
def range2D : List PyData → Option (List PyData)
  | [.int i, .int j] => if j ≤ (sizeLine : Int) ∧ -(2 ^ 62) ≤ j ∧ -1000 ≤ i ∧ i < 2 ^ 62 ∧ (j - i).toNat ≤ sizeLine then some (rangeD i (j - i).toNat) else none
  | _ => none
theorem di_range2 {f : M (List PyData)} (hg : Gl X "range") (hm : X.mg "range" = none) (h : DDs X W [a, b] f) (ha : notStar a = true) (hb : notStar b = true) : DI X W tg (.Call (.Name "range" p) [a, b] [] pos) (eCallI range2D f) := by
  have s2 : starEach [b] X.env = [(false, eval b X.env)] := star_one b [] X.env hb
  refine (pi_range2 hg hm h (by rw [star_one a [b] X.env ha, s2]) s2).imp fun σ H R ⟨Γ, e, R0, p⟩ => ⟨Γ, e, R0, post.step p fun vs H1 ds e1 ⟨R1, h1⟩ _ q => ?_⟩
  obtain ⟨r, hr, q⟩ := q.lift
  unfold range2D at hr
  split at hr
  · split at hr
    · rename_i hj
      cases hr
      cases h1 with
      | cons d1 h1 =>
        cases h1 with
        | cons d2 h1 =>
          cases h1
          cases d1
          cases d2
          have e := sizeLine_eq
          exact ⟨_, _, rfl, ⟨by omega, hj.2.2.2.1, hj.2.1, by omega⟩, q.ok ⟨R1, dit_range _ _, by unfold rangeD; rw [List.length_map, List.length_range]; omega⟩⟩
    · cases hr
  · cases hr
end
end PF
/-! F7: targets, comprehensions. -/
namespace PF
open PySem PySem.Spec L2
open PyProof.Rows hiding St

/-! ### targets -/
def OnlyAt (ts : List Nat) (σ σ' : St) : Prop := σ'.length = σ.length ∧ ∀ i, i ∉ ts → σ'[i]? = σ[i]?
theorem OnlyAt.refl (ts : List Nat) (σ : St) : OnlyAt ts σ σ := ⟨rfl, fun _ _ => rfl⟩
theorem OnlyAt.trans {ts : List Nat} {σ σ1 σ2 : St} (h : OnlyAt ts σ σ1) (k : OnlyAt ts σ1 σ2) : OnlyAt ts σ σ2 := ⟨k.1.trans h.1, fun i hi => (k.2 i hi).trans (h.2 i hi)⟩
theorem OnlyAt.mono {ts ts' : List Nat} {σ σ1 : St} (h : OnlyAt ts σ σ1) (k : ∀ i, i ∈ ts → i ∈ ts') : OnlyAt ts' σ σ1 := ⟨h.1, fun i hi => h.2 i fun z => hi (k i z)⟩
abbrev Tgt := PyData → Env → Option Env
abbrev Tgts := List PyData → Env → Option Env
def tG (K : PySem.W.Frag) (ts : List Nat) (s : Tgt) : TG := fun v σ H Q => ∃ Γ e d e', Rep K Γ H σ e ∧ Dz K H v d ∧ s d e = some e' ∧ ∀ σ', Rep K Γ H σ' e' → OnlyAt ts σ σ' → Q σ' H
def tGs (K : PySem.W.Frag) (ts : List Nat) (s : Tgts) : TGs := fun vs σ H Q => ∃ Γ e ds e', Rep K Γ H σ e ∧ DzA K H vs ds ∧ s ds e = some e' ∧ ∀ σ', Rep K Γ H σ' e' → OnlyAt ts σ σ' → Q σ' H
abbrev DG (X : Cx) (tg : Expr) (ts : List Nat) (s : Tgt) : Prop := PG X tg (tG X.K ts s)
abbrev DGs (X : Cx) (tg : List Expr) (ts : List Nat) (s : Tgts) : Prop := PGs X tg (tGs X.K ts s)
def sName (i : Nat) : Tgt := fun d e => some (e.set i (some (.dat d)))
def sNil : Tgts := fun ds e => match ds with
  | [] => some e
  | _ => none
def sCons (s : Tgt) (r : Tgts) : Tgts := fun ds e => match ds with
  | d :: ds => (s d e).bind fun e1 => r ds e1
  | [] => none
def sTup (n : Nat) (r : Tgts) : Tgt := fun d e => match d with
  | .tuple ds => if ds.length = n then r ds e else none
  | _ => none
section
variable {X : Cx} {a b c : Expr} {es : List Expr} {pos : Pos} {ts ts1 ts2 : List Nat}
theorem dg_name {i : Nat} (h : PG X a (gName i)) : DG X a [i] (sName i) := h.imp fun v σ H Q ⟨Γ, e, d, e', R, h1, h2, q⟩ => by
  cases h2
  refine q _ (R.setD h1) ⟨by rw [List.length_set], fun j hj => ?_⟩
  rw [List.getElem?_set_ne]
  intro z
  exact hj (by rw [z]; exact List.mem_singleton.mpr rfl)
theorem dgs_nil : DGs X [] [] sNil := pgs_nil.imp fun v σ H Q ⟨Γ, e, ds, e', R, h1, h2, q⟩ => by
  cases ds with
  | nil =>
    cases h1
    cases h2
    exact ⟨rfl, q σ R (OnlyAt.refl _ _)⟩
  | cons d ds => cases h2
theorem dgs_cons {s : Tgt} {r : Tgts} (h : DG X a ts1 s) (k : DGs X es ts2 r) (hs : (assignEach (a :: es) X.env).map (·.2) = assign a X.env :: (assignEach es X.env).map (·.2)) : DGs X (a :: es) (ts1 ++ ts2) (sCons s r) :=
  (pgs_cons h k hs).imp fun vs σ H Q ⟨Γ, e, ds, e', R, h1, h2, q⟩ => by
    cases ds with
    | nil => cases h2
    | cons d ds =>
      cases h1 with
      | cons d1 h1 =>
        have h2 : ((s d e).bind fun e1 => r ds e1) = some e' := h2
        cases g : s d e with
        | none => rw [g] at h2; cases h2
        | some e1 =>
          rw [g] at h2
          exact ⟨_, _, rfl, Γ, e, d, e1, R, d1, g, fun σ1 R1 o1 => ⟨Γ, e1, ds, e', R1, h1, h2, fun σ2 R2 o2 => q σ2 R2 ((o1.mono fun i hi => List.mem_append_left _ hi).trans (o2.mono fun i hi => List.mem_append_right _ hi))⟩⟩
theorem dg_tup {r : Tgts} {k n : Nat} (hc : X.calm = true) (h : DGs X es ts r) (hn : (assignEach es X.env).length = n) (hst : (assignEach es X.env).findIdx? (·.1) = none) : DG X (.Tuple es k pos) ts (sTup n r) :=
  (pg_tup hc h hn hst).imp fun v σ H Q ⟨Γ, e, d, e', R, h1, h2, q⟩ => by
    cases d with
    | tuple ds =>
      cases h1 with
      | tup g1 g2 g3 =>
        have h2 : (if ds.length = n then r ds e else none) = some e' := h2
        split at h2
        · rename_i hl
          exact ⟨_, _, rfl, g1, g3.length.trans hl, Γ, e, ds, e', R, g3, h2, q⟩
        · cases h2
    | _ => cases h2
end

/-! ### the slots of a block -/
theorem wipe_get {σ : St} {i : Nat} : ∀ {vs : List Nat}, (wipe σ vs)[i]? = if i ∈ vs then (if i < σ.length then some none else none) else σ[i]?
  | [] => by rw [if_neg (List.not_mem_nil)]; rfl
  | v :: vs => by
    unfold wipe
    by_cases hv : v = i
    · subst hv
      rw [if_pos List.mem_cons_self]
      by_cases hl : v < σ.length
      · rw [if_pos hl, List.getElem?_set_self (by rw [wipe_length]; exact hl)]
      · rw [if_neg hl, List.getElem?_eq_none (by rw [List.length_set, wipe_length]; omega)]
    · rw [List.getElem?_set_ne hv, wipe_get]
      by_cases hi : i ∈ vs
      · rw [if_pos hi, if_pos (List.mem_cons_of_mem _ hi)]
      · rw [if_neg hi, if_neg (by simp only [List.mem_cons, not_or]; exact ⟨fun z => hv z.symm, hi⟩)]
theorem wipe_ext {σ σ' : St} {vs : List Nat} (o : OnlyAt vs σ σ') : wipe σ' vs = wipe σ vs := List.ext_getElem? fun i => by
  rw [wipe_get, wipe_get, o.1]
  by_cases hi : i ∈ vs
  · rw [if_pos hi, if_pos hi]
  · rw [if_neg hi, if_neg hi]
    exact o.2 i hi
theorem wipe_sub {σ : St} {vs ws : List Nat} (h : ∀ i ∈ ws, i ∈ vs) : wipe (wipe σ ws) vs = wipe σ vs := wipe_ext ⟨wipe_length _ _, fun i hi => by rw [wipe_get, if_neg fun z => hi (h i z)]⟩
def wipeE (e : Env) : List Nat → Env
  | [] => e
  | v :: vs => (wipeE e vs).set v none
theorem wipeE_length (e : Env) : ∀ vs : List Nat, (wipeE e vs).length = e.length
  | [] => rfl
  | v :: vs => by unfold wipeE; rw [List.length_set, wipeE_length e vs]
theorem wipeE_get {e : Env} {i : Nat} : ∀ {vs : List Nat}, (wipeE e vs)[i]? = if i ∈ vs then (if i < e.length then some none else none) else e[i]?
  | [] => by rw [if_neg (List.not_mem_nil)]; rfl
  | v :: vs => by
    unfold wipeE
    by_cases hv : v = i
    · subst hv
      rw [if_pos List.mem_cons_self]
      by_cases hl : v < e.length
      · rw [if_pos hl, List.getElem?_set_self (by rw [wipeE_length]; exact hl)]
      · rw [if_neg hl, List.getElem?_eq_none (by rw [List.length_set, wipeE_length]; omega)]
    · rw [List.getElem?_set_ne hv, wipeE_get]
      by_cases hi : i ∈ vs
      · rw [if_pos hi, if_pos (List.mem_cons_of_mem _ hi)]
      · rw [if_neg hi, if_neg (by simp only [List.mem_cons, not_or]; exact ⟨fun z => hv z.symm, hi⟩)]
def datOf : Option (Option SV) → Option SV
  | some (some (.dat d)) => some (.dat d)
  | _ => none
/-- behind a block: its own names are what they were around it, where that was data -/
def restore (e1 e2 : Env) : List Nat → Env
  | [] => e2
  | v :: vs => (restore e1 e2 vs).set v (datOf e1[v]?)
theorem restore_length (e1 e2 : Env) : ∀ vs : List Nat, (restore e1 e2 vs).length = e2.length
  | [] => rfl
  | v :: vs => by unfold restore; rw [List.length_set, restore_length e1 e2 vs]
theorem restore_get {e1 e2 : Env} {i : Nat} : ∀ {vs : List Nat}, (restore e1 e2 vs)[i]? = if i ∈ vs then (if i < e2.length then some (datOf e1[i]?) else none) else e2[i]?
  | [] => by rw [if_neg (List.not_mem_nil)]; rfl
  | v :: vs => by
    unfold restore
    by_cases hv : v = i
    · subst hv
      rw [if_pos List.mem_cons_self]
      by_cases hl : v < e2.length
      · rw [if_pos hl, List.getElem?_set_self (by rw [restore_length]; exact hl)]
      · rw [if_neg hl, List.getElem?_eq_none (by rw [List.length_set, restore_length]; omega)]
    · rw [List.getElem?_set_ne hv, restore_get]
      by_cases hi : i ∈ vs
      · rw [if_pos hi, if_pos (List.mem_cons_of_mem _ hi)]
      · rw [if_neg hi, if_neg (by simp only [List.mem_cons, not_or]; exact ⟨fun z => hv z.symm, hi⟩)]
section
variable {K : PySem.W.Frag} {Γ Γ1 : Gx} {H H1 : Hp} {σ : St} {e e1 e2 : Env} {vs : List Nat}
theorem Rep.wipe (R : Rep K Γ H σ e) : Rep K Γ H (L2.wipe σ vs) (wipeE e vs) := by
  induction vs with
  | nil => exact R
  | cons v vs ih => exact ih.drop v none
theorem Rep.unwipe (R : Rep K Γ H (L2.wipe σ vs) (wipeE e2 vs)) (R1 : Rep K Γ1 H1 σ e1) (fz : FzLe H1 H) : Rep K Γ H σ (restore e1 e2 vs) := by
  obtain ⟨g, R⟩ := R
  obtain ⟨g1, R1⟩ := R1
  have hl : e2.length = σ.length := by
    have h := R.len
    rw [wipeE_length, wipe_length] at h
    exact h
  refine ⟨g, by rw [restore_length]; exact hl, fun i sv q => ?_, R.gh, R.keep⟩
  rw [restore_get] at q
  by_cases hi : i ∈ vs
  · rw [if_pos hi] at q
    split at q
    · have q := Option.some.inj q
      unfold datOf at q
      split at q
      · rename_i d g2
        cases q
        obtain ⟨v, h1, h2⟩ := R1.at_ i _ g2
        exact ⟨v, h1, Dz.mono fz _ _ h2⟩
      · cases q
    · cases q
  · rw [if_neg hi] at q
    obtain ⟨v, h1, h2⟩ := R.at_ i sv (by rw [wipeE_get, if_neg hi]; exact q)
    rw [wipe_get, if_neg hi] at h1
    exact ⟨v, h1, h2⟩
end

/-! ### comprehensions -/
def W0 : WX := fun _ _ _ _ => False
def compM (s : Tgt) (vs : List Nat) (t : M Bool) (y : M PyData) : List PyData → M (List PyData)
  | [], e => .ok [] e
  | d :: ds, e => match s d (wipeE e vs) with
    | none => .bad
    | some e1 => match t e1 with
      | .ok true e2 => match y e2 with
        | .ok r e3 => match compM s vs t y ds e3 with
          | .ok rs e4 => .ok (r :: rs) e4
          | _ => .bad
        | _ => .bad
      | .ok false e2 => compM s vs t y ds e2
      | _ => .bad
def eComp (it : M (List PyData)) (s : Tgt) (vs : List Nat) (t : M Bool) (y : M PyData) : M (List PyData) := M.bind it fun ds e1 => match compM s vs t y ds e1 with
  | .ok rs e2 => .ok rs (restore e1 e2 vs)
  | _ => .bad
def eYes : M Bool := M.pure true
section
variable {X : Cx} {W : WX} {elt tg iter : Expr} {ifs : List Expr} {scope : Scope} {own : List (Str × Nat)} {pos : Pos} {ts : List Nat} {s : Tgt} {it : M (List PyData)} {t : M Bool} {y : M PyData}
theorem dts_yes {W : WX} : PTs X [] (tR RlB X.K X.mg W eYes) := pts_nil.imp fun σ H Q ⟨Γ, e, R, p⟩ => show Q true H from p.ok ⟨R, rfl⟩
theorem comp_read {K : PySem.W.Frag} {mg : Str → Option Value} {vs : List Nat} (hts : ∀ i ∈ ts, i ∈ vs) {σ : St} {H : Hp} {Q : VK} (h : tR RlO K mg W (eComp it s vs t y) σ H Q) :
    tLc (tR RlI K mg W it) (tG K ts s) (tR RlB K mg W0 t) (tR RlD K mg W0 y) vs σ H Q := by
  obtain ⟨Γ, e, R0, p⟩ := h
  refine ⟨Γ, e, R0, post.step p fun J H1 ds e1 ⟨R1, hJ, hlen⟩ fz01 q => fun D hD => ?_⟩
  cases hc : compM s vs t y ds e1 with
  | exc x e2 => rw [hc] at q; exact q.elim
  | bad => rw [hc] at q; exact q.elim
  | ok rs e2 =>
    rw [hc] at q
    refine ⟨fun i m H' => m = ds.length - i ∧ i ≤ ds.length ∧ FzLe H1 H' ∧ ∃ acc done ei rest, Rep K (Γ.plus D (.lst acc)) H' (L2.wipe σ vs) (wipeE ei vs) ∧ acc.length ≤ i ∧ DzA K H' acc done ∧ compM s vs t y (ds.drop i) ei = .ok rest e2 ∧ rs = done ++ rest, ⟨ds.length, by simp, Nat.zero_le _, fz_same (same_new hD), [], [], e1, rs, (R1.guard hD).wipe, Nat.le_refl _, .nil, hc, rfl⟩, ?_⟩
    rintro i m H' ⟨rfl, hi, fz, acc, done, ei, rest, R, hal, hda, hcm, hrs⟩
    have hj := hJ i H' hi fz
    by_cases hlt : i < ds.length
    · have ed : ds[i]? = some ds[i] := List.getElem?_eq_getElem hlt
      rw [ed] at hj
      have hdrop : ds.drop i = ds[i] :: ds.drop (i + 1) := List.drop_eq_getElem_cons hlt
      rw [hdrop] at hcm
      unfold compM at hcm
      refine .inr ⟨hj.1, fun H' => ds.length - (i + 1) = ds.length - (i + 1) ∧ i + 1 ≤ ds.length ∧ FzLe H1 H' ∧ ∃ acc done ei rest, Rep K (Γ.plus D (.lst acc)) H' (L2.wipe σ vs) (wipeE ei vs) ∧ acc.length ≤ i + 1 ∧ DzA K H' acc done ∧ compM s vs t y (ds.drop (i + 1)) ei = .ok rest e2 ∧ rs = done ++ rest, fun H'' hn => ⟨ds.length - (i + 1), by omega, hn⟩, fun x H'' hy => ?_⟩
      obtain ⟨sm, dz⟩ := hj.2 x H'' hy
      split at hcm
      · cases hcm
      · rename_i e' g1
        refine ⟨Γ.plus D (.lst acc), wipeE ei vs, ds[i], e', R.same sm, dz, g1, fun σ2 R2 o2 => ⟨(wipe_ext (o2.mono hts)).trans (wipe_sub fun _ h => h), ?_⟩⟩
        have wσ : L2.wipe σ2 vs = L2.wipe σ vs := (wipe_ext (o2.mono hts)).trans (wipe_sub fun _ h => h)
        refine ⟨Γ.plus D (.lst acc), e', R2, ?_⟩
        split at hcm
        · rename_i e3 g2
          rw [g2]
          intro b H3 ⟨R3, hb⟩ fz3
          subst hb
          rw [if_pos rfl]
          refine ⟨Γ.plus D (.lst acc), e3, R3, ?_⟩
          split at hcm
          · rename_i r e4 g3
            rw [g3]
            intro yv H4 ⟨R4, d4⟩ fz4
            have f14 := (fz.trans (fz_same sm)).trans (fz3.trans fz4)
            have hD4 := R4.at_guard
            refine ⟨acc, hD4, by omega, rfl, hlt, f14.trans (fz_lst hD4), ?_⟩
            split at hcm
            · rename_i rs' e5 g4
              cases hcm
              refine ⟨acc ++ [yv], done ++ [r], e4, rs', ?_, by rw [List.length_append]; exact Nat.succ_le_succ hal, DzA.mono (fz_lst hD4) _ _ ((DzA.mono ((fz_same sm).trans (fz3.trans fz4)) _ _ hda).append (.one d4)), g4, by rw [hrs, List.append_assoc]; rfl⟩
              rw [← wσ]
              exact R4.reguard.wipe
            · cases hcm
          · cases hcm
        · rename_i e3 g2
          rw [g2]
          intro b H3 ⟨R3, hb⟩ fz3
          subst hb
          rw [if_neg
                Bool.false_ne_true]
          refine ⟨rfl, hlt, (fz.trans (fz_same sm)).trans fz3, acc, done, e3, rest, ?_, Nat.le_succ_of_le hal, DzA.mono ((fz_same sm).trans fz3) _ _ hda, hcm, hrs⟩
          rw [← wσ]
          exact R3.wipe
        · cases hcm
    · have ei' : i = ds.length := by omega
      subst ei'
      rw [List.getElem?_eq_none (Nat.le_refl _)] at hj
      rw [List.drop_length] at hcm
      cases hcm
      rw [List.append_nil] at hrs
      subst hrs
      exact .inl ⟨hj, q _ _ ⟨D, acc, rfl, R1.free hD, by omega, hda, R.unwipe R1 fz⟩ fz⟩
theorem do_comp (hc : X.calm = true) (hN : X.N.Nodup) (hi : DI X W tg iter it) (ok : BlkOk X.N X.env.scope scope own)
    (hg : ∀ (s' : Shared) (H : Hp) (C : Addr) (cl : List (Str × Addr)) (fp : List Addr), DG (X.blk s' H scope (compEnvC scope cl C X.env) fp) tg ts s) (ht : ∀ (s' : Shared) (H : Hp) (C : Addr) (cl : List (Str × Addr)) (fp : List Addr), PTs (X.blk s' H scope (compEnvC scope cl C X.env) fp) ifs (tR RlB X.K X.mg W0 t))
    (he : ∀ (s' : Shared) (H : Hp) (C : Addr) (cl : List (Str × Addr)) (fp : List Addr), DE (X.blk s' H scope (compEnvC scope cl C X.env) fp) W0 elt y) (hs : ∀ x, foldedSetIterable iter X.env x = pure x) (hts : ∀ i ∈ ts, i ∈ own.map (·.2)) :
    DO X W (.ListComp elt [⟨tg, iter, ifs, 0⟩] scope pos) (eComp it s (own.map (·.2)) t y) :=
  (pe_lc hc hN hi ok hg ht he hs).imp fun σ H Q h => comp_read hts h
end
end PF
/-! F8: comprehensions with two sources; statements; loops. -/
namespace PF
open PySem PySem.Spec L2
open PyProof.Rows hiding St

theorem wipeE_sub {e : Env} {vs ws : List Nat} (h : ∀ i ∈ ws, i ∈ vs) : wipeE (wipeE e ws) vs = wipeE e vs := List.ext_getElem? fun i => by
  rw [wipeE_get, wipeE_get, wipeE_length, wipeE_get]
  by_cases hi : i ∈ vs
  · rw [if_pos hi, if_pos hi]
  · rw [if_neg hi, if_neg hi, if_neg fun z => hi (h i z)]
def compM2 (s : Tgt) (vs : List Nat) (t : M Bool) (it1 : M (List PyData)) (s1 : Tgt) (vs1 : List Nat) (t1 : M Bool) (y : M PyData) : List PyData → M (List PyData)
  | [], e => .ok [] e
  | d :: ds, e => match s d (wipeE e vs) with
    | none => .bad
    | some e1 => match t e1 with
      | .ok true e2 => match it1 e2 with
        | .ok ds1 e3 => match compM s1 vs1 t1 y ds1 e3 with
          | .ok rs e4 => match compM2 s vs t it1 s1 vs1 t1 y ds e4 with
            | .ok rs' e5 => if rs.length + rs'.length ≤ sizeLine then .ok (rs ++ rs') e5 else .bad
            | _ => .bad
          | _ => .bad
        | _ => .bad
      | .ok false e2 => compM2 s vs t it1 s1 vs1 t1 y ds e2
      | _ => .bad
def eComp2 (it : M (List PyData)) (s : Tgt) (vs : List Nat) (t : M Bool) (it1 : M (List PyData)) (s1 : Tgt) (vs1 : List Nat) (t1 : M Bool) (y : M PyData) : M (List PyData) := M.bind it fun ds e1 => match compM2 s vs t it1 s1 vs1 t1 y ds e1 with
  | .ok rs e2 => if rs.length ≤ sizeLine then .ok rs (restore e1 e2 vs) else .bad
  | _ => .bad
section
variable {X : Cx} {W : WX} {elt tg iter tg1 iter1 : Expr} {ifs ifs1 : List Expr} {scope : Scope} {own : List (Str × Nat)} {pos : Pos} {ts ts1 vs1 : List Nat} {s s1 : Tgt} {it it1 : M (List PyData)} {t t1 : M Bool} {y : M PyData}
theorem comp2_read {K : PySem.W.Frag} {mg : Str → Option Value} {vs : List Nat} (hts : ∀ i ∈ ts, i ∈ vs) (hts1 : ∀ i ∈ ts1, i ∈ vs1) (hvs : ∀ i ∈ vs1, i ∈ vs) {σ : St} {H : Hp} {Q : VK} (h : tR RlO K mg W (eComp2 it s vs t it1 s1 vs1 t1 y) σ H Q) :
    tLc2 (tR RlI K mg W it) (tG K ts s) (tR RlB K mg W0 t) (tR RlI K mg W0 it1) (tG K ts1 s1) (tR RlB K mg W0 t1) (tR RlD K mg W0 y) vs vs1 σ H Q := by
  obtain ⟨Γ, e, R0, p⟩ := h
  refine ⟨Γ, e, R0, post.step p fun J H1 ds e1 ⟨R1, hJ, hlen⟩ fz01 q => fun D hD => ?_⟩
  cases hc : compM2 s vs t it1 s1 vs1 t1 y ds e1 with
  | exc x e2 => rw [hc] at q; exact q.elim
  | bad => rw [hc] at q; exact q.elim
  | ok rs e2 =>
    rw [hc] at q
    dsimp only at q
    split at q
    case isFalse => exact q.elim
    case isTrue hrl =>
    refine ⟨fun i m H' => m = ds.length - i ∧ i ≤ ds.length ∧ FzLe H1 H' ∧ ∃ acc done ei rest, Rep K (Γ.plus D (.lst acc)) H' (L2.wipe σ vs) (wipeE ei vs) ∧ DzA K H' acc done ∧ compM2 s vs t it1 s1 vs1 t1 y (ds.drop i) ei = .ok rest e2 ∧ rs = done ++ rest, ⟨ds.length, by simp, Nat.zero_le _, fz_same (same_new hD), [], [], e1, rs, (R1.guard hD).wipe, .nil, hc, rfl⟩, ?_⟩
    rintro i m H' ⟨rfl, hi, fz, acc, done, ei, rest, R, hda, hcm, hrs⟩
    have hj := hJ i H' hi fz
    by_cases hlt : i < ds.length
    · have ed : ds[i]? = some ds[i] := List.getElem?_eq_getElem hlt
      rw [ed] at hj
      have hdrop : ds.drop i = ds[i] :: ds.drop (i + 1) := List.drop_eq_getElem_cons hlt
      rw [hdrop] at hcm
      unfold compM2 at hcm
      refine .inr ⟨hj.1, fun H' => FzLe H1 H' ∧ ∃ acc done ei rest, Rep K (Γ.plus D (.lst acc)) H' (L2.wipe σ vs) (wipeE ei vs) ∧ DzA K H' acc done ∧ compM2 s vs t it1 s1 vs1 t1 y (ds.drop (i + 1)) ei = .ok rest e2 ∧ rs = done ++ rest, fun H'' hn => ⟨ds.length - (i + 1), by omega, rfl, hlt, hn⟩, fun x H'' hy => ?_⟩
      obtain ⟨sm, dz⟩ := hj.2 x H'' hy
      split at hcm
      · cases hcm
      · rename_i e' g1
        refine ⟨Γ.plus D (.lst acc), wipeE ei vs, ds[i], e', R.same sm, dz, g1, fun σ2 R2 o2 => ⟨(wipe_ext (o2.mono hts)).trans (wipe_sub fun _ h => h), ?_⟩⟩
        have wσ : L2.wipe σ2 vs = L2.wipe σ vs := (wipe_ext (o2.mono hts)).trans (wipe_sub fun _ h => h)
        refine ⟨Γ.plus D (.lst acc), e', R2, ?_⟩
        split at hcm
        · rename_i e3 g2
          rw [g2]
          intro b H3 ⟨R3, hb⟩ fz3
          subst hb
          rw [if_pos rfl]
          refine ⟨Γ.plus D (.lst acc), e3, R3, ?_⟩
          split at hcm
          · rename_i ds1 e4 g3
            rw [g3]
            intro J1 H4 ⟨R4, hJ1, hlen1⟩ fz4
            split at hcm
            · rename_i rs1 e5 g4
              split at hcm
              · rename_i rs2 e6 g5
                split at hcm
                case isFalse => cases hcm
                case isTrue hsz =>
                cases hcm
                have f4 : FzLe H' H4 := (fz_same sm).trans (fz3.trans fz4)
                refine ⟨fun j k H5 => k = ds1.length - j ∧ j ≤ ds1.length ∧ FzLe H4 H5 ∧ ∃ acc1 done1 ej rest1, Rep K (Γ.plus D (.lst acc1)) H5 (L2.wipe σ2 vs1) (wipeE ej vs1) ∧ DzA K H5 acc1 (done ++ done1) ∧ compM s1 vs1 t1 y (ds1.drop j) ej = .ok rest1 e5 ∧ rs1 = done1 ++ rest1,
                  ⟨ds1.length, by simp, Nat.zero_le _, FzLe.refl _, acc, [], e4, rs1, R4.wipe, by rw [List.append_nil]; exact DzA.mono f4 _ _ hda, g4, rfl⟩, ?_⟩
                rintro j k H5 ⟨rfl, hj2, fz5, acc1, done1, ej, rest1, R5, hda1, hcm1, hrs1⟩
                have hjj := hJ1 j H5 hj2 fz5
                by_cases hlt1 : j < ds1.length
                · have ed1 : ds1[j]? = some ds1[j] := List.getElem?_eq_getElem hlt1
                  rw [ed1] at hjj
                  have hdrop1 : ds1.drop j = ds1[j] :: ds1.drop (j + 1) := List.drop_eq_getElem_cons hlt1
                  rw [hdrop1] at hcm1
                  unfold compM at hcm1
                  refine .inr ⟨hjj.1, fun H5 => FzLe H4 H5 ∧ ∃ acc1 done1 ej rest1, Rep K (Γ.plus D (.lst acc1)) H5 (L2.wipe σ2 vs1) (wipeE ej vs1) ∧ DzA K H5 acc1 (done ++ done1) ∧ compM s1 vs1 t1 y (ds1.drop (j + 1)) ej = .ok rest1 e5 ∧ rs1 = done1 ++ rest1, fun H6 hn => ⟨ds1.length - (j + 1), by omega, rfl, hlt1, hn⟩, fun x1 H6 hy1 => ?_⟩
                  obtain ⟨sm1, dz1⟩ := hjj.2 x1 H6 hy1
                  split at hcm1
                  · cases hcm1
                  · rename_i e7 k1
                    refine ⟨Γ.plus D (.lst acc1), wipeE ej vs1, ds1[j], e7, R5.same sm1, dz1, k1, fun σ3 R6 o3 => ⟨(wipe_ext (o3.mono hts1)).trans (wipe_sub fun _ h => h), ?_⟩⟩
                    have wσ3 : L2.wipe σ3 vs1 = L2.wipe σ2 vs1 := (wipe_ext (o3.mono hts1)).trans (wipe_sub fun _ h => h)
                    refine ⟨Γ.plus D (.lst acc1), e7, R6, ?_⟩
                    split at hcm1
                    · rename_i e8 k2
                      rw [k2]
                      intro b H7 ⟨R7, hb⟩ fz7
                      subst hb
                      rw [if_pos rfl]
                      refine ⟨Γ.plus D (.lst acc1), e8, R7, ?_⟩
                      split at hcm1
                      · rename_i r e9 k3
                        rw [k3]
                        intro yv H8 ⟨R8, d8⟩ fz8
                        have hD8 := R8.at_guard
                        have l8 := hda1.length
                        split at hcm1
                        · rename_i rs' e10 k4
                          cases hcm1
                          refine ⟨acc1, hD8, ?_, (fz5.trans (fz_same sm1)).trans ((fz7.trans fz8).trans (fz_lst hD8)), acc1 ++ [yv], done1 ++ [r], e9, rs', ?_, ?_, k4, by rw [hrs1, List.append_assoc]; rfl⟩
                          · rw [hrs, hrs1] at hrl
                            simp only [List.length_append, List.length_cons] at hrl l8
                            omega
                          · rw [← wσ3]
                            exact R8.reguard.wipe
                          · rw [← List.append_assoc]
                            exact DzA.mono (fz_lst hD8) _ _ ((DzA.mono ((fz_same sm1).trans (fz7.trans fz8)) _ _ hda1).append (.one d8))
                        · cases hcm1
                      · cases hcm1
                    · rename_i e8 k2
                      rw [k2]
                      intro b H7 ⟨R7, hb⟩ fz7
                      subst hb
                      rw [if_neg
                            Bool.false_ne_true]
                      refine ⟨(fz5.trans (fz_same sm1)).trans fz7, acc1, done1, e8, rest1, ?_, DzA.mono ((fz_same sm1).trans fz7) _ _ hda1, hcm1, hrs1⟩
                      rw [← wσ3]
                      exact R7.wipe
                    · cases hcm1
                · have ej' : j = ds1.length := by omega
                  subst ej'
                  rw [List.getElem?_eq_none (Nat.le_refl _)] at hjj
                  rw [List.drop_length] at hcm1
                  cases hcm1
                  rw [List.append_nil] at hrs1
                  subst hrs1
                  refine .inl ⟨hjj, (fz.trans f4).trans fz5, acc1, done ++ rs1, _, rs2, ?_, hda1, g5, by rw [hrs, List.append_assoc]⟩
                  have z := R5.wipe (vs := vs)
                  rw [wipe_sub hvs, wipeE_sub hvs, wσ] at z
                  exact z
              · cases hcm
            · cases hcm
          · cases hcm
        · rename_i e3 g2
          rw [g2]
          intro b H3 ⟨R3, hb⟩ fz3
          subst hb
          rw [if_neg
                Bool.false_ne_true]
          refine ⟨(fz.trans (fz_same sm)).trans fz3, acc, done, e3, rest, ?_, DzA.mono ((fz_same sm).trans fz3) _ _ hda, hcm, hrs⟩
          rw [← wσ]
          exact R3.wipe
        · cases hcm
    · have ei' : i = ds.length := by omega
      subst ei'
      rw [List.getElem?_eq_none (Nat.le_refl _)] at hj
      rw [List.drop_length] at hcm
      cases hcm
      rw [List.append_nil] at hrs
      subst hrs
      have l8 := hda.length
      exact .inl ⟨hj, q _ _ ⟨D, acc, rfl, R1.free hD, by omega, hda, R.unwipe R1 fz⟩ fz⟩
theorem do_comp2 (hc : X.calm = true) (hN : X.N.Nodup) (hi : DI X W tg iter it) (ok : BlkOk X.N X.env.scope scope own) (hv : ∀ i ∈ vs1, i ∈ own.map (·.2))
    (hg : ∀ (s' : Shared) (H : Hp) (C : Addr) (cl : List (Str × Addr)) (fp : List Addr), DG (X.blk s' H scope (compEnvC scope cl C X.env) fp) tg ts s) (ht : ∀ (s' : Shared) (H : Hp) (C : Addr) (cl : List (Str × Addr)) (fp : List Addr), PTs (X.blk s' H scope (compEnvC scope cl C X.env) fp) ifs (tR RlB X.K X.mg W0 t))
    (hi1 : ∀ (s' : Shared) (H : Hp) (C : Addr) (cl : List (Str × Addr)) (fp : List Addr), DI (X.blk s' H scope (compEnvC scope cl C X.env) fp) W0 tg1 iter1 it1)
    (hg1 : ∀ (s' : Shared) (H : Hp) (C : Addr) (cl : List (Str × Addr)) (fp : List Addr), DG (X.blk s' H scope (compEnvC scope cl C X.env) fp) tg1 ts1 s1) (ht1 : ∀ (s' : Shared) (H : Hp) (C : Addr) (cl : List (Str × Addr)) (fp : List Addr), PTs (X.blk s' H scope (compEnvC scope cl C X.env) fp) ifs1 (tR RlB X.K X.mg W0 t1))
    (he : ∀ (s' : Shared) (H : Hp) (C : Addr) (cl : List (Str × Addr)) (fp : List Addr), DE (X.blk s' H scope (compEnvC scope cl C X.env) fp) W0 elt y) (hs : ∀ x, foldedSetIterable iter X.env x = pure x) (hs1 : ∀ env x, foldedSetIterable iter1 env x = pure x)
    (hts : ∀ i ∈ ts, i ∈ own.map (·.2)) (hts1 : ∀ i ∈ ts1, i ∈ vs1) :
    DO X W (.ListComp elt [⟨tg, iter, ifs, 0⟩, ⟨tg1, iter1, ifs1, 0⟩] scope pos) (eComp2 it s (own.map (·.2)) t it1 s1 vs1 t1 y) :=
  (pe_lc2 hc hN hi ok hv hg ht hi1 hg1 ht1 he hs hs1).imp fun σ H Q h => comp2_read hts hts1 hv h
end
theorem dts_if {X : Cx} {W : WX} {a : Expr} {f : M Bool} (h : DB X W a f) : PTs X [a] (tR RlB X.K X.mg W f) := (pts_one h).imp fun σ H Q w => w
end PF
/-! F9: statements and loops. -/
namespace PF
open PySem PySem.Spec L2
open PyProof.Rows hiding St

inductive RetV where
  | dat (d : PyData)
  | own (ds : List PyData)
inductive Fl where
  | nx (e : Env)
  | bk (e : Env)
  | ct (e : Env)
  | rt (r : RetV) (e : Env)
  | exc (x : Xn) (e : Env)
  | bad
abbrev B := Env → Fl
def RlR : Rl V RetV := fun K Γ H σ e v r => match r with
  | .dat d => RlD K Γ H σ e v d
  | .own ds => RlO K Γ H σ e v ds
def postS (K : PySem.W.Frag) (mg : Str → Option Value) (W : WX) (Γ : Gx) (H : Hp) (r : Fl) (D : Ends) : Prop := match r with
  | .nx e => ∀ σ' H', Rep K Γ H' σ' e → FzLe H H' → D.nx σ' H'
  | .bk e => ∀ σ' H', Rep K Γ H' σ' e → FzLe H H' → D.bk σ' H'
  | .ct e => ∀ σ' H', Rep K Γ H' σ' e → FzLe H H' → D.ct σ' H'
  | .rt r e => ∀ v σ' H', RlR K Γ H' σ' e v r → FzLe H H' → D.rt v H'
  | .exc x e => ∀ c o σ' H', XnAt mg K H' x c o → Rep K Γ H' σ' e → FzLe H H' → W c o σ' H'
  | .bad => False
def tS (K : PySem.W.Frag) (mg : Str → Option Value) (W : WX) (f : B) : TS := fun D σ H => ∃ Γ e, Rep K Γ H σ e ∧ postS K mg W Γ H (f e) D
abbrev DS (X : Cx) (W : WX) (st : Stmt) (f : B) : Prop := PS X st (tS X.K X.mg W f)
abbrev DSs (X : Cx) (W : WX) (st : List Stmt) (f : B) : Prop := PSs X st (tS X.K X.mg W f)
def sBind {α : Type} (f : M α) (k : α → B) : B := fun e => match f e with
  | .ok a e1 => k a e1
  | .exc x e1 => .exc x e1
  | .bad => .bad
def sSeq (f g : B) : B := fun e => match f e with
  | .nx e1 => g e1
  | .bk e1 => .bk e1
  | .ct e1 => .ct e1
  | .rt r e1 => .rt r e1
  | .exc x e1 => .exc x e1
  | .bad => .bad
section
variable {K : PySem.W.Frag} {mg : Str → Option Value} {W : WX} {Γ : Gx} {σ : St} {H H1 : Hp} {e : Env} {D D' : Ends}
theorem postS.later {r : Fl} (k : FzLe H H1) (h : postS K mg W Γ H r D) : postS K mg W Γ H1 r D := by
  cases r with
  | nx e => exact fun σ' H' h1 h2 => h σ' H' h1 (k.trans h2)
  | bk e => exact fun σ' H' h1 h2 => h σ' H' h1 (k.trans h2)
  | ct e => exact fun σ' H' h1 h2 => h σ' H' h1 (k.trans h2)
  | rt r e => exact fun v σ' H' h1 h2 => h v σ' H' h1 (k.trans h2)
  | exc x e => exact fun c o σ' H' h1 h2 h3 => h c o σ' H' h1 h2 (k.trans h3)
  | bad => exact h
theorem postS.step {ν α : Type} {R : Rl ν α} {f : M α} {k : α → B} {P : ν → Hp → Prop} (h : postS K mg W Γ H (sBind f k e) D)
    (w : ∀ v H1 a e1, R K Γ H1 σ e1 v a → FzLe H H1 → postS K mg W Γ H1 (k a e1) D → P v H1) : post R K mg W Γ σ H (f e) P := by
  unfold sBind at h
  cases q : f e with
  | ok a e1 =>
    rw [q] at h
    exact fun v H' h1 h2 => w v H' a e1 h1 h2 (h.later h2)
  | exc x e1 =>
    rw [q] at h
    exact fun c o H' h1 h2 h3 => h c o σ H' h1 h2 h3
  | bad =>
    rw [q] at h
    exact h
theorem postS.seq {f g : B} (h : postS K mg W Γ H (sSeq f g e) D) : postS K mg W Γ H (f e) { D with nx := fun σ' H' => tS K mg W g D σ' H' } := by
  unfold sSeq at h
  cases q : f e with
  | nx e1 =>
    rw [q] at h
    exact fun σ' H' h1 h2 => ⟨Γ, e1, h1, h.later h2⟩
  | bk e1 => rw [q] at h; exact h
  | ct e1 => rw [q] at h; exact h
  | rt r e1 => rw [q] at h; exact h
  | exc x e1 => rw [q] at h; exact h
  | bad => rw [q] at h; exact h
end
section
variable {X : Cx} {W : WX} {a b c tg : Expr} {st : Stmt} {sts : List Stmt} {pos pos' : Pos}
def sSkip : B := fun e => .nx e
theorem dss_nil : DSs X W [] sSkip := pss_nil.imp fun D σ H ⟨Γ, e, R, p⟩ => p σ H R (FzLe.refl H)
theorem dss_one {f : B} (h : DS X W st f) : DSs X W [st] f := (pss_one h).imp fun D σ H w => w
theorem dss_cons {f g : B} (h : DS X W st f) (k : DSs X W sts g) : DSs X W (st :: sts) (sSeq f g) := (pss_cons h k).imp fun D σ H ⟨Γ, e, R, p⟩ => ⟨Γ, e, R, p.seq⟩
theorem ds_pass : DS X W (.Pass pos) sSkip := ps_pass.imp fun D σ H ⟨Γ, e, R, p⟩ => p σ H R (FzLe.refl H)
def sBad : B := fun _ => .bad
theorem ds_never : DS X W st sBad := ps_never.imp fun D σ H ⟨Γ, e, R, p⟩ => p
/-- target = data -/
def sAsg (s : Tgt) (f : M PyData) : B := sBind f fun d e => match s d e with
  | some e1 => .nx e1
  | none => .bad
theorem asg_read {K : PySem.W.Frag} {mg : Str → Option Value} {ts : List Nat} {s : Tgt} {f : M PyData} {D : Ends} {σ : St} {H : Hp} (w : tS K mg W (sAsg s f) D σ H) : tAsg (tR RlD K mg W f) (tG K ts s) D σ H := by
  obtain ⟨Γ, e, R, p⟩ := w
  refine ⟨Γ, e, R, postS.step p fun v H1 d e1 ⟨R1, h1⟩ _ q => ?_⟩
  split at q
  · rename_i e2 g
    exact ⟨Γ, e1, d, e2, R1, h1, g, fun σ' R2 _ => q σ' H1 R2 (FzLe.refl _)⟩
  · exact q.elim
theorem ds_asg {ts : List Nat} {s : Tgt} {f : M PyData} (h : DE X W a f) (hg : DG X tg ts s) (hs : swapsWithSole [tg] a pos.line X.env = pure false) (hw : swappedStores [tg] a X.env = pure none) (h1 : (assignEach [tg] X.env).map (·.2) = [assign tg X.env]) :
    DS X W (.Assign [tg] a pos) (sAsg s f) := (ps_asg h hg hs hw h1).imp fun D σ H w => asg_read w
def sSet (i : Nat) (f : M PyData) : B := sBind f fun d e => .nx (e.set i (some (.dat d)))
theorem ds_set {i : Nat} {f : M PyData} {te : TE → TS} (h : DE X W a f) (hp : ∀ t, PE X a t → PS X st (tAsg t (gName i))) : DS X W st (sSet i f) := (hp _ h).imp fun D σ H ⟨Γ, e, R, p⟩ => ⟨Γ, e, R, postS.step p fun v H1 d e1 ⟨R1, h1⟩ _ q => q _ _ (R1.setD h1) (FzLe.refl _)⟩
def sSetO (i : Nat) (f : M (List PyData)) : B := sBind f fun ds e => .nx (e.set i (some (.own ds)))
theorem seto_read {K : PySem.W.Frag} {mg : Str → Option Value} {i : Nat} {f : M (List PyData)} {D : Ends} {σ : St} {H : Hp} (w : tS K mg W (sSetO i f) D σ H) : tAsg (tR RlO K mg W f) (gName i) D σ H := by
  obtain ⟨Γ, e, R, p⟩ := w
  refine ⟨Γ, e, R, postS.step p fun v H1 ds e1 ⟨b, vs, h1, h2, h3, h4, h5⟩ _ q => ?_⟩
  subst h1
  exact q _ _ (h5.setO h2 h3 h4) (FzLe.refl _)
theorem ds_seto {i : Nat} {x : Str} {f : M (List PyData)} (hN : X.N.Nodup) (hi : X.N[i]? = some x) (hx : Loc X.env.scope x) (h : DO X W a f) (hs : swapsWith a (some (.Name x pos')) pos.line X.env = pure false) (hf : X.fn x = true ∨ X.env.scope.names.lookup x = some .local) :
    DS X W (.Assign [.Name x pos'] a pos) (sSetO i f) := (ps_set hN hi hx h hs hf).imp fun D σ H w => seto_read w
theorem ds_setd {i : Nat} {x : Str} {f : M PyData} (hN : X.N.Nodup) (hi : X.N[i]? = some x) (hx : Loc X.env.scope x) (h : DE X W a f) (hs : swapsWith a (some (.Name x pos')) pos.line X.env = pure false) (hf : X.fn x = true ∨ X.env.scope.names.lookup x = some .local) :
    DS X W (.Assign [.Name x pos'] a pos) (sSet i f) := (ps_set hN hi hx h hs hf).imp fun D σ H ⟨Γ, e, R, p⟩ => ⟨Γ, e, R, postS.step p fun v H1 d e1 ⟨R1, h1⟩ _ q => q _ _ (R1.setD h1) (FzLe.refl _)⟩
def sExpr {α : Type} (f : M α) : B := sBind f fun _ e => .nx e
theorem ds_expr {f : M PyData} (h : DE X W a f) (hs : swapsWith a none pos.line X.env = pure false) : DS X W (.Expr a pos) (sExpr f) := (ps_expr h hs).imp fun D σ H ⟨Γ, e, R, p⟩ => ⟨Γ, e, R, postS.step p fun v H1 d e1 ⟨R1, h1⟩ _ q => q _ _ R1 (FzLe.refl _)⟩
theorem ds_doc {x : Str} {j} : DS X W (.Expr (.Constant (.str x) j pos) pos') sSkip := ps_doc.imp fun D σ H ⟨Γ, e, R, p⟩ => p σ H R (FzLe.refl H)
def sRet (f : M PyData) : B := sBind f fun d e => .rt (.dat d) e
def sRetO (f : M (List PyData)) : B := sBind f fun d e => .rt (.own d) e
theorem ds_ret {f : M PyData} (h : DE X W a f) : DS X W (.Return (some a) pos) (sRet f) := (ps_ret h).imp fun D σ H ⟨Γ, e, R, p⟩ => ⟨Γ, e, R, postS.step p fun v H1 d e1 h1 _ q => q v σ H1 h1 (FzLe.refl _)⟩
theorem ds_reto {f : M (List PyData)} (h : DO X W a f) : DS X W (.Return (some a) pos) (sRetO f) := (ps_ret h).imp fun D σ H ⟨Γ, e, R, p⟩ => ⟨Γ, e, R, postS.step p fun v H1 d e1 h1 _ q => q v σ H1 h1 (FzLe.refl _)⟩
def sRetN : B := fun e => .rt (.dat .none) e
theorem ds_retn : DS X W (.Return none pos) sRetN := ps_retN.imp fun D σ H ⟨Γ, e, R, p⟩ => p .non σ H ⟨R, .non⟩ (FzLe.refl _)
/-- a slot's own list is handed out (return x) -/
def eMove (i : Nat) : M (List PyData) := fun e => match e[i]? with
  | some (some (.own ds)) => .ok ds (e.set i none)
  | _ => .bad
theorem do_move {i : Nat} (h : PE X a (tVar i)) : DO X W a (eMove i) := h.imp fun σ H Q ⟨Γ, e, R, p⟩ => by
  unfold eMove at p
  split at p
  · rename_i ds q
    obtain ⟨g, R⟩ := R
    obtain ⟨v, h1, b, vs, rfl, h3, h4, h5, h6⟩ := R.at_ i _ q
    have hG := (R.gh b i h3).1
    refine ⟨_, h1, p _ _ ⟨b, vs, rfl, hG, h5, h6, fun a' => if g a' = some i then none else g a', by rw [List.length_set]; exact R.len, fun j sv q' => ?_, fun a' j q' => ?_, fun a' o q' => ?_⟩ (FzLe.refl _)⟩
    · by_cases hj : i = j
      · subst hj
        rw [List.getElem?_set_self (List.getElem?_eq_some_iff.mp q).1] at q'
        cases q'
      · rw [List.getElem?_set_ne hj] at q'
        obtain ⟨w, k1, k2⟩ := R.at_ j sv q'
        refine ⟨w, k1, ?_⟩
        have keep : ∀ b, g b = some j → (if g b = some i then none else g b) = some j := fun b hb => by
          rw [hb, if_neg (fun z => hj (Option.some.inj z).symm)]
        cases sv with
        | dat d => exact k2
        | own ds =>
          obtain ⟨b, vs, f1, f2, f3⟩ := k2
          exact ⟨b, vs, f1, keep b f2, f3⟩
        | ino ds =>
          obtain ⟨b, vs, f1, f2, f3⟩ := k2
          exact ⟨b, vs, f1, keep b f2, f3⟩
        | scr ds => exact k2
    · have q' : (if g a' = some i then none else g a') = some j := q'
      split at q'
      · cases q'
      · rename_i hn
        obtain ⟨k1, k2⟩ := R.gh a' j q'
        refine ⟨?_, k2⟩
        show upd Γ.G b (.lst vs) a' = none
        rw [upd_ne]
        · exact k1
        · intro z
          rw [z] at hn
          exact hn h3
    · have q' : upd Γ.G b (.lst vs) a' = some o := q'
      by_cases z : a' = b
      · subst z
        rw [upd_same] at q'
        cases q'
        exact h4
      · rw [upd_ne z] at q'
        exact R.keep a' o q'
  · exact p.elim
def sIf (c : M Bool) (f g : B) : B := sBind c fun k => if k = true then f else g
theorem ds_if {f : M Bool} {g h : B} {xs ys : List Stmt} (hc : DB X W c f) (ha : DSs X W xs g) (hb : DSs X W ys h) : DS X W (.If c xs ys pos) (sIf f g h) := (ps_if hc ha hb).imp fun D σ H ⟨Γ, e, R, p⟩ => ⟨Γ, e, R, postS.step p fun v H1 k e1 ⟨R1, h1⟩ _ q => by
  subst h1
  cases v with
  | true =>
    rw [if_pos rfl] at q ⊢
    exact ⟨Γ, e1, R1, q⟩
  | false =>
    rw [if_neg Bool.false_ne_true] at q ⊢
    exact ⟨Γ, e1, R1, q⟩⟩
/-! ### for -/
def forM (s : Tgt) (body : B) : List PyData → B
  | [], e => .nx e
  | d :: ds, e => match s d e with
    | none => .bad
    | some e1 => match body e1 with
      | .nx e2 => forM s body ds e2
      | .ct e2 => forM s body ds e2
      | .bk e2 => .nx e2
      | .rt r e2 => .rt r e2
      | .exc x e2 => .exc x e2
      | .bad => .bad
def sFor (it : M (List PyData)) (s : Tgt) (body : B) : B := sBind it fun ds => forM s body ds
theorem for_read {K : PySem.W.Frag} {mg : Str → Option Value} {ts : List Nat} {it : M (List PyData)} {s : Tgt} {body : B} {D : Ends} {σ : St} {H : Hp} (w : tS K mg W (sFor it s body) D σ H) : tFor (tR RlI K mg W it) (tG K ts s) (tS K mg W body) D σ H := by
  obtain ⟨Γ, e, R, p⟩ := w
  refine ⟨Γ, e, R, postS.step p fun J H1 ds e1 ⟨R1, hJ, hlen⟩ _ q => ?_⟩
  refine ⟨fun i m σ' H' => m = ds.length - i ∧ i ≤ ds.length ∧ FzLe H1 H' ∧ ∃ ei, Rep K Γ H' σ' ei ∧ postS K mg W Γ H' (forM s body (ds.drop i) ei) D, ⟨ds.length, by simp, Nat.zero_le _, FzLe.refl _, e1, R1, q⟩, ?_⟩
  rintro i m σ' H' ⟨rfl, hi, fz, ei, Ri, pi⟩
  have hj := hJ i H' hi fz
  by_cases hlt : i < ds.length
  · have ed : ds[i]? = some ds[i] := List.getElem?_eq_getElem hlt
    rw [ed] at hj
    have hdrop : ds.drop i = ds[i] :: ds.drop (i + 1) := List.drop_eq_getElem_cons hlt
    rw [hdrop] at pi
    unfold forM at pi
    refine .inr ⟨hj.1, fun σ' H' => FzLe H1 H' ∧ ∃ ei, Rep K Γ H' σ' ei ∧ postS K mg W Γ H' (forM s body (ds.drop (i + 1)) ei) D, fun σ'' H'' hn => ⟨ds.length - (i + 1), by omega, rfl, hlt, hn⟩, fun x H'' hy => ?_⟩
    obtain ⟨sm, dz⟩ := hj.2 x H'' hy
    split at pi
    · exact pi.elim
    · rename_i e' g1
      refine ⟨Γ, ei, ds[i], e', Ri.same sm, dz, g1, fun σ2 R2 _ => ⟨Γ, e', R2, ?_⟩⟩
      have f1 := fz.trans (fz_same sm)
      have pi := pi.later (fz_same sm)
      split at pi
      · rename_i e2 g2
        rw [g2]
        exact fun σ3 H3 R3 fz3 => ⟨f1.trans fz3, e2, R3, pi.later fz3⟩
      · rename_i e2 g2
        rw [g2]
        exact fun σ3 H3 R3 fz3 => ⟨f1.trans fz3, e2, R3, pi.later fz3⟩
      · rename_i e2 g2
        rw [g2]
        exact pi
      · rename_i r e2 g2
        rw [g2]
        exact pi
      · rename_i x e2 g2
        rw [g2]
        exact pi
      · exact pi.elim
  · have ei' : i = ds.length := by omega
    subst ei'
    rw [List.getElem?_eq_none (Nat.le_refl _)] at hj
    rw [List.drop_length] at pi
    exact .inl ⟨hj, pi σ' H' Ri (FzLe.refl _)⟩
theorem ds_for {ts : List Nat} {s : Tgt} {it : M (List PyData)} {f : B} {iter : Expr} {body : List Stmt} (hp : PassesOwn (model X.prog X.w) X.A X.env X.xe) (hc : X.calm = true) (hi : DI X W tg iter it) (hg : DG X tg ts s) (hb : DSs X W body f) (hs : ∀ x, foldedSetIterable iter X.env x = pure x) :
    DS X W (.For tg iter body [] pos) (sFor it s f) := (ps_for hp hc hi hg hb hs).imp fun D σ H w => for_read w
/-! ### while -/
def whileM (c : M Bool) (body : B) : Nat → B
  | 0, _ => .bad
  | n + 1, e => match c e with
    | .ok true e1 => match body e1 with
      | .nx e2 => whileM c body n e2
      | .ct e2 => whileM c body n e2
      | .bk e2 => .nx e2
      | .rt r e2 => .rt r e2
      | .exc x e2 => .exc x e2
      | .bad => .bad
    | .ok false e1 => .nx e1
    | .exc x e1 => .exc x e1
    | .bad => .bad
theorem while_read {K : PySem.W.Frag} {mg : Str → Option Value} {c : M Bool} {body : B} {n : Nat} {D : Ends} {σ : St} {H : Hp} (w : tS K mg W (whileM c body n) D σ H) : tWhile (tR RlB K mg W c) (tS K mg W body) D σ H := by
  obtain ⟨Γ, e, R, p⟩ := w
  refine ⟨fun m σ' H' => ∃ ei, Rep K Γ H' σ' ei ∧ postS K mg W Γ H' (whileM c body m ei) D, ⟨n, e, R, p⟩, ?_⟩
  rintro m σ' H' ⟨ei, Ri, pi⟩
  cases m with
  | zero => exact pi.elim
  | succ m =>
    unfold whileM at pi
    refine ⟨Γ, ei, Ri, ?_⟩
    split at pi
    · rename_i e1 g1
      rw [g1]
      intro b H1 ⟨R1, hb⟩ fz
      subst hb
      rw [if_pos rfl]
      refine ⟨fun σ' H' => ∃ ei, Rep K Γ H' σ' ei ∧ postS K mg W Γ H' (whileM c body m ei) D, fun σ2 H2 h => ⟨m, Nat.lt_succ_self m, h⟩, Γ, e1, R1, ?_⟩
      have pi := pi.later fz
      split at pi
      · rename_i e2 g2
        rw [g2]
        exact fun σ3 H3 R3 fz3 => ⟨e2, R3, pi.later fz3⟩
      · rename_i e2 g2
        rw [g2]
        exact fun σ3 H3 R3 fz3 => ⟨e2, R3, pi.later fz3⟩
      · rename_i e2 g2
        rw [g2]
        exact pi
      · rename_i r e2 g2
        rw [g2]
        exact pi
      · rename_i x e2 g2
        rw [g2]
        exact pi
      · exact pi.elim
    · rename_i e1 g1
      rw [g1]
      intro b H1 ⟨R1, hb⟩ fz
      subst hb
      rw [if_neg
            Bool.false_ne_true]
      exact pi _ _ R1 fz
    · rename_i x e1 g1
      rw [g1]
      exact fun c o H' h1 h2 h3 => pi c o σ' H' h1 h2 h3
    · exact pi.elim
theorem ds_while {f : M Bool} {g : B} {body : List Stmt} (n : Nat) (hp : PassesOwn (model X.prog X.w) X.A X.env X.xe) (hc : DB X W c f) (hb : DSs X W body g) : DS X W (.While c body [] pos) (whileM f g n) := (ps_while hp hc hb).imp fun D σ H w => while_read w
end
end PF
/-! F10: what a def computes, and its calls. -/
namespace PF
open PySem PySem.Spec L2
open PyProof.Rows hiding St

inductive FR where
  | ok (r : RetV) (outs : List SV)
  | exc (x : Xn) (outs : List SV)
  | bad
abbrev Sem := List SV → FR
def pinOf (vs : List V) : Nat → Option Addr := fun i => match vs[i]? with
  | some (.ref a) => some a
  | _ => none
def spOf (K : PySem.W.Frag) (mg : Str → Option Value) (np : Nat) (F : Sem) : Sp := fun vs H Q E => vs.length = np ∧ ∃ G svs, Rep K ⟨G, pinOf vs⟩ H (vs.map some) (svs.map some) ∧ match F svs with
  | .ok r outs => ∀ v H', RlR K ⟨G, pinOf vs⟩ H' (vs.map some) (outs.map some) v r → FzLe H H' → Q v H'
  | .exc x outs => ∀ c o H', XnAt mg K H' x c o → Rep K ⟨G, pinOf vs⟩ H' (vs.map some) (outs.map some) → FzLe H H' → E c o H'
  | .bad => False
/-- the lent lists behind the body -/
def outsOf : List SV → Env → Option (List SV)
  | [], _ => some []
  | .dat d :: r, _ :: e => (outsOf r e).map fun l => .dat d :: l
  | .scr d :: r, _ :: e => (outsOf r e).map fun l => .scr d :: l
  | .ino _ :: r, some (.ino ds) :: e => (outsOf r e).map fun l => .ino ds :: l
  | _, _ => none
def runBody (n : Nat) (f : B) : Sem := fun svs => match f (svs.map some ++ List.replicate (n - svs.length) none) with
  | .rt r e => match outsOf svs e with
    | some o => .ok r o
    | none => .bad
  | .nx e => match outsOf svs e with
    | some o => .ok (.dat .none) o
    | none => .bad
  | .exc x e => match outsOf svs e with
    | some o => .exc x o
    | none => .bad
  | _ => .bad
section
variable {K : PySem.W.Frag} {Γ : Gx} {H H' : Hp} {σ : St} {e : Env} {vs : List V} {svs outs : List SV}
theorem outs_len : ∀ {svs : List SV} {e : Env} {outs : List SV}, outsOf svs e = some outs → outs.length = svs.length
  | [], e, outs, h => by
    unfold outsOf at h
    cases h
    rfl
  | .dat d :: r, o :: e, outs, h => by
    unfold outsOf at h
    cases q : outsOf r e with
    | none => rw [q] at h; cases h
    | some l =>
      rw [q] at h
      cases h
      exact congrArg (· + 1) (outs_len q)
  | .scr d :: r, o :: e, outs, h => by
    unfold outsOf at h
    cases q : outsOf r e with
    | none => rw [q] at h; cases h
    | some l =>
      rw [q] at h
      cases h
      exact congrArg (· + 1) (outs_len q)
  | .ino d :: r, some (.ino d') :: e, outs, h => by
    unfold outsOf at h
    cases q : outsOf r e with
    | none => rw [q] at h; cases h
    | some l =>
      rw [q] at h
      cases h
      exact congrArg (· + 1) (outs_len q)
  | .ino d :: r, some (.dat d') :: e, outs, h => by simp [outsOf] at h
  | .ino d :: r, some (.own d') :: e, outs, h => by simp [outsOf] at h
  | .ino d :: r, some (.scr d') :: e, outs, h => by simp [outsOf] at h
  | .ino d :: r, none :: e, outs, h => by simp [outsOf] at h
  | .own d :: r, o :: e, outs, h => by simp [outsOf] at h
  | .dat d :: r, [], outs, h => by simp [outsOf] at h
  | .scr d :: r, [], outs, h => by simp [outsOf] at h
  | .ino d :: r, [], outs, h => by simp [outsOf] at h
  | .own d :: r, [], outs, h => by simp [outsOf] at h
theorem outs_get : ∀ {svs : List SV} {e : Env} {outs : List SV} {i : Nat} {sv : SV}, outsOf svs e = some outs → outs[i]? = some sv →
    (svs[i]? = some sv ∧ ((∃ d, sv = .dat d) ∨ ∃ d, sv = .scr d)) ∨ ∃ ds ds', svs[i]? = some (.ino ds) ∧ sv = .ino ds' ∧ e[i]? = some (some (.ino ds'))
  | [], e, outs, i, sv, h, k => by
    unfold outsOf at h
    cases h
    simp at k
  | .dat d :: r, o :: e, outs, i, sv, h, k => by
    unfold outsOf at h
    cases q : outsOf r e with
    | none => rw [q] at h; cases h
    | some l =>
      rw [q] at h
      cases h
      cases i with
      | zero =>
        simp at k
        subst k
        exact .inl ⟨rfl, .inl ⟨d, rfl⟩⟩
      | succ i => simpa using outs_get q (by simpa using k)
  | .scr d :: r, o :: e, outs, i, sv, h, k => by
    unfold outsOf at h
    cases q : outsOf r e with
    | none => rw [q] at h; cases h
    | some l =>
      rw [q] at h
      cases h
      cases i with
      | zero =>
        simp at k
        subst k
        exact .inl ⟨rfl, .inr ⟨d, rfl⟩⟩
      | succ i => simpa using outs_get q (by simpa using k)
  | .ino d :: r, some (.ino d') :: e, outs, i, sv, h, k => by
    unfold outsOf at h
    cases q : outsOf r e with
    | none => rw [q] at h; cases h
    | some l =>
      rw [q] at h
      cases h
      cases i with
      | zero =>
        simp at k
        subst k
        exact .inr ⟨d, d', rfl, rfl, rfl⟩
      | succ i => simpa using outs_get q (by simpa using k)
  | .ino d :: r, some (.dat d') :: e, outs, i, sv, h, k => by simp [outsOf] at h
  | .ino d :: r, some (.own d') :: e, outs, i, sv, h, k => by simp [outsOf] at h
  | .ino d :: r, some (.scr d') :: e, outs, i, sv, h, k => by simp [outsOf] at h
  | .ino d :: r, none :: e, outs, i, sv, h, k => by simp [outsOf] at h
  | .own d :: r, o :: e, outs, i, sv, h, k => by simp [outsOf] at h
  | .dat d :: r, [], outs, i, sv, h, k => by simp [outsOf] at h
  | .scr d :: r, [], outs, i, sv, h, k => by simp [outsOf] at h
  | .ino d :: r, [], outs, i, sv, h, k => by simp [outsOf] at h
  | .own d :: r, [], outs, i, sv, h, k => by simp [outsOf] at h
theorem map_some_get {α : Type} {l : List α} {i : Nat} {x : α} : (l.map some)[i]? = some (some x) ↔ l[i]? = some x := by
  rw [List.getElem?_map]
  cases l[i]? <;> simp
/-- the arguments at the end -/
theorem rep_outs (R : Rep K Γ H' σ e) (R0 : Rep K Γ H (vs.map some) (svs.map some)) (fz : FzLe H H') (h : outsOf svs e = some outs) : Rep K Γ H' (vs.map some) (outs.map some) := by
  obtain ⟨g, R⟩ := R
  obtain ⟨g0, R0⟩ := R0
  refine ⟨g, by rw [List.length_map, outs_len h, ← List.length_map (f := some), R0.len], fun i sv q => ?_, R.gh, R.keep⟩
  rw [map_some_get] at q
  rcases outs_get h q with ⟨q1, q2⟩ | ⟨ds, ds', q1, rfl, q3⟩
  · obtain ⟨v, h1, h2⟩ := R0.at_ i sv (map_some_get.mpr q1)
    refine ⟨v, h1, ?_⟩
    rcases q2 with ⟨d, rfl⟩ | ⟨d, rfl⟩
    · exact Dz.mono fz _ _ h2
    · obtain ⟨a, ws, e1, e2, e3, e4⟩ := h2
      exact ⟨a, ws, e1, e2.mono fz, e3, DzA.mono fz _ _ e4⟩
  · obtain ⟨v, h1, a, ws, e1, e2, e3, e4, e5, e6⟩ := R.at_ i _ q3
    obtain ⟨v0, k1, a0, ws0, f1, f2, f3, f4, f5, f6⟩ := R0.at_ i _ (map_some_get.mpr q1)
    rw [e6] at f6
    cases f6
    exact ⟨v0, k1, a, ws, f1, e2, e3, e4, e5, e6⟩
theorem Rep.pad (n : Nat) (R : Rep K Γ H σ e) : Rep K Γ H (σ ++ List.replicate n none) (e ++ List.replicate n none) := by
  obtain ⟨g, R⟩ := R
  refine ⟨g, by rw [List.length_append, List.length_append, R.len, List.length_replicate, List.length_replicate], fun i sv q => ?_, R.gh, R.keep⟩
  by_cases hi : i < e.length
  · rw [List.getElem?_append_left hi] at q
    obtain ⟨v, h1, h2⟩ := R.at_ i sv q
    exact ⟨v, by rw [List.getElem?_append_left (by rw [← R.len]; exact hi)]; exact h1, h2⟩
  · rw [List.getElem?_append_right (by omega), List.getElem?_replicate] at q
    split at q <;> cases q
end
theorem rlr_outs {K : PySem.W.Frag} {Γ : Gx} {H H' : Hp} {σ : St} {e : Env} {vs : List V} {svs outs : List SV} {v : V} {r : RetV} (h : RlR K Γ H' σ e v r) (R0 : Rep K Γ H (vs.map some) (svs.map some)) (fz : FzLe H H') (ho : outsOf svs e = some outs) : RlR K Γ H' (vs.map some) (outs.map some) v r := by
  cases r with
  | dat d => exact ⟨rep_outs h.1 R0 fz ho, h.2⟩
  | own ds =>
    obtain ⟨a, ws, h1, h2, h3, h4, h5⟩ := h
    refine ⟨a, ws, h1, h2, h3, h4, ?_⟩
    -- the arguments stood ahead beside what is kept, with a new list kept too
    obtain ⟨g, R⟩ := h5
    obtain ⟨g0, R0⟩ := R0
    refine ⟨g, by rw [List.length_map, outs_len ho, ← List.length_map (f := some), R0.len], fun i sv q => ?_, R.gh, R.keep⟩
    rw [map_some_get] at q
    rcases outs_get ho q with ⟨q1, q2⟩ | ⟨ds, ds', q1, rfl, q3⟩
    · obtain ⟨v, h1, h2⟩ := R0.at_ i sv (map_some_get.mpr q1)
      refine ⟨v, h1, ?_⟩
      rcases q2 with ⟨d, rfl⟩ | ⟨d, rfl⟩
      · exact Dz.mono fz _ _ h2
      · obtain ⟨a, ws, e1, e2, e3, e4⟩ := h2
        exact ⟨a, ws, e1, e2.mono fz, e3, DzA.mono fz _ _ e4⟩
    · obtain ⟨v, h1, a, ws, e1, e2, e3, e4, e5, e6⟩ := R.at_ i _ q3
      obtain ⟨v0, k1, a0, ws0, f1, f2, f3, f4, f5, f6⟩ := R0.at_ i _ (map_some_get.mpr q1)
      have e6 : Γ.pin i = some a := e6
      rw [e6] at f6
      cases f6
      exact ⟨v0, k1, a, ws, f1, e2, e3, e4, e5, e6⟩
section
variable {P : Program} {w : World} {K :
      PySem.W.Frag} {mg : Str → Option Value} {base : Heap}
/-- THE RULE for a def: its body's judgement gives its promise -/
theorem fn_ok {x qual : Str} {st : Stmt} {f : Addr} {fd : FuncData} {N ps : List Str} {k : Nat} {b : B} (F : Fun K x qual st f fd) (S : FnScope N ps (defScope st))
    (hb : ∀ (cdv : Value) (A : Around) (outer : List PySem.Env) (s : Shared) (H : Hp) (E : XK), Room k (A.deeper (envOfC qual (defScope st) s.heap.objs.size f cdv)) →
      DSs (cxOf (L2.CX P w) P w K mg base N qual (defScope st) f cdv A outer s H E) (fun c d _ H => E c d H) (defBody st) b) :
    FnOk P w K mg base (L2.CX P w) (k + 1) f fd ps (spOf K mg ps.length (runBody N.length b)) := by
  refine F.okX S (fun vs H Q E h => h.1) fun cdv A outer s H vs Q E hr h => ⟨_, hb cdv A outer s H E hr, ?_⟩
  obtain ⟨hl, G, svs, R, q⟩ := h
  have hlen : svs.length = vs.length := by
    obtain ⟨g, R⟩ := R
    have z := R.len
    rw [List.length_map, List.length_map] at z
    exact z
  refine ⟨⟨G, pinOf vs⟩, svs.map some ++ List.replicate (N.length - svs.length) none, ?_, ?_⟩
  · show Rep K _ H (vs.map some ++ List.replicate (N.length - vs.length) none) _
    rw [hlen]
    exact R.pad _
  · unfold runBody at q
    split at q
    · rename_i r outs hq
      split at hq
      · rename_i r' e' hb
        rw [hb]
        split at hq
        · rename_i o ho
          cases hq
          exact fun v σ' H' h1 h2 => q v H' (rlr_outs h1 R h2 ho) h2
        · cases hq
      · rename_i e' hb
        rw [hb]
        split at hq
        · rename_i o ho
          cases hq
          exact fun σ' H' h1 h2 => q .non H' ⟨rep_outs h1 R h2 ho, .non⟩ h2
        · cases hq
      · split at hq <;> cases hq
      · cases hq
    · rename_i x outs hq
      split at hq
      · split at hq <;> cases hq
      · split at hq <;> cases hq
      · rename_i x' e' hb
        rw [hb]
        split at hq
        · rename_i o ho
          cases hq
          exact fun c o' σ' H' h1 h2 h3 => q c o' H' h1 (rep_outs h2 R h3 ho) h3
        · cases hq
      · cases hq
    · exact q.elim
end
end PF
/-! F11: calls of defs. -/
namespace PF
open PySem PySem.Spec L2
open PyProof.Rows hiding St

def argSV (e : Env) : Opd → Option SV
  | .val d => some (.dat d)
  | .var j => match e[j]? with
    | some (some (.dat d)) => some (.dat d)
    | some (some (.own ds)) => some (.ino ds)
    | some (some (.ino ds)) => some (.ino ds)
    | some (some (.scr ds)) => some (.scr ds)
    | _ => none
def argSVs (e : Env) : List Opd → Option (List SV)
  | [] => some []
  | t :: ts => (argSV e t).bind fun sv => (argSVs e ts).map fun l => sv :: l
/-- the lent slots, with what they hold -/
def outPairs : List Opd → List SV → List (Nat × List PyData)
  | .var j :: ts, .ino ds :: os => (j, ds) :: outPairs ts os
  | _ :: ts, _ :: os => outPairs ts os
  | _, _ => []
def putAll (e : Env) : List (Nat × List PyData) → Env
  | [] => e
  | (j, ds) :: r => putAll (putOwn e j ds) r
def kindsOk : List SV → List SV → Bool
  | [], [] => true
  | .ino _ :: r, .ino _ :: r' => kindsOk r r'
  | .dat _ :: r, .dat _ :: r' => kindsOk r r'
  | .scr _ :: r, .scr _ :: r' => kindsOk r r'
  | _, _ => false
section
variable {ts : List Opd} {os : List SV} {j k k' : Nat} {ds : List PyData}
theorem pairs_mem : ∀ {ts : List Opd} {os : List SV} {k j : Nat} {ds : List PyData}, ts[k]? = some (.var j) → os[k]? = some (.ino ds) → (j, ds) ∈ outPairs ts os
  | [], _, k, j, ds, h, _ => by simp at h
  | _ :: _, [], k, j, ds, _, h => by simp at h
  | t :: ts, o :: os, 0, j, ds, h, h' => by
    simp at h h'
    subst h h'
    exact List.mem_cons_self
  | t :: ts, o :: os, k + 1, j, ds, h, h' => by
    have m := pairs_mem (ts := ts) (os := os) (k := k) (by simpa using h) (by simpa using h')
    cases t with
    | val d => cases o <;> exact m
    | var i => cases o <;> first | exact m | exact List.mem_cons_of_mem _ m
theorem mem_pairs : ∀ {ts : List Opd} {os : List SV} {j : Nat} {ds : List PyData}, (j, ds) ∈ outPairs ts os → ∃ k : Nat, ts[k]? = some (Opd.var j) ∧ os[k]? = some (SV.ino ds)
  | [], os, j, ds, h => by cases os <;> simp [outPairs] at h
  | t :: ts, [], j, ds, h => by cases t <;> simp [outPairs] at h
  | t :: ts, o :: os, j, ds, h => by
    have rest : (j, ds) ∈ outPairs ts os → ∃ k : Nat, (t :: ts)[k]? = some (Opd.var j) ∧ (o :: os)[k]? = some (SV.ino ds) := fun m => by
      obtain ⟨k, h1, h2⟩ := mem_pairs m
      exact ⟨k + 1, by simpa using h1, by simpa using h2⟩
    cases t with
    | val d => cases o <;> exact rest h
    | var i =>
      cases o with
      | ino ds' =>
        have h : (j, ds) ∈ (i, ds') :: outPairs ts os := h
        rcases List.mem_cons.mp
              h with e | m
        · cases e
          exact ⟨0, rfl, rfl⟩
        · exact rest m
      | dat d => exact rest h
      | own d => exact rest h
      | scr d => exact rest h
theorem pairs_uniq : ∀ {ts : List Opd} {os : List SV} {k k' j : Nat} {ds ds' : List PyData}, ((outPairs ts os).map (·.1)).Nodup → ts[k]? = some (.var j) → os[k]? = some (.ino ds) → ts[k']? = some (.var j) → os[k']? = some (.ino ds') → k = k'
  | [], _, k, k', j, ds, ds', _, h, _, _, _ => by simp at h
  | _ :: _, [], k, k', j, ds, ds', _, _, h, _, _ => by simp at h
  | t :: ts, o :: os, k, k', j, ds, ds', nd, h1, h2, h3, h4 => by
    have sub : ((outPairs ts os).map (·.1)).Nodup := by
      cases t with
      | val d => cases o <;> exact nd
      | var i =>
        cases o with
        | ino d => exact (List.nodup_cons.mp nd).2
        | dat d => exact nd
        | own d => exact nd
        | scr d => exact nd
    cases k with
    | zero =>
      cases k' with
      | zero => rfl
      | succ k' =>
        simp at h1 h2
        subst h1 h2
        have m := pairs_mem (ts := ts) (os := os) (k := k') (by simpa using h3) (by simpa using h4)
        exact absurd (List.mem_map.mpr ⟨_, m, rfl⟩) (List.nodup_cons.mp nd).1
    | succ k =>
      cases k' with
      | zero =>
        simp at h3 h4
        subst h3 h4
        have m := pairs_mem (ts := ts) (os := os) (k := k) (by simpa using h1) (by simpa using h2)
        exact absurd (List.mem_map.mpr ⟨_, m, rfl⟩) (List.nodup_cons.mp nd).1
      | succ k' => exact congrArg (· + 1) (pairs_uniq (ts := ts) (os := os) (k := k) (k' := k') (j := j) (ds := ds) (ds' := ds') sub (by simpa using h1) (by simpa using h2) (by simpa using h3) (by simpa using h4))
theorem argSVs_get : ∀ {e : Env} {ts : List Opd} {svs : List SV} {k : Nat} {t : Opd}, argSVs e ts = some svs → ts[k]? = some t → ∃ sv, svs[k]? = some sv ∧ argSV e t = some sv
  | e, [], svs, k, t, h, h' => by simp at h'
  | e, t :: ts, svs, k, t', h, h' => by
    unfold argSVs at h
    cases q : argSV e t with
    | none => rw [q] at h; cases h
    | some sv =>
      cases q2 : argSVs e ts with
      | none => rw [q, q2] at h; cases h
      | some l =>
        rw [q, q2] at h
        cases h
        cases k with
        | zero =>
          simp at h'
          subst h'
          exact ⟨sv, rfl, q⟩
        | succ k => simpa using argSVs_get q2 (by simpa using h')
theorem argSVs_len : ∀ {e : Env} {ts : List Opd} {svs : List SV}, argSVs e ts = some svs → svs.length = ts.length
  | e, [], svs, h => by
    unfold argSVs at h
    cases h
    rfl
  | e, t :: ts, svs, h => by
    unfold argSVs at h
    cases q : argSV e t with
    | none => rw [q] at h; cases h
    | some sv =>
      cases q2 : argSVs e ts with
      | none => rw [q, q2] at h; cases h
      | some l =>
        rw [q, q2] at h
        cases h
        exact congrArg (· + 1) (argSVs_len q2)
theorem kinds_get : ∀ {svs os : List SV} {k : Nat} {sv : SV}, kindsOk svs os = true → svs[k]? = some sv → ∃ o, os[k]? = some o ∧ ((∃ a b, sv = .ino a ∧ o = .ino b) ∨ (∃ a b, sv = .dat a ∧ o = .dat b) ∨ ∃ a b, sv = .scr a ∧ o = .scr b)
  | [], os, k, sv, _, h => by simp at h
  | .ino a :: r, .ino b :: r', 0, sv, h, h' => by simp at h'; exact ⟨_, rfl, .inl ⟨a, b, h'.symm, rfl⟩⟩
  | .dat a :: r, .dat b :: r', 0, sv, h, h' => by simp at h'; exact ⟨_, rfl, .inr (.inl ⟨a, b, h'.symm, rfl⟩)⟩
  | .scr a :: r, .scr b :: r', 0, sv, h, h' => by simp at h'; exact ⟨_, rfl, .inr (.inr ⟨a, b, h'.symm, rfl⟩)⟩
  | .ino a :: r, .ino b :: r', k + 1, sv, h, h' => by simpa using kinds_get (svs := r) (os := r') (k := k) h (by simpa using h')
  | .dat a :: r, .dat b :: r', k + 1, sv, h, h' => by simpa using kinds_get (svs := r) (os := r') (k := k) h (by simpa using h')
  | .scr a :: r, .scr b :: r', k + 1, sv, h, h' => by simpa using kinds_get (svs := r) (os := r') (k := k) h (by simpa using h')
  | .own a :: r, os, k, sv, h, h' => by cases os <;> simp [kindsOk] at h
  | .ino a :: r, [], k, sv, h, h' => by simp [kindsOk] at h
  | .dat a :: r, [], k, sv, h, h' => by simp [kindsOk] at h
  | .scr a :: r, [], k, sv, h, h' => by simp [kindsOk] at h
  | .ino a :: r, .dat _ :: _, k, sv, h, h' => by simp [kindsOk] at h
  | .ino a :: r, .own _ :: _, k, sv, h, h' => by simp [kindsOk] at h
  | .ino a :: r, .scr _ :: _, k, sv, h, h' => by simp [kindsOk] at h
  | .dat a :: r, .ino _ :: _, k, sv, h, h' => by simp [kindsOk] at h
  | .dat a :: r, .own _ :: _, k, sv, h, h' => by simp [kindsOk] at h
  | .dat a :: r, .scr _ :: _, k, sv, h, h' => by simp [kindsOk] at h
  | .scr a :: r, .ino _ :: _, k, sv, h, h' => by simp [kindsOk] at h
  | .scr a :: r, .own _ :: _, k, sv, h, h' => by simp [kindsOk] at h
  | .scr a :: r, .dat _ :: _, k, sv, h, h' => by simp [kindsOk] at h
theorem kinds_len : ∀ {svs os : List SV}, kindsOk svs os = true → os.length = svs.length
  | [], [], _ => rfl
  | .ino a :: r, .ino b :: r', h => congrArg (· + 1) (kinds_len (svs := r) (os := r') h)
  | .dat a :: r, .dat b :: r', h => congrArg (· + 1) (kinds_len (svs := r) (os := r') h)
  | .scr a :: r, .scr b :: r', h => congrArg (· + 1) (kinds_len (svs := r) (os := r') h)
  | [], _ :: _, h => by simp [kindsOk] at h
  | .own a :: r, os, h => by cases os <;> simp [kindsOk] at h
  | .ino a :: r, [], h => by simp [kindsOk] at h
  | .dat a :: r, [], h => by simp [kindsOk] at h
  | .scr a :: r, [], h => by simp [kindsOk] at h
  | .ino a :: r, .dat _ :: _, h => by simp [kindsOk] at h
  | .ino a :: r, .own _ :: _, h => by simp [kindsOk] at h
  | .ino a :: r, .scr _ :: _, h => by simp [kindsOk] at h
  | .dat a :: r, .ino _ :: _, h => by simp [kindsOk] at h
  | .dat a :: r, .own _ :: _, h => by simp [kindsOk] at h
  | .dat a :: r, .scr _ :: _, h => by simp [kindsOk] at h
  | .scr a :: r, .ino _ :: _, h => by simp [kindsOk] at h
  | .scr a :: r, .own _ :: _, h => by simp [kindsOk] at h
  | .scr a :: r, .dat _ :: _, h => by simp [kindsOk] at h
theorem putOwn_other {e : Env} {i j : Nat} {ds : List PyData} (h : i ≠ j) : (putOwn e j ds)[i]? = e[i]? := by
  unfold putOwn
  split
  · rw [List.getElem?_set_ne (Ne.symm h)]
  · rw [List.getElem?_set_ne (Ne.symm h)]
  · rfl
theorem putAll_other : ∀ {ps : List (Nat × List PyData)} {e : Env} {i : Nat}, i ∉ ps.map (·.1) → (putAll e ps)[i]? = e[i]?
  | [], e, i, _ => rfl
  | (j, ds) :: r, e, i, h => by
    simp only [List.map_cons, List.mem_cons, not_or] at h
    show (putAll (putOwn e j ds) r)[i]? = _
    rw [putAll_other h.2, putOwn_other h.1]
theorem putAll_at : ∀ {ps : List (Nat × List PyData)} {e : Env} {i : Nat} {ds : List PyData}, (ps.map (·.1)).Nodup → (i, ds) ∈ ps → (putAll e ps)[i]? = (putOwn e i ds)[i]?
  | [], e, i, ds, _, h => by simp at h
  | (j, ds') :: r, e, i, ds, nd, h => by
    have nd' : j ∉ r.map (·.1) ∧ (r.map (·.1)).Nodup := List.nodup_cons.mp nd
    show (putAll (putOwn e j ds') r)[i]? = _
    rcases List.mem_cons.mp
          h with q | q
    · cases q
      rw [putAll_other nd'.1]
    · have ne : i ≠ j := fun z => nd'.1 (List.mem_map.mpr ⟨_, q, z⟩)
      rw [putAll_at nd'.2 q]
      have e1 : (putOwn e j ds')[i]? = e[i]? := putOwn_other ne
      have lenq : (putOwn e j ds').length = e.length := by
        unfold putOwn
        split <;> simp
      have lift : ∀ (e1 e2 : Env), e1[i]? = e2[i]? → (putOwn e1 i ds)[i]? = (putOwn e2 i ds)[i]? := fun e1 e2 hq => by
        unfold putOwn
        rw [hq]
        split
        · rename_i g
          rw [List.getElem?_set_self (List.getElem?_eq_some_iff.mp (hq.trans g)).1, List.getElem?_set_self (List.getElem?_eq_some_iff.mp g).1]
        · rename_i g
          rw [List.getElem?_set_self (List.getElem?_eq_some_iff.mp (hq.trans g)).1, List.getElem?_set_self (List.getElem?_eq_some_iff.mp g).1]
        · exact hq
      exact lift _ _ e1
theorem putAll_len : ∀ {ps : List (Nat × List PyData)} {e : Env}, (putAll e ps).length = e.length
  | [], e => rfl
  | (j, ds) :: r, e => by
    show (putAll (putOwn e j ds) r).length = _
    rw [putAll_len]
    unfold putOwn
    split <;> simp
end
section
variable {K : PySem.W.Frag} {Γ : Gx} {g : Addr → Option Nat} {H H' : Hp} {σ : St} {e : Env} {vs : List V} {ts : List Opd} {svs outs : List SV}
/-- a is the k-th argument's own list -/
def Lent (g : Addr → Option Nat) (σ : St) (ts : List Opd) (svs : List SV) (a : Addr) (k : Nat) : Prop := ∃ j ds, ts[k]? = some (.var j) ∧ svs[k]? = some (.ino ds) ∧ g a = some j ∧ σ[j]? = some (some (.ref a))
open Classical in
noncomputable def gOf (g : Addr → Option Nat) (σ : St) (ts : List Opd) (svs : List SV) (a : Addr) : Option Nat := if h : ∃ k, Lent g σ ts svs a k then some h.choose else none
theorem gOf_at (nd : ((outPairs ts svs).map (·.1)).Nodup) {a : Addr} {k : Nat} (h : Lent g σ ts svs a k) : gOf g σ ts svs a = some k := by
  have ex : ∃ k, Lent g σ ts svs a k := ⟨k, h⟩
  unfold gOf
  rw [dif_pos ex]
  obtain ⟨j, ds, h1, h2, h3, h4⟩ := h
  obtain ⟨j', ds', k1, k2, k3, k4⟩ := ex.choose_spec
  rw [h3] at k3
  cases k3
  rw [pairs_uniq nd k1 k2 h1 h2]
theorem of_gOf {a : Addr} {k : Nat} (h : gOf g σ ts svs a = some k) : Lent g σ ts svs a k := by
  unfold gOf at h
  split at h
  · rename_i ex
    cases h
    exact ex.choose_spec
  · cases h
theorem gOf_none {a : Addr} (h : gOf g σ ts svs a = none) (k : Nat) : ¬ Lent g σ ts svs a k := fun z => by
  unfold gOf at h
  rw [dif_pos ⟨k, z⟩] at h
  cases h
/-- what is kept through the call: all but the lent lists -/
noncomputable def keptOf (g : Addr → Option Nat) (σ : St) (ts : List Opd) (svs : List SV) (H : Hp) : Hp := fun a => match gOf g σ ts svs a with
  | some _ => none
  | none => H a
theorem RepG.lend (R : RepG K Γ g H σ e) (hv : Paired (TkV K H σ) vs ts) (ha : argSVs e ts = some svs) (nd : ((outPairs ts svs).map (·.1)).Nodup) : RepG K ⟨keptOf g σ ts svs H, pinOf vs⟩ (gOf g σ ts svs) H (vs.map some) (svs.map some) := by
  have hvl : vs.length = ts.length := Paired.length hv
  refine ⟨by rw [List.length_map, List.length_map, argSVs_len ha, hvl], fun k sv q => ?_, fun a k q => ?_, fun a o q => ?_⟩
  · rw [map_some_get] at q
    have hk : k < ts.length := by rw [← argSVs_len ha]; exact (List.getElem?_eq_some_iff.mp q).1
    obtain ⟨sv', q1, q2⟩ := argSVs_get ha (List.getElem?_eq_getElem hk)
    rw [q] at q1
    cases q1
    obtain ⟨v, hv1, hv2⟩ : ∃ v, vs[k]? = some v ∧ TkV K H σ v ts[k] := by
      have : ∀ {vs : List V} {ts : List Opd} {k : Nat} {t : Opd}, Paired (TkV K H σ) vs ts → ts[k]? = some t → ∃ v, vs[k]? = some v ∧ TkV K H σ v t := by
        intro vs ts k t h
        induction h generalizing k with
        | nil => intro z; simp at z
        | cons r _ ih =>
          intro z
          cases k with
          | zero =>
            simp at z
            subst z
            exact ⟨_, rfl, r⟩
          | succ k => simpa using ih (by simpa using z)
      exact this hv (List.getElem?_eq_getElem hk)
    refine ⟨v, map_some_get.mpr hv1, ?_⟩
    cases ht : ts[k] with
    | val d =>
      rw [ht] at q2 hv2
      cases q2
      exact hv2
    | var j =>
      rw [ht] at q2 hv2
      have hv2 : σ[j]? = some (some v) := hv2
      unfold argSV at q2
      split at q2
      · rename_i i z
        cases z
      · rename_i i z
        cases z
        have htk : ts[k]? = some (.var j) := by rw [List.getElem?_eq_getElem hk, ht]
        split at q2
        · rename_i d z
          cases q2
          obtain ⟨w, h1, h2⟩ := R.at_ j _ z
          rw [hv2] at h1
          cases h1
          exact h2
        · rename_i d z
          cases q2
          obtain ⟨w, h1, a, ws, rfl, h3, h4, h5, h6⟩ := R.at_ j _ z
          rw [hv2] at h1
          cases h1
          exact ⟨a, ws, rfl, gOf_at nd ⟨j, d, htk, q, h3, hv2⟩, h4, h5, h6, by show pinOf vs k = some a; unfold pinOf; rw [hv1]⟩
        · rename_i d z
          cases q2
          obtain ⟨w, h1, a, ws, rfl, h3, h4, h5, h6, _⟩ := R.at_ j _ z
          rw [hv2] at h1
          cases h1
          exact ⟨a, ws, rfl, gOf_at nd ⟨j, d, htk, q, h3, hv2⟩, h4, h5, h6, by show pinOf vs k = some a; unfold pinOf; rw [hv1]⟩
        · rename_i d z
          cases q2
          obtain ⟨w, h1, h2⟩ := R.at_ j _ z
          rw [hv2] at h1
          cases h1
          exact h2
        · cases q2
  · obtain ⟨j, ds, h1, h2, h3, h4⟩ := of_gOf q
    refine ⟨?_, (R.gh a j h3).2⟩
    show keptOf g σ ts svs H a = none
    unfold keptOf
    rw [q]
  · have q : keptOf g σ ts svs H a = some o := q
    unfold keptOf at q
    split at q
    · cases q
    · exact q
/-- behind the call: the lent lists are as they are told, all else is as it was -/
theorem RepG.back (R : RepG K Γ g H σ e) (hv : Paired (TkV K H σ) vs ts) (ha : argSVs e ts = some svs) (nd : ((outPairs ts svs).map (·.1)).Nodup) (nd' : ((outPairs ts outs).map (·.1)).Nodup) (hk : kindsOk svs outs = true) {Γ' : Gx} {g' : Addr → Option Nat}
    (hG : ∀ a o, keptOf g σ ts svs H a = some o → H' a = some o) (pins : Γ'.pin = pinOf vs) (R' : RepG K Γ' g' H' (vs.map some) (outs.map some)) (fz : FzLe H H') : RepG K Γ g H' σ (putAll e (outPairs ts outs)) := by
  have lentAt : ∀ {a : Addr} {k : Nat}, Lent g σ ts svs a k → ∃ ds ws, outs[k]? = some (.ino ds) ∧ H' a = some (.lst ws) ∧ ws.length ≤ sizeLine ∧ DzA K H' ws ds ∧ g' a = some k := fun {a k} h => by
    obtain ⟨j, ds, h1, h2, h3, h4⟩ := h
    obtain ⟨o, k1, k2⟩ := kinds_get hk h2
    rcases k2 with ⟨x, y, e1, rfl⟩ | ⟨x, y, e1, _⟩ | ⟨x, y, e1, _⟩
    · obtain ⟨v, f1, b, ws, rfl, f2, f3, f4, f5, f6⟩ := R'.at_ k _ (map_some_get.mpr k1)
      rw [map_some_get] at f1
      have hvk : vs[k]? = some (.ref a) := by
        have : ∀ {vs : List V} {ts : List Opd} {k : Nat} {t : Opd}, Paired (TkV K H σ) vs ts → ts[k]? = some t → ∃ v, vs[k]? = some v ∧ TkV K H σ v t := by
          intro vs ts k t h
          induction h generalizing k with
          | nil => intro z; simp at z
          | cons r _ ih =>
            intro z
            cases k with
            | zero =>
              simp at z
              subst z
              exact ⟨_, rfl, r⟩
            | succ k => simpa using ih (by simpa using z)
        obtain ⟨v, g1, g2⟩ := this hv h1
        have g2 : σ[j]? = some (some v) := g2
        rw [h4] at g2
        cases g2
        exact g1
      rw [hvk] at f1
      cases f1
      exact ⟨y, ws, k1, f3, f4, f5, f2⟩
    · cases e1
    · cases e1
  have stays : ∀ a, (∀ k, ¬ Lent g σ ts svs a k) → ∀ o, H a = some o → H' a = some o := fun a hn o h => by
    refine hG a o ?_
    unfold keptOf
    cases q : gOf g σ ts svs a with
    | none => exact h
    | some k => exact absurd (of_gOf q) (hn k)
  refine ⟨by rw [putAll_len]; exact R.len, fun i sv q => ?_, fun a i q => ?_, fun a o q => ?_⟩
  · by_cases hi : i ∈ (outPairs ts outs).map (·.1)
    · obtain ⟨⟨i', ds⟩, hm, rfl⟩ := List.mem_map.mp hi
      obtain ⟨k, h1, h2⟩ := mem_pairs hm
      rw [putAll_at nd' hm] at q
      -- the slot held a list of its own
      have hkt : k < ts.length := (List.getElem?_eq_some_iff.mp h1).1
      obtain ⟨sv0, s1, s2⟩ := argSVs_get ha h1
      obtain ⟨o, k1, k2⟩ := kinds_get hk s1
      rw [h2] at k1
      cases k1
      obtain ⟨x, rfl⟩ : ∃ x, sv0 = .ino x := by
        rcases k2 with ⟨x, y, e1, e2⟩ | ⟨x, y, e1, e2⟩ | ⟨x, y, e1, e2⟩
        · exact ⟨x, e1⟩
        · cases e2
        · cases e2
      have own : ownOf e[i']? = some x := by
        unfold argSV at s2
        unfold ownOf
        dsimp only at s2
        split at s2
        · cases s2
        · rename_i d z
          rw [z]
          cases s2
          rfl
        · rename_i d z
          rw [z]
          cases s2
          rfl
        · cases s2
        · cases s2
      obtain ⟨a, ws0, o1, o2, o3, o4, o5⟩ := R.ownAt own
      obtain ⟨ds', ws, l1, l2, l3, l4, l5⟩ := lentAt (a := a) (k := k) ⟨i', x, h1, s1, o2, o1⟩
      rw [h2] at l1
      cases l1
      unfold ownOf at own
      unfold putOwn at q
      split at own
      · rename_i d z
        rw [z] at q
        rw [List.getElem?_set_self (List.getElem?_eq_some_iff.mp z).1] at q
        cases q
        exact ⟨.ref a, o1, a, ws, rfl, o2, l2, l3, l4⟩
      · rename_i d z
        rw [z] at q
        rw [List.getElem?_set_self (List.getElem?_eq_some_iff.mp z).1] at q
        cases q
        obtain ⟨v, f1, b, us, rfl, f2, f3, f4, f5, f6⟩ := R.at_ i' _ z
        rw [o1] at f1
        cases f1
        exact ⟨.ref a, o1, a, ws, rfl, o2, l2, l3, l4, f6⟩
      · cases own
    · rw [putAll_other hi] at q
      obtain ⟨v, h1, h2⟩ := R.at_ i sv q
      refine ⟨v, h1, ?_⟩
      have notLent : ∀ a, g a = some i → ∀ k, ¬ Lent g σ ts svs a k := fun a ga k ⟨j, ds, l1, l2, l3, l4⟩ => by
        rw [ga] at l3
        cases l3
        obtain ⟨o, k1, k2⟩ := kinds_get hk l2
        rcases k2 with ⟨x, y, e1, rfl⟩ | ⟨x, y, e1, _⟩ | ⟨x, y, e1, _⟩
        · exact hi (List.mem_map.mpr ⟨_, pairs_mem l1 k1, rfl⟩)
        · cases e1
        · cases e1
      refine h2.mono fz fun a ga => ?_
      obtain ⟨_, xs, hx⟩ := R.gh a i ga
      rw [hx]
      exact stays a (notLent a ga) _ hx
  · obtain ⟨h1, xs, h2⟩ := R.gh a i q
    refine ⟨h1, ?_⟩
    by_cases hl : ∃ k, Lent g σ ts svs a k
    · obtain ⟨k, hl⟩ := hl
      obtain ⟨ds', ws, l1, l2, l3⟩ := lentAt hl
      exact ⟨ws, l2⟩
    · exact ⟨xs, stays a (fun k z => hl ⟨k, z⟩) _ h2⟩
  · refine stays a (fun k ⟨j, ds, l1, l2, l3, l4⟩ => ?_) o (R.keep a o q)
    rw [(R.gh a j l3).1] at q
    cases q
end

/-- what a call gives: the value, the lent lists as they then are -/
def callRes (F : Sem) (ts : List Opd) (e : Env) : Option (FR × Env) := match argSVs e ts with
  | none => none
  | some svs => if decide ((outPairs ts svs).map (·.1)).Nodup then match F svs with
      | .ok r outs => if kindsOk svs outs && decide ((outPairs ts outs).map (·.1)).Nodup then some (.ok r outs, putAll e (outPairs ts outs)) else none
      | .exc x outs => if kindsOk svs outs && decide ((outPairs ts outs).map (·.1)).Nodup then some (.exc x outs, putAll e (outPairs ts outs)) else none
      | .bad => none
    else none
def callD (F : Sem) (ts : List Opd) : M PyData := fun e => match callRes F ts e with
  | some (.ok (.dat d) _, e') => .ok d e'
  | some (.ok (.own ds) _, e') => .ok (.list ds) e'
  | some (.exc x _, e') => .exc x e'
  | _ => .bad
def callO (F : Sem) (ts : List Opd) : M (List PyData) := fun e => match callRes F ts e with
  | some (.ok (.own ds) _, e') => .ok ds e'
  | some (.exc x _, e') => .exc x e'
  | _ => .bad
def eCallD (F : Sem) (f : M (List Opd)) : M PyData := M.bind f fun ts => callD F ts
def eCallO (F : Sem) (f : M (List Opd)) : M (List PyData) := M.bind f fun ts => callO F ts
section
variable {K : PySem.W.Frag} {mg : Str → Option Value} {W : WX} {Γ : Gx} {H : Hp} {σ : St} {e : Env} {vs : List V} {ts : List Opd} {np : Nat} {F : Sem}
/-- the caller's side of a promise -/
theorem call_sp {Q : VK} {E : XK} {fr : FR} {e' : Env} (R : Rep K Γ H σ e) (hv : Paired (TkV K H σ) vs ts) (hl : ts.length = np) (hc : callRes F ts e = some (fr, e'))
    (hq : match fr with
      | .ok r _ => ∀ v H', RlR K Γ H' σ e' v r → FzLe H H' → Q v H'
      | .exc x _ => ∀ c o H', XnAt mg K H' x c o → Rep K Γ H' σ e' → FzLe H H' → E c o H'
      | .bad => False) : spOf K mg np F vs H Q E := by
  obtain ⟨g, R⟩ := R
  have hvl : vs.length = ts.length := Paired.length hv
  unfold callRes at hc
  split at hc
  · cases hc
  · rename_i svs ha
    split at hc
    case isFalse => cases hc
    case isTrue nd0 =>
    have nd := of_decide_eq_true nd0
    refine ⟨hvl.trans hl, keptOf g σ ts svs H, svs, ⟨_, R.lend hv ha nd⟩, ?_⟩
    have hG0 : ∀ {a : Addr}, keptOf g σ ts svs H a = none → (∃ k, Lent g σ ts svs a k) ∨ H a = none := fun {a} h => by
      unfold keptOf at h
      cases q : gOf g σ ts svs a with
      | none => rw [q] at h; exact .inr h
      | some k => exact .inl ⟨k, of_gOf q⟩
    split at hc
    · rename_i r outs hF
      try rw [hF]
      split at hc
      case isFalse => cases hc
      case isTrue hk =>
      cases hc
      rw [Bool.and_eq_true] at hk
      have nd' := of_decide_eq_true hk.2
      intro v H' h1 fz
      refine hq v H' ?_ fz
      cases r with
      | dat d => exact ⟨⟨g, R.back hv ha nd nd' hk.1 (Γ' := ⟨keptOf g σ ts svs H, pinOf vs⟩) (let ⟨g', R'⟩ := h1.1; R'.keep) rfl (h1.1.choose_spec) fz⟩, h1.2⟩
      | own ds =>
        obtain ⟨a, ws, e1, e2, e3, e4, g', R'⟩ := h1
        have ka : ∀ b o, keptOf g σ ts svs H b = some o → H' b = some o := fun b o hb => R'.keep b o (by
          show upd _ a _ b = _
          rw [upd_ne]
          · exact hb
          · intro z
            have e2 : keptOf g σ ts svs H a = none := e2
            rw [z, e2] at hb
            cases hb)
        have B := R.back hv ha nd nd' hk.1 (Γ' := (⟨keptOf g σ ts svs H, pinOf vs⟩ : Gx).plus a (.lst ws)) ka rfl R' fz
        have hHa : H a = none := by
          rcases hG0 e2 with ⟨k, hle⟩ | h
          · obtain ⟨j, ds0, l1, l2, l3, l4⟩ := hle
            obtain ⟨o, k1, k2⟩ := kinds_get hk.1 l2
            rcases k2 with ⟨x, y, q1, rfl⟩ | ⟨x, y, q1, _⟩ | ⟨x, y, q1, _⟩
            · obtain ⟨v', f1, b, us, rfl, f2, f3, f4, f5, f6⟩ := R'.at_ k _ (map_some_get.mpr k1)
              have pk : pinOf vs k = some b := f6
              obtain ⟨w0, w1, b0, us0, w2, w3, w4, w5, w6, w7⟩ := (R.lend hv ha nd).at_ k _ (map_some_get.mpr l2)
              have pk0 : pinOf vs k = some b0 := w7
              rw [pk] at pk0
              cases pk0
              have lent0 : Lent g σ ts svs b k := of_gOf w3
              obtain ⟨j', ds', m1, m2, m3, m4⟩ := lent0
              rw [l1] at m1
              cases m1
              rw [l4] at m4
              cases m4
              have z := (R'.gh a k f2).1
              have z : upd (keptOf g σ ts svs H) a (.lst ws) a = none := z
              rw [upd_same] at z
              cases z
            · cases q1
            · cases q1
          · exact h
        have hGa : Γ.G a = none := by
          cases q : Γ.G a with
          | none => rfl
          | some o =>
            rw [R.keep a o q] at hHa
            cases hHa
        have hga : ∀ i, g a ≠ some i := fun i z => by
          obtain ⟨_, xs, h2⟩ := R.gh a i z
          rw [hHa] at h2
          cases h2
        have hH'a : H' a = some (.lst ws) := R'.keep a _ upd_same
        refine ⟨a, ws, e1, hGa, e3, e4, g, B.len, B.at_, fun b i q => ?_, fun b o q => ?_⟩
        · obtain ⟨h1, h2⟩ := B.gh b i q
          refine ⟨?_, h2⟩
          show upd Γ.G a _ b = none
          rw [upd_ne]
          · exact h1
          · intro z
            rw [z] at q
            exact hga i q
        · have q : upd Γ.G a (.lst ws) b = some o := q
          by_cases z : b = a
          · subst z
            rw [upd_same] at q
            cases q
            exact hH'a
          · rw [upd_ne z] at q
            exact B.keep b o q
    · rename_i x outs hF
      try rw [hF]
      split at hc
      case isFalse => cases hc
      case isTrue hk =>
      cases hc
      rw [Bool.and_eq_true] at hk
      have nd' := of_decide_eq_true hk.2
      intro c o H' h0 h1 fz
      exact hq c o H' h0 ⟨g, R.back hv ha nd nd' hk.1 (Γ' := ⟨keptOf g σ ts svs H, pinOf vs⟩) (let ⟨g', R'⟩ := h1; R'.keep) rfl (h1.choose_spec) fz⟩ fz
    · cases hc
end
section
variable {X : Cx} {W : WX} {a : Expr} {es : List Expr} {p pos : Pos} {x : Str} {k np : Nat} {f : Addr} {fd : FuncData} {ps : List Str} {F : Sem} {fs : M (List Opd)}
theorem _root_.L2.PE.frz {e : Expr} {t : TE} (h : PE X e t) : PE X e (fun σ H Q => t σ H (QF Q)) := ⟨fun pins s σ H Q I q => thn (h.run pins s σ H _ I q) fun _ _ z => ep_frz z⟩
theorem callD_read {K : PySem.W.Frag} {mg : Str → Option Value} {σ : St} {H : Hp} {Q : VK} (hlen : ∀ Γ σ H e ts e1, Rep K Γ H σ e → fs e = .ok ts e1 → ts.length = np) (w : tR RlD K mg W (eCallD F fs) σ H Q) : tCallS (spOf K mg np F) (WE W) (tR RlTs K mg W fs) σ H (QF Q) := by
  obtain ⟨Γ, e, R, p⟩ := w
  refine ⟨Γ, e, R, ?_⟩
  have fin : ∀ vs H1 ts e1, fs e = .ok ts e1 → RlTs K Γ H1 σ e1 vs ts → FzLe H H1 → post RlD K mg W Γ σ H1 (callD F ts e1) Q → spOf K mg np F vs H1 (QF Q) (WE W σ) := fun vs H1 ts e1 hf ⟨R1, h1⟩ fz q => by
    unfold callD at q
    split at q
    · rename_i d o e' hc
      exact call_sp R1 h1 (hlen _ _ _ _ _ _ R hf) hc fun v H' h2 h3 => .inl (q v H' h2 h3)
    · rename_i ds o e' hc
      refine call_sp R1 h1 (hlen _ _ _ _ _ _ R hf) hc fun v H' ⟨b, ws, h2, h3, h4, h5, h6⟩ fz2 => .inr ?_
      have hb := h6.at_guard
      refine ⟨b, ws, h2, hb, fun o => ?_⟩
      have f2 := fz_lst (o := .frz o (.lst ws)) hb
      exact q _ _ ⟨(h6.reguard).unguard h3, .lst ⟨o, upd_same⟩ h4 (DzA.mono f2 _ _ h5)⟩ (fz2.trans f2)
    · rename_i x o e' hc
      exact call_sp R1 h1 (hlen _ _ _ _ _ _ R hf) hc fun c o H' h0 h2 h3 => q c o H' h0 h2 h3
    · exact q.elim
  unfold eCallD M.bind at p
  cases hf : fs e with
  | ok ts e1 =>
    rw [hf] at p
    exact fun vs H1 h1 fz => fin vs H1 ts e1 hf h1 fz (post.later fz p)
  | exc x e1 =>
    rw [hf] at p
    exact p
  | bad =>
    rw [hf] at p
    exact p
theorem de_call (G : FnOk X.prog X.w X.K X.mg X.base (L2.CX X.prog X.w) k f fd ps (spOf X.K X.mg ps.length F)) (hr : Room k X.A) (hg : Gl X x) (hm : X.mg x = some (.ref f)) (hk : PySem.W.keepIn X.K (.ref f) = true) (hb : Binds X.K fd ps []) (tk : Takes X W)
    (ha : DTs X W (a :: es) fs) (hlen : ∀ e ts e1, fs e = .ok ts e1 → ts.length = ps.length) (hdb : (x == ("__debug__" : Str)) = false) (hs : notStar a = true) (hpl : (backTo pos (starEach es X.env)).any (·.1) = false) :
    DE X W (.Call (.Name x p) (a :: es) [] pos) (eCallD F fs) :=
  (pe_callS G hr hg hm hk hb (fun σ => passAt tk σ) ha hdb (star_one a es X.env hs) hpl).frz.imp fun σ H Q w => callD_read (fun _ _ _ e ts e1 _ h => hlen e ts e1 h) w
theorem callO_read {K : PySem.W.Frag} {mg : Str → Option Value} {σ : St} {H : Hp} {Q : VK} (hlen : ∀ e ts e1, fs e = .ok ts e1 → ts.length = np) (w : tR RlO K mg W (eCallO F fs) σ H Q) : tCallS (spOf K mg np F) (WE W) (tR RlTs K mg W fs) σ H Q := by
  obtain ⟨Γ, e, R, p⟩ := w
  refine ⟨Γ, e, R, ?_⟩
  have fin : ∀ vs H1 ts e1, fs e = .ok ts e1 → RlTs K Γ H1 σ e1 vs ts → FzLe H H1 → post RlO K mg W Γ σ H1 (callO F ts e1) Q → spOf K mg np F vs H1 Q (WE W σ) := fun vs H1 ts e1 hf ⟨R1, h1⟩ fz q => by
    unfold callO at q
    split at q
    · rename_i ds o e' hc
      exact call_sp R1 h1 (hlen _ _ _ hf) hc fun v H' h2 h3 => q v H' h2 h3
    · rename_i x o e' hc
      exact call_sp R1 h1 (hlen _ _ _ hf) hc fun c o H' h0 h2 h3 => q c o H' h0 h2 h3
    · exact q.elim
  unfold eCallO M.bind at p
  cases hf : fs e with
  | ok ts e1 =>
    rw [hf] at p
    exact fun vs H1 h1 fz => fin vs H1 ts e1 hf h1 fz (post.later fz p)
  | exc x e1 =>
    rw [hf] at p
    exact p
  | bad =>
    rw [hf] at p
    exact p
theorem do_call (G : FnOk X.prog X.w X.K X.mg X.base (L2.CX X.prog X.w) k f fd ps (spOf X.K X.mg ps.length F)) (hr : Room k X.A) (hg : Gl X x) (hm : X.mg x = some (.ref f)) (hk : PySem.W.keepIn X.K (.ref f) = true) (hb : Binds X.K fd ps []) (tk : Takes X W)
    (ha : DTs X W (a :: es) fs) (hlen : ∀ e ts e1, fs e = .ok ts e1 → ts.length = ps.length) (hdb : (x == ("__debug__" : Str)) = false) (hs : notStar a = true) (hpl : (backTo pos (starEach es X.env)).any (·.1) = false) :
    DO X W (.Call (.Name x p) (a :: es) [] pos) (eCallO F fs) :=
  (pe_callS G hr hg hm hk hb (fun σ => passAt tk σ) ha hdb (star_one a es X.env hs) hpl).imp fun σ H Q w => callO_read hlen w
end
end PF
/-! F12: built-ins, by data. -/
namespace PF
open PySem PySem.Spec L2
open PyProof.Rows hiding St

def gets (e : Env) : List Opd → Option (List PyData)
  | [] => some []
  | t :: ts => (t.get e).bind fun d => (gets e ts).map fun l => d :: l
theorem gets_tk {K : PySem.W.Frag} {Γ : Gx} {H : Hp} {σ : St} {e : Env} (R : Rep K Γ H σ e) : ∀ {ts : List Opd} {vs : List V} {ds : List PyData}, Paired (TkV K H σ) vs ts → gets e ts = some ds → Paired (Tk K H) vs ds
  | [], _, _, .nil, h => by
    unfold gets at h
    cases h
    exact .nil
  | t :: ts, _, _, .cons r q, h => by
    unfold gets at h
    cases g : t.get e with
    | none => rw [g] at h; cases h
    | some d =>
      cases g2 : gets e ts with
      | none => rw [g, g2] at h; cases h
      | some l =>
        rw [g, g2] at h
        cases h
        exact .cons (R.tk r g) (gets_tk R q g2)
def eCallB (op : List PyData → Option PyData) (f : M (List Opd)) : M PyData := M.bind f fun ts e => match (gets e ts).bind op with
  | some r => .ok r e
  | none => .bad
def eCallBO (op : List PyData → Option (List PyData)) (f : M (List Opd)) : M (List PyData) := M.bind f fun ts e => match (gets e ts).bind op with
  | some r => .ok r e
  | none => .bad
/-- a call that gives a new list -/
def rCO (K : PySem.W.Frag) (op : List PyData → Option (List PyData)) : List V → Hp → VK → Prop := fun xs H Q => ∃ ds r, Paired (Tk K H) xs ds ∧ op ds = some r ∧ ∀ p vs, H p = none → vs.length ≤ sizeLine → DzA K H vs r → Q (.ref p) (upd H p (.lst vs))
section
variable {X : Cx} {W : WX} {a b c : Expr} {es : List Expr} {x : Str} {p pos : Pos} {id T : String} {op : List PyData → Option PyData} {opo : List PyData → Option (List PyData)} {f : M (List Opd)}
theorem callb_read {K : PySem.W.Frag} {mg : Str → Option Value} {σ : St} {H : Hp} {Q : VK} (w : tR RlD K mg W (eCallB op f) σ H Q) : tCB (rC K op) (tR RlTs K mg W f) σ H Q := by
  obtain ⟨Γ, e, R, p⟩ := w
  refine ⟨Γ, e, R, post.step p fun vs H1 ts e1 ⟨R1, h1⟩ _ q => ?_⟩
  cases g : gets e1 ts with
  | none => rw [g] at q; exact q.elim
  | some ds =>
    rw [g] at q
    have q : post RlD K mg W Γ σ H1 (match op ds with | some r => .ok r e1 | none => .bad) Q := q
    cases g2 : op ds with
    | none => rw [g2] at q; exact q.elim
    | some r =>
      rw [g2] at q
      exact ⟨ds, r, gets_tk R1 h1 g, g2, fun v H' s z => q v H' ⟨R1.same s, z⟩ (fz_same s)⟩
theorem callbo_read {K : PySem.W.Frag} {mg : Str → Option Value} {σ : St} {H : Hp} {Q : VK} (w : tR RlO K mg W (eCallBO opo f) σ H Q) : tCB (rCO K opo) (tR RlTs K mg W f) σ H Q := by
  obtain ⟨Γ, e, R, p⟩ := w
  refine ⟨Γ, e, R, post.step p fun vs H1 ts e1 ⟨R1, h1⟩ _ q => ?_⟩
  cases g : gets e1 ts with
  | none => rw [g] at q; exact q.elim
  | some ds =>
    rw [g] at q
    have q : post RlO K mg W Γ σ H1 (match opo ds with | some r => .ok r e1 | none => .bad) Q := q
    cases g2 : opo ds with
    | none => rw [g2] at q; exact q.elim
    | some r =>
      rw [g2] at q
      exact ⟨ds, r, gets_tk R1 h1 g, g2, fun p ws hp hl hd => q _ _ ⟨p, ws, rfl, R1.free hp, hl, DzA.mono (fz_same (same_new hp)) _ _ hd, R1.guard hp⟩ (fz_same (same_new hp))⟩
theorem de_callB (hc : CallR X (.builtin id) (rC X.K op)) (hg : Gl X x) (hm : X.mg x = none) (hv : bootBuiltins x = some (.builtin id)) (ha : DTs X W (a :: es) f) (hn : x ≠ "__name__") (hdb : (x == ("__debug__" : Str)) = false) (hs : notStar a = true) (hpl : (backTo pos (starEach es X.env)).any (·.1) = false) :
    DE X W (.Call (.Name x p) (a :: es) [] pos) (eCallB op f) := (pe_callB hc hg hm hv ha hn hdb (star_one a es X.env hs) hpl).imp fun σ H Q w => callb_read w
theorem de_callT (hc : CallR X (.type T) (rC X.K op)) (hg : Gl X x) (hm : X.mg x = none) (hv : bootBuiltins x = some (.type T)) (ha : DTs X W (a :: es) f) (hn : x ≠ "__name__") (hdb : (x == ("__debug__" : Str)) = false) (hs : notStar a = true) (hpl : (backTo pos (starEach es X.env)).any (·.1) = false) :
    DE X W (.Call (.Name x p) (a :: es) [] pos) (eCallB op f) := (pe_callTy hc hg hm hv ha hn hdb (star_one a es X.env hs) hpl).imp fun σ H Q w => callb_read w
theorem do_callB (hc : CallR X (.builtin id) (rCO X.K opo)) (hg : Gl X x) (hm : X.mg x = none) (hv : bootBuiltins x = some (.builtin id)) (ha : DTs X W (a :: es) f) (hn : x ≠ "__name__") (hdb : (x == ("__debug__" : Str)) = false) (hs : notStar a = true) (hpl : (backTo pos (starEach es X.env)).any (·.1) = false) :
    DO X W (.Call (.Name x p) (a :: es) [] pos) (eCallBO opo f) := (pe_callB hc hg hm hv ha hn hdb (star_one a es X.env hs) hpl).imp fun σ H Q w => callbo_read w
theorem do_callT (hc : CallR X (.type T) (rCO X.K opo)) (hg : Gl X x) (hm : X.mg x = none) (hv : bootBuiltins x = some (.type T)) (ha : DTs X W (a :: es) f) (hn : x ≠ "__name__") (hdb : (x == ("__debug__" : Str)) = false) (hs : notStar a = true) (hpl : (backTo pos (starEach es X.env)).any (·.1) = false) :
    DO X W (.Call (.Name x p) (a :: es) [] pos) (eCallBO opo f) := (pe_callTy hc hg hm hv ha hn hdb (star_one a es X.env hs) hpl).imp fun σ H Q w => callbo_read w
end

/-! ### the built-ins one by one -/
section
variable {X : Cx}
theorem tk1 {K : PySem.W.Frag} {H : Hp} {xs : List V} {d : PyData} (h : Paired (Tk K H) xs [d]) : ∃ x, xs = [x] ∧ Tk K H x d := by
  cases h with
  | cons r t =>
    cases t
    exact ⟨_, rfl, r⟩
theorem tk2 {K : PySem.W.Frag} {H : Hp} {xs : List V} {d e : PyData} (h : Paired (Tk K H) xs [d, e]) : ∃ x y, xs = [x, y] ∧ Tk K H x d ∧ Tk K H y e := by
  cases h with
  | cons r t =>
    obtain ⟨y, rfl, q⟩ := tk1 t
    exact ⟨_, _, rfl, r, q⟩
def lenD : List PyData → Option PyData
  | [.list ds] => some (.int ds.length)
  | [.tuple ds] => some (.int ds.length)
  | [.str z] => if z.length ≤ sizeLine then some (.int z.length) else none
  | _ => none
theorem hc_len : CallR X (.builtin "len") (rC X.K lenD) := callr_of ((call_len_seq (X := X)).or call_len_str) fun xs H Q ds z h1 h2 h3 => by
  unfold lenD at h2
  split at h2
  · cases h2
    obtain ⟨x, rfl, k⟩ := tk1 h1
    obtain ⟨a, ws, rfl, g1, g2, g3⟩ := k.lst
    rw [← g3.length] at h3
    exact .inl ⟨a, ws, rfl, .inl (sql_of g1), .inl (h3.val (.int _))⟩
  · cases h2
    obtain ⟨x, rfl, k⟩ := tk1 h1
    obtain ⟨a, ws, rfl, g1, g2, g3⟩ := k.tup
    rw [← g3.length] at h3
    exact .inl ⟨a, ws, rfl, .inr g1, .inl (h3.val (.int _))⟩
  · split at h2
    · cases h2
      obtain ⟨x, rfl, k⟩ := tk1 h1
      exact .inr ⟨_, by rw [k.str], by assumption, .inl (h3.val (.int _))⟩
    · cases h2
  · cases h2
def blsOf : List PyData → Option (List Bool)
  | [] => some []
  | .bool b :: r => (blsOf r).map fun l => b :: l
  | _ => none
theorem bls_of {K : PySem.W.Frag} {H : Hp} : ∀ {ds : List PyData} {vs : List V} {bs : List Bool}, DzA K H vs ds → blsOf ds = some bs → vs = bs.map V.bl
  | [], _, bs, h, k => by
    unfold blsOf at k
    cases k
    cases h
    rfl
  | .bool b :: r, _, bs, h, k => by
    unfold blsOf at k
    cases q : blsOf r with
    | none => rw [q] at k; cases k
    | some l =>
      rw [q] at k
      cases k
      cases h with
      | cons h1 h2 =>
        cases h1
        rw [bls_of h2 q]
        rfl
  | .none :: _, _, _, _, k => by simp [blsOf] at k
  | .int _ :: _, _, _, _, k => by simp [blsOf] at k
  | .str _ :: _, _, _, _, k => by simp [blsOf] at k
  | .list _ :: _, _, _, _, k => by simp [blsOf] at k
  | .tuple _ :: _, _, _, _, k => by simp [blsOf] at k
  | .dict _ :: _, _, _, _, k => by simp [blsOf] at k
def allD : List PyData → Option PyData
  | [.list ds] => (blsOf ds).map fun bs => .bool (bs.all id)
  | _ => none
def anyD : List PyData → Option PyData
  | [.list ds] => (blsOf ds).map fun bs => .bool (bs.any id)
  | _ => none
theorem hc_all (hc : X.calm = true) : CallR X (.builtin "all") (rC X.K allD) := callr_of (cr_all hc) fun xs H Q ds z h1 h2 h3 => by
  unfold allD at h2
  split at h2
  · rename_i ds
    cases q : blsOf ds with
    | none => rw [q] at h2; cases h2
    | some bs =>
      rw [q] at h2
      cases h2
      obtain ⟨x, rfl, k⟩ := tk1 h1
      obtain ⟨a, ws, rfl, g1, g2, g3⟩ := k.lst
      have e := bls_of g3 q
      subst e
      exact ⟨a, bs, rfl, sql_of g1, .inl (h3.val (.bl _))⟩
  · cases h2
theorem hc_any (hc : X.calm = true) : CallR X (.builtin "any") (rC X.K anyD) := callr_of (cr_any hc) fun xs H Q ds z h1 h2 h3 => by
  unfold anyD at h2
  split at h2
  · rename_i ds
    cases q : blsOf ds with
    | none => rw [q] at h2; cases h2
    | some bs =>
      rw [q] at h2
      cases h2
      obtain ⟨x, rfl, k⟩ := tk1 h1
      obtain ⟨a, ws, rfl, g1, g2, g3⟩ := k.lst
      have e := bls_of g3 q
      subst e
      exact ⟨a, bs, rfl, sql_of g1, .inl (h3.val (.bl _))⟩
  · cases h2
def intD : List PyData → Option PyData
  | [.int i] => some (.int i)
  | [.bool b] => some (.int (if b then 1 else 0))
  | _ => none
theorem hc_int : CallR X (.type "int") (rC X.K intD) := callr_of call_int1 fun xs H Q ds z h1 h2 h3 => by
  unfold intD at h2
  split at h2
  · cases h2
    obtain ⟨x, rfl, k⟩ := tk1 h1
    exact .inl ⟨_, by rw [k.int], .inl (h3.val (.int _))⟩
  · cases h2
    obtain ⟨x, rfl, k⟩ := tk1 h1
    exact .inr ⟨_, by rw [k.bool], .inl (h3.val (.int _))⟩
  · cases h2
def absD : List PyData → Option PyData
  | [.int i] => some (.int (if i < 0 then -i else i))
  | _ => none
theorem hc_abs : CallR X (.builtin "abs") (rC X.K absD) := callr_of call_abs fun xs H Q ds z h1 h2 h3 => by
  unfold absD at h2
  split at h2
  · cases h2
    obtain ⟨x, rfl, k⟩ := tk1 h1
    exact ⟨_, by rw [k.int], .inl (h3.val (.int _))⟩
  · cases h2
def intsOf : List PyData → Option (List Int)
  | [] => some []
  | .int b :: r => (intsOf r).map fun l => b :: l
  | _ => none
theorem ints_of {K : PySem.W.Frag} {H : Hp} : ∀ {ds : List PyData} {vs : List V} {bs : List Int}, DzA K H vs ds → intsOf ds = some bs → vs = bs.map V.int
  | [], _, bs, h, k => by
    unfold intsOf at k
    cases k
    cases h
    rfl
  | .int b :: r, _, bs, h, k => by
    unfold intsOf at k
    cases q : intsOf r with
    | none => rw [q] at k; cases k
    | some l =>
      rw [q] at k
      cases k
      cases h with
      | cons h1 h2 =>
        cases h1
        rw [ints_of h2 q]
        rfl
  | .none :: _, _, _, _, k => by simp [intsOf] at k
  | .bool _ :: _, _, _, _, k => by simp [intsOf] at k
  | .str _ :: _, _, _, _, k => by simp [intsOf] at k
  | .list _ :: _, _, _, _, k => by simp [intsOf] at k
  | .tuple _ :: _, _, _, _, k => by simp [intsOf] at k
  | .dict _ :: _, _, _, _, k => by simp [intsOf] at k
def sumD : List PyData → Option PyData
  | [.list ds] => (intsOf ds).map fun ns => .int ns.sum
  | _ => none
theorem hc_sum (hc : X.calm = true) : CallR X (.builtin "sum") (rC X.K sumD) := callr_of (cr_sum hc) fun xs H Q ds z h1 h2 h3 => by
  unfold sumD at h2
  split at h2
  · rename_i ds
    cases q : intsOf ds with
    | none => rw [q] at h2; cases h2
    | some bs =>
      rw [q] at h2
      cases h2
      obtain ⟨x, rfl, k⟩ := tk1 h1
      obtain ⟨a, ws, rfl, g1, g2, g3⟩ := k.lst
      have e := ints_of g3 q
      subst e
      exact ⟨a, bs, rfl, sql_of g1, .inl (h3.val (.int _))⟩
  · cases h2
/-- the greatest, the least of ints -/
def gr (i j : Int) : Int := if j > i then j else i
def le1 (i j : Int) : Int := if j < i then j else i
def maxD : List PyData → Option PyData
  | [.int i, .int j] => some (.int (gr i j))
  | [.list ds] => match intsOf ds with
    | some (n :: ns) => some (.int (ns.foldl gr n))
    | _ => none
  | _ => none
def minD : List PyData → Option PyData
  | [.int i, .int j] => some (.int (le1 i j))
  | [.list ds] => match intsOf ds with
    | some (n :: ns) => some (.int (ns.foldl le1 n))
    | _ => none
  | _ => none
theorem fold_gr : ∀ (ns : List Int) (n m : Int), m ∈ n :: ns → (∀ k, k ∈ n :: ns → k ≤ m) → ns.foldl gr n = m
  | [], n, m, h, _ => (List.mem_singleton.mp h).symm
  | k :: ns, n, m, h, g => by
    have h1 := g n List.mem_cons_self
    have h2 := g k (List.mem_cons_of_mem _ List.mem_cons_self)
    refine fold_gr ns (gr n k) m ?_ fun j hj => ?_
    · rcases List.mem_cons.mp
          h with e | h
      · subst e
        have : gr m k = m := by unfold gr; split <;> omega
        rw [this]
        exact List.mem_cons_self
      · rcases List.mem_cons.mp
            h with e | h
        · subst e
          have : gr n m = m := by unfold gr; split <;> omega
          rw [this]
          exact List.mem_cons_self
        · exact List.mem_cons_of_mem _ h
    · rcases List.mem_cons.mp hj with e | hj
      · subst e
        unfold gr
        split <;> assumption
      · exact g j (List.mem_cons_of_mem _ (List.mem_cons_of_mem _ hj))
theorem fold_le : ∀ (ns : List Int) (n m : Int), m ∈ n :: ns → (∀ k, k ∈ n :: ns → m ≤ k) → ns.foldl le1 n = m
  | [], n, m, h, _ => (List.mem_singleton.mp h).symm
  | k :: ns, n, m, h, g => by
    have h1 := g n List.mem_cons_self
    have h2 := g k (List.mem_cons_of_mem _ List.mem_cons_self)
    refine fold_le ns (le1 n k) m ?_ fun j hj => ?_
    · rcases List.mem_cons.mp
          h with e | h
      · subst e
        have : le1 m k = m := by unfold le1; split <;> omega
        rw [this]
        exact List.mem_cons_self
      · rcases List.mem_cons.mp
            h with e | h
        · subst e
          have : le1 n m = m := by unfold le1; split <;> omega
          rw [this]
          exact List.mem_cons_self
        · exact List.mem_cons_of_mem _ h
    · rcases List.mem_cons.mp hj with e | hj
      · subst e
        unfold le1
        split <;> assumption
      · exact g j (List.mem_cons_of_mem _ (List.mem_cons_of_mem _ hj))
theorem hc_max (hc : X.calm = true) : CallR X (.builtin "max") (rC X.K maxD) := callr_of ((call_max2 hc).or (cr_max hc)) fun xs H Q ds z h1 h2 h3 => by
  unfold maxD at h2
  split at h2
  · cases h2
    obtain ⟨x, y, rfl, k1, k2⟩ := tk2 h1
    exact .inl ⟨_, _, by rw [k1.int, k2.int], .inl (h3.val (.int _))⟩
  · rename_i ds
    split at h2
    · rename_i n ns q
      cases h2
      obtain ⟨x, rfl, k⟩ := tk1 h1
      obtain ⟨a, ws, rfl, g1, g2, g3⟩ := k.lst
      have e := ints_of g3 q
      subst e
      refine .inr ⟨a, n :: ns, rfl, sql_of g1, Nat.succ_pos _, fun m hm hle => ?_⟩
      rw [fold_gr ns n m hm hle] at h3
      exact .inl (h3.val (.int _))
    · cases h2
  · cases h2
theorem hc_min (hc : X.calm = true) : CallR X (.builtin "min") (rC X.K minD) := callr_of ((call_min2 hc).or (cr_min hc)) fun xs H Q ds z h1 h2 h3 => by
  unfold minD at h2
  split at h2
  · cases h2
    obtain ⟨x, y, rfl, k1, k2⟩ := tk2 h1
    exact .inl ⟨_, _, by rw [k1.int, k2.int], .inl (h3.val (.int _))⟩
  · rename_i ds
    split at h2
    · rename_i n ns q
      cases h2
      obtain ⟨x, rfl, k⟩ := tk1 h1
      obtain ⟨a, ws, rfl, g1, g2, g3⟩ := k.lst
      have e := ints_of g3 q
      subst e
      refine .inr ⟨a, n :: ns, rfl, sql_of g1, Nat.succ_pos _, fun m hm hle => ?_⟩
      rw [fold_le ns n m hm hle] at h3
      exact .inl (h3.val (.int _))
    · cases h2
  · cases h2
def strD : List PyData → Option PyData
  | [.int i] => if i.natAbs.log2 < 1920 then some (.str (toString i)) else none
  | _ => none
theorem hc_str : CallR X (.type "str") (rC X.K strD) := callr_of call_str_int fun xs H Q ds z h1 h2 h3 => by
  unfold strD at h2
  split at h2
  · split at h2
    · cases h2
      obtain ⟨x, rfl, k⟩ := tk1 h1
      exact ⟨_, by rw [k.int], by assumption, .inl (h3.val (.str _))⟩
    · cases h2
  · cases h2
def tupD : List PyData → Option PyData
  | [.list ds] => some (.tuple ds)
  | [.tuple ds] => some (.tuple ds)
  | _ => none
theorem hc_tup : CallR X (.type "tuple") (rC X.K tupD) := callr_of call_tuple_of fun xs H Q ds z h1 h2 h3 => by
  unfold tupD at h2
  split at h2
  · cases h2
    obtain ⟨x, rfl, k⟩ := tk1 h1
    obtain ⟨a, ws, rfl, g1, g2, g3⟩ := k.lst
    exact ⟨a, ws, rfl, .inl ⟨sql_of g1, fun l hl => .inl (h3.tup hl g2 g3)⟩⟩
  · cases h2
    obtain ⟨x, rfl, k⟩ := tk1 h1
    obtain ⟨a, ws, rfl, g1, g2, g3⟩ := k.tup
    exact ⟨a, ws, rfl, .inr ⟨g1, .inl (h3.val (.tup g1 g2 g3))⟩⟩
  · cases h2
def listD : List PyData → Option (List PyData)
  | [.list ds] => some ds
  | [.tuple ds] => some ds
  | _ => none
theorem hc_list : CallR X (.type "list") (rCO X.K listD) := by
  intro pins s σ H xs us Q I r ⟨ds, z, h1, h2, h3⟩
  refine call_list_of pins s σ H xs us Q I r ?_
  unfold listD at h2
  split at h2
  · cases h2
    obtain ⟨x, rfl, k⟩ := tk1 h1
    obtain ⟨a, ws, rfl, g1, g2, g3⟩ := k.lst
    exact ⟨a, ws, rfl, .inl (sql_of g1), fun l hl => h3 l ws hl g2 g3⟩
  · cases h2
    obtain ⟨x, rfl, k⟩ := tk1 h1
    obtain ⟨a, ws, rfl, g1, g2, g3⟩ := k.tup
    exact ⟨a, ws, rfl, .inr g1, fun l hl => h3 l ws hl g2 g3⟩
  · cases h2
end

/-! ### isinstance -/
inductive Ty where
  | int | bool | str | tuple | list
def Ty.name : Ty → String
  | .int => "int" | .bool => "bool" | .str => "str" | .tuple => "tuple" | .list => "list"
inductive Kd where
  | non | bl | int | str | lst | tup | dct
def Kd.name : Kd → String
  | .non => "NoneType" | .bl => "bool" | .int => "int" | .str => "str" | .lst => "list" | .tup => "tuple" | .dct => "dict"
def kd : PyData → Kd
  | .none => .non
  | .bool _ => .bl
  | .int _ => .int
  | .str _ => .str
  | .list _ => .lst
  | .tuple _ => .tup
  | .dict _ => .dct
def isK : Ty → Kd → Bool
  | .int, .int => true
  | .int, .bl => true
  | .bool, .bl => true
  | .str, .str => true
  | .tuple, .tup => true
  | .list, .lst => true
  | _, _ => false
abbrev isTy (n : Ty) (d : PyData) : Bool := isK n (kd d)
abbrev tyName (d : PyData) : String := (kd d).name
theorem kit_table (n : Ty) (k : Kd) : kitB k.name n.name = some (isK n k) := by
  cases n <;> cases k <;> decide +kernel
theorem Tk.tyx {K : PySem.W.Frag} {H : Hp} {x : V} {d : PyData} (h : Tk K H x d) : TyX K H x (.type (tyName d)) := by
  rcases h with h | ⟨a, vs, ds, rfl, rfl, h1, h2, h3⟩
  · cases h with
    | non => exact .base .non
    | bl b => exact .base (.bl b)
    | int i => exact .base (.int i)
    | str z => exact .base (.str z)
    | lst h1 h2 h3 =>
      obtain ⟨o, h1⟩ := h1
      exact .base (.frz h1)
    | tup h1 h2 h3 =>
      rcases h1 with (h1 | ⟨o, h1⟩) | ⟨o, its, n, h1, h4, _⟩
      · exact .base (.tup h1)
      · exact .fTuple h1
      · exact .kTuple h1 h4
  · exact .base (.lst h1)
theorem kit_is (K : PySem.W.Frag) (n : Ty) {d : PyData} (hd : ∀ k, d ≠ .dict k) : PySem.W.kitOne K (.type (tyName d)) (.type n.name) = some (isTy n d) := kit_ty (kit_table n (kd d))
theorem Tk.nodict {K : PySem.W.Frag} {H : Hp} {x : V} {d : PyData} (h : Tk K H x d) : ∀ k, d ≠ .dict k := fun k z => by
  subst z
  rcases h with h | ⟨a, vs, ds, _, e, _⟩
  · cases h
  · cases e
def eIsi (ns : List Ty) (f : M Opd) : M PyData := M.bind f fun t e => match t.get e with
  | some d => .ok (.bool (ns.any fun n => isTy n d)) e
  | none => .bad
section
variable {X : Cx} {W : WX} {a : Expr} {x : Str} {p p1 p2 p3 pos : Pos} {f : M Opd} {n m : Ty}
theorem de_isi (ha : DT X W a f) (hg : Gl X "isinstance") (hm : X.mg "isinstance" = none) (hg1 : Gl X (Str.ofString n.name)) (hm1 : X.mg (Str.ofString n.name) = none) (hv : bootBuiltins (Str.ofString n.name) = some (.type n.name)) (hn : Str.ofString n.name ≠ "__name__") (hdb : (Str.ofString n.name == ("__debug__" : Str)) = false) (hs : notStar a = true) :
    DE X W (.Call (.Name "isinstance" p) [a, .Name (Str.ofString n.name) p1] [] pos) (eIsi [n] f) :=
  (pe_callB call_isi hg hm boot_isinstance (pa_cons ha (pa_cons (pe_bltn (v := .ty n.name) hg1 hm1 hv rfl hn hdb) pa_nil) (star_one a _ X.env hs)) (by decide) (by decide) (star_one a _ X.env hs) (by rfl)).imp fun σ H Q ⟨Γ, e, R, p⟩ => ⟨Γ, e, R, post.step p fun v H1 t e1 ⟨R1, h1⟩ _ q => by
    split at q
    · rename_i d g
      have k := R1.tk h1 g
      refine ⟨v, .ty n.name, _, _, isTy n d, rfl, .ty _, k.tyx, kit_is X.K n k.nodict, ?_⟩
      have q := q.ok (v := .bl _) ⟨R1, .bl _⟩
      simpa using q
    · exact q.elim⟩
theorem kit_any2 (K : PySem.W.Frag) (n m : Ty) {d : PyData} (hd : ∀ k, d ≠ .dict k) : PySem.W.kitAny K (.type (tyName d)) [.type n.name, .type m.name] = some (isTy n d || isTy m d) := by
  refine kitAny_cons (kit_is K n hd) (fun h => ?_) fun h => by rw [h]; rfl
  refine kitAny_cons (kit_is K m hd) (fun h2 => ?_) fun h2 => by rw [h2, h]; rfl
  rw [h, h2]
  exact kitAny_nil
theorem de_isi2 (ha : DT X W a f) (hg : Gl X "isinstance") (hm : X.mg "isinstance" = none) (hg1 : Gl X (Str.ofString n.name)) (hm1 : X.mg (Str.ofString n.name) = none) (hv : bootBuiltins (Str.ofString n.name) = some (.type n.name)) (hn : Str.ofString n.name ≠ "__name__") (hdb : (Str.ofString n.name == ("__debug__" : Str)) = false)
    (hg2 : Gl X (Str.ofString m.name)) (hm2 : X.mg (Str.ofString m.name) = none) (hv2 : bootBuiltins (Str.ofString m.name) = some (.type m.name)) (hn2 : Str.ofString m.name ≠ "__name__") (hdb2 : (Str.ofString m.name == ("__debug__" : Str)) = false) (hs : notStar a = true) {k : Nat} :
    DE X W (.Call (.Name "isinstance" p) [a, .Tuple [.Name (Str.ofString n.name) p1, .Name (Str.ofString m.name) p2] k p3] [] pos) (eIsi [n, m] f) :=
  (pe_callB call_isiT hg hm boot_isinstance (pa_cons ha (pa_cons (pe_tup (pa_cons (pe_bltn (v := .ty n.name) hg1 hm1 hv rfl hn hdb) (pa_cons (pe_bltn (v := .ty m.name) hg2 hm2 hv2 rfl hn2 hdb2) pa_nil))) pa_nil) (star_one a _ X.env hs)) (by decide) (by decide) (star_one a _ X.env hs) (by rfl)).imp fun σ H Q ⟨Γ, e, R, p⟩ => ⟨Γ, e, R, post.step p fun v H1 t e1 ⟨R1, h1⟩ _ q => by
    split at q
    · rename_i d g
      have kk := R1.tk h1 g
      refine ⟨show 2 ≤ sizeLine by decide, fun tp htp => ?_⟩
      have sm := same_new (o := .tup [.ty n.name, .ty m.name]) htp
      have k2 : Tk X.K (upd H1 tp (.tup [.ty n.name, .ty m.name])) v d := by
        rcases kk with h | ⟨a, vs, ds, e1, e2, h1, h2, h3⟩
        · exact .inl (Dz.mono (fz_same sm) _ _ h)
        · exact .inr ⟨a, vs, ds, e1, e2, sm _ _ h1, h2, DzA.mono (fz_same sm) _ _ h3⟩
      refine ⟨v, tp, _, _, _, isTy n d || isTy m d, rfl, upd_same, .cons (.ty _) (.cons (.ty _) .nil), k2.tyx, kit_any2 X.K n m kk.nodict, ?_⟩
      have q := q (.bl _) _ ⟨R1.same sm, .bl _⟩ (fz_same sm)
      simpa using q
    · exact q.elim⟩
end
end PF
/-! F13: lists that change: methods, stores; more of texts and slices. -/
namespace PF
open PySem PySem.Spec L2
open PyProof.Rows hiding St

/-- a method of a slot's own list: what it gives, the list behind it -/
abbrev LOp := List PyData → List PyData → Option (PyData × List PyData)
def MtO (X : Cx) (id : String) (op : LOp) : Prop := ∃ r, MtR X id r ∧ ∀ (l : Addr) (vs xs : List V) (ds as : List PyData) (z : PyData) (ds' : List PyData) (H : Hp) (Q : VK), H l = some (.lst vs) → vs.length ≤ sizeLine → DzA X.K H vs ds → DzA X.K H xs as → op ds as = some (z, ds') →
  (∀ w vs', vs'.length ≤ sizeLine → DzA X.K H vs' ds' → Dz X.K H w z → Q w (upd H l (.lst vs'))) → r (.ref l) xs H Q
def methStep (i : Nat) (op : LOp) (as : List PyData) : M PyData := fun e1 => match ownOf e1[i]? with
  | some ds => (match op ds as with
    | some (r, ds') => .ok r (putOwn e1 i ds')
    | none => .bad)
  | none => .bad
def eMethO (i : Nat) (op : LOp) (fs : M (List PyData)) : M PyData := fun e => if (ownOf e[i]?).isSome then M.bind fs (methStep i op) e else .bad
section
variable {X : Cx} {W : WX} {o a : Expr} {es : List Expr} {name : Str} {apos cpos : Pos} {id : String} {op : LOp} {i : Nat} {fs : M (List PyData)}
theorem methO_step {K : PySem.W.Frag} {mg : Str → Option Value} {Γ : Gx} {σ : St} {H : Hp} {e1 : Env} {as : List PyData} {Q : VK} {v : V} (R : Rep K Γ H σ e1) (hv : σ[i]? = some (some v))
    (q : post RlD K mg W Γ σ H (methStep i op as e1) Q) :
    ∃ l vs ds z ds', v = .ref l ∧ H l = some (.lst vs) ∧ vs.length ≤ sizeLine ∧ DzA K H vs ds ∧ op ds as = some (z, ds') ∧ ∀ w vs', vs'.length ≤ sizeLine → DzA K H vs' ds' → Dz K H w z → Q w (upd H l (.lst vs')) := by
  obtain ⟨g, R⟩ := R
  unfold methStep at q
  split at q
  · rename_i ds hd
    obtain ⟨l, vs, o1, o2, o3, o4, o5⟩ := R.ownAt hd
    rw [hv] at o1
    cases o1
    split at q
    · rename_i z ds' ho
      refine ⟨l, vs, ds, z, ds', rfl, o3, o4, o5, ho, fun w vs' h1 h2 h3 => ?_⟩
      have f := fz_lst (o := .lst vs') o3
      exact q w _ ⟨⟨g, R.put hd hv o2 o3 h1 h2⟩, Dz.mono f _ _ h3⟩ f
    · exact q.elim
  · exact q.elim
theorem methO_ty {K : PySem.W.Frag} {Γ : Gx} {σ : St} {H : Hp} {e : Env} (R : Rep K Γ H σ e) (h : (ownOf e[i]?).isSome) : ∃ v, σ[i]? = some (some v) ∧ tyV K "list" v H := by
  obtain ⟨g, R⟩ := R
  obtain ⟨ds, hd⟩ := Option.isSome_iff_exists.mp h
  obtain ⟨l, vs, o1, o2, o3, o4, o5⟩ := R.ownAt hd
  exact ⟨.ref l, o1, .inl ⟨rfl, vs, .inl (.inl o3)⟩⟩
theorem de_methO (slot : Slot "list" name id) (hty : typeOf (.builtin id) = pure (.type "method_descriptor")) (hm : MtO X id op) (ho : PE X o (tVar i)) (ha : DDs X W (a :: es) fs)
    (hbase : attributeBase o name X.env (eval o X.env) = eval o X.env)
    (hfew : ((backTo cpos (starEach (a :: es) X.env)).all (fun x => !x.1) && (backToKw cpos (keywordEach [] X.env)).all (fun x => x.1.isSome)
      && decide ((a :: es).length + ([] : List Keyword).length + (if ([] : List Keyword).isEmpty then 0 else 1) < 30)) = true)
    (hline : (apos.endLine == cpos.line) = true) (hs : notStar a = true) (hplain : (backTo cpos (starEach es X.env)).any (·.1) = false) :
    DE X W (.Call (.Attribute o name apos) (a :: es) [] cpos) (eMethO i op fs) := by
  obtain ⟨r, hr, hw⟩ := hm
  refine (pe_bm PySem.F.plainAttrs_list slot hty hr ho ha hbase hfew hline (star_one a es X.env hs) hplain).imp fun σ H Q ⟨Γ, e, R, p⟩ => ?_
  unfold eMethO at p
  split at p
  case isFalse => exact p.elim
  case isTrue hi =>
  obtain ⟨v, hv, ty⟩ := methO_ty R hi
  refine ⟨v, hv, ty, Γ, e, R, post.step p fun vs H1 as e1 ⟨R1, h1⟩ _ q => ?_⟩
  obtain ⟨l, ws, ds, z, ds', rfl, k1, k2, k3, k4, k5⟩ := methO_step R1 hv q
  exact hw l ws vs ds as z ds' H1 Q k1 k2 k3 h1 k4 k5
theorem de_methO0 (slot : Slot "list" name id) (hty : typeOf (.builtin id) = pure (.type "method_descriptor")) (hm : MtO X id op) (ho : PE X o (tVar i))
    (hbase : attributeBase o name X.env (eval o X.env) = eval o X.env) (hline : (apos.endLine == cpos.line) = true) : DE X W (.Call (.Attribute o name apos) [] [] cpos) (eMethO i op (M.pure [])) := by
  obtain ⟨r, hr, hw⟩ := hm
  refine (pe_bm0 PySem.F.plainAttrs_list slot hty hr ho hbase hline).imp fun σ H Q ⟨Γ, e, R, p⟩ => ?_
  unfold eMethO at p
  split at p
  case isFalse => exact p.elim
  case isTrue hi =>
  obtain ⟨v, hv, ty⟩ := methO_ty R hi
  obtain ⟨l, ws, ds, z, ds', rfl, k1, k2, k3, k4, k5⟩ := methO_step R hv p
  exact ⟨_, hv, ty, hw l ws [] ds [] z ds' H Q k1 k2 k3 .nil k4 k5⟩
def appendO : LOp := fun ds as => match as with
  | [d] => if ds.length < sizeLine then some (.none, ds ++ [d]) else none
  | _ => none
theorem hm_append : MtO X "list.append" appendO := ⟨rAppend, mt_append, fun l vs xs ds as z ds' H Q h1 h2 h3 h4 h5 h6 => by
  unfold appendO at h5
  split at h5
  · rename_i d
    split at h5
    · cases h5
      cases h4 with
      | cons k1 k2 =>
        cases k2
        have e := h3.length
        exact ⟨l, vs, _, rfl, rfl, h1, by omega, h6 .non _ (by rw [List.length_append]; show vs.length + 1 ≤ sizeLine; omega) (h3.append (.one k1)) .non⟩
    · cases h5
  · cases h5⟩
theorem DzA.eraseIdx {K : PySem.W.Frag} {H : Hp} : ∀ (n : Nat) {ds : List PyData} {vs : List V}, DzA K H vs ds → DzA K H (vs.eraseIdx n) (ds.eraseIdx n)
  | n, [], _, h => by cases h; exact .nil
  | 0, d :: ds, _, h => by
    cases h with
    | cons h1 h2 => exact h2
  | n + 1, d :: ds, _, h => by
    cases h with
    | cons h1 h2 => exact .cons h1 (DzA.eraseIdx n h2)
/-- pop(k), k from 0 on -/
def popO : LOp := fun ds as => match as with
  | [.int k] => if 0 ≤ k ∧ k.toNat < ds.length then ds[k.toNat]?.map fun d => (d, ds.eraseIdx k.toNat) else none
  | _ => none
theorem hm_pop : MtO X "list.pop" popO := ⟨rPopAt, mt_popAt, fun l vs xs ds as z ds' H Q h1 h2 h3 h4 h5 h6 => by
  unfold popO at h5
  split at h5
  · rename_i k
    split at h5
    · rename_i hk
      cases q : ds[k.toNat]? with
      | none => rw [q] at h5; cases h5
      | some d =>
        rw [q] at h5
        cases h5
        cases h4 with
        | cons k1 k2 =>
          cases k2
          cases k1
          obtain ⟨v, e1, e2⟩ := h3.get q
          have e := h3.length
          have e63 := sizeLine_eq
          refine ⟨l, vs, k, k.toNat, v, rfl, rfl, h1, by omega, by omega, ?_, e1, h6 v _ ?_ (h3.eraseIdx _) e2⟩
          · exact (ixN_seq (n := vs.length) (i := k) (j := k.toNat) (by unfold ixN; rw [if_pos hk.1, if_pos (by omega)])).1
          · rw [List.length_eraseIdx]
            split <;> omega
    · cases h5
  · cases h5⟩
def pop0O : LOp := fun ds as => match as with
  | [] => ds[ds.length - 1]?.map fun d => (d, ds.dropLast)
  | _ => none
theorem DzA.dropLast {K : PySem.W.Frag} {H : Hp} {ds : List PyData} {vs : List V} (h : DzA K H vs ds) : DzA K H vs.dropLast ds.dropLast := by
  rw [List.dropLast_eq_take, List.dropLast_eq_take, h.length]
  exact h.take _
theorem hm_pop0 : MtO X "list.pop" pop0O := ⟨rPop, mt_pop, fun l vs xs ds as z ds' H Q h1 h2 h3 h4 h5 h6 => by
  unfold pop0O at h5
  split at h5
  · cases q : ds[ds.length - 1]? with
    | none => rw [q] at h5; cases h5
    | some d =>
      rw [q] at h5
      cases h5
      cases h4
      obtain ⟨v, e1, e2⟩ := h3.get q
      have e := h3.length
      exact ⟨l, vs, v, rfl, rfl, h1, by rw [e]; exact e1, h6 v _ (by rw [List.length_dropLast]; omega) h3.dropLast e2⟩
  · cases h5⟩
def insertO : LOp := fun ds as => match as with
  | [.int k, d] => if 0 ≤ k ∧ k.toNat ≤ ds.length ∧ ds.length < sizeLine then some (.none, ds.take k.toNat ++ [d] ++ ds.drop k.toNat) else none
  | _ => none
theorem hm_insert : MtO X "list.insert" insertO := ⟨_, mt_insert, fun l vs xs ds as z ds' H Q h1 h2 h3 h4 h5 h6 => by
  unfold insertO at h5
  split at h5
  · rename_i k d
    split at h5
    · rename_i hk
      cases h5
      cases h4 with
      | cons k1 k2 =>
        cases k2 with
        | cons k2 k3 =>
          cases k3
          cases k1
          have e := h3.length
          have sl := sizeLine_eq
          refine ⟨l, vs, k, _, rfl, rfl, h1, by omega, hk.1, by omega, h6 .non _ ?_ (((h3.take _).append (.one k2)).append (h3.drop _)) .non⟩
          rw [List.length_append, List.length_append, List.length_take, List.length_drop, List.length_singleton]
          omega
    · cases h5
  · cases h5⟩
end

/-! ### xs[i] = e -/
def putStep (i : Nat) (d k : PyData) : B := fun e => match k with
  | .int k => (match ownOf e[i]? with
    | some ds => (match ixN ds.length k with
      | some j => .nx (putOwn e i (ds.set j d))
      | none => .bad)
    | none => .bad)
  | _ => .bad
def sPut (i : Nat) (f g : M PyData) : B := sBind f fun d e => if (ownOf e[i]?).isSome then sBind g (putStep i d) e else .bad
section
variable {X : Cx} {W : WX} {o a b : Expr} {pos pos' : Pos} {i : Nat} {f g : M PyData}
theorem ds_put (he : DE X W a f) (ho : PE X o (tVar i)) (hi : DE X W b g) (hp : ∀ te ti, PE X a te → PE X b ti → PS X (.Assign [.Subscript o b pos'] a pos) (tAsg te (gSub (tVar i) ti rSetL))) : DS X W (.Assign [.Subscript o b pos'] a pos) (sPut i f g) :=
  (hp _ _ he hi).imp fun D σ H ⟨Γ, e, R, p⟩ => ⟨Γ, e, R, postS.step p fun v H1 d e1 ⟨R1, h1⟩ _ q => by
    split at q
    case isFalse => exact q.elim
    case isTrue hs =>
    obtain ⟨w, hw, _⟩ := methO_ty R1 hs
    refine ⟨w, hw, Γ, e1, R1, postS.step q fun y H3 k e3 ⟨R3, h3⟩ fz3 q3 => ?_⟩
    cases k with
    | int k =>
      cases h3
      unfold putStep at q3
      dsimp only at q3
      split at q3
      · rename_i ds hd
        split at q3
        · rename_i j hj
          obtain ⟨gg, R3⟩ := R3
          obtain ⟨l, vs, o1, o2, o3, o4, o5⟩ := R3.ownAt hd
          rw [hw] at o1
          cases o1
          have f3 := fz_lst (o := .lst (vs.set j v)) o3
          refine ⟨l, vs, k, j, rfl, rfl, o3, by rw [o5.length]; exact hj, q3 _ _ ⟨gg, R3.put hd hw o2 o3 (by rw [List.length_set]; exact o4) (DzA.set (Dz.mono fz3 _ _ h1) j o5)⟩ f3⟩
        · exact q3.elim
      · exact q3.elim
    | _ => exact q3.elim⟩
end
end PF
/-! F14: truth values as numbers; texts times a number; upper; str of a truth value. -/
namespace PF
open PySem PySem.Spec L2
open PyProof.Rows hiding St

section
variable {M : Model} {A : Around} {E
      : Value → Shared → Prop} {s : Shared}
theorem binop_low {a b : Value} {T U idl : String} {op : Operator} {Q : Value → Shared → Prop} (hTU : T ≠ U) (ha : s.TypeIs a T) (hb : s.TypeIs b U)
    (hfT : fillsNumberSlot (.type T) op.info.2 = pure true) (hfU : fillsNumberSlot (.type U) op.info.2 = pure true) (hsub : isSubtype (.type U) (.type T) = pure false) (hl : Slot T (dunder op.info.2) idl)
    (hc : wpAny M A (call (.builtin idl) [a, b]) (fun v s1 => v ≠ .notImplemented ∧ Q v s1) E s) : wpAny M A (binaryOp op a b) Q E s := by
  rcases hi : op.info with ⟨sym,
        nm⟩
  rw [hi] at hfT hfU hl
  simp only [binaryOp, hi]
  refine wpAny_holding ?_
  refine wpAny_bind ?_
  simp only [binaryOp1]
  refine wpAny_bind (wpAny_typeOf ha (wpAny_bind
        (wpAny_typeOf hb (wpAny_bind (wpAny_of_eq hfT ?_)))))
  have hne : (Value.type T == Value.type
        U) = false := by simpa using hTU
  simp only [hne,
        Bool.false_eq_true, if_false]
  refine wpAny_bind (wpAny_of_eq
        hfU ?_)
  simp only [Bool.and_self,
        if_true]
  refine wpAny_bind (wpAny_of_eq
        hsub ?_)
  have hpy : numberSlotInPython (.type
        T) nm = pure false := rfl
  simp only [Bool.false_eq_true, if_false, pure_bind,
        Bool.not_false, Bool.and_self, if_true, hpy]
  simp only [tryMethod]
  refine wpAny_bind (wpAny_bind (wpAny_callSpecial?_slot ha hl (wpAny_mono hc (fun v s1 h1 => ?_) fun _ _ x => x)))
  obtain ⟨hv, hq⟩ := h1
  cases v <;> first | exact absurd rfl hv | exact wpAny_pure (wpAny_pure (wpAny_pure hq))
end
section
variable {prog : Program} {w : World} {A : Around} {E : Value → Shared → Prop} {s : Shared} {a : Int} {t : Tok} {b c : Bool} {Q : Value → Shared → Prop}
theorem sub_no : isSubtype (.type "int") (.type "bool") = pure false := by kernel_rfl
theorem bool_add_int (h : Q (.int ((if b = true then (1 : Int) else 0) + a) s.toks) { s with toks := s.toks + 1 }) : wpAny (model prog w) A (binaryOp .Add (.bool b) (.int a t)) Q E s :=
  binop_low (op := .Add) (T := "bool") (U := "int") (by decide) rfl (typeIs_int s a t) F.fills_bool_add F.fills_int_add sub_no F.slot_bool_add
    (call_gives F.slot_bool_add rfl F.entry_int_add (F.args_int_add_2 _ _) (m := .int ((if b = true then (1 : Int) else 0) + a)) (.of_eq (by cases b <;> rfl)) ⟨by simp, h⟩)
theorem bool_sub_int (h : Q (.int ((if b = true then (1 : Int) else 0) - a) s.toks) { s with toks := s.toks + 1 }) : wpAny (model prog w) A (binaryOp .Sub (.bool b) (.int a t)) Q E s :=
  binop_low (op := .Sub) (T := "bool") (U := "int") (by decide) rfl (typeIs_int s a t) F.fills_bool_sub F.fills_int_sub sub_no F.slot_bool_sub
    (call_gives F.slot_bool_sub rfl F.entry_int_sub (F.args_int_sub_2 _ _) (m := .int ((if b = true then (1 : Int) else 0) - a)) (.of_eq (by cases b <;> rfl)) ⟨by simp, h⟩)
theorem refl_sub : reflectedDiffers (.type "int") (.type "bool") "sub" = pure false := by
  unfold reflectedDiffers
  show (typeLookup (.type "bool") (dunderR "sub") >>= fun rb => typeLookup (.type
        "int") (dunderR "sub") >>= fun ra => pure (rb.isSome && rb != ra)) = pure false
  rw [typeLookup_type, typeLookup_type, builtinLookup_eq_fast]
  kernel_rfl
theorem int_sub_bool (h : Q (.int (a - if b = true then (1 : Int) else 0) s.toks) { s with toks := s.toks + 1 }) : wpAny (model prog w) A (binaryOp .Sub (.int a t) (.bool b)) Q E s :=
  binaryOp_sub_gives (op := .Sub) (T := "int") (U := "bool") (by decide) (typeIs_int s a t) rfl F.fills_int_sub F.fills_bool_sub isSubtype_bool_int refl_sub F.slot_int_sub F.entry_int_sub (F.args_int_sub_2 _ _)
    (AutoIntG7.int___sub___int_bool_0
          a t b) trivial h
end
def b2i (b : Bool) : Int := if b = true then 1 else 0
/-- + and - of ints and truth values -/
def addB : PyData → PyData → Option PyData
  | .bool b, .int j => some (.int (b2i b + j))
  | d, e => addD d e
def subB : PyData → PyData → Option PyData
  | .bool b, .int j => some (.int (b2i b - j))
  | .int i, .bool b => some (.int (i - b2i b))
  | d, e => subD d e
section
variable {X : Cx}
theorem op_addB : OpR X (binaryOp .Add) (fun x y H Q => ∃ b j, x = .bl b ∧ y = .int j ∧ Q (.int (b2i b + j)) H) := by
  intro pins s σ H x y v u Q I rx ry ⟨b, j, h1, h2, q⟩
  subst h1 h2
  cases rx
  obtain ⟨t, rfl⟩ := ry
  exact bool_add_int ⟨.int _, H, I.tok _, ⟨_, rfl⟩, q⟩
theorem op_subB : OpR X (binaryOp .Sub) (fun x y H Q => ∃ b j, x = .bl b ∧ y = .int j ∧ Q (.int (b2i b - j)) H) := by
  intro pins s σ H x y v u Q I rx ry ⟨b, j, h1, h2, q⟩
  subst h1 h2
  cases rx
  obtain ⟨t, rfl⟩ := ry
  exact bool_sub_int ⟨.int _, H, I.tok _, ⟨_, rfl⟩, q⟩
theorem op_subI : OpR X (binaryOp .Sub) (fun x y H Q => ∃ b j, x = .int j ∧ y = .bl b ∧ Q (.int (j - b2i b)) H) := by
  intro pins s σ H x y v u Q I rx ry ⟨b, j, h1, h2, q⟩
  subst h1 h2
  cases ry
  obtain ⟨t, rfl⟩ := rx
  exact int_sub_bool ⟨.int _, H, I.tok _, ⟨_, rfl⟩, q⟩
theorem rD_frz {f : Value → Value → PySem.Sem Value} {op : PyData → PyData → Option PyData} (h : OpR X f (rD X.K op)) : OpR X f (fun x y H Q => rD X.K op x y H (QF Q)) := fun pins s σ H x y v u Q I rx ry q => thn (h pins s σ H x y v u (QF Q) I rx ry q) fun _ _ z => ep_frz z
theorem ho_addB : OpR X (binaryOp .Add) (rD X.K addB) := by
  refine opr_of ((op_addB (X := X)).or ho_add) fun x y H Q d e z h1 h2 h3 h4 => ?_
  unfold addB at h3
  split at h3
  · cases h3
    exact .inl ⟨_, _, h1.bool, h2.int, .inl (h4.val (.int _))⟩
  · exact .inr ⟨_, _, z, h1, h2, h3, fun v H' sm dz => .inl (h4 v H' sm dz)⟩
theorem ho_subB : OpR X (binaryOp .Sub) (rD X.K subB) := by
  refine opr_of (((op_subB (X := X)).or op_subI).or ho_sub) fun x y H Q d e z h1 h2 h3 h4 => ?_
  unfold subB at h3
  split at h3
  · cases h3
    exact .inl (.inl ⟨_, _, h1.bool, h2.int, .inl (h4.val (.int _))⟩)
  · cases h3
    exact .inl (.inr ⟨_, _, h1.int, h2.bool, .inl (h4.val (.int _))⟩)
  · exact .inr ⟨_, _, z, h1, h2, h3, fun v H' sm dz => .inl (h4 v H' sm dz)⟩
theorem fold_size : ∀ (n : Nat) (a acc : Array Nat), ((List.replicate n a).foldl (· ++ ·) acc).size = acc.size + n * a.size
  | 0, a, acc => by simp
  | n + 1, a, acc => by
    rw [List.replicate_succ, List.foldl_cons, fold_size n a (acc ++ a), Array.size_append, Nat.succ_mul]
    omega
/-- a text times a number -/
def repS (z : Str) (n : Nat) : Str := ⟨(List.replicate n z.cps).foldl (· ++ ·) #[]⟩
theorem op_mulS : OpR X (binaryOp .Mult) (fun x y H Q => ∃ z j, x = .str z ∧ y = .int j ∧ 2 ≤ j ∧ j ≤ 1000 ∧ z.length ≠ 0 ∧ z.length ≤ 1000 ∧ Q (.str (repS z j.toNat)) H) := by
  intro pins s σ H x y v u Q I rx ry ⟨z, j, h1, h2, h3, h4, h5, h6, q⟩
  subst h1 h2
  obtain ⟨t, rfl⟩ := rx
  obtain ⟨u, rfl⟩ := ry
  have n1 : ¬ j < 1 := by omega
  have n2 : ((j == 1) || (z.length == 0)) = false := by
    rw [Bool.or_eq_false_iff]
    exact ⟨by simp; omega, by simp; exact h5⟩
  refine PySem.P.mul_str ?_ (fun _ _ => ?_) (fun _ _ => ?_) ?_
  · rw [decide_eq_false (by omega), decide_eq_false (by omega)]
    rfl
  · have : (z.length : Int) ≤ 1000 := by omega
    have h7 : (1000 : Int) ≤ (2 ^ 63 - 1) / j := by
      rw [Int.le_ediv_iff_mul_le (by omega)]
      omega
    omega
  · have := Nat.mul_le_mul h6 (show j.toNat ≤ 1000 by omega)
    unfold Builtin.Str.tooLong
    simp
    have e := sizeLine_eq
    omega
  · rw [if_neg n1, if_neg (by rw [n2]; exact Bool.false_ne_true)]
    refine ⟨?_, ?_⟩
    · have hs : (repS z j.toNat).length = j.toNat * z.length := by
        show ((List.replicate j.toNat z.cps).foldl (· ++ ·) #[]).size = _
        rw [fold_size]
        show 0 + j.toNat * z.length = _
        omega
      have := Nat.mul_le_mul (show j.toNat ≤ 1000 by omega) h6
      have e := sizeLine_eq
      show (repS z j.toNat).length ≤ sizeLine
      omega
    · exact ⟨.str _, H, I.tok _, ⟨_, rfl⟩, q⟩
def mulB : PyData → PyData → Option PyData
  | .str z, .int j => if 2 ≤ j ∧ j ≤ 1000 ∧ z.length ≠ 0 ∧ z.length ≤ 1000 then some (.str (repS z j.toNat)) else if z.length = 0 ∧ 2 ≤ j ∧ j ≤ 1000 then some (.str z) else none
  | d, e => mulD d e
theorem op_mulS0 : OpR X (binaryOp .Mult) (fun x y H Q => ∃ z j, x = .str z ∧ y = .int j ∧ 2 ≤ j ∧ j ≤ 1000 ∧ z.length = 0 ∧ Q (.str z) H) := by
  intro pins s σ H x y v u Q I rx ry ⟨z, j, h1, h2, h3, h4, h5, q⟩
  subst h1 h2
  obtain ⟨t, rfl⟩ := rx
  obtain ⟨u, rfl⟩ := ry
  have n1 : ¬ j < 1 := by omega
  have n2 : ((j == 1) || (z.length == 0)) = true := by rw [h5]; simp
  refine PySem.P.mul_str ?_ (fun _ n => absurd n (by rw [n2]; exact fun z => nomatch z)) (fun _ n => absurd n (by rw [n2]; exact fun z => nomatch z)) ?_
  · rw [decide_eq_false (by omega), decide_eq_false (by omega)]
    rfl
  · rw [if_neg n1, if_pos n2]
    exact ⟨.str _, H, I, ⟨_, rfl⟩, q⟩
theorem ho_mulB : OpR X (binaryOp .Mult) (rD X.K mulB) := by
  refine opr_of (((op_mulS (X := X)).or op_mulS0).or ho_mul) fun x y H Q d e z h1 h2 h3 h4 => ?_
  unfold mulB at h3
  split at h3
  · split at h3
    · rename_i hb
      cases h3
      exact .inl (.inl ⟨_, _, h1.str, h2.int, hb.1, hb.2.1, hb.2.2.1, hb.2.2.2, .inl (h4.val (.str _))⟩)
    · split at h3
      · rename_i hb
        cases h3
        exact .inl (.inr ⟨_, _, h1.str, h2.int, hb.2.1, hb.2.2, hb.1, .inl (h4.val (.str _))⟩)
      · cases h3
  · exact .inr ⟨_, _, z, h1, h2, h3, fun v H' sm dz => .inl (h4 v H' sm dz)⟩
/-- str of an int, a truth value, a text -/
def strB : List PyData → Option PyData
  | [.int i] => if i.natAbs.log2 < 1920 then some (.str (toString i)) else none
  | [.bool b] => some (.str (if b then "True" else "False"))
  | [.str z] => some (.str z)
  | _ => none
theorem cr_strB : CallR X (.type "str") (fun xs H Q => ∃ b, xs = [.bl b] ∧ Q (.str (if b then "True" else "False")) H) := by
  intro pins s σ H xs us Q I r ⟨b, h1, q⟩
  subst h1
  cases r with
  | cons r t =>
    cases t
    cases r
    exact PySem.P.str_of_bool ⟨.str _, H, I.tok _, ⟨_, rfl⟩, q⟩
theorem cr_strS : CallR X (.type "str") (fun xs H Q => ∃ b, xs = [.str b] ∧ Q (.str b) H) := by
  intro pins s σ H xs us Q I r ⟨b, h1, q⟩
  subst h1
  cases r with
  | cons r t =>
    cases t
    obtain ⟨t, rfl⟩ := r
    exact PySem.P.str_of_str ⟨.str _, H, I, ⟨_, rfl⟩, q⟩
theorem hc_strB : CallR X (.type "str") (rC X.K strB) := callr_of (((call_str_int (X := X)).or cr_strB).or cr_strS) fun xs H Q ds z h1 h2 h3 => by
  unfold strB at h2
  split at h2
  · split at h2
    · rename_i hb
      cases h2
      obtain ⟨x, rfl, k⟩ := tk1 h1
      exact .inl (.inl ⟨_, by rw [k.int], hb, .inl (h3.val (.str _))⟩)
    · cases h2
  · cases h2
    obtain ⟨x, rfl, k⟩ := tk1 h1
    exact .inl (.inr ⟨_, by rw [k.bool], .inl (h3.val (.str _))⟩)
  · cases h2
    obtain ⟨x, rfl, k⟩ := tk1 h1
    exact .inr ⟨_, by rw [k.str], .inl (h3.val (.str _))⟩
  · cases h2
variable {W : WX} {o a : Expr} {es : List Expr} {name : Str} {apos cpos p1 p2 p3 pos : Pos}
/-- x.upper() -/
def eUpper (f : M PyData) : M PyData := M.bind f fun d e => match d with
  | .str z => if z.length ≤ 1000 then .ok (.str (Txt.upper z)) e else .bad
  | _ => .bad
theorem de_upper {f : M PyData} (h : DE X W o f) (hb : ∀ t, PE X o t → PE X (.Call (.Attribute o "upper" apos) [] [] pos) (tM0 (fun x xs H Q => ∃ a, x = .str a ∧ xs = [] ∧ a.length ≤ 5592405 ∧ Q (.str (Txt.upper a)) H) t)) :
    DE X W (.Call (.Attribute o "upper" apos) [] [] pos) (eUpper f) := (hb _ h).imp fun σ H Q ⟨Γ, e, R, p⟩ => ⟨Γ, e, R, post.step p fun v H1 d e1 ⟨R1, h1⟩ _ q => by
  cases d with
  | str z =>
    cases h1
    have q : post RlD X.K X.mg W Γ σ H1 (if z.length ≤ 1000 then .ok (.str (Txt.upper z)) e1 else .bad) Q := q
    split at q
    · rename_i hz
      exact ⟨⟨z, rfl⟩, z, rfl, rfl, by omega, show Q (.str (Txt.upper z)) H1 from q _ _ ⟨R1, .str _⟩ (FzLe.refl _)⟩
    · exact q.elim
  | _ => exact q.elim⟩
end
end PF
/-! F15: xs[::-1] of lists and tuples; calls without arguments; xs[a:c] = ys. -/
namespace PF
open PySem PySem.Spec L2
open PyProof.Rows hiding St

section
variable {prog : Program} {w : World} {A :
      Around} {E : Value → Shared → Prop} {s : Shared}
theorem adjust_back (n : Nat) : Builtin.Slice.sliceAdjust none none (-1) (n : Int) = ((n : Int) - 1, -1) := rfl
theorem places_back (n : Nat) : Builtin.Slice.slicePlaces ((n : Int) - 1) (-1) (-1) = n := by
  unfold
        Builtin.Slice.slicePlaces
  rw [if_neg (by decide)]
  split
  · rw [show (-(-1) : Int) = 1 by decide, Int.ediv_one]
    omega
  · omega
theorem fm_congr {α β : Type} {f g : α → Option β} : ∀ {l : List α}, (∀ x ∈ l, f x = g x) → l.filterMap f = l.filterMap g
  | [], _ => rfl
  | x :: l, h => by
    have r := fm_congr (l := l) fun y hy => h y (List.mem_cons_of_mem _ hy)
    rw [List.filterMap_cons, List.filterMap_cons, h x List.mem_cons_self, r]
theorem pick_back (xs : Array Value) : ((List.range xs.size).filterMap fun (m : Nat) => xs[((xs.size : Int) - 1 + (m : Int) * (-1)).toNat]?).toArray = xs.toList.reverse.toArray := by
  congr 1
  apply List.ext_getElem?
  intro i
  have e : (List.range xs.size).filterMap (fun (m : Nat) => xs[((xs.size : Int) - 1 + (m : Int) * (-1)).toNat]?) = (List.range xs.size).map fun m => xs.toList.reverse.getD m .none := by
    rw [← List.filterMap_eq_map]
    apply fm_congr
    intro m hm
    have hm := List.mem_range.mp hm
    have h1 : ((xs.size : Int) - 1 + (m : Int) * (-1)).toNat = xs.size - 1 - m := by omega
    rw [h1]
    have h2 : xs.size - 1 - m < xs.size := by omega
    rw [Array.getElem?_eq_getElem h2]
    show _ = some _
    congr 1
    show _ = xs.toList.reverse.getD m Value.none
    rw [List.getD_eq_getElem?_getD, List.getElem?_reverse (by simpa using hm)]
    simp [h2]
  rw [e, List.getElem?_map]
  by_cases hi : i < xs.size
  · rw [List.getElem?_range hi]
    show some (xs.toList.reverse.getD i Value.none) = _
    rw [List.getD_eq_getElem?_getD, List.getElem?_eq_getElem (by simpa using hi)]
    rfl
  · rw [List.getElem?_eq_none (by simpa using hi), List.getElem?_eq_none (by simpa using hi)]
    rfl
theorem getItem_tuple_back {t sl : Addr} {items : Array Value} {vk : Value} {Q : Value → Shared → Prop} (ht : IsTup s.heap t items) (hs : s.heap.IsSliceOf sl .none .none vk) (pk : IsPart vk (some (-1)))
    (h : Q (.ref s.heap.objs.size) { s with heap := s.heap.push { cls := .type "tuple", data := .seq items.toList.reverse.toArray } })
    (hsz : items.size ≤ sizeLine) : wpAny (model prog
          w) A (getItem (.ref t) (.ref sl)) Q E s := by
  have htake : sizeOk (.seq items.toList.reverse.toArray) := by
    show items.toList.reverse.toArray.size ≤ sizeLine
    simpa using hsz
  obtain ⟨os, hos,
        hcs, hds⟩ := id hs
  have hTs : s.TypeIs (.ref
        sl) "slice" := ⟨os, hos, hcs⟩
  unfold getItem
  try with_reducible
        refine wpAny_holding ?_
  first | refine wpAny_bind (wpAny_pure
        ?_) | skip
  refine wpAny_bind (wpAny_sequenceKey
        ht.typeIs (by decide) ?_)
  refine wpAny_bind (wpAny_callSpecial?_slot (name := Str.ofString
        "__getitem__") ht.typeIs PyProof.Rows.slot_tuple_getitem
    (wpAny_call_entry PyProof.Rows.slot_tuple_getitem
          ht.typeIs entry_tuple_getitem ?_ (args_tuple_getitem _ _)))
  show wpAny _ _ (Builtin.Tuple.tupleItemsOf
        (.ref t) >>= _) _ _ s
  refine wpAny_bind (tupleItemsOf_
        ht ?_)
  refine wpAny_bind (wpAny_typeOf
        hTs ?_)
  rw [if_pos (by decide)]
  refine wpAny_bind ?_
  unfold Builtin.Slice.sliceApplied
        Builtin.Slice.sliceFields
  refine wpAny_bind (wpAny_bind (wpAny_field hos hds (x := .none) rfl (wpAny_bind (wpAny_field hos hds (x := .none) rfl (wpAny_bind (wpAny_field hos hds (x := vk) rfl (wpAny_pure ?_)))))))
  refine wpAny_bind (HT.slicePart_ pk ?_)
  show wpAny _ _ (if ((-1 : Int) == 0) = true then _ else _) _ _ s
  rw [if_neg (by decide)]
  refine wpAny_bind (slicePart_none (wpAny_bind (slicePart_none (wpAny_bind (wpAny_pure ?_)))))
  show wpAny _ _ (match Builtin.Slice.sliceAdjust none none (-1) (items.size : Int) with | (lo, hi) => pure (lo, (-1 : Int), Builtin.Slice.slicePlaces lo hi (-1))) _ _ s
  rw [adjust_back]
  show wpAny _ _ (pure ((items.size : Int) - 1, (-1 : Int), Builtin.Slice.slicePlaces ((items.size : Int) - 1) (-1) (-1))) _ _ s
  rw [places_back]
  refine wpAny_pure ?_
  show wpAny _ _ (if ((items.size : Int) - 1 == 0 && (-1 : Int) == 1 && items.size == items.size) = true then _ else _) _ _ s
  rw [if_neg (by simp), pick_back]
  first
    | exact wpAny_bind (m := Builtin.Tuple.tupleExact
          _) (wpAny_newObj_type (wpAny_pure ⟨_, rfl, wpAny_pure h⟩) htake)
    | exact wpAny_bind (m := Builtin.Tuple.tupleExact _) (wpAny_newObj_type
          (wpAny_bind (wpAny_pure (wpAny_pure ⟨_, rfl, wpAny_pure h⟩))) htake)
    | exact wpAny_bind (wpAny_bind (m := Builtin.Tuple.tupleExact _)
          (wpAny_newObj_type (wpAny_pure (wpAny_pure ⟨_, rfl, wpAny_pure h⟩)) htake))
    | exact wpAny_bind (wpAny_bind (m := Builtin.Tuple.tupleExact _)
          (wpAny_newObj_type (wpAny_pure ⟨_, rfl, wpAny_pure h⟩) htake))
end
section
variable {X : Cx} {W : WX}
def tRevT (K : PySem.W.Frag) (te : TE) : TE := fun σ H Q => te σ H fun x H1 => (∃ a xs, x = .ref a ∧ SqL K H1 a xs ∧ ∀ p, H1 p = none → Q (.ref p) (upd H1 p (.lst xs.reverse))) ∨ ∃ a xs, x = .ref a ∧ SqT K H1 a xs ∧ ∀ p, H1 p = none → Q (.ref p) (upd H1 p (.tup xs.reverse))
theorem pe_rev {e : Expr} {te : TE} {k : Nat} {p1 p2 p3 pos : Pos} (he : PE X e te) : PE X (.Subscript e (.Slice none none (some (.UnaryOp .USub (.Constant (.int 1) k p1) p2)) p3) pos) (tRevT X.K te) := by
  refine ⟨fun pins
        s σ H Q I h => ?_⟩
  refine Subscript_ (thn (he.run pins s σ H
        _ I h) fun v s1 ⟨x, H1, I1, r1, q1⟩ => ?_)
  have hst : PO X (some (.UnaryOp .USub (.Constant (.int 1) k p1) p2)) (tPart
        (tUn (rU fun i => .int (-i)) (tC (.int 1)))) := po_some (pe_un un_neg pe_int)
  refine wpAny_Slice (thn (po_none.run pins s1 σ H1 (fun o H2 => o = none
        ∧ H2 = H1) I1 ⟨rfl, rfl⟩) fun vl s2 ⟨l, H2, I2, pl, el, e2⟩ => ?_)
  subst el e2
  refine thn (po_none.run pins s2 σ H2 (fun o H3 => o = none ∧ H3
        = H2) I2 ⟨rfl, rfl⟩) fun vu s3 ⟨u, H3, I3, pu, eu, e3⟩ => ?_
  subst eu e3
  refine thn (hst.run pins s3 σ H3 (fun o H4 => o = some (-1) ∧ H4 = H3)
        I3 ⟨1, rfl, -1, rfl, rfl, rfl⟩) fun vs s4 ⟨o, H4, I4, ps, eo, e4⟩ => ?_
  subst eo e4
  have I5 : L2.Inv X pins σ H4 { s4 with heap := s4.heap.push { cls := .type "slice", data := .fields #[vl, vu, vs] } } := I4.kept (t' := s4.toks) fun b ob q => Heap.get?_push_of_some _ q
  rcases q1 with ⟨a, xs, ex, hx, q⟩ | ⟨a, xs, ex, hx, q⟩
  · subst ex
    cases r1
    obtain ⟨its, r, ht,
          hz⟩ := I5.list hx
    have hlen := r.length
    show wpAny (model X.prog X.w) X.A (subscriptTail e (.Slice none none (some (.UnaryOp .USub (.Constant (.int 1) k p1) p2)) p3) (.ref a)
          (.ref s4.heap.objs.size)) (EP X pins σ Q) X.xe { s4 with heap := s4.heap.push { cls := .type "slice", data := .fields #[vl, vu, vs] } }
    refine tail_any (ops := [.ref a, .ref
          s4.heap.objs.size]) ht.isList.typeIs (PySem.slot_list_getitem.lookup) ?_ (by with_unfolding_all rfl)
    refine wpAny_getItem_list_slice ht.isList (Heap.IsSliceOf.new _ vl
          vu vs) pl pu ps (by decide) ?_ (by rw [List.size_toArray]; omega)
    rw [PySem.W.krv_pick]
    refine ⟨.ref _, _, I5.laid (t' := s4.toks) (o := .lst xs.reverse) (fun b ob q
          => Heap.get?_push_of_some _ q) (Nat.le_refl _) ?_, rfl, q _ (I5.hok.fresh (Nat.le_refl _))⟩
    exact ⟨by rw [List.length_reverse]; exact hz,
          _, 0, r.reverse, Heap.get?_push_size _ rfl⟩
  · subst ex
    cases r1
    obtain ⟨its, r, ht, hz⟩ := I5.tuple hx
    have hlen := r.length
    show wpAny (model X.prog X.w) X.A (subscriptTail e (.Slice none none (some (.UnaryOp .USub (.Constant (.int 1) k p1) p2)) p3) (.ref a)
          (.ref s4.heap.objs.size)) (EP X pins σ Q) X.xe { s4 with heap := s4.heap.push { cls := .type "slice", data := .fields #[vl, vu, vs] } }
    refine tail_any (ops := [.ref a, .ref s4.heap.objs.size]) ht.typeIs (PyProof.Rows.slot_tuple_getitem.lookup) ?_ (by with_unfolding_all rfl)
    cases pl
    cases pu
    refine getItem_tuple_back ht (Heap.IsSliceOf.new _ .none .none vs) ps ?_ (by rw [List.size_toArray]; omega)
    refine ⟨.ref _, _, I5.laid (t' := s4.toks) (o := .tup xs.reverse) (fun b ob q => Heap.get?_push_of_some _ q) (Nat.le_refl _) ?_, rfl, q _ (I5.hok.fresh (Nat.le_refl _))⟩
    exact ⟨by rw [List.length_reverse]; exact hz, _, r.reverse, _, Heap.get?_push_size _ rfl, rfl, 0, rfl⟩
def revD : PyData → Option PyData
  | .list ds => some (.list ds.reverse)
  | .tuple ds => some (.tuple ds.reverse)
  | _ => none
def eRev (f : M Opd) : M PyData := M.bind f fun t e => match t.get e with
  | some d => match revD d with
    | some r => .ok r e
    | none => .bad
  | none => .bad
theorem de_rev {e : Expr} {f : M Opd} {k : Nat} {p1 p2 p3 pos : Pos} (he : DT X W e f) : DE X W (.Subscript e (.Slice none none (some (.UnaryOp .USub (.Constant (.int 1) k p1) p2)) p3) pos) (eRev f) :=
  (pe_rev he).frz.imp fun σ H Q ⟨Γ, e, R, p⟩ => ⟨Γ, e, R, post.step p fun v H1 t e1 ⟨R1, h1⟩ _ q => by
    split at q
    · rename_i d g
      have k := R1.tk h1 g
      have out : ∀ r, revD d = some r → Out X.K H1 Q r := fun r hr v H' s z => by
        rw [hr] at q
        exact q v H' ⟨R1.same s, z⟩ (fz_same s)
      split at q
      · rename_i r hr
        have o := out r hr
        unfold revD at hr
        split at hr
        · cases hr
          obtain ⟨a, xs, rfl, g1, g2, g3⟩ := k.lst
          exact .inl ⟨a, xs, rfl, sql_of g1, fun p hp => o.lst hp (by rw [List.length_reverse]; exact g2) g3.reverse⟩
        · cases hr
          obtain ⟨a, xs, rfl, g1, g2, g3⟩ := k.tup
          exact .inr ⟨a, xs, rfl, g1, fun p hp => .inl (o.tup hp (by rw [List.length_reverse]; exact g2) g3.reverse)⟩
        · cases hr
      · exact q.elim
    · exact q.elim⟩
end
end PF
/-! F16: the script; calls without arguments; names = comprehensions; a, b = x, y; xs[a:c] = ys. -/
namespace PF
open PySem PySem.Spec L2
open PyProof.Rows hiding St

section
variable {X : Cx} {W : WX} {a b c o : Expr} {es : List Expr} {x : Str} {p p1 p2 pos : Pos} {i : Nat}
/-! ### the script: its length, its numbers -/
def scrOf : Option (Option SV) → Option (List PyData)
  | some (some (.scr ds)) => some ds
  | some (some (.ino ds)) => some ds
  | _ => none
theorem Rep.scrAt {K : PySem.W.Frag} {Γ : Gx} {H : Hp} {σ : St} {e : Env} {ds : List PyData} (R : Rep K Γ H σ e) (h : scrOf e[i]? = some ds) : ∃ a vs, σ[i]? = some (some (.ref a)) ∧ SqL K H a vs ∧ vs.length ≤ sizeLine ∧ DzA K H vs ds := by
  obtain ⟨g, R⟩ := R
  unfold scrOf at h
  split at h
  · rename_i d q
    cases h
    obtain ⟨v, h1, a, vs, rfl, h3, h4, h5⟩ := R.at_ _ _ q
    exact ⟨a, vs, h1, h3.sql, h4, h5⟩
  · rename_i d q
    cases h
    obtain ⟨v, h1, a, vs, rfl, h3, h4, h5, h6, h7⟩ := R.at_ _ _ q
    exact ⟨a, vs, h1, .inl (.inl h4), h5, h6⟩
  · cases h
def eLenS (i : Nat) : M PyData := fun e => match scrOf e[i]? with
  | some ds => .ok (.int ds.length) e
  | none => .bad
theorem de_lenS (h : PE X a (tVar i)) (hg : Gl X "len") (hm : X.mg "len" = none) (hs : notStar a = true) : DE X W (.Call (.Name "len" p) [a] [] pos) (eLenS i) :=
  (pe_callB call_len_seq hg hm PySem.boot_len (pa_cons h pa_nil (star_one a [] X.env hs)) (by decide) (by decide) (star_one a [] X.env hs) (by rfl)).imp fun σ H Q ⟨Γ, e, R, p⟩ => by
    unfold eLenS at p
    split at p
    · rename_i ds g
      obtain ⟨l, vs, h1, h2, h3, h4⟩ := R.scrAt g
      have q : Q (.int ds.length) H := p.ok ⟨R, .int _⟩
      rw [← h4.length] at q
      exact ⟨_, h1, l, vs, rfl, .inl h2, q⟩
    · exact p.elim
def eIxS (i : Nat) (f : M PyData) : M PyData := fun e => match scrOf e[i]? with
  | some _ => M.bind f (fun d e1 => match scrOf e1[i]?, d with
    | some ds, .int k => (match L2.atI ds k with
      | some r => .ok r e1
      | none => .bad)
    | _, _ => .bad) e
  | none => .bad
theorem de_ixS {f : M PyData} (h : PE X a (tVar i)) (hb : DE X W b f) (hs : PlainIx b) : DE X W (.Subscript a b pos) (eIxS i f) :=
  (pe_ix ix_seq h hb hs).imp fun σ H Q ⟨Γ, e, R, p⟩ => by
    unfold eIxS at p
    split at p
    · rename_i ds0 g0
      obtain ⟨l, vs0, h1, _⟩ := R.scrAt g0
      refine ⟨_, h1, Γ, e, R, post.step p fun v H1 d e1 ⟨R1, d1⟩ _ q => ?_⟩
      split at q
      · rename_i ds k g1 d1
        obtain ⟨l', vs, k1, k2, k3, k4⟩ := R1.scrAt g1
        rw [h1] at k1
        cases k1
        cases d1
        split at q
        · rename_i r g2
          obtain ⟨w, e1', e2⟩ := k4.atI g2
          exact .inl ⟨l, vs, _, w, rfl, rfl, k2, e1', q.ok ⟨R1, e2⟩⟩
        · exact q.elim
      · exact q.elim
    · exact p.elim
end

/-! ### calls without arguments -/
section
variable {X : Cx} {W : WX} {p pos : Pos} {x : Str} {k : Nat} {f : Addr} {fd : FuncData} {F : Sem}
def call0D (F : Sem) : M PyData := fun e => match F [] with
  | .ok (.dat d) _ => .ok d e
  | .ok (.own ds) _ => .ok (.list ds) e
  | _ => .bad
def call0O (F : Sem) : M (List PyData) := fun e => match F [] with
  | .ok (.own ds) _ => .ok ds e
  | _ => .bad
theorem no_pin {K : PySem.W.Frag} {H : Hp} {σ : St} {e : Env} {Γ : Gx} {g : Addr → Option Nat} (R : RepG K Γ g H σ e) : Rep K ⟨H, pinOf []⟩ H [] [] :=
  ⟨fun _ => none, rfl, fun i sv h => by simp at h, fun a i h => by simp at h, fun a o h => h⟩
theorem back0 {K : PySem.W.Frag} {H H' : Hp} {σ : St} {e : Env} {Γ : Gx} {g : Addr → Option Nat} {Γ' : Gx} {σ' : St} {e' : Env} (R : RepG K Γ g H σ e) (R' : Rep K Γ' H' σ' e') (k : ∀ a o, H a = some o → Γ'.G a = some o) (fz : FzLe H H') : RepG K Γ g H' σ e := by
  obtain ⟨g', R'⟩ := R'
  exact R.same fun a o h => R'.keep a o (k a o h)
theorem de_call0 (G : FnOk X.prog X.w X.K X.mg X.base (L2.CX X.prog X.w) k f fd [] (spOf X.K X.mg 0 F)) (hr : Room k X.A) (hg : Gl X x) (hm : X.mg x = some (.ref f)) (hk : PySem.W.keepIn X.K (.ref f) = true) (hb : Binds X.K fd [] []) (hdb : (x == ("__debug__" : Str)) = false)
    (hx : Passes (L2.CX X.prog X.w) X E0) : DE X W (.Call (.Name x p) [] [] pos) (call0D F) :=
  (pe_call0 G hr hg hm hk hb .nil hx hdb).frz.imp fun σ H Q ⟨Γ, e, R, p⟩ => by
    obtain ⟨g, R⟩ := R
    refine ⟨rfl, H, [], no_pin R, ?_⟩
    unfold call0D at p
    split at p
    · rename_i d o hF
      rw [hF]
      intro v H' ⟨R', hd⟩ fz
      have B := back0 R R' (fun a o h => h) fz
      exact .inl (p v H' ⟨⟨g, B⟩, hd⟩ fz)
    · rename_i ds o hF
      rw [hF]
      intro v H' ⟨b, ws, h1, h2, h3, h4, R'⟩ fz
      have hb := R'.at_guard
      have B := back0 R R' (fun a o h => by
        show upd H b (.lst ws) a = some o
        rw [upd_ne]
        · exact h
        · intro z
          have h2 : H b = none := h2
          rw [z, h2] at h
          cases h) fz
      refine .inr ⟨b, ws, h1, hb, fun o => ?_⟩
      have f2 := fz_lst (o := .frz o (.lst ws)) hb
      have hGb : H b = none := h2
      have kg : ∀ a i, g a = some i → upd H' b (.frz o (.lst ws)) a = H' a := fun a i q => by
        rw [upd_ne]
        intro z
        obtain ⟨_, xs, hx⟩ := R.gh a i q
        rw [z, hGb] at hx
        cases hx
      have kk : ∀ a u, Γ.G a = some u → upd H' b (.frz o (.lst ws)) a = some u := fun a u q => by
        rw [upd_ne]
        · exact B.keep a u q
        · intro z
          have hx := R.keep a u q
          rw [z, hGb] at hx
          cases hx
      exact p _ _ ⟨⟨g, B.grow f2 kg kk⟩, .lst ⟨o, upd_same⟩ h3 (DzA.mono f2 _ _ h4)⟩ (fz.trans f2)
    · exact p.elim
theorem do_call0 (G : FnOk X.prog X.w X.K X.mg X.base (L2.CX X.prog X.w) k f fd [] (spOf X.K X.mg 0 F)) (hr : Room k X.A) (hg : Gl X x) (hm : X.mg x = some (.ref f)) (hk : PySem.W.keepIn X.K (.ref f) = true) (hb : Binds X.K fd [] []) (hdb : (x == ("__debug__" : Str)) = false)
    (hx : Passes (L2.CX X.prog X.w) X E0) : DO X W (.Call (.Name x p) [] [] pos) (call0O F) :=
  (pe_call0 G hr hg hm hk hb .nil hx hdb).imp fun σ H Q ⟨Γ, e, R, p⟩ => by
    obtain ⟨g, R⟩ := R
    refine ⟨rfl, H, [], no_pin R, ?_⟩
    unfold call0O at p
    split at p
    · rename_i ds o hF
      rw [hF]
      intro v H' ⟨b, ws, h1, h2, h3, h4, R'⟩ fz
      have hb := R'.at_guard
      have hGb : H b = none := h2
      have B := back0 R R' (fun a o h => by
        show upd H b (.lst ws) a = some o
        rw [upd_ne]
        · exact h
        · intro z
          rw [z, hGb] at h
          cases h) fz
      have fr : Γ.G b = none := by
        cases q : Γ.G b with
        | none => rfl
        | some u =>
          have hx := R.keep b u q
          rw [hGb] at hx
          cases hx
      have ng : ∀ i, g b ≠ some i := fun i q => by
        obtain ⟨_, xs, hx⟩ := R.gh b i q
        rw [hGb] at hx
        cases hx
      refine p v H' ⟨b, ws, h1, fr, h3, h4, g, B.len, B.at_, fun a i q => ?_, fun a u q => ?_⟩ fz
      · obtain ⟨k1, k2⟩ := B.gh a i q
        refine ⟨?_, k2⟩
        show upd Γ.G b _ a = none
        rw [upd_ne]
        · exact k1
        · intro z
          rw [z] at q
          exact ng i q
      · have q : upd Γ.G b (.lst ws) a = some u := q
        by_cases z : a = b
        · subst z
          rw [upd_same] at q
          cases q
          exact hb
        · rw [upd_ne z] at q
          exact B.keep a u q
    · exact p.elim
end
end PF
/-! F17: names = comprehensions; a, b = x, y; xs[a:c] = ys. -/
namespace PF
open PySem PySem.Spec L2
open PyProof.Rows hiding St

section
variable {X : Cx} {W : WX} {elt tg iter tg1 iter1 : Expr} {ifs ifs1 : List Expr} {scope : Scope} {own : List (Str × Nat)} {pos spos py : Pos} {ts ts1 vs1 : List Nat} {s s1 : Tgt} {it it1 : M (List PyData)} {t t1 : M Bool} {y : M PyData} {i : Nat} {nm : Str}
theorem ds_setLc (hc : X.calm = true) (hN : X.N.Nodup) (hy : X.N[i]? = some nm) (hyl : X.env.scope.names.lookup nm = some .local) (hsw : swapsWith (.ListComp elt [⟨tg, iter, ifs, 0⟩] scope pos) (some (.Name nm py)) spos.line X.env = pure true)
    (hi : DI X W tg iter it) (ok : BlkOk X.N X.env.scope scope own)
    (hg : ∀ (s' : Shared) (H : Hp) (C : Addr) (cl : List (Str × Addr)) (fp : List Addr), DG (X.blk s' H scope (compEnvC scope cl C X.env) fp) tg ts s) (ht : ∀ (s' : Shared) (H : Hp) (C : Addr) (cl : List (Str × Addr)) (fp : List Addr), PTs (X.blk s' H scope (compEnvC scope cl C X.env) fp) ifs (tR RlB X.K X.mg W0 t))
    (he : ∀ (s' : Shared) (H : Hp) (C : Addr) (cl : List (Str × Addr)) (fp : List Addr), DE (X.blk s' H scope (compEnvC scope cl C X.env) fp) W0 elt y) (hs : ∀ x, foldedSetIterable iter X.env x = pure x) (hts : ∀ i ∈ ts, i ∈ own.map (·.2)) :
    DS X W (.Assign [.Name nm py] (.ListComp elt [⟨tg, iter, ifs, 0⟩] scope pos) spos) (sSetO i (eComp it s (own.map (·.2)) t y)) :=
  (ps_setLc hc hN hy hyl hsw hi ok hg ht he hs).imp fun D σ H w => comp_read hts (seto_read w)
end

/-! ### two at once -/
abbrev DR (X : Cx) (W : WX) (e : Expr) (f : M RetV) : Prop := PE X e (tR RlR X.K X.mg W f)
def rDat (f : M PyData) : M RetV := M.bind f fun d => M.pure (.dat d)
def rOwn (f : M (List PyData)) : M RetV := M.bind f fun d => M.pure (.own d)
def RetV.sv : RetV → SV
  | .dat d => .dat d
  | .own ds => .own ds
def sPar (i j : Nat) (f g : M RetV) : B := sBind f fun r1 => sBind g fun r2 e => .nx ((e.set i (some r1.sv)).set j (some r2.sv))
section
variable {X : Cx} {W : WX} {a b : Expr} {pos px py pt pt2 : Pos} {i j kt k2 : Nat} {x y : Str} {f g : M RetV}
theorem dr_dat {f : M PyData} (h : DE X W a f) : DR X W a (rDat f) := h.imp fun σ H Q ⟨Γ, e, R, p⟩ => ⟨Γ, e, R, post.step p fun v H1 d e1 h1 _ q => q v H1 h1 (FzLe.refl _)⟩
theorem dr_own {f : M (List PyData)} (h : DO X W a f) : DR X W a (rOwn f) := h.imp fun σ H Q ⟨Γ, e, R, p⟩ => ⟨Γ, e, R, post.step p fun v H1 d e1 h1 _ q => q v H1 h1 (FzLe.refl _)⟩
theorem post_in {K : PySem.W.Frag} {mg : Str → Option Value} {Γ : Gx} {σ : St} {H : Hp} {e : Env} {D : Ends} {k : RetV → B} {c : Addr} {o : HO} {P : V → Hp → Prop} (hG : Γ.G c = none) (q : postS K mg W Γ H (sBind g k e) D)
    (w : ∀ v H1 r e1, RlR K (Γ.plus c o) H1 σ e1 v r → FzLe H H1 → postS K mg W Γ H1 (k r e1) D → P v H1) : post RlR K mg W (Γ.plus c o) σ H (g e) P := by
  unfold sBind at q
  cases hg : g e with
  | ok r e1 =>
    rw [hg] at q
    exact fun v H' h1 h2 => w v H' r e1 h1 h2 (q.later h2)
  | exc z e1 =>
    rw [hg] at q
    exact fun c o H' h1 h2 h3 => q c o σ H' h1 (h2.unguard hG) h3
  | bad =>
    rw [hg] at q
    exact q
theorem par_read {K : PySem.W.Frag} {mg : Str → Option Value} {D : Ends} {σ : St} {H : Hp} (hij : i ≠ j) (w : tS K mg W (sPar i j f g) D σ H) :
    tR RlR K mg W f σ H (fun v H1 => tR RlR K mg W g σ H1 fun u H2 => ∃ v' u', [v, u] = [v', u'] ∧ D.nx ((σ.set i (some v')).set j (some u')) H2) := by
  obtain ⟨Γ, e, R, p⟩ := w
  refine ⟨Γ, e, R, postS.step p fun v H1 r1 e1 h1 fz q => ?_⟩
  cases r1 with
  | dat d1 =>
    obtain ⟨R1, hd1⟩ := h1
    refine ⟨Γ, e1, R1, postS.step q fun u H2 r2 e2 h2 fz2 q2 => ?_⟩
    cases r2 with
    | dat d2 =>
      obtain ⟨R2, hd2⟩ := h2
      exact ⟨v, u, rfl, q2 _ _ ((R2.setD (Dz.mono fz2 _ _ hd1)).setD hd2) (FzLe.refl _)⟩
    | own ds2 =>
      obtain ⟨c, ws, rfl, k2, k3, k4, R2⟩ := h2
      exact ⟨v, _, rfl, q2 _ _ ((R2.setD (Dz.mono fz2 _ _ hd1)).setO k2 k3 k4) (FzLe.refl _)⟩
  | own ds1 =>
    obtain ⟨c, ws, rfl, k2, k3, k4, R1⟩ := h1
    refine ⟨Γ.plus c (.lst ws), e1, R1, post_in k2 q fun u H2 r2 e2 h2 fz2 q2 => ?_⟩
    cases r2 with
    | dat d2 =>
      obtain ⟨R2, hd2⟩ := h2
      exact ⟨_, u, rfl, q2 _ _ ((R2.setO k2 k3 (DzA.mono fz2 _ _ k4)).setD hd2) (FzLe.refl _)⟩
    | own ds2 =>
      obtain ⟨c2, ws2, rfl, l2, l3, l4, R2⟩ := h2
      have R3 := (R2.setO (i := j) l2 l3 l4).setO (i := i) k2 k3 (DzA.mono fz2 _ _ k4)
      rw [List.set_comm _ _ (Ne.symm hij), List.set_comm _ _ (Ne.symm hij)] at R3
      exact ⟨_, _, rfl, q2 _ _ R3 (FzLe.refl _)⟩
theorem ds_par (hc : X.calm = true) (hN : X.N.Nodup) (hi : X.N[i]? = some x) (hj : X.N[j]? = some y) (hij : i ≠ j)
    (hx : X.env.scope.names.lookup x = some .local) (hy : X.env.scope.names.lookup y = some .local) (ha : DR X W a f) (hb : DR X W b g) (hw : swappedStores [.Tuple [.Name x px, .Name y py] kt pt] (.Tuple [a, b] k2 pt2) X.env = pure (some [x, y]))
    (hs : swapsWithSole [.Tuple [.Name x px, .Name y py] kt pt] (.Tuple [a, b] k2 pt2) pos.line X.env = pure false) (h1 : notStar a = true) (h2 : notStar b = true) :
    DS X W (.Assign [.Tuple [.Name x px, .Name y py] kt pt] (.Tuple [a, b] k2 pt2) pos) (sPar i j f g) :=
  (ps_par hc hN hi hj hij hx hy (pa_cons ha (pa_cons hb pa_nil (star_one b [] X.env h2)) (star_one a [b] X.env h1)) hw hs).imp fun D σ H w => par_read hij w
end

/-! ### xs[a:c] = ys -/
section
variable {prog : Program} {w : World} {A :
      Around} {E : Value → Shared → Prop} {s : Shared}
theorem cut_bounds {a c n : Nat} (hac : a ≤ c) (ha : a ≤ n) : sliceBounds (some (a : Int)) (some (c : Int)) none n = ((a : Int), ((min c n : Nat) : Int), 1) := by
  simp only [sliceBounds,
        Option.getD_none]
  have h1 : ¬ ((a :
        Int) < 0) := by omega
  have h2 : ¬ ((c :
        Int) < 0) := by omega
  simp only [h1, h2, if_false, show
        (1 : Int) > 0 by decide, if_true]
  congr 1
  · omega
  · congr 1
    omega
/-- list.__setitem__ of a slice whose end may lie behind the list's -/
theorem store_cut {l b sl : Addr} {items new : Array Value} {n n2 : Nat} {vl vu : Value} {a c : Nat} {Q : Unit → Shared → Prop}
    (e : s.heap.get? l = some { cls := .type "list", data := .seq items n }) (e2 :
          s.heap.get? b = some { cls := .type "list", data := .seq new n2 }) (hne : l ≠ b)
    (hs : s.heap.IsSliceOf sl vl vu .none) (pl : IsPart vl (some (a : Int))) (pu : IsPart vu (some (c : Int))) (hac : a ≤ c) (hc : a ≤ items.size)
    (hsz : items.size + new.size ≤ sizeLine) (h : Q () { s with heap := s.heap.update l (Obj.mapSeq fun xs => xs.extract 0 a ++ new ++ xs.extract (min c items.size) xs.size) }) :
    wpAny (model prog w) A (setItem (.ref
          l) (.ref sl) (.ref b)) Q E s := by
  have hl : s.heap.IsList l
        items := PySem.IsL.isList e
  have hb : s.heap.IsList b
        new := PySem.IsL.isList e2
  obtain ⟨os, hos,
        hcs, hds⟩ := id hs
  have hTs : s.TypeIs (.ref
        sl) "slice" := ⟨os, hos, hcs⟩
  have no0 : ¬ ((rawPart none == rawInt 0) = true) := Bool.false_ne_true
  have two : Builtin.List.listSameRef (.ref l) (.ref b) = false := by
    unfold
          Builtin.List.listSameRef
    exact
          beq_eq_false_iff_ne.mpr hne
  have top : (max (a : Int) ((min c items.size : Nat) : Int)).toNat = min c items.size := by omega
  have fits : ((fun xs : Array Value => xs.extract 0 a ++ new ++ xs.extract (min c items.size) xs.size) items).size ≤ sizeLine + 1 := by
    simp only [Array.size_append,
          Array.size_extract]
    omega
  unfold setItem
  try with_reducible
        refine wpAny_holding ?_
  first | refine wpAny_bind (wpAny_pure
        ?_) | skip
  refine wpAny_bind (wpAny_sequenceKey
        hl.typeIs (by decide) ?_)
  refine wpAny_bind (wpAny_callSpecial?_slot (name :=
        Str.ofString "__setitem__") hl.typeIs slot_list_setitem
    (wpAny_call_entry slot_list_setitem hl.typeIs
          entry_list_setitem ?_ (args_list_setitem _ _ _)))
  show wpAny _ _ (Builtin.List.listSubscript?
        (.ref sl) >>= _) _ _ s
  refine wpAny_bind ?_
  unfold
        Builtin.List.listSubscript?
  refine wpAny_bind (wpAny_specialOf
        hTs slice_no_index ?_)
  simp only [Option.isNone_none,
        if_true]
  refine wpAny_pure ?_
  show wpAny _ _ (typeOf
        (.ref sl) >>= _) _ _ s
  refine wpAny_bind (wpAny_typeOf
        hTs ?_)
  first
    | rw [if_neg (by decide)]
    | refine PySem.W.KFB.if_not
          (by decide) ?_
  rw [listSliceParts_eq]
  refine wpAny_bind (wpAny_bind (wpAny_field hos hds (x
        := .none) rfl (wpAny_bind (wpAny_listPart .none ?_))))
  rw [if_neg no0]
  refine wpAny_bind (wpAny_field hos hds (x :=
        vl) rfl (wpAny_bind (wpAny_listPart pl ?_)))
  refine wpAny_bind (wpAny_field hos hds (x := vu) rfl
        (wpAny_bind (wpAny_listPart pu (wpAny_pure ?_))))
  first
    | simp only [two, Bool.false_eq_true, if_false]
    | refine PySem.W.KFB.if_not two ?_
    | (dsimp only
       rw [if_neg (by rw [two]; exact Bool.false_ne_true)])
  refine wpAny_bind (m := Builtin.List.listAllItems
        (.ref b) "must assign iterable to extended slice") ?_
  unfold
        Builtin.List.listAllItems
  refine wpAny_bind (wpAny_typeOf
        hb.typeIs ?_)
  first
    | refine PySem.W.KFB.if_so
          (by decide) ?_
    | rw [if_pos (by decide)]
    | simp only [beq_self_eq_true,
          Bool.true_or, if_true]
  unfold Builtin.List.listItems
  refine wpAny_bind (wpAny_seqItems
        e2 rfl (wpAny_pure ?_))
  refine wpAny_bind (wpAny_bind
        (wpAny_seqItems e rfl (wpAny_pure ?_)))
  refine wpAny_bind (wpAny_of_eq ((sliceIndices_raw (some (a : Int)) (some (c : Int)) none items.size (by simp)).trans (congrArg (pure : Int × Int × Int → PySem.Sem (Int × Int × Int)) (cut_bounds hac hc))) ?_)
  show wpAny _ _ (if ((1 : Int) ==
        1) = true then _ else _) _ _ s
  rw [if_pos (by decide)]
  refine wpAny_bind (wpAny_rule
        ?_)
  first
    | simp only [HT.notLongL hsz, Bool.false_eq_true, if_false]
    | simp only [L2.notLongL hsz, Bool.false_eq_true, if_false]
    | simp only [notLongL hsz,
          Bool.false_eq_true, if_false]
  first | refine wpAny_bind (wpAny_pure
        ?_) | skip
  show wpAny _ _ (updateSeq l (fun xs => xs.extract 0 ((a : Int)).toNat ++ new ++ xs.extract (max (a : Int) ((min c items.size : Nat) : Int)).toNat xs.size) >>= _) _ _ s
  rw [top, Int.toNat_natCast]
  refine wpAny_bind (wpAny_updateSeq (hz := Nat.le_trans (Nat.le_add_right _ _) hsz) (_hz' := fits) e rfl ?_)
  refine wpAny_bind (wpAny_letGo
        ?_)
  first
    | exact wpAny_bind (wpAny_pure
          (wpAny_pure ⟨.none, rfl, wpAny_pure h⟩))
    | exact wpAny_pure ⟨.none,
          rfl, wpAny_pure h⟩
end
/-- at the value level -/
theorem cut_ok {X : Cx} {pins : List (Addr × Obj)} {s : Shared} {σ : St} {H : Hp} {l b sl : Addr} {xs ys : List V} {a c : Int} {vl vu : Value} {Q : Unit → Shared → Prop} (I : L2.Inv X pins σ H s)
    (hH : H l = some (.lst xs)) (hB : FL H b ys) (hs : s.heap.IsSliceOf sl vl vu .none) (pl : IsPart vl (some a)) (pu : IsPart vu (some c)) (h0 : 0 ≤ a) (hac : a ≤ c) (ha : a ≤ xs.length)
    (hz : xs.length + ys.length ≤ sizeLine) (h : ∀ s', L2.Inv X pins σ (upd H l (.lst (xs.take a.toNat ++ ys ++ xs.drop c.toNat))) s' → Q () s') :
    wpAny (model X.prog X.w) X.A (setItem
          (.ref l) (.ref sl) (.ref b)) Q X.xe s := by
  have hne : l ≠ b := fun z => by
    obtain ⟨o, hB⟩ := hB
    rw [z, hB] at hH
    cases hH
  obtain ⟨z, its, n, r,
        hl, e⟩ := I.lstM hH
  obtain ⟨o, hB⟩ := hB
  obtain ⟨_, _, its2, n2, r2, e2⟩ := I.hok b _ hB
  have hl2 := r2.length
  obtain ⟨a',
        rfl⟩ := Int.eq_ofNat_of_zero_le h0
  obtain ⟨c',
        rfl⟩ := Int.eq_ofNat_of_zero_le (Int.le_trans h0 hac)
  simp only
        [Int.toNat_natCast] at h
  refine store_cut (a := a') (c := c') e e2 hne hs pl pu (by omega) (by rw [List.size_toArray]; omega) (by rw [List.size_toArray, List.size_toArray]; omega) (h _ ?_)
  refine I.lset (its' := its.take a' ++ its2 ++ its.drop c') (t' :=
        s.toks) hH e ?_ (Vals.append (Vals.append (r.take _) r2) (r.drop _)) ?_
  · show its.toArray.extract 0 a' ++ its2.toArray ++ its.toArray.extract (min c' its.toArray.size) its.toArray.size = _
    rw [splice_eq]
    congr 2
    rw [List.size_toArray]
    by_cases hc : c' ≤ its.length
    · rw [Nat.min_eq_left hc]
    · rw [Nat.min_eq_right (by omega), List.drop_length, List.drop_eq_nil_of_le (by omega)]
  · rw [List.length_append, List.length_append,
        List.length_take, List.length_drop]
    omega
def cutStep (i : Nat) (d : PyData) (lo hi : Option Int) : B := fun e => match ownOf e[i]?, d, lo, hi with
  | some ds, .list ys, some a, some c => if 0 ≤ a ∧ a ≤ c ∧ a ≤ ds.length ∧ ds.length + ys.length ≤ sizeLine then .nx (putOwn e i (ds.take a.toNat ++ ys ++ ds.drop c.toNat)) else .bad
  | _, _, _, _ => .bad
def sCut (i : Nat) (f g h : M PyData) : B := sBind f fun d e => if (ownOf e[i]?).isSome then sBind (ePart g) (fun lo => sBind (ePart h) fun hi => cutStep i d lo hi) e else .bad
section
variable {X : Cx} {W : WX} {o a lo hi : Expr} {pos p2 p3 : Pos} {i : Nat} {f g h : M PyData}
/-- a target xs[lo:hi] -/
def gCut (K : PySem.W.Frag) (to : TE) (tl th : TO) : TG := fun v σ H Q => to σ H fun x H1 => tl σ H1 fun l H2 => th σ H2 fun u H3 => ∃ p xs b ys m n, x = .ref p ∧ v = .ref b ∧ l = some m ∧ u = some n ∧ H3 p = some (.lst xs) ∧ FL H3 b ys ∧ 0 ≤ m ∧ m ≤ n ∧ m ≤ xs.length ∧ xs.length + ys.length ≤ sizeLine ∧
  Q σ (upd H3 p (.lst (xs.take m.toNat ++ ys ++ xs.drop n.toNat)))
theorem pg_cut {to : TE} {tl th : TO} (ho : PE X o to) (hl : PO X (some lo) tl) (hh : PO X (some hi) th)
    (ha : ∀ v, assign (.Subscript o (.Slice (some lo) (some hi) none p2) p3) X.env v = (do
      let ov ← holding [v] (eval
            o X.env)
      let iv ← holding [v, ov] (eval (.Slice (some lo) (some hi) none p2) X.env)
      standAt p3
      holding [v, ov,
            iv] (setItem ov iv v)
      release [iv, v, ov] [])) : PG X (.Subscript o (.Slice (some lo) (some hi) none p2) p3) (gCut X.K to tl th) := by
  refine ⟨fun pins s σ
        H v u Q I r h => ?_⟩
  rw [ha]
  refine wpAny_bind (wpAny_holding (thn (ho.run pins
        s σ H _ I h) fun ov s1 ⟨x, H1, I1, r1, q1⟩ => ?_))
  refine wpAny_bind (wpAny_holding (wpAny_Slice (thn (hl.run pins s1 σ H1 _ I1 q1) fun vl s2 ⟨l, H2, I2, pl, q2⟩ => ?_)))
  refine thn (hh.run pins s2 σ H2 _ I2 q2) fun vu s3 ⟨w, H3, I3, pu, q3⟩ => ?_
  refine thn (po_none.run pins s3 σ H3 (fun o H4 => o = none ∧ H4 = H3) I3 ⟨rfl, rfl⟩) fun vs s4 ⟨o', H4, I4, ps, e1, e2⟩ => ?_
  subst e1 e2
  cases ps
  have I5 : L2.Inv X pins σ H4 { s4 with heap := s4.heap.push { cls := .type "slice", data := .fields #[vl, vu, .none] } } := I4.kept (t' := s4.toks) fun b ob q => Heap.get?_push_of_some _ q
  obtain ⟨p, xs, b, ys, m, n, rfl, rfl, rfl, rfl, k1, k2, k3, k4, k5, k6, k7⟩ := q3
  cases r1
  cases r
  refine wpAny_bind (wpAny_standAt (wpAny_bind (wpAny_holding (cut_ok I5 k1 k2 (Heap.IsSliceOf.new _ vl vu .none) pl pu k3 k4 k5 k6 fun s' I6 => ?_))))
  exact wpAny_release ⟨σ, _, I6, k7⟩
theorem ds_cut (he : DE X W a f) (ho : PE X o (tVar i)) (hl : DE X W lo g) (hh : DE X W hi h)
    (ha : ∀ v, assign (.Subscript o (.Slice (some lo) (some hi) none p2) p3) X.env v = (do
      let ov ← holding [v] (eval
            o X.env)
      let iv ← holding [v, ov] (eval (.Slice (some lo) (some hi) none p2) X.env)
      standAt p3
      holding [v, ov,
            iv] (setItem ov iv v)
      release [iv, v, ov] []))
    (hp : ∀ te tg, PE X a te → PG X (.Subscript o (.Slice (some lo) (some hi) none p2) p3) tg → PS X (.Assign [.Subscript o (.Slice (some lo) (some hi) none p2) p3] a pos) (tAsg te tg)) :
    DS X W (.Assign [.Subscript o (.Slice (some lo) (some hi) none p2) p3] a pos) (sCut i f g h) :=
  (hp _ _ he (pg_cut ho (dp_some hl) (dp_some hh) ha)).imp fun D σ H ⟨Γ, e, R, p⟩ => ⟨Γ, e, R, postS.step p fun v H1 d e1 ⟨R1, h1⟩ _ q => by
    split at q
    case isFalse => exact q.elim
    case isTrue hs =>
    obtain ⟨w, hw, _⟩ := methO_ty R1 hs
    refine ⟨w, hw, Γ, e1, R1, postS.step q fun l H2 l' e2 ⟨R2, h2⟩ fz2 q2 => ⟨Γ, e2, R2, postS.step q2 fun u H3 u' e3 ⟨R3, h3⟩ fz3 q3 => ?_⟩⟩
    subst h2 h3
    unfold cutStep at q3
    cases hd : ownOf e3[i]? with
    | none =>
      rw [hd] at q3
      exact q3.elim
    | some ds =>
      rw [hd] at q3
      cases d with
      | list ys =>
        cases l with
        | none => exact q3.elim
        | some m =>
          cases u with
          | none => exact q3.elim
          | some n =>
            dsimp only at q3
            split at q3
            · rename_i hb
              obtain ⟨gg, R3⟩ := R3
              obtain ⟨c, vs, o1, o2, o3, o4, o5⟩ := R3.ownAt hd
              rw [hw] at o1
              cases o1
              have l5 := o5.length
              obtain ⟨b, us, rfl, f1, f2, f3⟩ : ∃ b us, v = .ref b ∧ FL H1 b us ∧ us.length ≤ sizeLine ∧ DzA X.K H1 us ys := by
                cases h1 with
                | lst f1 f2 f3 => exact ⟨_, _, rfl, f1, f2, f3⟩
              have l6 := f3.length
              have f1' := f1.mono (fz2.trans fz3)
              have f3' := DzA.mono (fz2.trans fz3) _ _ f3
              have ff := fz_lst (o := .lst (vs.take m.toNat ++ us ++ vs.drop n.toNat)) o3
              refine ⟨c, vs, b, us, m, n, rfl, rfl, rfl, rfl, o3, f1', hb.1, hb.2.1, by omega, by omega, q3 _ _ ⟨gg, R3.put hd hw o2 o3 ?_ (((o5.take _).append f3').append (o5.drop _))⟩ ff⟩
              rw [List.length_append, List.length_append, List.length_take, List.length_drop]
              omega
            · exact q3.elim
      | _ => exact q3.elim⟩
end
end PF
/-! F18: sets of ints and texts: {e for ..}. -/
namespace PF
open PySem PySem.Spec L2 PpSet
open PyProof.Rows hiding St

section
variable {X : Cx}
/-- set.add of an int or a text -/
theorem addK_ok {pins : List (Addr × Obj)} {σ : L2.St} {H : Hp} {s : Shared} {E : Value → Shared → Prop} {D : Addr} {S : Key → Bool} {n : Nat} {k : Key} {u : Value} {Q : Value → Shared → Prop} (I : L2.Inv X pins σ H s) (hD : H D = some (SetK X.prog X.w D S n)) (room : n + 1 < scanBound) (r : RelV (kV k) u)
    (h : ∀ s', L2.Inv X pins σ (upd H D (SetK X.prog X.w D (fun j => S j || decide (j = k)) (if S k = true then n else n + 1))) s' → Q .none s') : wpAny (model X.prog X.w) X.A (call (.builtin "set.add") [.ref D, u]) Q E s := by
  refine call_set_add (kV_is r) (key_scan r) (setK_get I hD) room fun h' sb new => ?_
  have he : ∃ u, h'.get?
        D = some u := by
    have ⟨o, _, _,
          _, ho, _⟩ := new
    exact ⟨o, ho⟩
  exact h _ (I.write (e := D) (t' := s.toks + 1) (by rw [hD]; trivial) (.inl rfl) (fun b u hb hu => (sb.2 b hb).trans hu) he (setK_new new))
def tSk (P : Program) (w : World) (wi : TI) (g : TG) (tt : TT) (te : TE) (vs : List Nat) : TE := fun σ H Q => wi σ H fun J H1 => ∀ D, H1 D = none → ∃ W : Nat → Nat → Hp → Prop, (∃ m, W 0 m (upd H1 D (SetK P w D (fun _ => false) 0))) ∧ ∀ i m H, W i m H →
  (J.stop i H ∧ Q (.ref D) H) ∨ (J.go i H ∧ ∃ Nx : Hp → Prop, (∀ H', Nx H' → ∃ m', m' < m ∧ W (i + 1) m' H')
        ∧ ∀ x H', J.yld i H x H' → g x (wipe σ vs) H' fun σ2 H2 => wipe σ2 vs = wipe σ vs ∧ tt σ2 H2 fun b H3 =>
    if b = true then te σ2 H3 fun y H4 => ∃ (c : Key) (S : Key → Bool) (n : Nat), y = kV c ∧ H4 D = some (SetK P w D S n) ∧ n + 1 < scanBound ∧ Nx (upd H4 D (SetK P w D (fun j => S j || decide (j = c)) (if S c = true then n else n + 1))) else Nx H3)
theorem sk_core {pins : List (Addr × Obj)} {s : Shared} {σ : L2.St} {H : Hp} {Q : VK} {elt tg iter : Expr} {ifs : List Expr} {scope : Scope} {own : List (PySem.Str × Nat)} {pos pos' : Pos} {wi : TI} {g : TG} {tt : TT} {te : TE} {use : Option (Value → PySem.Sem Unit)} {Qf : Value → Shared → Prop}
    (hc : X.calm = true) (hN : X.N.Nodup) (I : L2.Inv X pins σ H s) (hi : PI X tg iter wi) (ok : BlkOk X.N X.env.scope scope own)
    (hg : ∀ (s : Shared) (H : Hp) (C : Addr) (cl : List (PySem.Str × Addr)) (fp : List Addr), PG (X.blk s H scope (compEnvC scope cl C X.env) fp) tg g) (ht
          : ∀ (s : Shared) (H : Hp) (C : Addr) (cl : List (PySem.Str × Addr)) (fp : List Addr), PTs (X.blk s H scope (compEnvC scope cl C X.env) fp) ifs tt)
    (he : ∀ (s : Shared) (H : Hp) (C : Addr) (cl : List (PySem.Str × Addr)) (fp : List Addr), PE (X.blk
          s H scope (compEnvC scope cl C X.env) fp) elt te) (hs : ∀ x, foldedSetIterable iter X.env x = pure x)
    (h : tSk X.prog X.w wi g tt te (own.map (·.2)) σ H Q)
    (hRR : ∀ D C s' m H', L2.Inv X pins σ H' s' → Q (.ref D) H' → s'.heap.Ns C m → FpOk X pins H' C → compPost (model X.prog X.w) X.A X.xe use Qf (.ref D) C (.ok .next) s') :
    wpAny (model X.prog X.w) X.A (comprehension (.SetComp elt [⟨tg, iter, ifs, 0⟩] scope pos)
          scope X.env pos' (newSet (.type "set")) false (eval iter X.env) use) Qf X.xe s := by
  have hfree : ∀ y ∈ scope.names, y.2 = .free → ∃ c,
        X.env.cells.lookup y.1 = some c := fun y hy e => by
    rcases ok.free y
          hy e with k | k
    · exact I.ok.has _ (.inl k)
    · exact I.ok.has _ (.inr k)
  refine wpAny_comprehension_free (use := use) rfl hs (closure_ok
        hfree) ok.kind (fun y hy e => by rw [ok.uniq y hy, e])
    (thn (hi.run pins s σ H _ I h) fun xv
          s1 hx => thn hx fun itv s2 h2 => ?_)
  obtain ⟨it, fp, tn, J, H2,
        e, I2, T, st2, f2, q⟩ := h2
  subst e
  refine newSet_ok (newEnv_comp
        ?_)
  generalize hD :
        s2.heap.objs.size = D
  have hDn : H2 D = none := I2.hok.fresh (Nat.le_of_eq
        hD)
  obtain ⟨W, ⟨m0, w0⟩,
        turn⟩ := q D hDn
  -- the new list
  generalize hs3 : ({ s2 with heap := s2.heap.push { cls := .type "set", dict := none, data := .set #[] 0 (.fresh 0 0 (!X.w.params.followText "set-order")) } }
        : Shared) = s3
  have I3 : L2.Inv X pins σ (upd H2 D (SetK X.prog X.w D (fun _ => false) 0)) s3 := by
    rw [← hs3]
    refine I2.laid (t' := s2.toks) (fun b o e
          => Heap.get?_push_of_some _ e) (Nat.le_of_eq hD) ?_
    rw [← hD]
    exact setK_new ⟨_, #[], 0, _, Heap.get?_push_size _ rfl, ⟨rfl, rfl, rfl⟩, rfl, (fun e he => by simp at he), (fun k => by simp), (by decide), (by rfl), rfl⟩
  have h3 : s3.heap = s2.heap.push { cls := .type "set", dict := none, data := .set #[] 0 (.fresh 0 0 (!X.w.params.followText "set-order")) } := by rw [←
        hs3]
  have sz : ∀ b ∈ fp, b <
        s2.heap.objs.size := fun b hb => by
    obtain ⟨o, e,
          _⟩ := T.obj _ _ st2 b hb
    exact Heap.lt_size e
  have f3 : ∀ b ∈ fp, FpOk X pins (upd H2 D (SetK X.prog X.w D (fun _ => false) 0)) b ∧ b < s3.heap.objs.size := fun b hb => by
    have hlt := sz b hb
    refine ⟨⟨?_, (f2 b hb).2⟩, by (rw [h3, Heap.size_push]; exact Nat.lt_succ_of_lt hlt)⟩
    rw [upd_ne (by (rw [← hD]; exact Nat.ne_of_lt hlt))]
    exact (f2 b hb).1
  have st3 : tn 0 s3.heap := T.keep _ _ _ st2 fun b _ o e => by (rw [h3]; exact Heap.get?_push_of_some _ e)
  have I4 := block_start
        I3 ok hN f3
  have pg := hg s3 (upd H2 D (SetK X.prog X.w D (fun _ => false) 0)) s3.heap.objs.size (cellsFrom (s3.heap.objs.size + 1) scope.names (cloFrom X.env.cells scope.names [])) fp
  have pt := ht s3 (upd H2 D (SetK X.prog X.w D (fun _ => false) 0)) s3.heap.objs.size (cellsFrom (s3.heap.objs.size + 1) scope.names (cloFrom X.env.cells scope.names [])) fp
  have pe := he s3 (upd H2 D (SetK X.prog X.w D (fun _ => false) 0)) s3.heap.objs.size (cellsFrom (s3.heap.objs.size + 1) scope.names (cloFrom X.env.cells scope.names [])) fp
  show codeAny _ _ (.compStart (.SetComp elt [⟨tg, iter, ifs, 0⟩] scope pos) 0 (.ref it) (.ref D) (compEnvC scope (cellsFrom (s3.heap.objs.size + 1) scope.names (cloFrom X.env.cells scope.names []))
        s3.heap.objs.size X.env)) (compPost (model X.prog X.w) X.A X.xe use Qf (.ref D) s3.heap.objs.size) { s3 with heap := pushCells (s3.heap.push { cls := .type "dict", data := .dict #[] }) scope.names }
  have nfp : ∀ b ∈ fp, (upd H2 D (SetK X.prog X.w D (fun _ => false) 0)) b = none := fun b hb => (f3 b hb).1.1
  generalize hce : compEnvC scope (cellsFrom (s3.heap.objs.size + 1) scope.names
        (cloFrom X.env.cells scope.names [])) s3.heap.objs.size X.env = ce at I4 pg pt pe ⊢
  have cL : ce.locals = s3.heap.objs.size := by (subst hce; rfl)
  generalize hH3 : upd H2 D (SetK X.prog X.w D (fun _ => false) 0) = H3 at I3 I4 pg pt pe w0 nfp f3
  generalize hs4 : ({ s3 with heap := pushCells (s3.heap.push { cls := .type "dict", data := .dict #[] }) scope.names }
        : Shared) = s4 at I4 ⊢
  have st4 : tn 0 s4.heap := T.keep _ _ _ st3 fun b _ o e => by (rw [← hs4]; exact pushCells_keeps _ _ _ _ (Heap.get?_push_of_some _ e))
  have stat : ∀ {σ' : L2.St} {H' : Hp} {s' : Shared}, Inv (X.blk s3 H3 scope ce fp) [] σ' H' s' → (∀ b
        ∈ fp, H' b = none) → ∀ b ∈ fp, FpOk (X.blk s3 H3 scope ce fp) [] H' b := fun {σ' H' s'} I' hn b hb =>
    ⟨hn b hb, (I'.ok.exf b hb).1, I'.ok.exfs b hb, .inl hb, fun x c e => (I'.ok.exf b hb).2
          x c e, fun p hp => absurd (show p ∈ ([] : List (Addr × Obj)) ++ [] from hp) (by simp)⟩
  have loop : codeAny (model X.prog X.w) X.A (.compLoop (.SetComp elt [⟨tg, iter, ifs, 0⟩] scope pos) 0
        (.ref it) (.ref D) ce) (compPost (model X.prog X.w) X.A X.xe use Qf (.ref D) s3.heap.objs.size) s4 := by
    refine compLoopS_any (fun n s' => ∃ i H', Inv (X.blk s3 H3 scope ce fp) [] (wipe σ (own.map
          (·.2))) H' s' ∧ tn i s'.heap ∧ (∀ b ∈ fp, H' b = none) ∧ W i n H') ?_ m0 ⟨0, H3, I4, st4, nfp, w0⟩
    rintro n s5 ⟨i, H5,
          I5, st5, n5, w5⟩
    rcases turn i n H5 w5 with ⟨stop,
          qq⟩ | ⟨go, Nx, hNx, step⟩
    · have td := T.done (X.blk s3 H3 scope ce
          fp) rfl rfl rfl hc i [] s5 _ H5 (fun _ _ => False) I5 (stat I5 n5) st5 stop
      refine thnF td fun r s6 ⟨hr,
            I6⟩ => ?_
      subst hr
      -- back in the def's context
      have I7 : L2.Inv X pins σ H5 s6 := I3.call' (ch := fp) I6.os I6.base I6.hok I6.bare fun b hb => ⟨(f3 b hb).1.2.2.2.1, (f3 b hb).1.2.1, (f3 b hb).1.2.2.2.2.1, (f3 b hb).1.2.2.2.2.2⟩
      have nC : H5
            s3.heap.objs.size = none := by
        have z : H5 ce.locals
              = none := I6.free
        rw [cL] at z
        exact z
      obtain ⟨m, hn, _⟩ := I6.loc
      have hn : s6.heap.Ns
            ce.locals m := hn
      rw [cL] at hn
      exact hRR D s3.heap.objs.size s6 m H5 I7 qq hn (I3.fpOk
            (Nat.le_refl _) nC)
    · have ti := T.item (X.blk s3 H3 scope ce
          fp) rfl rfl rfl hc i [] s5 _ H5 (fun _ _ => False) I5 (stat I5 n5) st5 go
      refine thnF ti fun r s6 ⟨u,
            hr, h6⟩ => ?_
      subst hr
      refine thnF h6 fun _ s7 ⟨x,
            H7, I7, r7, y7, st7, n7⟩ => ?_
      have I7' := I7.pinned (stat
            I7 n7) (T.obj _ _ st7)
      refine thnF (pg.run _ s7 _ H7 x u _ I7' r7 (step
            x H7 y7)) fun _ s8 ⟨σ8, H8, I8, hw8, q8⟩ => ?_
      refine thnF (pt.run _ s8 σ8 H8 _
            I8 q8) fun b s9 ⟨H9, I9, q9⟩ => ?_
      -- the turn's end
      have fin : ∀ {s' : Shared} {H' : Hp}, Inv (X.blk s3 H3 scope ce fp) ([] ++ pinsAt fp s7.heap) σ8 H' s' → Nx H' → ∃ m, m < n ∧ ∃ i H', Inv (X.blk
            s3 H3 scope ce fp) [] (wipe σ (own.map (·.2))) H' s' ∧ tn i s'.heap ∧ (∀ b ∈ fp, H' b = none) ∧ W i m H' := fun {s' H'} I' nx => by
        obtain ⟨m', hm,
              w'⟩ := hNx H' nx
        have pin' : ∀ b ∈ fp, ∀ o, s7.heap.get? b = some o →
              s'.heap.get? b = some o ∧ H' b = none := fun b hb o e =>
          let z := I'.pin (b, o) (List.mem_append_right
                _ (List.mem_append_right _ (mem_pinsAt hb e)))
          ⟨z.1, z.2.1⟩
        have hl : (wipe σ (own.map
              (·.2))).length = σ8.length := by rw [← hw8, wipe_length]
        refine ⟨m', hm, i + 1, H', (I'.unpinned (pins := [])).weak hl (fun j v e
              => ?_), T.keep _ _ _ st7 fun b hb o e => (pin' b hb o e).1, fun b hb => ?_, w'⟩
        · rw [← hw8] at e
          exact (wipe_some e).1
        · obtain ⟨o, e,
              _⟩ := T.obj _ _ st7 b hb
          exact (pin' b hb o e).2
      cases b with
      | false =>
        simp only [Bool.false_eq_true,
              if_false] at q9 ⊢
        exact fin I9 q9
      | true =>
        simp only [if_true] at q9 ⊢
        refine thnF (pe.run _ s9 σ8 H9 _ I9 q9) fun z s10 ⟨yv,
              H10, I10, r10, cb, S0, n0, ey, hD10, hz10, nx⟩ => ?_
        subst ey
        exact addK_ok (X := X.blk s3 H3 scope ce fp) I10 hD10 hz10 r10 fun s11 I11 => fin I11 nx
  exact codeAny_compStart_set loop (T.self
        X.A 0 _ _ _ st4 loop)
/-- as a value -/
theorem pe_sk {elt tg iter : Expr} {ifs : List Expr} {scope : Scope} {own : List (PySem.Str × Nat)} {pos : Pos} {wi : TI} {g : TG} {tt : TT} {te : TE} (hc : X.calm = true) (hN : X.N.Nodup) (hi : PI X tg iter wi) (ok : BlkOk X.N X.env.scope scope own)
    (hg : ∀ (s : Shared) (H : Hp) (C : Addr) (cl : List (PySem.Str × Addr)) (fp : List Addr), PG (X.blk s H scope (compEnvC scope cl C X.env) fp) tg g) (ht
          : ∀ (s : Shared) (H : Hp) (C : Addr) (cl : List (PySem.Str × Addr)) (fp : List Addr), PTs (X.blk s H scope (compEnvC scope cl C X.env) fp) ifs tt)
    (he : ∀ (s : Shared) (H : Hp) (C : Addr) (cl : List (PySem.Str × Addr)) (fp : List Addr), PE (X.blk s H scope (compEnvC scope cl C X.env) fp) elt te) (hs : ∀ x, foldedSetIterable iter X.env x = pure x := by (intro _; rfl)) :
    PE X (.SetComp elt [⟨tg, iter, ifs, 0⟩] scope pos) (tSk X.prog X.w wi g tt te (own.map (·.2))) := by
  refine ⟨fun pins
        s σ H Q I h => ?_⟩
  rw [eval_SetComp]
  refine sk_core hc hN I hi ok hg ht he hs h fun D C s' m H' I' q hn f => ⟨m, hn, fun h'' sb => ?_⟩
  obtain ⟨f0, f1, f2,
        f3, f4, f5⟩ := f
  exact ⟨.ref D, H', I'.turned (t' := s'.toks) (fun b o
        hb e => (sb.2 b hb).trans e) f0 f1 f3 f4 f5, rfl, q⟩
end
end PF
/-! F19: len of a set of ints and texts. -/
namespace PF
open PySem PySem.Spec L2 PpSet
open PyProof.Rows hiding St

def keyOf : PyData → Option Key
  | .int i => some (.inl i)
  | .str x => some (.inr x)
  | _ => none
def memK (ks : List Key) (j : Key) : Bool := ks.any fun x => decide (j = x)
def addKey (ks : List Key) (k : Key) : List Key := if memK ks k = true then ks else ks ++ [k]
def keysOf : List PyData → Option (List Key)
  | [] => some []
  | d :: ds => (keyOf d).bind fun k => (keysOf ds).map fun l => k :: l
def dd (l : List Key) : List Key := l.foldl addKey []
def SK (P : Program) (w : World) (a : Addr) (ks : List Key) : HO := SetK P w a (memK ks) ks.length
theorem sk_add {P : Program} {w : World} {a : Addr} {ks : List Key} {k : Key} : SetK P w a (fun j => memK ks j || decide (j = k)) (if memK ks k = true then ks.length else ks.length + 1) = SK P w a (addKey ks k) := by
  unfold SK addKey
  by_cases h : memK ks k = true
  · rw [if_pos h, if_pos h]
    congr 1
    funext j
    by_cases hj : j = k
    · subst hj
      rw [h]
      rfl
    · rw [decide_eq_false hj, Bool.or_false]
  · rw [if_neg h, if_neg h, List.length_append]
    congr 1
    funext j
    show _ = (ks ++ [k]).any _
    rw [List.any_append, List.any_cons, List.any_nil, Bool.or_false]
    rfl
theorem addKey_len {ks : List Key} {k : Key} : (addKey ks k).length ≤ ks.length + 1 := by
  unfold addKey
  split
  · omega
  · simp
theorem Dz.key {K : PySem.W.Frag} {H : Hp} {v : V} {d : PyData} {k : Key} (h : Dz K H v d) (e : keyOf d = some k) : v = kV k := by
  unfold keyOf at e
  split at e
  · cases e
    cases h
    rfl
  · cases e
    cases h
    rfl
  · cases e
theorem keysOf_cons {d : PyData} {ds : List PyData} {l : List Key} (h : keysOf (d :: ds) = some l) : ∃ k r, keyOf d = some k ∧ keysOf ds = some r ∧ l = k :: r := by
  unfold keysOf at h
  cases g : keyOf d with
  | none => rw [g] at h; cases h
  | some k =>
    cases g2 : keysOf ds with
    | none => rw [g, g2] at h; cases h
    | some r =>
      rw [g, g2] at h
      cases h
      exact ⟨k, r, rfl, rfl, rfl⟩
def RlK : Rl V (List Key) := fun K Γ H σ e v ks => ∃ a P w, v = .ref a ∧ Γ.G a = none ∧ Rep K (Γ.plus a (SK P w a ks)) H σ e
/-- what is kept at a, a set, is written, and kept as it then is -/
theorem Rep.reset {K : PySem.W.Frag} {Γ : Gx} {H : Hp} {σ : St} {e : Env} {a : Addr} {u o : HO} (hu : isFz u = false) (R : Rep K (Γ.plus a u) H σ e) : Rep K (Γ.plus a o) (upd H a o) σ e := by
  have ha := R.at_guard
  obtain ⟨g, R⟩ := R
  have ng : ∀ i, g a ≠ some i := fun i q => by
    obtain ⟨h1, _⟩ := R.gh a i q
    have h1 : upd Γ.G a u a = none := h1
    rw [upd_same] at h1
    cases h1
  have kg : ∀ b i, g b = some i → upd H a o b = H b := fun b i q => upd_ne fun z => ng i (by rw [← z]; exact q)
  have fz : FzLe H (upd H a o) := fun b v z q => by
    by_cases hb : b = a
    · subst hb
      rw [ha] at q
      cases q
      rw [hu] at z
      cases z
    · rw [upd_ne hb]
      exact q
  refine ⟨g, R.len, fun i sv h => ?_, fun b i q => ?_, fun b v q => ?_⟩
  · obtain ⟨v, h1, h2⟩ := R.at_ i sv h
    exact ⟨v, h1, RV.mono (Γ := Γ) fz (fun b hb => kg b i hb) h2⟩
  · obtain ⟨h1, ys, h2⟩ := R.gh b i q
    have nb : b ≠ a := fun z => ng i (by rw [← z]; exact q)
    have h1 : upd Γ.G a u b = none := h1
    rw [upd_ne nb] at h1
    refine ⟨?_, ys, (kg b i q).trans h2⟩
    show upd Γ.G a o b = none
    rw [upd_ne nb]
    exact h1
  · have q : upd Γ.G a o b = some v := q
    by_cases nb : b = a
    · subst nb
      rw [upd_same] at q ⊢
      exact q
    · rw [upd_ne nb] at q ⊢
      exact R.keep b v (by
        show upd Γ.G a u b = some v
        rw [upd_ne nb]
        exact q)
def eSetC (it : M (List PyData)) (s : Tgt) (vs : List Nat) (t : M Bool) (y : M PyData) : M (List Key) := M.bind it fun ds e1 => match compM s vs t y ds e1 with
  | .ok rs e2 => match keysOf rs with
    | some l => if ds.length < 4000 then .ok (dd l) (restore e1 e2 vs) else .bad
    | none => .bad
  | _ => .bad
section
variable {ts : List Nat} {s : Tgt} {it : M (List PyData)} {t : M Bool} {y : M PyData}
theorem setc_read {P : Program} {w : World} {W : WX} {K : PySem.W.Frag} {mg : Str → Option Value} {vs : List Nat} (hts : ∀ i ∈ ts, i ∈ vs) {σ : St} {H : Hp} {Q : VK} (h : tR (fun K Γ H σ e v ks => ∃ a, v = .ref a ∧ Γ.G a = none ∧ Rep K (Γ.plus a (SK P w a ks)) H σ e) K mg W (eSetC it s vs t y) σ H Q) :
    tSk P w (tR RlI K mg W it) (tG K ts s) (tR RlB K mg W0 t) (tR RlD K mg W0 y) vs σ H Q := by
  obtain ⟨Γ, e, R0, p⟩ := h
  refine ⟨Γ, e, R0, post.step p fun J H1 ds e1 ⟨R1, hJ, hlen⟩ fz01 q => fun D hD => ?_⟩
  cases hc : compM s vs t y ds e1 with
  | exc x e2 => rw [hc] at q; exact q.elim
  | bad => rw [hc] at q; exact q.elim
  | ok rs e2 =>
    rw [hc] at q
    dsimp only at q
    cases hk : keysOf rs with
    | none => rw [hk] at q; exact q.elim
    | some l =>
    rw [hk] at q
    dsimp only at q
    by_cases hl : ds.length < 4000
    case neg =>
      rw [if_neg hl] at q
      exact q.elim
    case pos =>
    rw [if_pos hl] at q
    refine ⟨fun i m H' => m = ds.length - i ∧ i ≤ ds.length ∧ FzLe H1 H' ∧ ∃ done ei rest lr, Rep K (Γ.plus D (SK P w D done)) H' (L2.wipe σ vs) (wipeE ei vs) ∧ done.length ≤ i ∧ compM s vs t y (ds.drop i) ei = .ok rest e2 ∧ keysOf rest = some lr ∧ dd l = lr.foldl addKey done,
      ⟨ds.length, by simp, Nat.zero_le _, fz_same (same_new hD), [], e1, rs, l, ?_, Nat.le_refl _, hc, hk, rfl⟩, ?_⟩
    · have g := (R1.guard (o := SK P w D []) hD).wipe (vs := vs)
      have es : SK P w D [] = SetK P w D (fun _ => false) 0 := by
        unfold SK
        rfl
      rw [es] at g ⊢
      exact g
    rintro i m H' ⟨rfl, hi, fz, done, ei, rest, lr, R, hal, hcm, hkr, hrs⟩
    have hj := hJ i H' hi fz
    by_cases hlt : i < ds.length
    · have ed : ds[i]? = some ds[i] := List.getElem?_eq_getElem hlt
      rw [ed] at hj
      have hdrop : ds.drop i = ds[i] :: ds.drop (i + 1) := List.drop_eq_getElem_cons hlt
      rw [hdrop] at hcm
      unfold compM at hcm
      refine .inr ⟨hj.1, fun H' => i + 1 ≤ ds.length ∧ FzLe H1 H' ∧ ∃ done ei rest lr, Rep K (Γ.plus D (SK P w D done)) H' (L2.wipe σ vs) (wipeE ei vs) ∧ done.length ≤ i + 1 ∧ compM s vs t y (ds.drop (i + 1)) ei = .ok rest e2 ∧ keysOf rest = some lr ∧ dd l = lr.foldl addKey done, fun H'' hn => ⟨ds.length - (i + 1), by omega, rfl, hn⟩, fun x H'' hy => ?_⟩
      obtain ⟨sm, dz⟩ := hj.2 x H'' hy
      split at hcm
      · cases hcm
      · rename_i e' g1
        refine ⟨Γ.plus D (SK P w D done), wipeE ei vs, ds[i], e', R.same sm, dz, g1, fun σ2 R2 o2 => ⟨(wipe_ext (o2.mono hts)).trans (wipe_sub fun _ h => h), ?_⟩⟩
        have wσ : L2.wipe σ2 vs = L2.wipe σ vs := (wipe_ext (o2.mono hts)).trans (wipe_sub fun _ h => h)
        refine ⟨Γ.plus D (SK P w D done), e', R2, ?_⟩
        split at hcm
        · rename_i e3 g2
          rw [g2]
          intro b H3 ⟨R3, hb⟩ fz3
          subst hb
          rw [if_pos rfl]
          refine ⟨Γ.plus D (SK P w D done), e3, R3, ?_⟩
          split at hcm
          · rename_i r e4 g3
            rw [g3]
            intro yv H4 ⟨R4, d4⟩ fz4
            have f14 := (fz.trans (fz_same sm)).trans (fz3.trans fz4)
            have hD4 := R4.at_guard
            split at hcm
            · rename_i rs' e5 g4
              cases hcm
              obtain ⟨k, lr', k1, k2, rfl⟩ := keysOf_cons hkr
              have ff : FzLe H4 (upd H4 D (SK P w D (addKey done k))) := fun b v z q => by
                by_cases hb : b = D
                · subst hb
                  rw [hD4] at q
                  cases q
                  cases z
                · rw [upd_ne hb]
                  exact q
              refine ⟨k, _, done.length, d4.key k1, hD4, by show done.length + 1 < 4096; omega, hlt, ?_, addKey done k, e4, rs', lr', ?_, ?_, g4, k2, hrs⟩
              · rw [sk_add]
                exact f14.trans ff
              · rw [sk_add, ← wσ]
                exact (Rep.reset rfl R4).wipe
              · have := addKey_len (ks := done) (k := k)
                omega
            · cases hcm
          · cases hcm
        · rename_i e3 g2
          rw [g2]
          intro b H3 ⟨R3, hb⟩ fz3
          subst hb
          rw [if_neg
                Bool.false_ne_true]
          refine ⟨hlt, (fz.trans (fz_same sm)).trans fz3, done, e3, rest, lr, ?_, Nat.le_succ_of_le hal, hcm, hkr, hrs⟩
          rw [← wσ]
          exact R3.wipe
        · cases hcm
    · have ei' : i = ds.length := by omega
      subst ei'
      rw [List.getElem?_eq_none (Nat.le_refl _)] at hj
      rw [List.drop_length] at hcm
      cases hcm
      cases hkr
      have hrs : dd l = done := hrs
      rw [hrs] at q
      exact .inl ⟨hj, q _ _ ⟨D, rfl, R1.free hD, R.unwipe R1 fz⟩ fz⟩
end
def RlSK (P : Program) (w : World) : Rl V (List Key) := fun K Γ H σ e v ks => ∃ a, v = .ref a ∧ Γ.G a = none ∧ Rep K (Γ.plus a (SK P w a ks)) H σ e
/-- an expression that makes a set -/
abbrev DK (X : Cx) (W : WX) (e : Expr) (f : M (List Key)) : Prop := PE X e (tR (RlSK X.prog X.w) X.K X.mg W f)
section
variable {X : Cx} {W : WX} {elt tg iter a : Expr} {ifs : List Expr} {scope : Scope} {own : List (Str × Nat)} {pos p : Pos} {ts : List Nat} {s : Tgt} {it : M (List PyData)} {t : M Bool} {y : M PyData}
theorem dk_comp (hc : X.calm = true) (hN : X.N.Nodup) (hi : DI X W tg iter it) (ok : BlkOk X.N X.env.scope scope own)
    (hg : ∀ (s' : Shared) (H : Hp) (C : Addr) (cl : List (Str × Addr)) (fp : List Addr), DG (X.blk s' H scope (compEnvC scope cl C X.env) fp) tg ts s) (ht : ∀ (s' : Shared) (H : Hp) (C : Addr) (cl : List (Str × Addr)) (fp : List Addr), PTs (X.blk s' H scope (compEnvC scope cl C X.env) fp) ifs (tR RlB X.K X.mg W0 t))
    (he : ∀ (s' : Shared) (H : Hp) (C : Addr) (cl : List (Str × Addr)) (fp : List Addr), DE (X.blk s' H scope (compEnvC scope cl C X.env) fp) W0 elt y) (hs : ∀ x, foldedSetIterable iter X.env x = pure x) (hts : ∀ i ∈ ts, i ∈ own.map (·.2)) :
    DK X W (.SetComp elt [⟨tg, iter, ifs, 0⟩] scope pos) (eSetC it s (own.map (·.2)) t y) :=
  (pe_sk hc hN hi ok hg ht he hs).imp fun σ H Q h => setc_read hts h
theorem call_lenK : CallR X (.builtin "len") (fun xs H Q => ∃ a S n, xs = [.ref a] ∧ H a = some (SetK X.prog X.w a S n) ∧ Q (.int (n : Nat)) H) := by
  intro pins s σ H xs us Q I r ⟨a, S, n, h1, h2, q⟩
  subst h1
  cases r with
  | cons r t =>
    cases t
    cases r
    have hS := setK_get I h2
    obtain ⟨o, es, ep, t, ho, hex, hd, hel, hm, hb, hf, hn⟩ := hS
    subst hn
    refine call_len_set ho hex hd hf ?_ ⟨.int _, H, I.tok _, ⟨_, rfl⟩, q⟩
    have : es.size < 4096 := hb
    omega
def eLenK (f : M (List Key)) : M PyData := M.bind f fun ks => M.pure (.int ks.length)
theorem de_lenK {f : M (List Key)} (h : DK X W a f) (hg : Gl X "len") (hm : X.mg "len" = none) (hs : notStar a = true) : DE X W (.Call (.Name "len" p) [a] [] pos) (eLenK f) :=
  (pe_callB call_lenK hg hm PySem.boot_len (pa_cons h pa_nil (star_one a [] X.env hs)) (by decide) (by decide) (star_one a [] X.env hs) (by rfl)).imp fun σ H Q ⟨Γ, e, R, p⟩ => ⟨Γ, e, R, post.step p fun v H1 ks e1 ⟨a, h1, h2, h3⟩ _ q =>
    ⟨a, _, _, by rw [h1], h3.at_guard, q.ok ⟨h3.unguard h2, .int _⟩⟩⟩
end
end PF
/-! F20: defs as the head tells them; what a caller must know; small things for the printed proofs. -/
namespace PF
open PySem PySem.Spec L2
open PyProof.Rows hiding St

abbrev FnP (K : PySem.W.Frag) (x : Str) (st : Stmt) (f : Addr) (fd :
      FuncData) : Prop := FunD K x x (defArgs st) (defBody st) (defScope st) [] [] f fd
/-- what a caller must know of a def -/
structure Cal (P : Program) (w : World) (K : PySem.W.Frag) (mg : Str → Option Value) (base : Heap) (x : Str) (k : Nat) (ps : List Str) (F : Sem) (f : Addr) (fd : FuncData) : Prop where
  ok : FnOk P w K mg base (L2.CX P w) k f fd ps (spOf K mg ps.length F)
  gl : mg x = some (.ref f)
  kp : PySem.W.keepIn K (.ref
        f) = true
  bd : Binds K fd ps []
section
variable {P : Program} {w : World} {K : PySem.W.Frag}
      {mg : Str → Option Value} {base : Heap}
theorem Cal.up {x : Str} {j k : Nat} {ps : List Str} {F : Sem} {f : Addr} {fd : FuncData} (C : Cal P w K mg base x j ps F f fd) (h : j ≤ k) : Cal P w K mg base x k ps F f fd := ⟨C.ok.mono h, C.gl, C.kp, C.bd⟩
theorem fn_okD {x : Str} {st : Stmt} {f : Addr} {fd : FuncData} {N ps : List Str} {k : Nat} {b : B} (F : FnP K x st f fd) (S : FnScope N ps (defScope st))
    (hb : ∀ (cdv : Value) (A : Around) (outer : List PySem.Env) (s : Shared) (H : Hp) (E : XK), Room k (A.deeper (envOfC x (defScope st) s.heap.objs.size f cdv)) →
      DSs (cxOf (L2.CX P w) P w K mg base N x (defScope st) f cdv A outer s H E) (fun c d _ H => E c d H) (defBody st) b) :
    FnOk P w K mg base (L2.CX P w) (k + 1) f fd ps (spOf K mg ps.length (runBody N.length b)) := by
  refine F.ok S (fun vs H Q E h => h.1) fun cdv A outer s H vs Q E hr h => ⟨_, hb cdv A outer s H E hr, ?_⟩
  obtain ⟨hl, G, svs, R, q⟩ := h
  have hlen : svs.length = vs.length := by
    obtain ⟨g, R⟩ := R
    have z := R.len
    rw [List.length_map, List.length_map] at z
    exact z
  refine ⟨⟨G, pinOf vs⟩, svs.map some ++ List.replicate (N.length - svs.length) none, ?_, ?_⟩
  · show Rep K _ H (vs.map some ++ List.replicate (N.length - vs.length) none) _
    rw [hlen]
    exact R.pad _
  · unfold runBody at q
    split at q
    · rename_i r outs hq
      split at hq
      · rename_i r' e' hb
        rw [hb]
        split at hq
        · rename_i o ho
          cases hq
          exact fun v σ' H' h1 h2 => q v H' (rlr_outs h1 R h2 ho) h2
        · cases hq
      · rename_i e' hb
        rw [hb]
        split at hq
        · rename_i o ho
          cases hq
          exact fun σ' H' h1 h2 => q .non H' ⟨rep_outs h1 R h2 ho, .non⟩ h2
        · cases hq
      · split at hq <;> cases hq
      · cases hq
    · rename_i x outs hq
      split at hq
      · split at hq <;> cases hq
      · split at hq <;> cases hq
      · rename_i x' e' hb
        rw [hb]
        split at hq
        · rename_i o ho
          cases hq
          exact fun c o' σ' H' h1 h2 h3 => q c o' H' h1 (rep_outs h2 R h3 ho) h3
        · cases hq
      · cases hq
    · exact q.elim
/-- .. as the printed proofs use it -/
theorem fn_okE {x : Str} {st : Stmt} {f : Addr} {fd : FuncData} {N ps : List Str} {k n np : Nat} {b : B} {sem : Sem} (F : FnP K x st f fd) (S : FnScope N ps (defScope st)) (h1 : sem = runBody n b) (h2 : N.length = n) (h3 : ps.length = np)
    (hb : ∀ (cdv : Value) (A : Around) (outer : List PySem.Env) (s : Shared) (H : Hp) (E : XK), Room k (A.deeper (envOfC x (defScope st) s.heap.objs.size f cdv)) →
      DSs (cxOf (L2.CX P w) P w K mg base N x (defScope st) f cdv A outer s H E) (fun c d _ H => E c d H) (defBody st) b) :
    FnOk P w K mg base (L2.CX P w) (k + 1) f fd ps (spOf K mg np sem) := by
  subst h1 h2 h3
  exact fn_okD F S hb
/-- a def that never answers: for the fuel of one that calls itself -/
def fBad : Sem := fun _ => .bad
theorem fn_bad {x : Str} {st : Stmt} {f : Addr} {fd : FuncData} {N ps : List Str} {k : Nat} (F : FnP K x st f fd) (S : FnScope N ps (defScope st)) : FnOk P w K mg base (L2.CX P w) (k + 1) f fd ps (spOf K mg ps.length fBad) :=
  F.ok (CX := L2.CX P w) S (fun vs H Q E h => h.1) fun cdv A outer s H vs Q E hr h => by
    obtain ⟨hl, G, svs, R, q⟩ := h
    exact q.elim
def LenOk (fs : M (List Opd)) (n : Nat) : Prop := ∀ e ts e1, fs e = .ok ts e1 → ts.length = n
theorem lo_nil : LenOk (M.pure []) 0 := fun e ts e1 h => by
  cases h
  rfl
theorem lo_cons {f : M Opd} {g : M (List Opd)} {n : Nat} (h : LenOk g n) : LenOk (M.bind f fun t => M.bind g fun ts => M.pure (t :: ts)) (n + 1) := fun e ts e1 q => by
  unfold M.bind at q
  split at q
  · rename_i a e2 q1
    dsimp only at q
    split at q
    · rename_i as e3 q2
      cases q
      exact congrArg (· + 1) (h _ _ _ q2)
    · cases q
    · cases q
  · cases q
  · cases q
section
variable {X : Cx} {W : WX} {a : Expr} {es : List Expr} {p pos : Pos} {x : Str} {j k n : Nat} {f : Addr} {fd : FuncData} {ps : List Str} {F : Sem} {fs : M (List Opd)}
theorem de_own (C : Cal X.prog X.w X.K X.mg X.base x j ps F f fd) (hr : Room k X.A) (hj : j ≤ k) (hg : Gl X x) (tk : Takes X W) (ha : DTs X W (a :: es) fs) (hlen : LenOk fs n) (hn : n = ps.length) (hdb : (x == ("__debug__" : Str)) = false) (hs : notStar a = true) (hpl : (backTo pos (starEach es X.env)).any (·.1) = false) :
    DE X W (.Call (.Name x p) (a :: es) [] pos) (eCallD F fs) := de_call C.ok (hr.mono hj) hg C.gl C.kp C.bd tk ha (fun e ts e1 h => (hlen e ts e1 h).trans hn) hdb hs hpl
theorem do_own (C : Cal X.prog X.w X.K X.mg X.base x j ps F f fd) (hr : Room k X.A) (hj : j ≤ k) (hg : Gl X x) (tk : Takes X W) (ha : DTs X W (a :: es) fs) (hlen : LenOk fs n) (hn : n = ps.length) (hdb : (x == ("__debug__" : Str)) = false) (hs : notStar a = true) (hpl : (backTo pos (starEach es X.env)).any (·.1) = false) :
    DO X W (.Call (.Name x p) (a :: es) [] pos) (eCallO F fs) := do_call C.ok (hr.mono hj) hg C.gl C.kp C.bd tk ha (fun e ts e1 h => (hlen e ts e1 h).trans hn) hdb hs hpl
theorem de_own0 (C : Cal X.prog X.w X.K X.mg X.base x j [] F f fd) (hr : Room k X.A) (hj : j ≤ k) (hg : Gl X x) (hdb : (x == ("__debug__" : Str)) = false) : DE X W (.Call (.Name x p) [] [] pos) (call0D F) := de_call0 C.ok (hr.mono hj) hg C.gl C.kp C.bd hdb passL
theorem do_own0 (C : Cal X.prog X.w X.K X.mg X.base x j [] F f fd) (hr : Room k X.A) (hj : j ≤ k) (hg : Gl X x) (hdb : (x == ("__debug__" : Str)) = false) : DO X W (.Call (.Name x p) [] [] pos) (call0O F) := do_call0 C.ok (hr.mono hj) hg C.gl C.kp C.bd hdb passL
end
def eVal (f : M PyData) : M Opd := M.bind f fun d => M.pure (.val d)
def eFrz (f : M (List PyData)) : M PyData := M.bind f fun ds => M.pure (.list ds)
def aNil : M (List Opd) := M.pure []
def aCons (f : M Opd) (g : M (List Opd)) : M (List Opd) := M.bind f fun t => M.bind g fun ts => M.pure (t :: ts)
def pNil : M (List PyData) := M.pure []
def pCons (f : M PyData) (g : M (List PyData)) : M (List PyData) := M.bind f fun t => M.bind g fun ts => M.pure (t :: ts)
def pC (d : PyData) : M PyData := M.pure d
end
section
variable {X : Cx} {W : WX} {a b : Expr} {pos : Pos}
/-- x + y, both lists: a new one -/
def eCat (f g : M Opd) : M (List PyData) := M.bind f fun s => M.bind g fun t e => match s.get e, t.get e with
  | some (.list xs), some (.list ys) => if xs.length + ys.length ≤ sizeLine then .ok (xs ++ ys) e else .bad
  | _, _ => .bad
theorem do_cat {f g : M Opd} (ha : DT X W a f) (hb : DT X W b g) : DO X W (.BinOp a .Add b pos) (eCat f g) :=
  (pe_op catF_list ha hb).imp fun σ H Q ⟨Γ, e, R, p⟩ => ⟨Γ, e, R, post.step p fun v H1 t e1 ⟨R1, h1⟩ _ q => ⟨Γ, e1, R1, post.step q fun v2 H2 t2 e2 ⟨R2, h2⟩ fz q2 => by
    split at q2
    · rename_i xs ys g1 g2
      split at q2
      · rename_i hl
        obtain ⟨l, vs, rfl, k1, k2, k3⟩ := (R2.tk (h1.mono fz) g1).lst
        obtain ⟨m, ws, rfl, k4, k5, k6⟩ := (R2.tk h2 g2).lst
        have l1 := k3.length
        have l2 := k6.length
        refine ⟨l, m, vs, ws, rfl, rfl, k1, k4, by omega, fun p hp => q2 _ _ ⟨p, _, rfl, R2.free hp, by rw [List.length_append]; omega, DzA.mono (fz_same (same_new hp)) _ _ (k3.append k6), R2.guard hp⟩ (fz_same (same_new hp))⟩
      · exact q2.elim
    · exact q2.elim⟩⟩
end
end PF
/-! F21: a law's end. -/
namespace PF
open PySem PySem.Spec L2
open PyProof.Rows hiding St

/-- what is to be shown of a law's plain function -/
def LawTrue (F : Sem) : Prop := ∀ ns : List Int, ns.length ≤ 63 → (∃ o, F [.scr (ns.map .int)] = .ok (.dat (.bool true)) o) ∧ ∃ o, F [.ino (ns.map .int)] = .ok (.dat (.bool true)) o
theorem dza_ints {K : PySem.W.Frag} {H : Hp} : ∀ ns : List Int, DzA K H (ns.map V.int) (ns.map .int)
  | [] => .nil
  | n :: ns => .cons (.int n) (dza_ints ns)
theorem law_sp {K : PySem.W.Frag} {mg : Str → Option Value} {F : Sem} (hF : LawTrue F) (H : Hp) (a : Addr) (ns : List Int) (hl : ns.length ≤ 63) (hS : SqL K H a (ns.map V.int)) :
    spOf K mg 1 F [.ref a] H (fun v _ => v = .bl true) fun _ _ _ => False := by
  have hz : (ns.map V.int).length ≤ sizeLine := by
    rw [List.length_map]
    have := sizeLine_eq
    omega
  have fin : ∀ {Γ : Gx} {sv : SV} {o : List SV}, Rep K Γ H ([V.ref a].map some) ([sv].map some) → Γ.pin = pinOf [V.ref a] → F [sv] = .ok (.dat (.bool true)) o → spOf K mg 1 F [.ref a] H (fun v _ => v = .bl true) fun _ _ _ => False := fun {Γ sv o} R hp hF => by
    obtain ⟨G, pn⟩ := Γ
    cases hp
    refine ⟨rfl, G, [sv], R, ?_⟩
    rw [hF]
    intro v H' h _
    cases h.2
    rfl
  obtain ⟨⟨o1, h1⟩, o2, h2⟩ := hF ns hl
  have scr : FLK K H a (ns.map V.int) → spOf K mg 1 F [.ref a] H (fun v _ => v = .bl true) fun _ _ _ => False := fun hk => by
    refine fin (Γ := ⟨fun _ => none, pinOf [V.ref a]⟩) (sv := .scr (ns.map .int)) (o := o1) ⟨fun _ => none, rfl, fun i sv h => ?_, (fun _ _ h => nomatch h), (fun _ _ h => nomatch h)⟩ rfl h1
    cases i with
    | zero =>
      cases h
      exact ⟨_, rfl, a, _, rfl, hk, hz, dza_ints ns⟩
    | succ i => simp at h
  rcases hS with (h | h) | h
  · refine fin (Γ := ⟨fun _ => none, pinOf [V.ref a]⟩) (sv := .ino (ns.map .int)) (o := o2) ⟨fun b => if b = a then some 0 else none, rfl, fun i sv q => ?_, fun b i q => ?_, (fun _ _ h => nomatch h)⟩ rfl h2
    · cases i with
      | zero =>
        cases q
        exact ⟨_, rfl, a, _, rfl, if_pos rfl, h, hz, dza_ints ns, rfl⟩
      | succ i => simp at q
    · have q : (if b = a then some 0 else none) = some i := q
      split at q
      · rename_i e
        subst e
        exact ⟨rfl, _, h⟩
      · cases q
  · exact scr (.inl h)
  · exact scr (.inr h)
theorem walk_ofX {l : PySem.W.OpenLaw} {n k : Nat} {q : Program} {loose : List Str} {XP : (Str → Option Value) → Heap → Prop} {YP : World → Heap → Prop} {d : DefRec} {x : Str}
    (hn : l.most = some n) (hn2 : n ≤ sizeLine) (hdf
          : d.params.defaults = []) (hr : Room k callerA)
    (F : ∀ (w : World) (mg : Str → Option Value) (fa : Addr) (h :
          Heap), YP w h → h.Ns mainGlobals mg → mg d.name = some (.ref fa) →
      ∃ (K : PySem.W.Frag) (fd : FuncData) (sp : Sp), K.In h ∧ (∀
            (s : Shared) (u : Value), BindsTo s fd ⟨[u], []⟩ [(x, u)]) ∧
        (∀ (H : Hp) (a : Addr) (ns : List Int), ns.length ≤ n → Only H → SqL K H a
              (ns.map V.int) → sp [.ref a] H (fun v _ => v = .bl true) fun _ _ _ => False) ∧
        ∀ base : Heap, K.In base → base.Ns mainGlobals mg → FnOk l.prog w K mg base (L2.CX l.prog w) k fa fd [x] sp) :
    PySem.W.WalkO q loose XP YP l.row.toRowW d [] (fun
          f vs => PySem.call f vs) := by
  refine Att.attach_call hn hdf fun w s0 s1 mg mb fa o pm cd doc a vs ns G Y ho hd hcd hmg hobj hints hlen hg => ?_
  obtain ⟨K, fd, sp, KX, hb, hsp,
        hF⟩ := F w mg fa _ Y G.T.g hmg
  refine law_call KX G.T.g G.T.b G.T.builtins G.T.nolimit hg hobj hints (Nat.le_trans hlen hn2) hr hF hb (fun H hO hS => hsp H a ns hlen hO hS) fun H e s' z => ?_
  obtain ⟨_, _, _, _, _, _, _, _, _, _, _, _, z⟩ := z
  exact z.elim
end PF
/-! F22: the plain functions, by simp. -/
namespace PF
open PySem PySem.Spec L2
open PyProof.Rows hiding St

section
variable {α β : Type} {e : Env} {f g : M α}
@[simp] theorem bind_ap {f : M α} {k : α → M β} : M.bind f k e = match f e with
  | .ok a e' => k a e'
  | .exc x e' => .exc x e'
  | .bad => .bad := by kernel_rfl
@[simp] theorem pure_ap {a : α} : M.pure a e = .ok a e := by kernel_rfl
@[simp] theorem lift_some {a : α} : M.lift (some a) e = .ok a e := by kernel_rfl
@[simp] theorem pC_ap {d : PyData} : pC d e = .ok d e := by kernel_rfl
@[simp] theorem eVal_ap {f : M PyData} : eVal f e = match f e with
  | .ok a e' => .ok (.val a) e'
  | .exc x e' => .exc x e'
  | .bad => .bad := by kernel_rfl
@[simp] theorem eFrz_ap {f : M (List PyData)} : eFrz f e = match f e with
  | .ok a e' => .ok (.list a) e'
  | .exc x e' => .exc x e'
  | .bad => .bad := by kernel_rfl
@[simp] theorem aNil_ap : aNil e = .ok [] e := by kernel_rfl
@[simp] theorem pNil_ap : pNil e = .ok [] e := by kernel_rfl
@[simp] theorem aCons_ap {f : M Opd} {g : M (List Opd)} : aCons f g e = match f e with
  | .ok t e' => (match g e' with
    | .ok ts e2 => .ok (t :: ts) e2
    | .exc x e2 => .exc x e2
    | .bad => .bad)
  | .exc x e' => .exc x e'
  | .bad => .bad := by kernel_rfl
@[simp] theorem pCons_ap {f : M PyData} {g : M (List PyData)} : pCons f g e = match f e with
  | .ok t e' => (match g e' with
    | .ok ts e2 => .ok (t :: ts) e2
    | .exc x e2 => .exc x e2
    | .bad => .bad)
  | .exc x e' => .exc x e'
  | .bad => .bad := by kernel_rfl
@[simp] theorem eVar_ap {i : Nat} : eVar i e = match e[i]? with
  | some (some _) => .ok (.var i) e
  | _ => .bad := by kernel_rfl
@[simp] theorem eName_ap {i : Nat} : eName i e = match e[i]? with
  | some (some (.dat d)) => .ok d e
  | some (some (.own ds)) => .ok (.list ds) (e.set i (some (.dat (.list ds))))
  | _ => .bad := by kernel_rfl
@[simp] theorem get_val {d : PyData} : Opd.get e (.val d) = some d := by kernel_rfl
@[simp] theorem get_var {i : Nat} : Opd.get e (.var i) = match e[i]? with
  | some (some (.dat d)) => some d
  | some (some (.own ds)) => some (.list ds)
  | some (some (.ino ds)) => some (.list ds)
  | _ => none := by kernel_rfl
@[simp] theorem eOp_ap {op : PyData → PyData → Option PyData} {f g : M Opd} : eOp op f g e = match f e with
  | .ok s e1 => (match g e1 with
    | .ok t e2 => (match s.get e2, t.get e2 with
      | some d, some d' => (match op d d' with
        | some r => .ok r e2
        | none => .bad)
      | _, _ => .bad)
    | .exc x e2 => .exc x e2
    | .bad => .bad)
  | .exc x e' => .exc x e'
  | .bad => .bad := by kernel_rfl
@[simp] theorem eTest_ap {f : M PyData} : eTest f e = match f e with
  | .ok (.bool b) e' => .ok b e'
  | .ok _ _ => .bad
  | .exc x e' => .exc x e'
  | .bad => .bad := by
  unfold eTest M.bind
  cases f e with
  | ok d e' => cases d <;> rfl
  | exc x e' => rfl
  | bad => rfl
@[simp] theorem eChain_ap {op op' : PyData → PyData → Option PyData} {f g h : M Opd} : eChain op op' f g h e = match f e with
  | .ok s e1 => (match g e1 with
    | .ok t e2 => (match s.get e2, t.get e2 with
      | some d, some d' => (match op d d' with
        | some (.bool true) => (match h e2 with
          | .ok u e3 => (match t.get e3, u.get e3 with
            | some d1, some d2 => (match op' d1 d2 with
              | some r => .ok r e3
              | none => .bad)
            | _, _ => .bad)
          | .exc x e3 => .exc x e3
          | .bad => .bad)
        | some (.bool false) => .ok (.bool false) e2
        | _ => .bad)
      | _, _ => .bad)
    | .exc x e2 => .exc x e2
    | .bad => .bad)
  | .exc x e' => .exc x e'
  | .bad => .bad := by kernel_rfl
@[simp] theorem eIf_ap {c : M Bool} {f g : M α} : eIf c f g e = match c e with
  | .ok true e' => f e'
  | .ok false e' => g e'
  | .exc x e' => .exc x e'
  | .bad => .bad := by
  unfold eIf M.bind
  cases c e with
  | ok b e' => cases b <;> rfl
  | exc x e' => rfl
  | bad => rfl
@[simp] theorem eNotB_ap {f : M Bool} : eNotB f e = match f e with
  | .ok b e' => .ok (!b) e'
  | .exc x e' => .exc x e'
  | .bad => .bad := by kernel_rfl
@[simp] theorem eNotV_ap {f : M PyData} : eNotV f e = match f e with
  | .ok (.bool b) e' => .ok (.bool (!b)) e'
  | .ok _ _ => .bad
  | .exc x e' => .exc x e'
  | .bad => .bad := by
  unfold eNotV
  rw [bind_ap, eTest_ap]
  cases f e with
  | ok d e' => cases d <;> rfl
  | exc x e' => rfl
  | bad => rfl
@[simp] theorem eAndB_ap {f g : M Bool} : eAndB f g e = match f e with
  | .ok true e' => g e'
  | .ok false e' => .ok false e'
  | .exc x e' => .exc x e'
  | .bad => .bad := eIf_ap
@[simp] theorem eOrB_ap {f g : M Bool} : eOrB f g e = match f e with
  | .ok true e' => .ok true e'
  | .ok false e' => g e'
  | .exc x e' => .exc x e'
  | .bad => .bad := eIf_ap
@[simp] theorem eAndV_ap {f g : M PyData} : eAndV f g e = match f e with
  | .ok (.bool true) e' => g e'
  | .ok (.bool false) e' => .ok (.bool false) e'
  | .ok _ _ => .bad
  | .exc x e' => .exc x e'
  | .bad => .bad := by
  unfold eAndV
  rw [eIf_ap, eTest_ap]
  cases f e with
  | ok d e' =>
    cases d with
    | bool b => cases b <;> rfl
    | _ => rfl
  | exc x e' => rfl
  | bad => rfl
@[simp] theorem eOrV_ap {f g : M PyData} : eOrV f g e = match f e with
  | .ok (.bool true) e' => .ok (.bool true) e'
  | .ok (.bool false) e' => g e'
  | .ok _ _ => .bad
  | .exc x e' => .exc x e'
  | .bad => .bad := by
  unfold eOrV
  rw [eIf_ap, eTest_ap]
  cases f e with
  | ok d e' =>
    cases d with
    | bool b => cases b <;> rfl
    | _ => rfl
  | exc x e' => rfl
  | bad => rfl
@[simp] theorem eTup_ap {f : M (List PyData)} : eTup f e = match f e with
  | .ok ds e' => if ds.length ≤ sizeLine then .ok (.tuple ds) e' else .bad
  | .exc x e' => .exc x e'
  | .bad => .bad := by kernel_rfl
@[simp] theorem eLst_ap {f : M (List PyData)} : eLst f e = match f e with
  | .ok ds e' => if ds.length ≤ sizeLine then .ok ds e' else .bad
  | .exc x e' => .exc x e'
  | .bad => .bad := by kernel_rfl
@[simp] theorem eNeg_ap {f : M PyData} : eNeg f e = match f e with
  | .ok (.int i) e' => .ok (.int (-i)) e'
  | .ok _ _ => .bad
  | .exc x e' => .exc x e'
  | .bad => .bad := by
  unfold eNeg M.bind
  cases f e with
  | ok d e' => cases d <;> rfl
  | exc x e' => rfl
  | bad => rfl
@[simp] theorem ePart_ap {f : M PyData} : ePart f e = match f e with
  | .ok (.int i) e' => .ok (some i) e'
  | .ok _ _ => .bad
  | .exc x e' => .exc x e'
  | .bad => .bad := by
  unfold ePart M.bind
  cases f e with
  | ok d e' => cases d <;> rfl
  | exc x e' => rfl
  | bad => rfl
@[simp] theorem eSlice_ap {f : M Opd} {g h : M (Option Int)} : eSlice f g h e = match f e with
  | .ok t e1 => (match g e1 with
    | .ok lo e2 => (match h e2 with
      | .ok hi e3 => (match t.get e3 with
        | some d => (match sliceD lo hi d with
          | some r => .ok r e3
          | none => .bad)
        | none => .bad)
      | .exc x e' => .exc x e'
      | .bad => .bad)
    | .exc x e' => .exc x e'
    | .bad => .bad)
  | .exc x e' => .exc x e'
  | .bad => .bad := by kernel_rfl
@[simp] theorem eRev_ap {f : M Opd} : eRev f e = match f e with
  | .ok t e1 => (match t.get e1 with
    | some d => (match revD d with
      | some r => .ok r e1
      | none => .bad)
    | none => .bad)
  | .exc x e' => .exc x e'
  | .bad => .bad := by kernel_rfl
@[simp] theorem eCallB_ap {op : List PyData → Option PyData} {f : M (List Opd)} : eCallB op f e = match f e with
  | .ok ts e1 => (match (gets e1 ts).bind op with
    | some r => .ok r e1
    | none => .bad)
  | .exc x e' => .exc x e'
  | .bad => .bad := by kernel_rfl
@[simp] theorem eCallBO_ap {op : List PyData → Option (List PyData)} {f : M (List Opd)} : eCallBO op f e = match f e with
  | .ok ts e1 => (match (gets e1 ts).bind op with
    | some r => .ok r e1
    | none => .bad)
  | .exc x e' => .exc x e'
  | .bad => .bad := by kernel_rfl
@[simp] theorem gets_nil : gets e [] = some [] := by kernel_rfl
@[simp] theorem gets_cons {t : Opd} {ts : List Opd} : gets e (t :: ts) = (t.get e).bind fun d => (gets e ts).map fun l => d :: l := by kernel_rfl
@[simp] theorem eIsi_ap {ns : List Ty} {f : M Opd} : eIsi ns f e = match f e with
  | .ok t e1 => (match t.get e1 with
    | some d => .ok (.bool (ns.any fun n => isTy n d)) e1
    | none => .bad)
  | .exc x e' => .exc x e'
  | .bad => .bad := by kernel_rfl
@[simp] theorem eCallD_ap {F : Sem} {f : M (List Opd)} : eCallD F f e = match f e with
  | .ok ts e1 => callD F ts e1
  | .exc x e' => .exc x e'
  | .bad => .bad := by kernel_rfl
@[simp] theorem eCallO_ap {F : Sem} {f : M (List Opd)} : eCallO F f e = match f e with
  | .ok ts e1 => callO F ts e1
  | .exc x e' => .exc x e'
  | .bad => .bad := by kernel_rfl
@[simp] theorem eSeq_ap {f : M PyData} : eSeq f e = match f e with
  | .ok d e1 => M.lift (iterOf d) e1
  | .exc x e' => .exc x e'
  | .bad => .bad := by kernel_rfl
@[simp] theorem eCallI_ap {g : List PyData → Option (List PyData)} {f : M (List PyData)} : eCallI g f e = match f e with
  | .ok d e1 => M.lift (g d) e1
  | .exc x e' => .exc x e'
  | .bad => .bad := by kernel_rfl
@[simp] theorem eUpper_ap {f : M PyData} : eUpper f e = match f e with
  | .ok (.str z) e' => if z.length ≤ 1000 then .ok (.str (Txt.upper z)) e' else .bad
  | .ok _ _ => .bad
  | .exc x e' => .exc x e'
  | .bad => .bad := by
  unfold eUpper M.bind
  cases f e with
  | ok d e' => cases d <;> rfl
  | exc x e' => rfl
  | bad => rfl
@[simp] theorem eLenK_ap {f : M (List Key)} : eLenK f e = match f e with
  | .ok ks e' => .ok (.int ks.length) e'
  | .exc x e' => .exc x e'
  | .bad => .bad := by kernel_rfl
@[simp] theorem eCat_ap {f g : M Opd} : eCat f g e = match f e with
  | .ok s e1 => (match g e1 with
    | .ok t e2 => (match s.get e2, t.get e2 with
      | some (.list xs), some (.list ys) => if xs.length + ys.length ≤ sizeLine then .ok (xs ++ ys) e2 else .bad
      | _, _ => .bad)
    | .exc x e2 => .exc x e2
    | .bad => .bad)
  | .exc x e' => .exc x e'
  | .bad => .bad := by kernel_rfl
@[simp] theorem eMethO_ap {i : Nat} {op : LOp} {fs : M (List PyData)} : eMethO i op fs e = match ownOf e[i]? with
  | some _ => (match fs e with
    | .ok as e1 => methStep i op as e1
    | .exc x e' => .exc x e'
    | .bad => .bad)
  | none => .bad := by
  unfold eMethO
  cases h : ownOf e[i]? with
  | none => rfl
  | some d => kernel_rfl
@[simp] theorem methStep_ap {i : Nat} {op : LOp} {as : List PyData} : methStep i op as e = match ownOf e[i]? with
  | some ds => (match op ds as with
    | some (r, ds') => .ok r (putOwn e i ds')
    | none => .bad)
  | none => .bad := by kernel_rfl
@[simp] theorem own_own {ds : List PyData} : ownOf (some (some (.own ds))) = some ds := by kernel_rfl
@[simp] theorem own_ino {ds : List PyData} : ownOf (some (some (.ino ds))) = some ds := by kernel_rfl
@[simp] theorem eLenS_ap {i : Nat} : eLenS i e = match scrOf e[i]? with
  | some ds => .ok (.int ds.length) e
  | none => .bad := by kernel_rfl
@[simp] theorem scr_scr {ds : List PyData} : scrOf (some (some (.scr ds))) = some ds := by kernel_rfl
@[simp] theorem scr_ino {ds : List PyData} : scrOf (some (some (.ino ds))) = some ds := by kernel_rfl
@[simp] theorem eYes_ap : eYes e = .ok true e := by kernel_rfl
end
section
variable {e : Env} {f g : B}
@[simp] theorem sBind_ap {α : Type} {f : M α} {k : α → B} : sBind f k e = match f e with
  | .ok a e1 => k a e1
  | .exc x e1 => .exc x e1
  | .bad => .bad := by kernel_rfl
@[simp] theorem sSeq_ap : sSeq f g e = match f e with
  | .nx e1 => g e1
  | .bk e1 => .bk e1
  | .ct e1 => .ct e1
  | .rt r e1 => .rt r e1
  | .exc x e1 => .exc x e1
  | .bad => .bad := by kernel_rfl
@[simp] theorem sSkip_ap : sSkip e = .nx e := by kernel_rfl
@[simp] theorem sSet_ap {i : Nat} {f : M PyData} : sSet i f e = match f e with
  | .ok d e1 => .nx (e1.set i (some (.dat d)))
  | .exc x e1 => .exc x e1
  | .bad => .bad := by kernel_rfl
@[simp] theorem sSetO_ap {i : Nat} {f : M (List PyData)} : sSetO i f e = match f e with
  | .ok d e1 => .nx (e1.set i (some (.own d)))
  | .exc x e1 => .exc x e1
  | .bad => .bad := by kernel_rfl
@[simp] theorem sExpr_ap {α : Type} {f : M α} : sExpr f e = match f e with
  | .ok _ e1 => .nx e1
  | .exc x e1 => .exc x e1
  | .bad => .bad := by kernel_rfl
@[simp] theorem sRet_ap {f : M PyData} : sRet f e = match f e with
  | .ok d e1 => .rt (.dat d) e1
  | .exc x e1 => .exc x e1
  | .bad => .bad := by kernel_rfl
@[simp] theorem sRetO_ap {f : M (List PyData)} : sRetO f e = match f e with
  | .ok d e1 => .rt (.own d) e1
  | .exc x e1 => .exc x e1
  | .bad => .bad := by kernel_rfl
@[simp] theorem sRetN_ap : sRetN e = .rt (.dat .none) e := by kernel_rfl
@[simp] theorem sIf_ap {c : M Bool} : sIf c f g e = match c e with
  | .ok true e1 => f e1
  | .ok false e1 => g e1
  | .exc x e1 => .exc x e1
  | .bad => .bad := by
  unfold sIf sBind
  cases c e with
  | ok b e' => cases b <;> rfl
  | exc x e' => rfl
  | bad => rfl
@[simp] theorem sAsg_ap {s : Tgt} {f : M PyData} : sAsg s f e = match f e with
  | .ok d e1 => (match s d e1 with
    | some e2 => .nx e2
    | none => .bad)
  | .exc x e1 => .exc x e1
  | .bad => .bad := by kernel_rfl
@[simp] theorem sFor_ap {it : M (List PyData)} {s : Tgt} : sFor it s f e = match it e with
  | .ok ds e1 => forM s f ds e1
  | .exc x e1 => .exc x e1
  | .bad => .bad := by kernel_rfl
@[simp] theorem sName_ap {i : Nat} {d : PyData} : sName i d e = some (e.set i (some (.dat d))) := by kernel_rfl
@[simp] theorem sTup_ap {n : Nat} {r : Tgts} {ds : List PyData} : sTup n r (.tuple ds) e = if ds.length = n then r ds e else none := by kernel_rfl
@[simp] theorem sCons_ap {s : Tgt} {r : Tgts} {d : PyData} {ds : List PyData} : sCons s r (d :: ds) e = (s d e).bind fun e1 => r ds e1 := by kernel_rfl
@[simp] theorem sNil_ap : sNil [] e = some e := by kernel_rfl
@[simp] theorem sPar_ap {i j : Nat} {f g : M RetV} : sPar i j f g e = match f e with
  | .ok r1 e1 => (match g e1 with
    | .ok r2 e2 => .nx ((e2.set i (some r1.sv)).set j (some r2.sv))
    | .exc x e2 => .exc x e2
    | .bad => .bad)
  | .exc x e1 => .exc x e1
  | .bad => .bad := by kernel_rfl
@[simp] theorem rDat_ap {f : M PyData} : rDat f e = match f e with
  | .ok d e1 => .ok (.dat d) e1
  | .exc x e1 => .exc x e1
  | .bad => .bad := by kernel_rfl
@[simp] theorem rOwn_ap {f : M (List PyData)} : rOwn f e = match f e with
  | .ok d e1 => .ok (.own d) e1
  | .exc x e1 => .exc x e1
  | .bad => .bad := by kernel_rfl
@[simp] theorem sv_dat {d : PyData} : (RetV.dat d).sv = .dat d := by kernel_rfl
@[simp] theorem sv_own {d : List PyData} : (RetV.own d).sv = .own d := by kernel_rfl
@[simp] theorem sPut_ap {i : Nat} {f g : M PyData} : sPut i f g e = match f e with
  | .ok d e1 => (match ownOf e1[i]? with
    | some _ => (match g e1 with
      | .ok k e2 => putStep i d k e2
      | .exc x e2 => .exc x e2
      | .bad => .bad)
    | none => .bad)
  | .exc x e1 => .exc x e1
  | .bad => .bad := by
  unfold sPut
  rw [sBind_ap]
  cases f e with
  | ok d e1 =>
    dsimp only
    cases h : ownOf e1[i]? with
    | none => rfl
    | some ds => kernel_rfl
  | exc x e1 => rfl
  | bad => rfl
@[simp] theorem putStep_ap {i : Nat} {d : PyData} {k : Int} : putStep i d (.int k) e = match ownOf e[i]? with
  | some ds => (match ixN ds.length k with
    | some j => .nx (putOwn e i (ds.set j d))
    | none => .bad)
  | none => .bad := by kernel_rfl
@[simp] theorem sCut_ap {i : Nat} {f g h : M PyData} : sCut i f g h e = match f e with
  | .ok d e1 => (match ownOf e1[i]? with
    | some _ => (match ePart g e1 with
      | .ok lo e2 => (match ePart h e2 with
        | .ok hi e3 => cutStep i d lo hi e3
        | .exc x e2 => .exc x e2
        | .bad => .bad)
      | .exc x e2 => .exc x e2
      | .bad => .bad)
    | none => .bad)
  | .exc x e1 => .exc x e1
  | .bad => .bad := by
  unfold sCut
  rw [sBind_ap]
  cases f e with
  | ok d e1 =>
    dsimp only
    cases h : ownOf e1[i]? with
    | none => rfl
    | some ds => kernel_rfl
  | exc x e1 => rfl
  | bad => rfl
end

/-! ### operations -/
section
variable {i j : Int} {x y : Str} {a b : List PyData} {p q : Bool}
@[simp] theorem addB_ii : addB (.int i) (.int j) = some (.int (i + j)) := rfl
@[simp] theorem subB_ii : subB (.int i) (.int j) = some (.int (i - j)) := rfl
@[simp] theorem addB_bi : addB (.bool p) (.int j) = some (.int (b2i p + j)) := rfl
@[simp] theorem subB_bi : subB (.bool p) (.int j) = some (.int (b2i p - j)) := rfl
@[simp] theorem subB_ib : subB (.int i) (.bool p) = some (.int (i - b2i p)) := rfl
theorem addB_ss : addB (.str x) (.str y) = if x.length + y.length ≤ sizeLine then some (.str (x ++ y)) else none := rfl
theorem addB_tt : addB (.tuple a) (.tuple b) = if a.length + b.length ≤ sizeLine then some (.tuple (a ++ b)) else none := rfl
theorem addB_ll : addB (.list a) (.list b) = if a.length + b.length ≤ sizeLine then some (.list (a ++ b)) else none := rfl
theorem mulB_ii : mulB (.int i) (.int j) = if CMulB i j then some (.int (i * j)) else none := rfl
theorem modD_ii : modD (.int i) (.int j) = if 0 < j then some (.int (i % j)) else none := rfl
theorem fdivD_ii : fdivD (.int i) (.int j) = if 0 < j ∧ j.natAbs.log2 < 9000 then some (.int (i / j)) else none := rfl
@[simp] theorem leD_ii : leD (.int i) (.int j) = some (.bool (decide (i ≤ j))) := rfl
@[simp] theorem gtD_ii : gtD (.int i) (.int j) = some (.bool (decide (j < i))) := rfl
@[simp] theorem geD_ii : geD (.int i) (.int j) = some (.bool (decide (j ≤ i))) := rfl
@[simp] theorem ltD_ii : ltD (.int i) (.int j) = some (.bool (decide (i < j))) := by
  unfold ltD ltB
  have h1 : PySem.W.alike (.int i) (.int j) = true := by
    first | rfl | simp [PySem.W.alike]
  have h2 : PySem.W.dataLt (.int i) (.int j) = decide (i < j) := PySem.W.dataLt_int i j
  have h3 : (PyData.int i).depth = 0 := by
    first | rfl | simp [PyData.depth]
  rw [h1, h2, h3]
  rfl
@[simp] theorem sh_int : SeqAt.shaped (.int i) = true := by
  unfold SeqAt.shaped
  simp [PyData.canLay0, PyData.depth]
@[simp] theorem sh_bool : SeqAt.shaped (.bool p) = true := by
  unfold SeqAt.shaped
  simp [PyData.canLay0, PyData.depth]
@[simp] theorem sh_none : SeqAt.shaped .none = true := by
  unfold SeqAt.shaped
  simp [PyData.canLay0, PyData.depth]
@[simp] theorem eqD_ii : eqD (.int i) (.int j) = some (.bool (decide (i = j))) := by
  unfold eqD
  rw [sh_int, sh_int]
  rfl
@[simp] theorem neD_ii : neD (.int i) (.int j) = some (.bool (!decide (i = j))) := by
  unfold neD
  rw [sh_int, sh_int]
  rfl
@[simp] theorem eqD_bb : eqD (.bool p) (.bool q) = some (.bool (p == q)) := by
  unfold eqD
  rw [sh_bool, sh_bool]
  rfl
@[simp] theorem intD_i : intD [.int i] = some (.int i) := rfl
@[simp] theorem intD_b : intD [.bool p] = some (.int (b2i p)) := rfl
@[simp] theorem absD_i : absD [.int i] = some (.int (if i < 0 then -i else i)) := rfl
@[simp] theorem lenD_l : lenD [.list a] = some (.int a.length) := rfl
@[simp] theorem lenD_t : lenD [.tuple a] = some (.int a.length) := rfl
theorem lenD_s : lenD [.str x] = if x.length ≤ sizeLine then some (.int x.length) else none := rfl
@[simp] theorem tupD_l : tupD [.list a] = some (.tuple a) := rfl
@[simp] theorem tupD_t : tupD [.tuple a] = some (.tuple a) := rfl
@[simp] theorem listD_l : listD [.list a] = some a := rfl
@[simp] theorem listD_t : listD [.tuple a] = some a := rfl
@[simp] theorem ixD_l : ixD (.list a) (.int i) = L2.atI a i := rfl
@[simp] theorem ixD_t : ixD (.tuple a) (.int i) = L2.atI a i := rfl
@[simp] theorem iterOf_l : iterOf (.list a) = some a := rfl
@[simp] theorem iterOf_t : iterOf (.tuple a) = some a := rfl
@[simp] theorem revD_l : revD (.list a) = some (.list a.reverse) := rfl
@[simp] theorem revD_t : revD (.tuple a) = some (.tuple a.reverse) := rfl
@[simp] theorem maxD_ii : maxD [.int i, .int j] = some (.int (gr i j)) := rfl
@[simp] theorem minD_ii : minD [.int i, .int j] = some (.int (le1 i j)) := rfl
theorem at_nat {n : Nat} (h : n < a.length) : L2.atI a (n : Int) = a[n]? := by
  unfold L2.atI ixN
  rw [if_pos (by omega),
        if_pos (by omega)]
  rfl
@[simp] theorem at_zero {d : PyData} : L2.atI (d :: a) 0 = some d := at_nat (n := 0) (by simp)
@[simp] theorem at_one {d d' : PyData} : L2.atI (d :: d' :: a) 1 = some d' := at_nat (n := 1) (by simp)
end

/-! ### calls -/
section
variable {e : Env} {ts : List Opd} {F : Sem} {svs outs : List SV} {d : PyData}
/-- a call that is given data alone -/
theorem callD_vals {ds : List PyData} (h : F (ds.map .dat) = .ok (.dat d) (ds.map .dat)) : callD F (ds.map .val) e = .ok d e := by
  have a1 : ∀ ds : List PyData, argSVs e (ds.map .val) = some (ds.map .dat) := fun ds => by
    induction ds with
    | nil => rfl
    | cons x r ih =>
      show ((argSV e (.val x)).bind fun sv => (argSVs e (r.map .val)).map fun l => sv :: l) = _
      rw [ih]
      rfl
  have a2 : ∀ ds : List PyData, outPairs (ds.map .val) (ds.map .dat) = [] := fun ds => by
    induction ds with
    | nil => rfl
    | cons x r ih => exact ih
  have a3 : ∀ ds : List PyData, kindsOk (ds.map .dat) (ds.map .dat) = true := fun ds => by
    induction ds with
    | nil => rfl
    | cons x r ih => exact ih
  unfold callD callRes
  rw [a1 ds]
  dsimp only
  rw [a2 ds, h]
  dsimp only
  rw [a2 ds, a3 ds]
  rfl
end
end PF
/-! F23: laws of the plain functions: comprehensions, loops, calls. -/
namespace PF
open PySem PySem.Spec L2
open PyProof.Rows hiding St

/-! ### comprehensions -/
section
variable {it : M (List PyData)} {s : Tgt} {vs : List Nat} {t : M Bool} {y : M PyData} {e e1 e2 : Env} {ds : List PyData}
theorem restore_eq (h : wipeE e2 vs = wipeE e1 vs) : restore e1 e2 vs = restore e1 e1 vs := List.ext_getElem? fun i => by
  have hl : e2.length = e1.length := by
    have z := congrArg List.length h
    rw [wipeE_length, wipeE_length] at z
    exact z
  rw [restore_get, restore_get, hl]
  by_cases hi : i ∈ vs
  · rw [if_pos hi, if_pos hi]
  · rw [if_neg hi, if_neg hi]
    have z : (wipeE e2 vs)[i]? = (wipeE e1 vs)[i]? := by rw [h]
    rw [wipeE_get, wipeE_get, if_neg hi, if_neg hi] at z
    exact z
theorem compM_map {w0 : Env} {g : PyData → PyData} {p : PyData → Bool} : ∀ (ds : List PyData) (e : Env), wipeE e vs = w0 →
    (∀ d ∈ ds, ∃ e2 e3, s d w0 = some e2 ∧ t e2 = .ok (p d) e3 ∧ (p d = false → wipeE e3 vs = w0) ∧ (p d = true → ∃ e4, y e3 = .ok (g d) e4 ∧ wipeE e4 vs = w0)) →
    ∃ e', compM s vs t y ds e = .ok ((ds.filter p).map g) e' ∧ wipeE e' vs = w0
  | [], e, hw, _ => ⟨e, rfl, hw⟩
  | d :: ds, e, hw, h => by
    obtain ⟨e2, e3, h1, h2, h3, h4⟩ := h d List.mem_cons_self
    unfold compM
    rw [hw, h1]
    dsimp only
    rw [h2]
    cases q : p d with
    | false =>
      obtain ⟨e', k1, k2⟩ := compM_map ds e3 (h3 q) fun x hx => h x (List.mem_cons_of_mem _ hx)
      refine ⟨e', ?_, k2⟩
      dsimp only
      rw [k1, List.filter_cons_of_neg (by rw [q]; exact Bool.false_ne_true)]
    | true =>
      obtain ⟨e4, h5, h6⟩ := h4 q
      obtain ⟨e', k1, k2⟩ := compM_map ds e4 h6 fun x hx => h x (List.mem_cons_of_mem _ hx)
      refine ⟨e', ?_, k2⟩
      dsimp only
      rw [h5]
      dsimp only
      rw [k1, List.filter_cons_of_pos q]
      rfl
theorem comp_map (hit : it e = .ok ds e1) (g : PyData → PyData) (p : PyData → Bool)
    (h : ∀ d ∈ ds, ∃ e2 e3, s d (wipeE e1 vs) = some e2 ∧ t e2 = .ok (p d) e3 ∧ (p d = false → wipeE e3 vs = wipeE e1 vs) ∧ (p d = true → ∃ e4, y e3 = .ok (g d) e4 ∧ wipeE e4 vs = wipeE e1 vs)) :
    eComp it s vs t y e = .ok ((ds.filter p).map g) (restore e1 e1 vs) := by
  obtain ⟨e', h1, h2⟩ := compM_map ds e1 rfl h
  unfold eComp
  rw [bind_ap, hit]
  dsimp only
  rw [h1]
  dsimp only
  rw [restore_eq h2]
theorem setc_map (hit : it e = .ok ds e1) (g : PyData → PyData) (p : PyData → Bool) {l : List Key} (hl : ds.length < 4000) (hk : keysOf ((ds.filter p).map g) = some l)
    (h : ∀ d ∈ ds, ∃ e2 e3, s d (wipeE e1 vs) = some e2 ∧ t e2 = .ok (p d) e3 ∧ (p d = false → wipeE e3 vs = wipeE e1 vs) ∧ (p d = true → ∃ e4, y e3 = .ok (g d) e4 ∧ wipeE e4 vs = wipeE e1 vs)) :
    eSetC it s vs t y e = .ok (dd l) (restore e1 e1 vs) := by
  obtain ⟨e', h1, h2⟩ := compM_map ds e1 rfl h
  unfold eSetC
  rw [bind_ap, hit]
  dsimp only
  rw [h1]
  dsimp only
  rw [hk]
  dsimp only
  rw [if_pos hl, restore_eq h2]
theorem compM_inv {I : Env → Prop} {Good : PyData → Prop} : ∀ (ds : List PyData) (e : Env), I e →
    (∀ d ∈ ds, ∀ e, I e → ∃ e2 e3, s d (wipeE e vs) = some e2 ∧ ((t e2 = .ok false e3 ∧ I e3) ∨ (t e2 = .ok true e3 ∧ ∃ r e4, y e3 = .ok r e4 ∧ I e4 ∧ Good r))) →
    ∃ rs e', compM s vs t y ds e = .ok rs e' ∧ I e' ∧ rs.length ≤ ds.length ∧ ∀ r ∈ rs, Good r
  | [], e, hI, _ => ⟨[], e, rfl, hI, Nat.le_refl _, fun r hr => by cases hr⟩
  | d :: ds, e, hI, h => by
    obtain ⟨e2, e3, h1, h2⟩ := h d List.mem_cons_self e hI
    unfold compM
    rw [h1]
    dsimp only
    rcases h2 with ⟨h2, h3⟩ | ⟨h2, r, e4, h4, h5, h6⟩
    · obtain ⟨rs, e', k1, k2, k3, k4⟩ := compM_inv ds e3 h3 fun x hx => h x (List.mem_cons_of_mem _ hx)
      rw [h2]
      exact ⟨rs, e', k1, k2, Nat.le_succ_of_le k3, k4⟩
    · obtain ⟨rs, e', k1, k2, k3, k4⟩ := compM_inv ds e4 h5 fun x hx => h x (List.mem_cons_of_mem _ hx)
      rw [h2]
      dsimp only
      rw [h4]
      dsimp only
      rw [k1]
      refine ⟨r :: rs, e', rfl, k2, Nat.succ_le_succ k3, fun x hx => ?_⟩
      rcases List.mem_cons.mp hx with z | z
      · rw [z]
        exact h6
      · exact k4 x z
theorem comp_inv {I : Env → Prop} {Good : PyData → Prop} (hit : it e = .ok ds e1) (h0 : I e1)
    (h : ∀ d ∈ ds, ∀ e, I e → ∃ e2 e3, s d (wipeE e vs) = some e2 ∧ ((t e2 = .ok false e3 ∧ I e3) ∨ (t e2 = .ok true e3 ∧ ∃ r e4, y e3 = .ok r e4 ∧ I e4 ∧ Good r))) :
    ∃ rs e2, eComp it s vs t y e = .ok rs (restore e1 e2 vs) ∧ I e2 ∧ rs.length ≤ ds.length ∧ ∀ r ∈ rs, Good r := by
  obtain ⟨rs, e', k1, k2, k3, k4⟩ := compM_inv ds e1 h0 h
  refine ⟨rs, e', ?_, k2, k3, k4⟩
  unfold eComp
  rw [bind_ap, hit]
  dsimp only
  rw [k1]
end

/-! ### loops -/
section
variable {s : Tgt} {body : B}
theorem for_inv {I : Env → Prop} : ∀ (ds : List PyData) (e : Env), I e → (∀ d ∈ ds, ∀ e, I e → ∃ e1 e2, s d e = some e1 ∧ (body e1 = .nx e2 ∨ body e1 = .ct e2) ∧ I e2) → ∃ e', forM s body ds e = .nx e' ∧ I e'
  | [], e, hI, _ => ⟨e, rfl, hI⟩
  | d :: ds, e, hI, h => by
    obtain ⟨e1, e2, h1, h2, h3⟩ := h d List.mem_cons_self e hI
    obtain ⟨e', k1, k2⟩ := for_inv ds e2 h3 fun x hx => h x (List.mem_cons_of_mem _ hx)
    refine ⟨e', ?_, k2⟩
    unfold forM
    rw [h1]
    dsimp only
    rcases h2 with h2 | h2
    · rw [h2]
      exact k1
    · rw [h2]
      exact k1
@[simp] theorem for_nil {e : Env} : forM s body [] e = .nx e := rfl
theorem for_cons {d : PyData} {ds : List PyData} {e e1 : Env} (h : s d e = some e1) : forM s body (d :: ds) e = match body e1 with
  | .nx e2 => forM s body ds e2
  | .ct e2 => forM s body ds e2
  | .bk e2 => .nx e2
  | .rt r e2 => .rt r e2
  | .exc x e2 => .exc x e2
  | .bad => .bad := by
  rw [forM, h]
  try kernel_rfl
end

/-! ### calls that change a lent list -/
section
variable {e : Env} {F : Sem} {j : Nat} {ds ds' rest : List PyData} {r : PyData}
theorem vals_sv (rest : List PyData) : argSVs e (rest.map .val) = some (rest.map .dat) := by
  induction rest with
  | nil => rfl
  | cons x r ih =>
    show ((argSV e (.val x)).bind fun sv => (argSVs e (r.map .val)).map fun l => sv :: l) = _
    rw [ih]
    rfl
theorem vals_out (rest : List PyData) : outPairs (rest.map .val) (rest.map .dat) = [] := by
  induction rest with
  | nil => rfl
  | cons x r ih => exact ih
theorem vals_kind (rest : List PyData) : kindsOk (rest.map .dat) (rest.map .dat) = true := by
  induction rest with
  | nil => rfl
  | cons x r ih => exact ih
theorem callRes_lent {fr : FR} (he : ownOf e[j]? = some ds) (h : F (.ino ds :: rest.map .dat) = fr) (hf : (∃ r, fr = .ok r (.ino ds' :: rest.map .dat)) ∨ ∃ x, fr = .exc x (.ino ds' :: rest.map .dat)) :
    callRes F (.var j :: rest.map .val) e = some (fr, putOwn e j ds') := by
  have a1 : argSV e (.var j) = some (.ino ds) := by
    unfold ownOf at he
    unfold argSV
    dsimp only
    split at he
    · rename_i d q
      rw [q]
      cases he
      rfl
    · rename_i d q
      rw [q]
      cases he
      rfl
    · cases he
  have a2 : argSVs e (.var j :: rest.map .val) = some (.ino ds :: rest.map .dat) := by
    show ((argSV e (.var j)).bind fun sv => (argSVs e (rest.map .val)).map fun l => sv :: l) = _
    rw [a1, vals_sv]
    rfl
  have a3 : ∀ d, outPairs (.var j :: rest.map .val) (.ino d :: rest.map .dat) = [(j, d)] := fun d => by
    show (j, d) :: outPairs (rest.map .val) (rest.map .dat) = _
    rw [vals_out]
  have a4 : kindsOk (.ino ds :: rest.map .dat) (.ino ds' :: rest.map .dat) = true := vals_kind rest
  unfold callRes
  rw [a2]
  dsimp only
  rw [a3, h]
  rcases hf with ⟨r, rfl⟩ | ⟨x, rfl⟩
  · dsimp only
    rw [a3, a4]
    rfl
  · dsimp only
    rw [a3, a4]
    rfl
theorem callD_lent (he : ownOf e[j]? = some ds) (h : F (.ino ds :: rest.map .dat) = .ok (.dat r) (.ino ds' :: rest.map .dat)) : callD F (.var j :: rest.map .val) e = .ok r (putOwn e j ds') := by
  unfold callD
  rw [callRes_lent he h (.inl ⟨_, rfl⟩)]
/-- .. of a def with one, two, three further arguments -/
theorem callD_lent0 (he : ownOf e[j]? = some ds) (h : F [.ino ds] = .ok (.dat r) [.ino ds']) : callD F [.var j] e = .ok r (putOwn e j ds') := callD_lent (rest := []) he h
theorem callD_lent1 {a : PyData} (he : ownOf e[j]? = some ds) (h : F [.ino ds, .dat a] = .ok (.dat r) [.ino ds', .dat a]) : callD F [.var j, .val a] e = .ok r (putOwn e j ds') := callD_lent (rest := [a]) he h
theorem callD_lent2 {a b : PyData} (he : ownOf e[j]? = some ds) (h : F [.ino ds, .dat a, .dat b] = .ok (.dat r) [.ino ds', .dat a, .dat b]) : callD F [.var j, .val a, .val b] e = .ok r (putOwn e j ds') := callD_lent (rest := [a, b]) he h
theorem callD_lent3 {a b c : PyData} (he : ownOf e[j]? = some ds) (h : F [.ino ds, .dat a, .dat b, .dat c] = .ok (.dat r) [.ino ds', .dat a, .dat b, .dat c]) : callD F [.var j, .val a, .val b, .val c] e = .ok r (putOwn e j ds') := callD_lent (rest := [a, b, c]) he h
theorem callD_v1 {a : PyData} (h : F [.dat a] = .ok (.dat r) [.dat a]) : callD F [.val a] e = .ok r e := callD_vals (ds := [a]) h
theorem callD_v2 {a b : PyData} (h : F [.dat a, .dat b] = .ok (.dat r) [.dat a, .dat b]) : callD F [.val a, .val b] e = .ok r e := callD_vals (ds := [a, b]) h
theorem callD_v3 {a b c : PyData} (h : F [.dat a, .dat b, .dat c] = .ok (.dat r) [.dat a, .dat b, .dat c]) : callD F [.val a, .val b, .val c] e = .ok r e := callD_vals (ds := [a, b, c]) h
theorem callD_v4 {a b c d : PyData} (h : F [.dat a, .dat b, .dat c, .dat d] = .ok (.dat r) [.dat a, .dat b, .dat c, .dat d]) : callD F [.val a, .val b, .val c, .val d] e = .ok r e := callD_vals (ds := [a, b, c, d]) h
@[simp] theorem put_own {i : Nat} (h : e[i]? = some (some (.own ds))) : putOwn e i ds' = e.set i (some (.own ds')) := by
  unfold putOwn
  rw [h]
@[simp] theorem put_ino {i : Nat} (h : e[i]? = some (some (.ino ds))) : putOwn e i ds' = e.set i (some (.ino ds')) := by
  unfold putOwn
  rw [h]
end
end PF
/-! F24: data within bounds. -/
namespace PF
open PySem PySem.Spec L2
open PyProof.Rows hiding St

def asc (z : Str) : Prop := ∀ c ∈ z.cps.toList, c < 128
def leafOk (n i : Nat) : PyData → Prop
  | .none => True
  | .bool _ => True
  | .int j => j.natAbs ≤ i
  | .str z => z.length ≤ n ∧ asc z
  | _ => False
/-- texts of at most n ASCII signs, ints within i, at most l items, k deep -/
def wf (n i l : Nat) : Nat → PyData → Prop
  | 0, d => leafOk n i d
  | k + 1, .list ds => ds.length ≤ l ∧ ∀ d ∈ ds, wf n i l k d
  | k + 1, .tuple ds => ds.length ≤ l ∧ ∀ d ∈ ds, wf n i l k d
  | k + 1, d => leafOk n i d
theorem leaf_mono {n i n' i' : Nat} (h1 : n ≤ n') (h2 : i ≤ i') {d : PyData} (h : leafOk n i d) : leafOk n' i' d := by
  cases d with
  | int j => exact Nat.le_trans h h2
  | str z => exact ⟨Nat.le_trans h.1 h1, h.2⟩
  | none => trivial
  | bool b => trivial
  | _ => exact h.elim
theorem wf_leaf {n i l : Nat} {d : PyData} (h : leafOk n i d) : ∀ k, wf n i l k d
  | 0 => h
  | k + 1 => by
    cases d with
    | list ds => exact h.elim
    | tuple ds => exact h.elim
    | _ => exact h
theorem wf_mono {n i l n' i' l' : Nat} (h1 : n ≤ n') (h2 : i ≤ i') (h3 : l ≤ l') : ∀ {k k' : Nat} {d : PyData}, k ≤ k' → wf n i l k d → wf n' i' l' k' d
  | 0, k', d, _, h => wf_leaf (leaf_mono h1 h2 h) k'
  | k + 1, 0, d, hk, h => absurd hk (by omega)
  | k + 1, k' + 1, .list ds, hk, h => ⟨Nat.le_trans h.1 h3, fun d hd => wf_mono h1 h2 h3 (by omega) (h.2 d hd)⟩
  | k + 1, k' + 1, .tuple ds, hk, h => ⟨Nat.le_trans h.1 h3, fun d hd => wf_mono h1 h2 h3 (by omega) (h.2 d hd)⟩
  | k + 1, k' + 1, .none, hk, h => trivial
  | k + 1, k' + 1, .bool _, hk, h => trivial
  | k + 1, k' + 1, .int j, hk, h => Nat.le_trans h h2
  | k + 1, k' + 1, .str z, hk, h => ⟨Nat.le_trans h.1 h1, h.2⟩
  | k + 1, k' + 1, .dict _, hk, h => h.elim
theorem strOk_asc {z : Str} (h : asc z) : PyData.strOk z = true := by
  unfold PyData.strOk
  rw [Array.all_eq_true_iff_forall_mem]
  intro c hc
  have := h c (by simpa using hc)
  simp
  omega
theorem canAll : ∀ {ds : List PyData}, (∀ d ∈ ds, d.canLay0 = true) → PyData.canLayAll0 ds = true
  | [], _ => by simp [PyData.canLayAll0]
  | d :: ds, h => by
    rw [PyData.canLayAll0, h d List.mem_cons_self, canAll fun x hx => h x (List.mem_cons_of_mem _ hx)]
    rfl
theorem depAll {k : Nat} : ∀ {ds : List PyData}, (∀ d ∈ ds, d.depth ≤ k) → PyData.depthAll ds ≤ k
  | [], _ => by simp [PyData.depthAll]
  | d :: ds, h => by
    rw [PyData.depthAll]
    exact Nat.max_le.mpr ⟨h d List.mem_cons_self, depAll fun x hx => h x (List.mem_cons_of_mem _ hx)⟩
theorem leaf_lay {n i : Nat} {d : PyData} (h : leafOk n i d) : d.canLay0 = true ∧ d.depth = 0 := by
  cases d with
  | int j => exact ⟨by simp [PyData.canLay0], by simp [PyData.depth]⟩
  | str z => exact ⟨by rw [PyData.canLay0]; exact strOk_asc h.2, by simp [PyData.depth]⟩
  | none => exact ⟨by simp [PyData.canLay0], by simp [PyData.depth]⟩
  | bool b => exact ⟨by simp [PyData.canLay0], by simp [PyData.depth]⟩
  | _ => exact h.elim
theorem wf_lay {n i l : Nat} : ∀ {k : Nat} {d : PyData}, wf n i l k d → d.canLay0 = true ∧ d.depth ≤ k
  | 0, d, h => ⟨(leaf_lay h).1, Nat.le_of_eq (leaf_lay h).2⟩
  | k + 1, .list ds, h => ⟨by rw [PyData.canLay0]; exact canAll fun d hd => (wf_lay (h.2 d hd)).1, by rw [PyData.depth]; exact Nat.succ_le_succ (depAll fun d hd => (wf_lay (h.2 d hd)).2)⟩
  | k + 1, .tuple ds, h => ⟨by rw [PyData.canLay0]; exact canAll fun d hd => (wf_lay (h.2 d hd)).1, by rw [PyData.depth]; exact Nat.succ_le_succ (depAll fun d hd => (wf_lay (h.2 d hd)).2)⟩
  | k + 1, .none, h => ⟨by simp [PyData.canLay0], by simp [PyData.depth]⟩
  | k + 1, .bool _, h => ⟨by simp [PyData.canLay0], by simp [PyData.depth]⟩
  | k + 1, .int j, h => ⟨by simp [PyData.canLay0], by simp [PyData.depth]⟩
  | k + 1, .str z, h => ⟨by rw [PyData.canLay0]; exact strOk_asc h.2, by simp [PyData.depth]⟩
  | k + 1, .dict _, h => h.elim
theorem wf_shaped {n i l k : Nat} {d : PyData} (hk : k ≤ 64) (h : wf n i l k d) : SeqAt.shaped d = true := by
  obtain ⟨h1, h2⟩ := wf_lay h
  unfold SeqAt.shaped
  rw [h1, decide_eq_true (Nat.le_trans h2 hk)]
  rfl
theorem wf_str {n i l k : Nat} {z : Str} (h : wf n i l k (.str z)) : z.length ≤ n ∧ asc z := by
  cases k with
  | zero => exact h
  | succ k => exact h
theorem wf_int {n i l k : Nat} {j : Int} (h : wf n i l k (.int j)) : j.natAbs ≤ i := by
  cases k with
  | zero => exact h
  | succ k => exact h
theorem wf_tup {n i l k : Nat} {ds : List PyData} (h : wf n i l k (.tuple ds)) : ∃ k', k = k' + 1 ∧ ds.length ≤ l ∧ ∀ d ∈ ds, wf n i l k' d := by
  cases k with
  | zero => exact h.elim
  | succ k => exact ⟨k, rfl, h.1, h.2⟩
theorem wf_lst {n i l k : Nat} {ds : List PyData} (h : wf n i l k (.list ds)) : ∃ k', k = k' + 1 ∧ ds.length ≤ l ∧ ∀ d ∈ ds, wf n i l k' d := by
  cases k with
  | zero => exact h.elim
  | succ k => exact ⟨k, rfl, h.1, h.2⟩
theorem wf_nodict {n i l k : Nat} {ds} (h : wf n i l k (.dict ds)) : False := by
  cases k with
  | zero => exact h
  | succ k => exact h
theorem eqD_wf {d e : PyData} (h1 : SeqAt.shaped d = true) (h2 : SeqAt.shaped e = true) : eqD d e = some (.bool (PyData.eqv d e)) := by
  unfold eqD
  rw [h1, h2]
  rfl
theorem inD_tup {d : PyData} {ds : List PyData} (h1 : SeqAt.shaped d = true) (h2 : SeqAt.shaped (.tuple ds) = true) : inD d (.tuple ds) = some (.bool (ds.any fun z => PyData.eqv z d)) ∧ ninD d (.tuple ds) = some (.bool (!ds.any fun z => PyData.eqv z d)) := by
  unfold inD ninD isIn
  dsimp only
  rw [h1, h2]
  exact ⟨rfl, rfl⟩
theorem inD_lst {d : PyData} {ds : List PyData} (h1 : SeqAt.shaped d = true) (h2 : SeqAt.shaped (.list ds) = true) : inD d (.list ds) = some (.bool (ds.any fun z => PyData.eqv z d)) ∧ ninD d (.list ds) = some (.bool (!ds.any fun z => PyData.eqv z d)) := by
  unfold inD ninD isIn
  dsimp only
  rw [h1, h2]
  exact ⟨rfl, rfl⟩
/-! the same, to be run -/
def leafB (n i : Nat) : PyData → Bool
  | .none => true
  | .bool _ => true
  | .int j => decide (j.natAbs ≤ i)
  | .str z => decide (z.length ≤ n) && z.cps.toList.all fun c => decide (c < 128)
  | _ => false
def wfB (n i l : Nat) : Nat → PyData → Bool
  | 0, d => leafB n i d
  | k + 1, .list ds => decide (ds.length ≤ l) && ds.all (wfB n i l k)
  | k + 1, .tuple ds => decide (ds.length ≤ l) && ds.all (wfB n i l k)
  | k + 1, d => leafB n i d
theorem leafB_ok {n i : Nat} {d : PyData} (h : leafB n i d = true) : leafOk n i d := by
  cases d with
  | none => trivial
  | bool b => trivial
  | int j => exact (of_decide_eq_true h : j.natAbs ≤ i)
  | str z =>
    have h : (decide (z.length ≤ n) && z.cps.toList.all fun c => decide (c < 128)) = true := h
    rw [Bool.and_eq_true] at h
    exact ⟨of_decide_eq_true h.1, fun c hc => of_decide_eq_true (List.all_eq_true.mp h.2 c hc)⟩
  | _ => cases h
theorem wfB_ok {n i l : Nat} : ∀ {k : Nat} {d : PyData}, wfB n i l k d = true → wf n i l k d
  | 0, d, h => leafB_ok h
  | k + 1, .list ds, h => by
    have h : (decide (ds.length ≤ l) && ds.all (wfB n i l k)) = true := h
    rw [Bool.and_eq_true] at h
    exact ⟨of_decide_eq_true h.1, fun d hd => wfB_ok (List.all_eq_true.mp h.2 d hd)⟩
  | k + 1, .tuple ds, h => by
    have h : (decide (ds.length ≤ l) && ds.all (wfB n i l k)) = true := h
    rw [Bool.and_eq_true] at h
    exact ⟨of_decide_eq_true h.1, fun d hd => wfB_ok (List.all_eq_true.mp h.2 d hd)⟩
  | k + 1, .none, h => leafB_ok h
  | k + 1, .bool _, h => leafB_ok h
  | k + 1, .int _, h => leafB_ok h
  | k + 1, .str _, h => leafB_ok h
  | k + 1, .dict _, h => leafB_ok h
theorem wfB_all {n i l k : Nat} {ds : List PyData} (h : ds.all (wfB n i l k) = true) : ∀ d ∈ ds, wf n i l k d := fun d hd => wfB_ok (List.all_eq_true.mp h d hd)
end PF
/-! F25: what every law draws with. -/
namespace PF
open PySem PySem.Spec L2
open PyProof.Rows hiding St b2i

def m_draw : B := sSeq (sIf (eTest (eOp gtD (eVal (eOp ixD (eVar 0) (eVal (pC (.int 0))))) (eVal (pC (.int 0))))) (sSeq (sSet 2 (eOp modD (eVal (eCallB intD (aCons (eVal (eOp ixD (eVar 0) (eVal (pC (.int 0))))) (aNil)))) (eVar 1))) (sSeq (sPut 0 (eOp fdivD (eVal (eOp ixD (eVar 0) (eVal (pC (.int 0))))) (eVar 1)) (pC (.int 0))) (sRet (eName 2)))) (sSkip)) (sSeq (sAsg (sTup 2 (sCons (sName 2) (sCons (sName 3) (sNil)))) (eTup (pCons (pC (.int 0)) (pCons (pC (.int 1)) (pNil))))) (sSeq (whileM (eTest (eOp ltD (eVar 3) (eVar 1))) (sSeq (sPut 0 (eOp modD (eVal (eCallB intD (aCons (eVal (eOp mulB (eVal (eOp ixD (eVar 0) (eVal (pC (.int 1))))) (eVal (pC (.int 69621))))) (aNil)))) (eVal (pC (.int 2147483647)))) (pC (.int 1))) (sSeq (sSet 4 (eOp fdivD (eVal (eOp modD (eVal (eCallB intD (aCons (eVal (eOp mulB (eVal (eOp ixD (eVar 0) (eVal (pC (.int 1))))) (eVal (eOp addB (eVal (eOp fdivD (eVal (eOp ixD (eVar 0) (eVal (pC (.int 1))))) (eVal (pC (.int 128))))) (eVal (pC (.int 3))))))) (aNil)))) (eVal (pC (.int 2147483629))))) (eVal (pC (.int 8))))) (sSeq (sSet 2 (eOp addB (eVal (eOp mulB (eVar 2) (eVal (pC (.int 268435456))))) (eVar 4))) (sSet 3 (eOp mulB (eVar 3) (eVal (pC (.int 268435456)))))))) 200) (sRet (eOp modD (eVal (eCallB intD (aCons (eVar 2) (aNil)))) (eVar 1)))))
def f_draw : Sem := runBody 5 m_draw
/-- the digits left, the number that mixes -/
def Dr (ds : List PyData) : Prop := ∃ a b : Int, ds = [.int a, .int b] ∧ 0 ≤ a ∧ 0 ≤ b ∧ b < 2147483648
theorem log_le {n k : Nat} (h : n < 2 ^ (k + 1)) : n.log2 ≤ k := by
  by_cases h0 : n = 0
  · rw [h0]
    exact Nat.zero_le _
  · exact Nat.le_of_lt_succ ((Nat.log2_lt
        h0).mpr h)
theorem mul_fine {i j : Int} (hi : i.natAbs.log2 ≤ 10000) (hj : j.natAbs.log2 ≤ 10000) : CMulB i j = true := by
  unfold CMulB
  simp
  omega
theorem log_b {b : Int} (h0 : 0 ≤ b) (h1 : b < 4294967296) : b.natAbs.log2 ≤ 10000 := Nat.le_trans (log_le (k := 31) (by
  rw [show (2 : Nat) ^ (31 + 1) = 4294967296 by decide]
  omega)) (by omega)
def drawC : M Bool := eTest (eOp ltD (eVar 3) (eVar 1))
def drawB : B := sSeq (sPut 0 (eOp modD (eVal (eCallB intD (aCons (eVal (eOp mulB (eVal (eOp ixD (eVar 0) (eVal (pC (.int 1))))) (eVal (pC (.int 69621))))) (aNil)))) (eVal (pC (.int 2147483647)))) (pC (.int 1))) (sSeq (sSet 4 (eOp fdivD (eVal (eOp modD (eVal (eCallB intD (aCons (eVal (eOp mulB (eVal (eOp ixD (eVar 0) (eVal (pC (.int 1))))) (eVal (eOp addB (eVal (eOp fdivD (eVal (eOp ixD (eVar 0) (eVal (pC (.int 1))))) (eVal (pC (.int 128))))) (eVal (pC (.int 3))))))) (aNil)))) (eVal (pC (.int 2147483629))))) (eVal (pC (.int 8))))) (sSeq (sSet 2 (eOp addB (eVal (eOp mulB (eVar 2) (eVal (pC (.int 268435456))))) (eVar 4))) (sSet 3 (eOp mulB (eVar 3) (eVal (pC (.int 268435456)))))))
theorem drawB_ok {b many found wide : Int} {x : Option SV} (h0 : 0 ≤ b) (h1 : b < 2147483648) (hf : found.natAbs.log2 ≤ 10000) (hw : wide.natAbs.log2 ≤ 10000) :
    ∃ b' more : Int, drawB [some (.ino [.int 0, .int b]), some (.dat (.int many)), some (.dat (.int found)), some (.dat (.int wide)), x] =
      .nx [some (.ino [.int 0, .int b']), some (.dat (.int many)), some (.dat (.int (found * 268435456 + more))), some (.dat (.int (wide * 268435456))), some (.dat (.int more))] ∧ 0 ≤ b' ∧ b' < 2147483648 ∧ 0 ≤ more ∧ more < 268435456 := by
  have m1 : CMulB b 69621 = true := mul_fine (log_b h0 (by omega)) (log_b (by omega) (by omega))
  have b1 : 0 ≤ b * 69621 % 2147483647 := Int.emod_nonneg _ (by omega)
  have b2 : b * 69621 % 2147483647 < 2147483647 := Int.emod_lt_of_pos _ (by omega)
  generalize hb' : b * 69621 % 2147483647 = b' at b1 b2
  have m2 : CMulB b' (b' / 128 + 3) = true := mul_fine (log_b b1 (by omega)) (log_b (by omega) (by omega))
  have c1 : 0 ≤ b' * (b' / 128 + 3) % 2147483629 := Int.emod_nonneg _ (by omega)
  have c2 : b' * (b' / 128 + 3) % 2147483629 < 2147483629 := Int.emod_lt_of_pos _ (by omega)
  have m3 : CMulB found 268435456 = true := mul_fine hf (log_b (by omega) (by omega))
  have m4 : CMulB wide 268435456 = true := mul_fine hw (log_b (by omega) (by omega))
  have l1 : Nat.log2 128 < 9000 := by decide
  have l2 : Nat.log2 8 < 9000 := by decide
  refine ⟨b', b' * (b' / 128 + 3) % 2147483629 / 8, ?_, b1, by omega, by omega, by omega⟩
  unfold drawB
  have i1 : ixN 2 1 = some 1 := by decide
  simp [mulB_ii, modD_ii, fdivD_ii, m1, hb', m2, m3, m4, l1, l2, i1]
theorem while_draw {many : Int} (hm : many < 2 ^ 4096) : ∀ (n j : Nat) (found b : Int) (x : Option SV), j + n = 199 → 0 ≤ found → found < 2 ^ (28 * j) → 0 ≤ b → b < 2147483648 →
    ∃ (found' b' : Int) (w x' : Option SV), whileM drawC drawB (n + 1) [some (.ino [.int 0, .int b]), some (.dat (.int many)), some (.dat (.int found)), some (.dat (.int (2 ^ (28 * j)))), x] =
      .nx [some (.ino [.int 0, .int b']), some (.dat (.int many)), some (.dat (.int found')), w, x'] ∧ 0 ≤ b' ∧ b' < 2147483648 := by
  intro n
  induction n with
  | zero =>
    intro j found b x hj h1 h2 h3 h4
    have hw : ¬ ((2 : Int) ^ (28 * j) < many) := by
      have : (2 : Int) ^ 4096 ≤ 2 ^ (28 * j) := by
        have := Nat.pow_le_pow_right (n := 2) (by omega) (show 4096 ≤ 28 * j by omega)
        exact_mod_cast this
      omega
    refine ⟨found, b, some (.dat (.int (2 ^ (28 * j)))), x, ?_, h3, h4⟩
    unfold whileM drawC
    simp [hw]
  | succ n ih =>
    intro j found b x hj h1 h2 h3 h4
    by_cases hw : (2 : Int) ^ (28 * j) < many
    · have hj2 : 28 * j < 4096 := by
        rcases Nat.lt_or_ge (28 * j) 4096 with h | h
        · exact h
        · have : (2 : Int) ^ 4096 ≤ 2 ^ (28 * j) := by
            have := Nat.pow_le_pow_right (n := 2) (by omega) h
            exact_mod_cast this
          omega
      have wl : ((2 : Int) ^ (28 * j)).natAbs.log2 ≤ 10000 := by
        have e : ((2 : Int) ^ (28 * j)).natAbs = 2 ^ (28 * j) := by
          rw [Int.natAbs_pow]
          rfl
        rw [e, Nat.log2_two_pow]
        omega
      have fl : found.natAbs.log2 ≤ 10000 := by
        refine Nat.le_trans (log_le (k := 28 * j) ?_) (by omega)
        have e : (found.natAbs : Int) < 2 ^ (28 * j) := by omega
        have e2 : found.natAbs < 2 ^ (28 * j) := by exact_mod_cast e
        exact Nat.lt_of_lt_of_le e2 (Nat.pow_le_pow_right (by omega) (by omega))
      obtain ⟨b', more, k1, k2, k3, k4, k5⟩ := drawB_ok (many := many) (x := x) h3 h4 fl wl
      have e1 : (2 : Int) ^ (28 * j) * 268435456 = 2 ^ (28 * (j + 1)) := by
        rw [Nat.mul_succ, Int.pow_add]
        rfl
      rw [e1] at k1
      obtain ⟨found', b2, w, x', q1, q2, q3⟩ := ih (j + 1) (found * 268435456 + more) b' (some (.dat (.int more))) (by omega) (by omega) (by
        rw [← e1]
        have : found + 1 ≤ (2 : Int) ^ (28 * j) := h2
        have := Int.mul_le_mul_of_nonneg_right this (show (0 : Int) ≤ 268435456 by omega)
        omega) k2 k3
      refine ⟨found', b2, w, x', ?_, q2, q3⟩
      rw [whileM]
      have c1 : drawC [some (.ino [.int 0, .int b]), some (.dat (.int many)), some (.dat (.int found)), some (.dat (.int (2 ^ (28 * j)))), x] = .ok true [some (.ino [.int 0, .int b]), some (.dat (.int many)), some (.dat (.int found)), some (.dat (.int (2 ^ (28 * j)))), x] := by
        unfold drawC
        simp [hw]
      rw [c1]
      dsimp only
      rw [k1]
      exact q1
    · refine ⟨found, b, some (.dat (.int (2 ^ (28 * j)))), x, ?_, h3, h4⟩
      rw [whileM]
      unfold drawC
      simp [hw]
theorem draw_ok {ds : List PyData} {many : Int} (h : Dr ds) (h1 : 1 ≤ many) (h2 : many < 2 ^ 4096) : ∃ (v : Int) (ds' : List PyData), f_draw [.ino ds, .dat (.int many)] = .ok (.dat (.int v)) [.ino ds', .dat (.int many)] ∧ 0 ≤ v ∧ v < many ∧ Dr ds' := by
  obtain ⟨a, b, rfl, ha, hb, hb2⟩ := h
  have h0 : (0 : Int) < many := by omega
  have hl : many.natAbs.log2 < 9000 := by
    refine Nat.lt_of_le_of_lt (log_le (k := 4095) ?_) (by omega)
    have : (many.natAbs : Int) < 2 ^ 4096 := by omega
    exact_mod_cast this
  unfold f_draw runBody m_draw
  by_cases p : 0 < a
  · refine ⟨a % many, [.int (a / many), .int b], ?_, Int.emod_nonneg _ (by omega), Int.emod_lt_of_pos _ h0, a / many, b, rfl, Int.ediv_nonneg ha (by omega), hb, hb2⟩
    have i0 : ixN 2 0 = some 0 := by decide
    simp [p, modD_ii, fdivD_ii, h0, hl, i0, outsOf]
  · have a0 : a = 0 := by omega
    subst a0
    obtain ⟨found', b', w, x', q1, q2, q3⟩ := while_draw h2 199 0 0 b none rfl (by omega) (by simp) hb hb2
    refine ⟨found' % many, [.int 0, .int b'], ?_, Int.emod_nonneg _ (by omega), Int.emod_lt_of_pos _ h0, 0, b', rfl, Int.le_refl 0, q2, q3⟩
    unfold drawC drawB at q1
    simp only [Nat.mul_zero, Int.pow_zero] at q1
    simp [sizeLine, q1, modD_ii, h0, outsOf]
/-! ### one of some -/
def m_of : B := sRet (eOp ixD (eVar 1) (eVal (eCallD (f_draw) (aCons (eVar 0) (aCons (eVal (eCallB lenD (aCons (eVar 1) (aNil)))) (aNil))))))
def f_of : Sem := runBody 2 m_of
theorem of_ok {ds xs : List PyData} {d : PyData} (h : Dr ds) (h1 : 1 ≤ xs.length) (h2 : xs.length ≤ 1000000) (hd : d = .list xs ∨ d = .tuple xs) : ∃ (x : PyData) (ds' : List PyData), f_of [.ino ds, .dat d] = .ok (.dat x) [.ino ds', .dat d] ∧ x ∈ xs ∧ Dr ds' := by
  have hb : (xs.length : Int) < 2 ^ 4096 := by
    have e : (2 : Nat) ^ 20 ≤ 2 ^ 4096 := Nat.pow_le_pow_right (by omega) (by omega)
    have e2 : (2 :
          Nat) ^ 20 = 1048576 := by decide
    have : xs.length < 2 ^ 4096 := by omega
    exact_mod_cast this
  obtain ⟨v, ds', q1, q2, q3, q4⟩ := draw_ok (many := xs.length) h (by omega) hb
  have hv : v.toNat < xs.length := by omega
  have ev : ((v.toNat : Nat)
        : Int) = v := by omega
  have hx := at_nat (a := xs) hv
  rw [ev, List.getElem?_eq_getElem hv] at hx
  have hc : callD f_draw [.var 0, .val (.int xs.length)] [some (.ino ds), some (.dat d)] = .ok (.int v) [some (.ino ds'), some (.dat d)] := by
    rw [callD_lent1 (ds := ds) rfl q1]
    rfl
  refine ⟨_, ds', ?_, List.getElem_mem hv, q4⟩
  unfold f_of runBody m_of
  rcases hd with rfl | rfl <;> simp [hc, hx, outsOf]

/-! ### the start -/
def m_draws : B := sSeq (sSet 2 (eOp mulB (eVal (pC (.int 15485863))) (eVar 1))) (sSeq (sIf (eTest (eOp ltD (eVar 1) (eVal (eLenS 0)))) (sSet 2 (eOp modD (eVal (eCallB intD (aCons (eVal (eCallB absD (aCons (eVal (eIxS 0 (eName 1))) (aNil)))) (aNil)))) (eVal (eOp mulB (eVal (eOp mulB (eVal (eOp mulB (eVal (eOp powD (eVal (pC (.int 10))) (eVal (pC (.int 60))))) (eVal (eOp powD (eVal (pC (.int 10))) (eVal (pC (.int 60))))))) (eVal (eOp powD (eVal (pC (.int 10))) (eVal (pC (.int 60))))))) (eVal (eOp powD (eVal (pC (.int 10))) (eVal (pC (.int 60))))))))) (sIf (eTest (eOp gtD (eVal (eLenS 0)) (eVal (pC (.int 0))))) (sSet 2 (eOp addB (eVal (eOp modD (eVal (eCallB intD (aCons (eVal (eCallB absD (aCons (eVal (eIxS 0 (eOp modD (eVar 1) (eVal (eLenS 0))))) (aNil)))) (aNil)))) (eVal (eOp powD (eVal (pC (.int 10))) (eVal (pC (.int 15))))))) (eVal (eOp mulB (eVal (pC (.int 15485863))) (eVar 1))))) (sSkip))) (sSeq (sSet 3 (eOp addB (eVal (pC (.int 1))) (eVal (eOp modD (eVal (eCallB intD (aCons (eVal (eOp addB (eVal (eOp mulB (eVar 2) (eVal (pC (.int 69621))))) (eVal (eOp mulB (eVal (pC (.int 86028121))) (eVal (eOp addB (eVar 1) (eVal (pC (.int 1))))))))) (aNil)))) (eVal (pC (.int 2147483646))))))) (sRetO (eLst (pCons (eOp mulB (eVar 2) (eVal (eCallB intD (aCons (eVal (eOp geD (eVar 2) (eVal (eOp powD (eVal (pC (.int 10))) (eVal (pC (.int 18))))))) (aNil))))) (pCons (eName 3) (pNil)))))))
def f_draws : Sem := runBody 4 m_draws
theorem powD_ii {i j : Int} : powD (.int i) (.int j) = if 0 ≤ j ∧ j ≤ 1000000 ∧ i.natAbs < 2 ^ 64 then some (.int (i ^ j.toNat)) else none := rfl
theorem big_pow : ∃ T T2 T3 T4 : Int, powD (.int 10) (.int 60) = some (.int T) ∧ mulB (.int T) (.int T) = some (.int T2) ∧ mulB (.int T2) (.int T) = some (.int T3) ∧ mulB (.int T3) (.int T) = some (.int T4) ∧ 0 < T4 ∧ T4.natAbs.log2 < 900 := by
  refine ⟨10 ^ 60, 10 ^ 60 * 10 ^ 60, 10 ^ 60 * 10 ^ 60 * 10 ^ 60, 10 ^ 60 * 10 ^ 60 * 10 ^ 60 * 10 ^ 60, ?_, ?_, ?_, ?_, by decide +kernel, by decide +kernel⟩
  · rw [powD_ii, if_pos (by decide +kernel)]
    rfl
  · rw [mulB_ii, if_pos (by decide +kernel)]
  · rw [mulB_ii, if_pos (by decide +kernel)]
  · rw [mulB_ii, if_pos (by decide +kernel)]
theorem mid_pow : ∃ T U : Int, powD (.int 10) (.int 15) = some (.int T) ∧ powD (.int 10) (.int 18) = some (.int U) ∧ 0 < T ∧ T.natAbs.log2 < 900 := by
  refine ⟨10 ^ 15, 10 ^ 18, ?_, ?_, by decide +kernel, by decide +kernel⟩
  · rw [powD_ii, if_pos (by decide +kernel)]
    rfl
  · rw [powD_ii, if_pos (by decide +kernel)]
    rfl
theorem log_lt {n m k : Nat} (h : n ≤ m) (hm : m.log2 < k) : n.log2 < k := by
  by_cases h0 : n = 0
  · rw [h0]
    show 0 < k
    omega
  · have h1 : m ≠ 0 := by omega
    exact (Nat.log2_lt h0).mpr (Nat.lt_of_le_of_lt h ((Nat.log2_lt h1).mp hm))
theorem ints_at {ns : List Int} {n : Nat} (h : n < ns.length) : L2.atI (ns.map PyData.int) (n : Int) = some (.int ns[n]) := by
  rw [at_nat (by rw [List.length_map]; exact h), List.getElem?_map, List.getElem?_eq_getElem h]
  rfl
def drawsT : B := sSeq (sSet 3 (eOp addB (eVal (pC (.int 1))) (eVal (eOp modD (eVal (eCallB intD (aCons (eVal (eOp addB (eVal (eOp mulB (eVar 2) (eVal (pC (.int 69621))))) (eVal (eOp mulB (eVal (pC (.int 86028121))) (eVal (eOp addB (eVar 1) (eVal (pC (.int 1))))))))) (aNil)))) (eVal (pC (.int 2147483646))))))) (sRetO (eLst (pCons (eOp mulB (eVar 2) (eVal (eCallB intD (aCons (eVal (eOp geD (eVar 2) (eVal (eOp powD (eVal (pC (.int 10))) (eVal (pC (.int 18))))))) (aNil))))) (pCons (eName 3) (pNil)))))
def drawsC : B := sIf (eTest (eOp ltD (eVar 1) (eVal (eLenS 0)))) (sSet 2 (eOp modD (eVal (eCallB intD (aCons (eVal (eCallB absD (aCons (eVal (eIxS 0 (eName 1))) (aNil)))) (aNil)))) (eVal (eOp mulB (eVal (eOp mulB (eVal (eOp mulB (eVal (eOp powD (eVal (pC (.int 10))) (eVal (pC (.int 60))))) (eVal (eOp powD (eVal (pC (.int 10))) (eVal (pC (.int 60))))))) (eVal (eOp powD (eVal (pC (.int 10))) (eVal (pC (.int 60))))))) (eVal (eOp powD (eVal (pC (.int 10))) (eVal (pC (.int 60))))))))) (sIf (eTest (eOp gtD (eVal (eLenS 0)) (eVal (pC (.int 0))))) (sSet 2 (eOp addB (eVal (eOp modD (eVal (eCallB intD (aCons (eVal (eCallB absD (aCons (eVal (eIxS 0 (eOp modD (eVar 1) (eVal (eLenS 0))))) (aNil)))) (aNil)))) (eVal (eOp powD (eVal (pC (.int 10))) (eVal (pC (.int 15))))))) (eVal (eOp mulB (eVal (pC (.int 15485863))) (eVar 1))))) (sSkip))
theorem m_draws_eq : m_draws = sSeq (sSet 2 (eOp mulB (eVal (pC (.int 15485863))) (eVar 1))) (sSeq drawsC drawsT) := rfl
theorem draws_ok {ns : List Int} {sv : SV} {k : Nat} (hs : sv = .scr (ns.map .int) ∨ sv = .ino (ns.map .int)) (hl : ns.length ≤ 63) (hk : k ≤ 63) : ∃ ds : List PyData, f_draws [sv, .dat (.int k)] = .ok (.own ds) [sv, .dat (.int k)] ∧ Dr ds := by
  obtain ⟨T, T2, T3, T4, p1, p2, p3, p4, p5, p6⟩ := big_pow
  obtain ⟨U, W, u1, u2, u3, u4⟩ := mid_pow
  have hsc : scrOf (some (some sv)) = some (ns.map .int) := by rcases hs with rfl | rfl <;> rfl
  have hou : ∀ e : PF.Env, outsOf [sv, .dat (.int k)] (some sv :: some (.dat (.int k)) :: e) = some [sv, .dat (.int k)] := fun e => by rcases hs with rfl | rfl <;> rfl
  -- what stands behind the cell
  have tail : ∀ cell : Int, 0 ≤ cell → cell.natAbs.log2 ≤ 1000 → ∃ ds : List PyData,
      drawsT [some sv, some (.dat (.int k)), some (.dat (.int cell)), none] = .rt (.own ds) (some sv :: some (.dat (.int k)) :: [some (.dat (.int cell)), some (.dat (.int (1 + (cell * 69621 + 86028121 * ((k : Int) + 1)) % 2147483646)))]) ∧ Dr ds := fun cell h0 hlg => by
    have m1 : CMulB cell 69621 = true := mul_fine (by omega) (log_b (by omega) (by omega))
    have m2 : CMulB 86028121 ((k : Int) + 1) = true := mul_fine (log_b (by omega) (by omega)) (log_b (by omega) (by omega))
    have m3 : CMulB cell (b2i (decide (W ≤ cell))) = true := mul_fine (by omega) (by unfold b2i; split <;> decide)
    refine ⟨[.int (cell * b2i (decide (W ≤ cell))), .int (1 + (cell * 69621 + 86028121 * ((k : Int) + 1)) % 2147483646)], ?_, _, _, rfl, ?_, ?_, ?_⟩
    · unfold drawsT
      simp [mulB_ii, modD_ii, m1, m2, m3, u2, sizeLine]
    · refine Int.mul_nonneg h0 ?_
      unfold b2i
      split <;> omega
    · have := Int.emod_nonneg (cell * 69621 + 86028121 * ((k : Int) + 1)) (show (2147483646 : Int) ≠ 0 by omega)
      omega
    · have := Int.emod_lt_of_pos (cell * 69621 + 86028121 * ((k : Int) + 1)) (show (0 : Int) < 2147483646 by omega)
      omega
  have m0 : CMulB 15485863 (k : Int) = true := mul_fine (log_b (by omega) (by omega)) (log_b (by omega) (by omega))
  have kb : (0 : Int) ≤ 15485863 * k := by omega
  -- the cell
  have cell : ∃ c : Int, drawsC [some sv, some (.dat (.int k)), some (.dat (.int (15485863 * k))), none] = .nx [some sv, some (.dat (.int k)), some (.dat (.int c)), none] ∧ 0 ≤ c ∧ c.natAbs.log2 ≤ 1000 := by
    unfold drawsC
    by_cases h1 : k < ns.length
    · have h1' : (k : Int) < ns.length := by omega
      have ix := ints_at (ns := ns) h1
      generalize ns[k] = i at ix
      have c0 : 0 ≤ (if i < 0 then -i else i) % T4 := Int.emod_nonneg _ (by omega)
      have c1 : (if i < 0 then -i else i) % T4 < T4 := Int.emod_lt_of_pos _ p5
      refine ⟨(if i < 0 then -i else i) % T4, ?_, c0, Nat.le_of_lt (Nat.lt_trans (log_lt (by omega) p6) (by omega))⟩
      simp [hsc, h1', eIxS, ix, p1, p2, p3, p4, modD_ii, p5]
    · have h1' : ¬ (k : Int) < ns.length := by omega
      by_cases h2 : 0 < ns.length
      · have h2' : (0 : Int) < ns.length := by omega
        have hm : k % ns.length < ns.length := Nat.mod_lt _ h2
        have ix := ints_at (ns := ns) hm
        have em : (k : Int) % (ns.length : Int) = ((k % ns.length : Nat) : Int) := by omega
        rw [← em] at ix
        generalize ns[k % ns.length] = i at ix
        have c0 : 0 ≤ (if i < 0 then -i else i) % U := Int.emod_nonneg _ (by omega)
        have c1 : (if i < 0 then -i else i) % U < U := Int.emod_lt_of_pos _ u3
        refine ⟨(if i < 0 then -i else i) % U + 15485863 * k, ?_, Int.add_nonneg c0 kb, ?_⟩
        · simp [hsc, h1', eIxS, h2', h2, ix, u1, modD_ii, u3, mulB_ii, m0]
        · have a1 : U.natAbs < 2 ^ 900 := by
            by_cases z : U.natAbs = 0
            · omega
            · exact (Nat.log2_lt z).mp u4
          have a2 : (2 : Nat) ^ 31 ≤ 2 ^ 900 := Nat.pow_le_pow_right (by omega) (by omega)
          have a3 : (2 : Nat) ^ 31 = 2147483648 := by decide
          have a4 : (2 : Nat) ^ 901 = 2 * 2 ^ 900 := by rw [Nat.pow_succ, Nat.mul_comm]
          generalize (if i < 0 then -i else i) % U = r at c0 c1
          refine Nat.le_trans (log_le (k := 900) ?_) (by omega)
          show _ < 2 ^ 901
          omega
      · have h2' : ¬ (0 : Int) < ns.length := by omega
        refine ⟨15485863 * k, ?_, kb, Nat.le_trans (log_le (k := 40) ?_) (by omega)⟩
        · simp [hsc, h1', h2', h2]
        · rw [show (2 : Nat) ^ (40 + 1) = 2199023255552 by decide]
          omega
  obtain ⟨c, c1, c2, c3⟩ := cell
  obtain ⟨ds, q1, q2⟩ := tail c c2 c3
  refine ⟨ds, ?_, q2⟩
  unfold f_draws runBody
  rw [m_draws_eq]
  simp [mulB_ii, m0, List.replicate, c1, q1, hou]
end PF
/-! ### K01: the text, printed by gen.py -/
namespace K01
open PySem PySem.Spec L2 PF
open PyProof.Rows hiding St
open PF (Sem)
def topS (i : Nat) : Stmt := PySem.Challenge.pw_putagain_k01_what_is_a_schema.main.body.getD i (.Pass ⟨0, 0, 0, 0⟩)
section
variable {P : Program} {w : World} {K : PySem.W.Frag}
      {mg : Str → Option Value} {base : Heap}

abbrev s_is_name : Stmt := topS 2
theorem sc_is_name : FnScope ["value", "sign"] ["value"] (defScope s_is_name) := ⟨rfl, rfl, rfl, by decide +kernel, rfl, by decide +kernel, by decide +kernel⟩
def m_is_name : B := sRet (eAndV (eIsi [.str] (eVar 0)) (eAndV (eChain leD leD (eVal (pC (.int 1))) (eVal (eCallB lenD (aCons (eVar 0) (aNil)))) (eVal (pC (.int 8)))) (eCallB allD (aCons (eVal (eFrz (eComp (eSeq (eName 0)) (sName 1) [1] (eYes) (eOp inD (eVar 1) (eVal (pC (.str "abcdefghijklmnopqrstuvwxyz"))))))) (aNil)))))
def f_is_name : Sem := runBody 2 m_is_name
theorem ok_is_name {f : Addr} {fd : FuncData} (F : FnP K "is_name" s_is_name f fd) (z_all : mg "all" = none) (z_isinstance : mg "isinstance" = none) (z_len : mg "len" = none) (z_str : mg "str" = none) {u_LETTERS : Value} (c_LETTERS : mg "LETTERS" = some u_LETTERS) (r_LETTERS : RelV (.str "abcdefghijklmnopqrstuvwxyz") u_LETTERS) : FnOk P w K mg base (L2.CX P w) 1 f fd ["value"] (spOf K mg 1 f_is_name) := by
  refine fn_okE (b := m_is_name) (n := 2) F sc_is_name rfl rfl rfl fun cdv A outer s H E hr => ?_
  have hu := hr.units
  have hu5 : (A.deeper (envOfC "is_name" (defScope s_is_name) s.heap.objs.size f cdv)).units + 65 < cLine := by
    have := hr.un
    omega
  exact (dss_one (ds_ret (de_and (de_isi (n := .str) (dt_var (pv 0)) (by rfl) z_isinstance (by rfl) z_str boot_str (by decide) (by decide) (by rfl)) (de_and (de_chain ho_le ho_le (dt_of de_int) (dt_of (de_callB hc_len (by rfl) z_len PySem.boot_len (dts_cons (dt_var (pv 0)) dts_nil) (by decide) (by decide) (by rfl) (by rfl))) (dt_of de_int) (by rfl)) (de_bo1 (de_callB (hc_all (by rfl)) (by rfl) z_all boot_all (dts_cons (dt_of (de_frz (do_comp (by rfl) sc_is_name.nd (di_seq (de_name (pv 0))) (blkOk_by (own := [("sign", 1)]) (by kernel_rfl)) (fun _ _ _ _ _ => (dg_name (pg_name (i := 1) sc_is_name.nd (by rfl) (by first | exact .inl rfl | exact .inr rfl)))) (fun _ _ _ _ _ => dts_yes) (fun _ _ _ _ _ => (de_cmp (ho_in hu5) (dt_var (pv 1)) (dt_of (de_glob (v := .str "abcdefghijklmnopqrstuvwxyz") (by rfl) c_LETTERS r_LETTERS (fun _ _ => .str _))) (by rfl))) (fun _ => rfl) (by decide)))) dts_nil) (by decide) (by decide) (by rfl) (by rfl)))))))
abbrev s_is_column : Stmt := topS 3
theorem sc_is_column : FnScope ["value"] ["value"] (defScope s_is_column) := ⟨rfl, rfl, rfl, by decide +kernel, rfl, by decide +kernel, by decide +kernel⟩
def m_is_column : B := sSeq (sIf (eOrB (eNotB (eTest (eIsi [.tuple] (eVar 0)))) (eOrB (eTest (eOp neD (eVal (eCallB lenD (aCons (eVar 0) (aNil)))) (eVal (pC (.int 2))))) (eNotB (eTest (eIsi [.str] (eVal (eOp ixD (eVar 0) (eVal (pC (.int 1)))))))))) (sRet (pC (.bool false))) (sSkip)) (sRet (eAndV (eCallD (f_is_name) (aCons (eVal (eOp ixD (eVar 0) (eVal (pC (.int 0))))) (aNil))) (eOp inD (eVal (eOp ixD (eVar 0) (eVal (pC (.int 1))))) (eVal (eTup (pCons (pC (.str "key")) (pCons (pC (.str "data")) (pNil))))))))
def f_is_column : Sem := runBody 1 m_is_column
theorem ok_is_column {f : Addr} {fd : FuncData} (F : FnP K "is_column" s_is_column f fd) (z_isinstance : mg "isinstance" = none) (z_len : mg "len" = none) (z_str : mg "str" = none) (z_tuple : mg "tuple" = none) {a_is_name : Addr} {d_is_name : FuncData} (C_is_name : Cal P w K mg base "is_name" 1 ["value"] f_is_name a_is_name d_is_name) : FnOk P w K mg base (L2.CX P w) 2 f fd ["value"] (spOf K mg 1 f_is_column) := by
  refine fn_okE (b := m_is_column) (n := 1) F sc_is_column rfl rfl rfl fun cdv A outer s H E hr => ?_
  have hu := hr.units
  have hu5 : (A.deeper (envOfC "is_column" (defScope s_is_column) s.heap.objs.size f cdv)).units + 65 < cLine := by
    have := hr.un
    omega
  exact (dss_cons (ds_if (db_w (dw_or (db_not (db_val (de_isi (n := .tuple) (dt_var (pv 0)) (by rfl) z_isinstance (by rfl) z_tuple boot_tuple (by decide) (by decide) (by rfl)) (by intro _; rfl))) (dw_or (db_cmp (ho_ne hu) (dt_of (de_callB hc_len (by rfl) z_len PySem.boot_len (dts_cons (dt_var (pv 0)) dts_nil) (by decide) (by decide) (by rfl) (by rfl))) (dt_of de_int) (by rfl)) (dw_or1 (db_not (db_val (de_isi (n := .str) (dt_of (de_ix (dt_var (pv 0)) (dt_of de_int) (fun _ _ => rfl))) (by rfl) z_isinstance (by rfl) z_str boot_str (by decide) (by decide) (by rfl)) (by intro _; rfl))))))) (dss_one (ds_ret de_bl)) dss_nil) (dss_one (ds_ret (de_and (de_own C_is_name hr (by omega) (by rfl) (takes_of rfl rfl rfl rfl) (dts_cons (dt_of (de_ix (dt_var (pv 0)) (dt_of de_int) (fun _ _ => rfl))) dts_nil) (lo_cons lo_nil) (by rfl) (by decide) (by rfl) (by rfl)) (de_bo1 (de_cmp (ho_in hu5) (dt_of (de_ix (dt_var (pv 0)) (dt_of de_int) (fun _ _ => rfl))) (dt_of (de_tup (dds_cons de_str (dds_cons de_str dds_nil)))) (by rfl)))))))
abbrev s_keys_of : Stmt := topS 4
theorem sc_keys_of : FnScope ["schema", "place", "column"] ["schema"] (defScope s_keys_of) := ⟨rfl, rfl, rfl, by decide +kernel, rfl, by decide +kernel, by decide +kernel⟩
def m_keys_of : B := sRet (eFrz (eComp (eCallI enum1D (pCons (eName 0) (pNil))) (sTup 2 (sCons (sName 1) (sCons (sName 2) (sNil)))) [1, 2] (eTest (eOp eqD (eVal (eOp ixD (eVar 2) (eVal (pC (.int 1))))) (eVal (pC (.str "key"))))) (eName 1)))
def f_keys_of : Sem := runBody 3 m_keys_of
theorem ok_keys_of {f : Addr} {fd : FuncData} (F : FnP K "keys_of" s_keys_of f fd) (z_enumerate : mg "enumerate" = none) : FnOk P w K mg base (L2.CX P w) 1 f fd ["schema"] (spOf K mg 1 f_keys_of) := by
  refine fn_okE (b := m_keys_of) (n := 3) F sc_keys_of rfl rfl rfl fun cdv A outer s H E hr => ?_
  have hu := hr.units
  have hu5 : (A.deeper (envOfC "keys_of" (defScope s_keys_of) s.heap.objs.size f cdv)).units + 65 < cLine := by
    have := hr.un
    omega
  exact (dss_one (ds_ret (de_frz (do_comp (by rfl) sc_keys_of.nd (di_enum (by rfl) z_enumerate (dds_cons (de_name (pv 0)) dds_nil) (by rfl)) (blkOk_by (own := [("place", 1), ("column", 2)]) (by kernel_rfl)) (fun _ _ _ _ _ => (dg_tup (by rfl) (dgs_cons (dg_name (pg_name (i := 1) sc_keys_of.nd (by rfl) (by first | exact .inl rfl | exact .inr rfl))) (dgs_cons (dg_name (pg_name (i := 2) sc_keys_of.nd (by rfl) (by first | exact .inl rfl | exact .inr rfl))) dgs_nil (by rfl)) (by rfl)) (by rfl) (by rfl))) (fun _ _ _ _ _ => (dts_if (db_cmp (ho_eq hu) (dt_of (de_ix (dt_var (pv 2)) (dt_of de_int) (fun _ _ => rfl))) (dt_of de_str) (by rfl)))) (fun _ _ _ _ _ => (de_name (pv 1))) (fun _ => rfl) (by decide)))))
abbrev s_is_schema : Stmt := topS 5
theorem sc_is_schema : FnScope ["value", "column"] ["value"] (defScope s_is_schema) := ⟨rfl, rfl, rfl, by decide +kernel, rfl, by decide +kernel, by decide +kernel⟩
def m_is_schema : B := sSeq (sIf (eOrB (eNotB (eTest (eIsi [.tuple] (eVar 0)))) (eNotB (eTest (eChain leD leD (eVal (pC (.int 1))) (eVal (eCallB lenD (aCons (eVar 0) (aNil)))) (eVal (pC (.int 4))))))) (sRet (pC (.bool false))) (sSkip)) (sSeq (sIf (eNotB (eTest (eCallB allD (aCons (eVal (eFrz (eComp (eSeq (eName 0)) (sName 1) [1] (eYes) (eCallD (f_is_column) (aCons (eVal (eName 1)) (aNil)))))) (aNil))))) (sRet (pC (.bool false))) (sSkip)) (sRet (eAndV (eOp eqD (eVal (eLenK (eSetC (eSeq (eName 0)) (sName 1) [1] (eYes) (eOp ixD (eVar 1) (eVal (pC (.int 0))))))) (eVal (eCallB lenD (aCons (eVar 0) (aNil))))) (eChain leD leD (eVal (pC (.int 1))) (eVal (eCallB lenD (aCons (eVal (eCallD (f_keys_of) (aCons (eVal (eName 0)) (aNil)))) (aNil)))) (eVal (pC (.int 3)))))))
def f_is_schema : Sem := runBody 2 m_is_schema
theorem ok_is_schema {f : Addr} {fd : FuncData} (F : FnP K "is_schema" s_is_schema f fd) (z_all : mg "all" = none) (z_isinstance : mg "isinstance" = none) (z_len : mg "len" = none) (z_tuple : mg "tuple" = none) {a_is_column : Addr} {d_is_column : FuncData} (C_is_column : Cal P w K mg base "is_column" 2 ["value"] f_is_column a_is_column d_is_column) {a_keys_of : Addr} {d_keys_of : FuncData} (C_keys_of : Cal P w K mg base "keys_of" 1 ["schema"] f_keys_of a_keys_of d_keys_of) : FnOk P w K mg base (L2.CX P w) 3 f fd ["value"] (spOf K mg 1 f_is_schema) := by
  refine fn_okE (b := m_is_schema) (n := 2) F sc_is_schema rfl rfl rfl fun cdv A outer s H E hr => ?_
  have hu := hr.units
  have hu5 : (A.deeper (envOfC "is_schema" (defScope s_is_schema) s.heap.objs.size f cdv)).units + 65 < cLine := by
    have := hr.un
    omega
  exact (dss_cons (ds_if (db_w (dw_or (db_not (db_val (de_isi (n := .tuple) (dt_var (pv 0)) (by rfl) z_isinstance (by rfl) z_tuple boot_tuple (by decide) (by decide) (by rfl)) (by intro _; rfl))) (dw_or1 (db_not (db_chain ho_le ho_le (dt_of de_int) (dt_of (de_callB hc_len (by rfl) z_len PySem.boot_len (dts_cons (dt_var (pv 0)) dts_nil) (by decide) (by decide) (by rfl) (by rfl))) (dt_of de_int) (by rfl)))))) (dss_one (ds_ret de_bl)) dss_nil) (dss_cons (ds_if (db_not (db_val (de_callB (hc_all (by rfl)) (by rfl) z_all boot_all (dts_cons (dt_of (de_frz (do_comp (by rfl) sc_is_schema.nd (di_seq (de_name (pv 0))) (blkOk_by (own := [("column", 1)]) (by kernel_rfl)) (fun _ _ _ _ _ => (dg_name (pg_name (i := 1) sc_is_schema.nd (by rfl) (by first | exact .inl rfl | exact .inr rfl)))) (fun _ _ _ _ _ => dts_yes) (fun _ _ _ _ _ => (de_own C_is_column hr (by omega) (by rfl) takes0 (dts_cons (dt_of (de_name (pv 1))) dts_nil) (lo_cons lo_nil) (by rfl) (by decide) (by rfl) (by rfl))) (fun _ => rfl) (by decide)))) dts_nil) (by decide) (by decide) (by rfl) (by rfl)) (by intro _; rfl))) (dss_one (ds_ret de_bl)) dss_nil) (dss_one (ds_ret (de_and (de_cmp (ho_eq hu) (dt_of (de_lenK (dk_comp (by rfl) sc_is_schema.nd (di_seq (de_name (pv 0))) (blkOk_by (own := [("column", 1)]) (by kernel_rfl)) (fun _ _ _ _ _ => (dg_name (pg_name (i := 1) sc_is_schema.nd (by rfl) (by first | exact .inl rfl | exact .inr rfl)))) (fun _ _ _ _ _ => dts_yes) (fun _ _ _ _ _ => (de_ix (dt_var (pv 1)) (dt_of de_int) (fun _ _ => rfl))) (fun _ => rfl) (by decide)) (by rfl) z_len (by rfl))) (dt_of (de_callB hc_len (by rfl) z_len PySem.boot_len (dts_cons (dt_var (pv 0)) dts_nil) (by decide) (by decide) (by rfl) (by rfl))) (by rfl)) (de_bo1 (de_chain ho_le ho_le (dt_of de_int) (dt_of (de_callB hc_len (by rfl) z_len PySem.boot_len (dts_cons (dt_of (de_own C_keys_of hr (by omega) (by rfl) (takes_of rfl rfl rfl rfl) (dts_cons (dt_of (de_name (pv 0))) dts_nil) (lo_cons lo_nil) (by rfl) (by decide) (by rfl) (by rfl))) dts_nil) (by decide) (by decide) (by rfl) (by rfl))) (dt_of de_int) (by rfl))))))))
abbrev s__law_draws : Stmt := topS 7
theorem sc__law_draws : FnScope ["script", "k", "cell", "blend"] ["script", "k"] (defScope s__law_draws) := ⟨rfl, rfl, rfl, by decide +kernel, rfl, by decide +kernel, by decide +kernel⟩
def m__law_draws : B := sSeq (sSet 2 (eOp mulB (eVal (pC (.int 15485863))) (eVar 1))) (sSeq (sIf (eTest (eOp ltD (eVar 1) (eVal (eLenS 0)))) (sSet 2 (eOp modD (eVal (eCallB intD (aCons (eVal (eCallB absD (aCons (eVal (eIxS 0 (eName 1))) (aNil)))) (aNil)))) (eVal (eOp mulB (eVal (eOp mulB (eVal (eOp mulB (eVal (eOp powD (eVal (pC (.int 10))) (eVal (pC (.int 60))))) (eVal (eOp powD (eVal (pC (.int 10))) (eVal (pC (.int 60))))))) (eVal (eOp powD (eVal (pC (.int 10))) (eVal (pC (.int 60))))))) (eVal (eOp powD (eVal (pC (.int 10))) (eVal (pC (.int 60))))))))) (sIf (eTest (eOp gtD (eVal (eLenS 0)) (eVal (pC (.int 0))))) (sSet 2 (eOp addB (eVal (eOp modD (eVal (eCallB intD (aCons (eVal (eCallB absD (aCons (eVal (eIxS 0 (eOp modD (eVar 1) (eVal (eLenS 0))))) (aNil)))) (aNil)))) (eVal (eOp powD (eVal (pC (.int 10))) (eVal (pC (.int 15))))))) (eVal (eOp mulB (eVal (pC (.int 15485863))) (eVar 1))))) (sSkip))) (sSeq (sSet 3 (eOp addB (eVal (pC (.int 1))) (eVal (eOp modD (eVal (eCallB intD (aCons (eVal (eOp addB (eVal (eOp mulB (eVar 2) (eVal (pC (.int 69621))))) (eVal (eOp mulB (eVal (pC (.int 86028121))) (eVal (eOp addB (eVar 1) (eVal (pC (.int 1))))))))) (aNil)))) (eVal (pC (.int 2147483646))))))) (sRetO (eLst (pCons (eOp mulB (eVar 2) (eVal (eCallB intD (aCons (eVal (eOp geD (eVar 2) (eVal (eOp powD (eVal (pC (.int 10))) (eVal (pC (.int 18))))))) (aNil))))) (pCons (eName 3) (pNil)))))))
def f__law_draws : Sem := runBody 4 m__law_draws
theorem ok__law_draws {f : Addr} {fd : FuncData} (F : FnP K "_law_draws" s__law_draws f fd) (z_abs : mg "abs" = none) (z_int : mg "int" = none) (z_len : mg "len" = none) : FnOk P w K mg base (L2.CX P w) 1 f fd ["script", "k"] (spOf K mg 2 f__law_draws) := by
  refine fn_okE (b := m__law_draws) (n := 4) F sc__law_draws rfl rfl rfl fun cdv A outer s H E hr => ?_
  have hu := hr.units
  have hu5 : (A.deeper (envOfC "_law_draws" (defScope s__law_draws) s.heap.objs.size f cdv)).units + 65 < cLine := by
    have := hr.un
    omega
  exact (dss_cons (ds_setd (i := 2) sc__law_draws.nd (by rfl) (by first | exact .inl rfl | exact .inr rfl) (de_op ho_mulB (dt_of de_int) (dt_var (pv 1))) (by rfl) (by first | exact .inl rfl | exact .inr rfl)) (dss_cons (ds_if (db_cmp (ho_lt hu) (dt_var (pv 1)) (dt_of (de_lenS (pv 0) (by rfl) z_len (by rfl))) (by rfl)) (dss_one (ds_setd (i := 2) sc__law_draws.nd (by rfl) (by first | exact .inl rfl | exact .inr rfl) (de_op ho_mod (dt_of (de_callT hc_int (by rfl) z_int boot_int (dts_cons (dt_of (de_callB hc_abs (by rfl) z_abs boot_abs (dts_cons (dt_of (de_ixS (pv 0) (de_name (pv 1)) (fun _ _ => rfl))) dts_nil) (by decide) (by decide) (by rfl) (by rfl))) dts_nil) (by decide) (by decide) (by rfl) (by rfl))) (dt_of (de_op ho_mulB (dt_of (de_op ho_mulB (dt_of (de_op ho_mulB (dt_of (de_op ho_pow (dt_of de_int) (dt_of de_int))) (dt_of (de_op ho_pow (dt_of de_int) (dt_of de_int))))) (dt_of (de_op ho_pow (dt_of de_int) (dt_of de_int))))) (dt_of (de_op ho_pow (dt_of de_int) (dt_of de_int)))))) (by rfl) (by first | exact .inl rfl | exact .inr rfl))) (dss_one (ds_if (db_cmp ho_gt (dt_of (de_lenS (pv 0) (by rfl) z_len (by rfl))) (dt_of de_int) (by rfl)) (dss_one (ds_setd (i := 2) sc__law_draws.nd (by rfl) (by first | exact .inl rfl | exact .inr rfl) (de_op ho_addB (dt_of (de_op ho_mod (dt_of (de_callT hc_int (by rfl) z_int boot_int (dts_cons (dt_of (de_callB hc_abs (by rfl) z_abs boot_abs (dts_cons (dt_of (de_ixS (pv 0) (de_op ho_mod (dt_var (pv 1)) (dt_of (de_lenS (pv 0) (by rfl) z_len (by rfl)))) (fun _ _ => rfl))) dts_nil) (by decide) (by decide) (by rfl) (by rfl))) dts_nil) (by decide) (by decide) (by rfl) (by rfl))) (dt_of (de_op ho_pow (dt_of de_int) (dt_of de_int))))) (dt_of (de_op ho_mulB (dt_of de_int) (dt_var (pv 1))))) (by rfl) (by first | exact .inl rfl | exact .inr rfl))) dss_nil))) (dss_cons (ds_setd (i := 3) sc__law_draws.nd (by rfl) (by first | exact .inl rfl | exact .inr rfl) (de_op ho_addB (dt_of de_int) (dt_of (de_op ho_mod (dt_of (de_callT hc_int (by rfl) z_int boot_int (dts_cons (dt_of (de_op ho_addB (dt_of (de_op ho_mulB (dt_var (pv 2)) (dt_of de_int))) (dt_of (de_op ho_mulB (dt_of de_int) (dt_of (de_op ho_addB (dt_var (pv 1)) (dt_of de_int))))))) dts_nil) (by decide) (by decide) (by rfl) (by rfl))) (dt_of de_int)))) (by rfl) (by first | exact .inl rfl | exact .inr rfl)) (dss_one (ds_reto (do_lst (dds_cons (de_op ho_mulB (dt_var (pv 2)) (dt_of (de_callT hc_int (by rfl) z_int boot_int (dts_cons (dt_of (de_cmp ho_ge (dt_var (pv 2)) (dt_of (de_op ho_pow (dt_of de_int) (dt_of de_int))) (by rfl))) dts_nil) (by decide) (by decide) (by rfl) (by rfl)))) (dds_cons (de_name (pv 3)) dds_nil))))))))
abbrev s__law_draw : Stmt := topS 8
theorem sc__law_draw : FnScope ["draws", "many", "found", "wide", "more"] ["draws", "many"] (defScope s__law_draw) := ⟨rfl, rfl, rfl, by decide +kernel, rfl, by decide +kernel, by decide +kernel⟩
def m__law_draw : B := sSeq (sIf (eTest (eOp gtD (eVal (eOp ixD (eVar 0) (eVal (pC (.int 0))))) (eVal (pC (.int 0))))) (sSeq (sSet 2 (eOp modD (eVal (eCallB intD (aCons (eVal (eOp ixD (eVar 0) (eVal (pC (.int 0))))) (aNil)))) (eVar 1))) (sSeq (sPut 0 (eOp fdivD (eVal (eOp ixD (eVar 0) (eVal (pC (.int 0))))) (eVar 1)) (pC (.int 0))) (sRet (eName 2)))) (sSkip)) (sSeq (sAsg (sTup 2 (sCons (sName 2) (sCons (sName 3) (sNil)))) (eTup (pCons (pC (.int 0)) (pCons (pC (.int 1)) (pNil))))) (sSeq (whileM (eTest (eOp ltD (eVar 3) (eVar 1))) (sSeq (sPut 0 (eOp modD (eVal (eCallB intD (aCons (eVal (eOp mulB (eVal (eOp ixD (eVar 0) (eVal (pC (.int 1))))) (eVal (pC (.int 69621))))) (aNil)))) (eVal (pC (.int 2147483647)))) (pC (.int 1))) (sSeq (sSet 4 (eOp fdivD (eVal (eOp modD (eVal (eCallB intD (aCons (eVal (eOp mulB (eVal (eOp ixD (eVar 0) (eVal (pC (.int 1))))) (eVal (eOp addB (eVal (eOp fdivD (eVal (eOp ixD (eVar 0) (eVal (pC (.int 1))))) (eVal (pC (.int 128))))) (eVal (pC (.int 3))))))) (aNil)))) (eVal (pC (.int 2147483629))))) (eVal (pC (.int 8))))) (sSeq (sSet 2 (eOp addB (eVal (eOp mulB (eVar 2) (eVal (pC (.int 268435456))))) (eVar 4))) (sSet 3 (eOp mulB (eVar 3) (eVal (pC (.int 268435456)))))))) 200) (sRet (eOp modD (eVal (eCallB intD (aCons (eVar 2) (aNil)))) (eVar 1)))))
def f__law_draw : Sem := runBody 5 m__law_draw
theorem ok__law_draw {f : Addr} {fd : FuncData} (F : FnP K "_law_draw" s__law_draw f fd) (z_int : mg "int" = none) : FnOk P w K mg base (L2.CX P w) 1 f fd ["draws", "many"] (spOf K mg 2 f__law_draw) := by
  refine fn_okE (b := m__law_draw) (n := 5) F sc__law_draw rfl rfl rfl fun cdv A outer s H E hr => ?_
  have hu := hr.units
  have hu5 : (A.deeper (envOfC "_law_draw" (defScope s__law_draw) s.heap.objs.size f cdv)).units + 65 < cLine := by
    have := hr.un
    omega
  exact (dss_cons (ds_if (db_cmp ho_gt (dt_of (de_ix (dt_var (pv 0)) (dt_of de_int) (fun _ _ => rfl))) (dt_of de_int) (by rfl)) (dss_cons (ds_setd (i := 2) sc__law_draw.nd (by rfl) (by first | exact .inl rfl | exact .inr rfl) (de_op ho_mod (dt_of (de_callT hc_int (by rfl) z_int boot_int (dts_cons (dt_of (de_ix (dt_var (pv 0)) (dt_of de_int) (fun _ _ => rfl))) dts_nil) (by decide) (by decide) (by rfl) (by rfl))) (dt_var (pv 1))) (by rfl) (by first | exact .inl rfl | exact .inr rfl)) (dss_cons (ds_put (de_op ho_fdiv (dt_of (de_ix (dt_var (pv 0)) (dt_of de_int) (fun _ _ => rfl))) (dt_var (pv 1))) (pv 0) de_int (fun _ _ ha hb => ps_asg ha (pg_sub (pv 0) hb set_list (fun _ => by rfl)) (by rfl) (by rfl) (by rfl))) (dss_one (ds_ret (de_name (pv 2)))))) dss_nil) (dss_cons (ds_asg (de_tup (dds_cons de_int (dds_cons de_int dds_nil))) (dg_tup (by rfl) (dgs_cons (dg_name (pg_name (i := 2) sc__law_draw.nd (by rfl) (by first | exact .inl rfl | exact .inr rfl))) (dgs_cons (dg_name (pg_name (i := 3) sc__law_draw.nd (by rfl) (by first | exact .inl rfl | exact .inr rfl))) dgs_nil (by rfl)) (by rfl)) (by rfl) (by rfl)) (by rfl) (by rfl) (by rfl)) (dss_cons (ds_while 200 (passes_of rfl) (db_cmp (ho_lt hu) (dt_var (pv 3)) (dt_var (pv 1)) (by rfl)) (dss_cons (ds_put (de_op ho_mod (dt_of (de_callT hc_int (by rfl) z_int boot_int (dts_cons (dt_of (de_op ho_mulB (dt_of (de_ix (dt_var (pv 0)) (dt_of de_int) (fun _ _ => rfl))) (dt_of de_int))) dts_nil) (by decide) (by decide) (by rfl) (by rfl))) (dt_of de_int)) (pv 0) de_int (fun _ _ ha hb => ps_asg ha (pg_sub (pv 0) hb set_list (fun _ => by rfl)) (by rfl) (by rfl) (by rfl))) (dss_cons (ds_setd (i := 4) sc__law_draw.nd (by rfl) (by first | exact .inl rfl | exact .inr rfl) (de_op ho_fdiv (dt_of (de_op ho_mod (dt_of (de_callT hc_int (by rfl) z_int boot_int (dts_cons (dt_of (de_op ho_mulB (dt_of (de_ix (dt_var (pv 0)) (dt_of de_int) (fun _ _ => rfl))) (dt_of (de_op ho_addB (dt_of (de_op ho_fdiv (dt_of (de_ix (dt_var (pv 0)) (dt_of de_int) (fun _ _ => rfl))) (dt_of de_int))) (dt_of de_int))))) dts_nil) (by decide) (by decide) (by rfl) (by rfl))) (dt_of de_int))) (dt_of de_int)) (by rfl) (by first | exact .inl rfl | exact .inr rfl)) (dss_cons (ds_setd (i := 2) sc__law_draw.nd (by rfl) (by first | exact .inl rfl | exact .inr rfl) (de_op ho_addB (dt_of (de_op ho_mulB (dt_var (pv 2)) (dt_of de_int))) (dt_var (pv 4))) (by rfl) (by first | exact .inl rfl | exact .inr rfl)) (dss_one (ds_setd (i := 3) sc__law_draw.nd (by rfl) (by first | exact .inl rfl | exact .inr rfl) (de_op ho_mulB (dt_var (pv 3)) (dt_of de_int)) (by rfl) (by first | exact .inl rfl | exact .inr rfl))))))) (dss_one (ds_ret (de_op ho_mod (dt_of (de_callT hc_int (by rfl) z_int boot_int (dts_cons (dt_var (pv 2)) dts_nil) (by decide) (by decide) (by rfl) (by rfl))) (dt_var (pv 1))))))))
abbrev s__law_of : Stmt := topS 9
theorem sc__law_of : FnScope ["draws", "some"] ["draws", "some"] (defScope s__law_of) := ⟨rfl, rfl, rfl, by decide +kernel, rfl, by decide +kernel, by decide +kernel⟩
def m__law_of : B := sRet (eOp ixD (eVar 1) (eVal (eCallD (f__law_draw) (aCons (eVar 0) (aCons (eVal (eCallB lenD (aCons (eVar 1) (aNil)))) (aNil))))))
def f__law_of : Sem := runBody 2 m__law_of
theorem ok__law_of {f : Addr} {fd : FuncData} (F : FnP K "_law_of" s__law_of f fd) (z_len : mg "len" = none) {a__law_draw : Addr} {d__law_draw : FuncData} (C__law_draw : Cal P w K mg base "_law_draw" 1 ["draws", "many"] f__law_draw a__law_draw d__law_draw) : FnOk P w K mg base (L2.CX P w) 2 f fd ["draws", "some"] (spOf K mg 2 f__law_of) := by
  refine fn_okE (b := m__law_of) (n := 2) F sc__law_of rfl rfl rfl fun cdv A outer s H E hr => ?_
  have hu := hr.units
  have hu5 : (A.deeper (envOfC "_law_of" (defScope s__law_of) s.heap.objs.size f cdv)).units + 65 < cLine := by
    have := hr.un
    omega
  exact (dss_one (ds_ret (de_ix (dt_var (pv 1)) (dt_of (de_own C__law_draw hr (by omega) (by rfl) (takes_of rfl rfl rfl rfl) (dts_cons (dt_var (pv 0)) (dts_cons (dt_of (de_callB hc_len (by rfl) z_len PySem.boot_len (dts_cons (dt_var (pv 1)) dts_nil) (by decide) (by decide) (by rfl) (by rfl))) dts_nil)) (lo_cons (lo_cons lo_nil)) (by rfl) (by decide) (by rfl) (by rfl))) (fun _ _ => rfl))))
abbrev s__law_schemas : Stmt := topS 10
theorem sc__law_schemas : FnScope ["one", "two", "three"] [] (defScope s__law_schemas) := ⟨rfl, rfl, rfl, by decide +kernel, rfl, by decide +kernel, by decide +kernel⟩
def m__law_schemas : B := sSeq (sSet 0 (eTup (pCons (eTup (pCons (pC (.str "id")) (pCons (pC (.str "key")) (pNil)))) (pCons (eTup (pCons (pC (.str "n")) (pCons (pC (.str "data")) (pNil)))) (pNil))))) (sSeq (sSet 1 (eTup (pCons (eTup (pCons (pC (.str "id")) (pCons (pC (.str "key")) (pNil)))) (pCons (eTup (pCons (pC (.str "mail")) (pCons (pC (.str "key")) (pNil)))) (pCons (eTup (pCons (pC (.str "n")) (pCons (pC (.str "data")) (pNil)))) (pNil)))))) (sSeq (sSet 2 (eTup (pCons (eTup (pCons (pC (.str "x")) (pCons (pC (.str "data")) (pNil)))) (pCons (eTup (pCons (pC (.str "b")) (pCons (pC (.str "key")) (pNil)))) (pCons (eTup (pCons (pC (.str "y")) (pCons (pC (.str "data")) (pNil)))) (pCons (eTup (pCons (pC (.str "a")) (pCons (pC (.str "key")) (pNil)))) (pNil))))))) (sRet (eFrz (eLst (pCons (eName 0) (pCons (eName 1) (pCons (eName 1) (pCons (eName 2) (pCons (eTup (pCons (eTup (pCons (pC (.str "a")) (pCons (pC (.str "key")) (pNil)))) (pCons (eTup (pCons (pC (.str "b")) (pCons (pC (.str "key")) (pNil)))) (pCons (eTup (pCons (pC (.str "c")) (pCons (pC (.str "key")) (pNil)))) (pNil))))) (pCons (eTup (pCons (eTup (pCons (pC (.str "abcdefgh")) (pCons (pC (.str "key")) (pNil)))) (pNil))) (pNil))))))))))))
def f__law_schemas : Sem := runBody 3 m__law_schemas
theorem ok__law_schemas {f : Addr} {fd : FuncData} (F : FnP K "_law_schemas" s__law_schemas f fd)  : FnOk P w K mg base (L2.CX P w) 1 f fd [] (spOf K mg 0 f__law_schemas) := by
  refine fn_okE (b := m__law_schemas) (n := 3) F sc__law_schemas rfl rfl rfl fun cdv A outer s H E hr => ?_
  have hu := hr.units
  have hu5 : (A.deeper (envOfC "_law_schemas" (defScope s__law_schemas) s.heap.objs.size f cdv)).units + 65 < cLine := by
    have := hr.un
    omega
  exact (dss_cons (ds_setd (i := 0) sc__law_schemas.nd (by rfl) (by first | exact .inl rfl | exact .inr rfl) (de_tup (dds_cons (de_tup (dds_cons de_str (dds_cons de_str dds_nil))) (dds_cons (de_tup (dds_cons de_str (dds_cons de_str dds_nil))) dds_nil))) (by rfl) (by first | exact .inl rfl | exact .inr rfl)) (dss_cons (ds_setd (i := 1) sc__law_schemas.nd (by rfl) (by first | exact .inl rfl | exact .inr rfl) (de_tup (dds_cons (de_tup (dds_cons de_str (dds_cons de_str dds_nil))) (dds_cons (de_tup (dds_cons de_str (dds_cons de_str dds_nil))) (dds_cons (de_tup (dds_cons de_str (dds_cons de_str dds_nil))) dds_nil)))) (by rfl) (by first | exact .inl rfl | exact .inr rfl)) (dss_cons (ds_setd (i := 2) sc__law_schemas.nd (by rfl) (by first | exact .inl rfl | exact .inr rfl) (de_tup (dds_cons (de_tup (dds_cons de_str (dds_cons de_str dds_nil))) (dds_cons (de_tup (dds_cons de_str (dds_cons de_str dds_nil))) (dds_cons (de_tup (dds_cons de_str (dds_cons de_str dds_nil))) (dds_cons (de_tup (dds_cons de_str (dds_cons de_str dds_nil))) dds_nil))))) (by rfl) (by first | exact .inl rfl | exact .inr rfl)) (dss_one (ds_ret (de_frz (do_lst (dds_cons (de_name (pv 0)) (dds_cons (de_name (pv 1)) (dds_cons (de_name (pv 1)) (dds_cons (de_name (pv 2)) (dds_cons (de_tup (dds_cons (de_tup (dds_cons de_str (dds_cons de_str dds_nil))) (dds_cons (de_tup (dds_cons de_str (dds_cons de_str dds_nil))) (dds_cons (de_tup (dds_cons de_str (dds_cons de_str dds_nil))) dds_nil)))) (dds_cons (de_tup (dds_cons (de_tup (dds_cons de_str (dds_cons de_str dds_nil))) dds_nil)) dds_nil)))))))))))))
abbrev s__law_truly : Stmt := topS 11
theorem sc__law_truly : FnScope ["found", "due"] ["found", "due"] (defScope s__law_truly) := ⟨rfl, rfl, rfl, by decide +kernel, rfl, by decide +kernel, by decide +kernel⟩
def m__law_truly : B := sRet (eAndV (eIsi [.bool] (eVar 0)) (eOp eqD (eVar 0) (eVar 1)))
def f__law_truly : Sem := runBody 2 m__law_truly
theorem ok__law_truly {f : Addr} {fd : FuncData} (F : FnP K "_law_truly" s__law_truly f fd) (z_bool : mg "bool" = none) (z_isinstance : mg "isinstance" = none) : FnOk P w K mg base (L2.CX P w) 1 f fd ["found", "due"] (spOf K mg 2 f__law_truly) := by
  refine fn_okE (b := m__law_truly) (n := 2) F sc__law_truly rfl rfl rfl fun cdv A outer s H E hr => ?_
  have hu := hr.units
  have hu5 : (A.deeper (envOfC "_law_truly" (defScope s__law_truly) s.heap.objs.size f cdv)).units + 65 < cLine := by
    have := hr.un
    omega
  exact (dss_one (ds_ret (de_and (de_isi (n := .bool) (dt_var (pv 0)) (by rfl) z_isinstance (by rfl) z_bool boot_bool (by decide) (by decide) (by rfl)) (de_bo1 (de_cmp (ho_eq hu) (dt_var (pv 0)) (dt_var (pv 1)) (by rfl))))))
abbrev s__law_thing : Stmt := topS 12
theorem sc__law_thing : FnScope ["draws", "deep", "way", "some", "parts", "turn"] ["draws", "deep"] (defScope s__law_thing) := ⟨rfl, rfl, rfl, by decide +kernel, rfl, by decide +kernel, by decide +kernel⟩
def m__law_thing (self : Sem) : B := sSeq (sSet 2 (eCallD (f__law_draw) (aCons (eVar 0) (aCons (eVal (pC (.int 9))) (aNil))))) (sSeq (sIf (eOrB (eTest (eOp ltD (eVar 2) (eVal (pC (.int 6))))) (eTest (eOp eqD (eVar 1) (eVal (pC (.int 0)))))) (sSeq (sSetO 3 (eLst (pCons (pC (.int 0)) (pCons (pC (.int 1)) (pCons (eNeg (pC (.int 1))) (pCons (pC (.bool true)) (pCons (pC (.bool false)) (pCons (pC .none) (pCons (pC (.str "")) (pCons (pC (.str "a")) (pCons (pC (.str "id")) (pCons (pC (.str "key")) (pCons (pC (.str "data")) (pCons (pC (.str "add")) (pCons (pC (.str "plus")) (pCons (pC (.str "A")) (pCons (eOp powD (eVal (pC (.int 10))) (eVal (pC (.int 6)))) (pNil)))))))))))))))))) (sRet (eCallD (f__law_of) (aCons (eVar 0) (aCons (eVal (eOp addB (eVar 3) (eVal (eFrz (eLst (pCons (eOp addB (eVal (eOp powD (eVal (pC (.int 10))) (eVal (pC (.int 6))))) (eVal (pC (.int 1)))) (pCons (eOp powD (eVal (pC (.int 10))) (eVal (pC (.int 39)))) (pCons (eTup (pNil)) (pCons (eFrz (eLst (pNil))) (pCons (eTup (pCons (pC (.int 1)) (pNil))) (pCons (eTup (pCons (pC (.str "id")) (pCons (pC (.str "key")) (pNil)))) (pNil)))))))))))) (aNil)))))) (sSkip)) (sSeq (sSetO 4 (eComp (eCallI range1D (pCons (eCallD (f__law_draw) (aCons (eVar 0) (aCons (eVal (pC (.int 4))) (aNil)))) (pNil))) (sName 5) [5] (eYes) (eCallD (self) (aCons (eVar 0) (aCons (eVal (eOp subB (eVar 1) (eVal (pC (.int 1))))) (aNil)))))) (sRet (eOp ixD (eVal (eFrz (eLst (pCons (eName 4) (pCons (eCallB tupD (aCons (eVar 4) (aNil))) (pCons (eCallB tupD (aCons (eVar 4) (aNil))) (pNil))))))) (eVal (eOp subB (eVar 2) (eVal (pC (.int 6)))))))))
def f__law_thing : Nat → Sem
  | 0 => fBad
  | n + 1 => runBody 6 (m__law_thing (f__law_thing n))
theorem ok__law_thing {f : Addr} {fd : FuncData} (F : FnP K "_law_thing" s__law_thing f fd) (z_range : mg "range" = none) (z_tuple : mg "tuple" = none) {a__law_draw : Addr} {d__law_draw : FuncData} (C__law_draw : Cal P w K mg base "_law_draw" 1 ["draws", "many"] f__law_draw a__law_draw d__law_draw) {a__law_of : Addr} {d__law_of : FuncData} (C__law_of : Cal P w K mg base "_law_of" 2 ["draws", "some"] f__law_of a__law_of d__law_of) (g_self : mg "_law_thing" = some (.ref f)) (b_self : Binds K fd ["draws", "deep"] []) : ∀ n : Nat, FnOk P w K mg base (L2.CX P w) (3 + n) f fd ["draws", "deep"] (spOf K mg 2 (f__law_thing n))
  | 0 => fn_bad F sc__law_thing
  | n + 1 => by
    have C__law_thing : Cal P w K mg base "_law_thing" (3 + n) ["draws", "deep"] (f__law_thing n) f fd := ⟨ok__law_thing F z_range z_tuple C__law_draw C__law_of g_self b_self n, g_self, F.kp, b_self⟩
    refine fn_okE (b := m__law_thing (f__law_thing n)) (n := 6) F sc__law_thing rfl rfl rfl fun cdv A outer s H E hr => ?_
    replace hr : Room (3 + n) (A.deeper (envOfC "_law_thing" (defScope s__law_thing) s.heap.objs.size f cdv)) := hr
    have hu := hr.units
    have hu5 : (A.deeper (envOfC "_law_thing" (defScope s__law_thing) s.heap.objs.size f cdv)).units + 65 < cLine := by
      have := hr.un
      omega
    exact (dss_cons (ds_setd (i := 2) sc__law_thing.nd (by rfl) (by first | exact .inl rfl | exact .inr rfl) (de_own C__law_draw hr (by omega) (by rfl) (takes_of rfl rfl rfl rfl) (dts_cons (dt_var (pv 0)) (dts_cons (dt_of de_int) dts_nil)) (lo_cons (lo_cons lo_nil)) (by rfl) (by decide) (by rfl) (by rfl)) (by rfl) (by first | exact .inl rfl | exact .inr rfl)) (dss_cons (ds_if (db_w (dw_or (db_cmp (ho_lt hu) (dt_var (pv 2)) (dt_of de_int) (by rfl)) (dw_or1 (db_cmp (ho_eq hu) (dt_var (pv 1)) (dt_of de_int) (by rfl))))) (dss_cons (ds_seto (i := 3) sc__law_thing.nd (by rfl) (by first | exact .inl rfl | exact .inr rfl) (do_lst (dds_cons de_int (dds_cons de_int (dds_cons (de_neg de_int) (dds_cons de_bl (dds_cons de_bl (dds_cons de_non (dds_cons de_str (dds_cons de_str (dds_cons de_str (dds_cons de_str (dds_cons de_str (dds_cons de_str (dds_cons de_str (dds_cons de_str (dds_cons (de_op ho_pow (dt_of de_int) (dt_of de_int)) dds_nil)))))))))))))))) (by rfl) (by first | exact .inl rfl | exact .inr rfl)) (dss_one (ds_ret (de_own C__law_of hr (by omega) (by rfl) (takes_of rfl rfl rfl rfl) (dts_cons (dt_var (pv 0)) (dts_cons (dt_of (de_op ho_addB (dt_var (pv 3)) (dt_of (de_frz (do_lst (dds_cons (de_op ho_addB (dt_of (de_op ho_pow (dt_of de_int) (dt_of de_int))) (dt_of de_int)) (dds_cons (de_op ho_pow (dt_of de_int) (dt_of de_int)) (dds_cons (de_tup dds_nil) (dds_cons (de_frz (do_lst dds_nil)) (dds_cons (de_tup (dds_cons de_int dds_nil)) (dds_cons (de_tup (dds_cons de_str (dds_cons de_str dds_nil))) dds_nil))))))))))) dts_nil)) (lo_cons (lo_cons lo_nil)) (by rfl) (by decide) (by rfl) (by rfl))))) dss_nil) (dss_cons (ds_setLc (by rfl) sc__law_thing.nd (by rfl) (by rfl) (sw_true (by rfl) (by rfl) (by rfl) (by rfl)) (di_range1 (by rfl) z_range (dds_cons (de_own C__law_draw hr (by omega) (by rfl) (takes_of rfl rfl rfl rfl) (dts_cons (dt_var (pv 0)) (dts_cons (dt_of de_int) dts_nil)) (lo_cons (lo_cons lo_nil)) (by rfl) (by decide) (by rfl) (by rfl)) dds_nil) (by rfl)) (blkOk_by (own := [("turn", 5)]) (by kernel_rfl)) (fun _ _ _ _ _ => (dg_name (pg_name (i := 5) sc__law_thing.nd (by rfl) (by first | exact .inl rfl | exact .inr rfl)))) (fun _ _ _ _ _ => dts_yes) (fun _ _ _ _ _ => (de_own C__law_thing hr (by omega) (by rfl) takes0 (dts_cons (dt_var (pv 0)) (dts_cons (dt_of (de_op ho_subB (dt_var (pv 1)) (dt_of de_int))) dts_nil)) (lo_cons (lo_cons lo_nil)) (by rfl) (by decide) (by rfl) (by rfl))) (fun _ => rfl) (by decide)) (dss_one (ds_ret (de_ix (dt_of (de_frz (do_lst (dds_cons (de_name (pv 4)) (dds_cons (de_callT hc_tup (by rfl) z_tuple boot_tuple (dts_cons (dt_var (pv 4)) dts_nil) (by decide) (by decide) (by rfl) (by rfl)) (dds_cons (de_callT hc_tup (by rfl) z_tuple boot_tuple (dts_cons (dt_var (pv 4)) dts_nil) (by decide) (by decide) (by rfl) (by rfl)) dds_nil)))))) (dt_of (de_op ho_subB (dt_var (pv 2)) (dt_of de_int))) (fun _ _ => rfl)))))))
abbrev s__law_other_leaf : Stmt := topS 13
theorem sc__law_other_leaf : FnScope ["draws", "thing", "words"] ["draws", "thing"] (defScope s__law_other_leaf) := ⟨rfl, rfl, rfl, by decide +kernel, rfl, by decide +kernel, by decide +kernel⟩
def m__law_other_leaf : B := sSeq (sIf (eAndB (eTest (eIsi [.str] (eVar 1))) (eTest (eOp gtD (eVal (eCallD (f__law_draw) (aCons (eVar 0) (aCons (eVal (pC (.int 3))) (aNil))))) (eVal (pC (.int 0)))))) (sSeq (sSetO 2 (eLst (pCons (eOp addB (eVar 1) (eVal (pC (.str "s")))) (pCons (eSlice (eVar 1) (M.pure none) (ePart (eNeg (pC (.int 1))))) (pCons (eUpper (eName 1)) (pCons (eOp mulB (eVar 1) (eVal (pC (.int 3)))) (pCons (pC (.str "new")) (pCons (pC (.str "most")) (pCons (pC (.str "key")) (pCons (pC (.str "data")) (pCons (pC (.str "take")) (pCons (pC (.str "skip")) (pNil))))))))))))) (sRet (eCallD (f__law_of) (aCons (eVar 0) (aCons (eVal (eName 2)) (aNil)))))) (sSkip)) (sSeq (sIf (eAndB (eTest (eIsi [.int] (eVar 1))) (eTest (eOp gtD (eVal (eCallD (f__law_draw) (aCons (eVar 0) (aCons (eVal (pC (.int 3))) (aNil))))) (eVal (pC (.int 0)))))) (sRet (eCallD (f__law_of) (aCons (eVar 0) (aCons (eVal (eFrz (eLst (pCons (eOp addB (eVar 1) (eVal (pC (.int 1)))) (pCons (eOp subB (eVar 1) (eVal (pC (.int 1)))) (pCons (eOp subB (eVal (pC (.int 0))) (eVar 1)) (pCons (pC (.bool true)) (pCons (eOp addB (eVar 1) (eVal (eOp powD (eVal (pC (.int 10))) (eVal (pC (.int 6)))))) (pCons (eOp powD (eVal (pC (.int 10))) (eVal (pC (.int 6)))) (pCons (eCallB strB (aCons (eVar 1) (aNil))) (pNil))))))))))) (aNil))))) (sSkip)) (sRet (eCallD (f__law_thing 5) (aCons (eVar 0) (aCons (eVal (pC (.int 2))) (aNil))))))
def f__law_other_leaf : Sem := runBody 3 m__law_other_leaf
theorem ok__law_other_leaf {f : Addr} {fd : FuncData} (F : FnP K "_law_other_leaf" s__law_other_leaf f fd) (z_int : mg "int" = none) (z_isinstance : mg "isinstance" = none) (z_str : mg "str" = none) {a__law_thing : Addr} {d__law_thing : FuncData} (C__law_thing : Cal P w K mg base "_law_thing" 8 ["draws", "deep"] (f__law_thing 5) a__law_thing d__law_thing) {a__law_of : Addr} {d__law_of : FuncData} (C__law_of : Cal P w K mg base "_law_of" 2 ["draws", "some"] f__law_of a__law_of d__law_of) {a__law_draw : Addr} {d__law_draw : FuncData} (C__law_draw : Cal P w K mg base "_law_draw" 1 ["draws", "many"] f__law_draw a__law_draw d__law_draw) : FnOk P w K mg base (L2.CX P w) 9 f fd ["draws", "thing"] (spOf K mg 2 f__law_other_leaf) := by
  refine fn_okE (b := m__law_other_leaf) (n := 3) F sc__law_other_leaf rfl rfl rfl fun cdv A outer s H E hr => ?_
  have hu := hr.units
  have hu5 : (A.deeper (envOfC "_law_other_leaf" (defScope s__law_other_leaf) s.heap.objs.size f cdv)).units + 65 < cLine := by
    have := hr.un
    omega
  exact (dss_cons (ds_if (db_w (dw_and (db_val (de_isi (n := .str) (dt_var (pv 1)) (by rfl) z_isinstance (by rfl) z_str boot_str (by decide) (by decide) (by rfl)) (by intro _; rfl)) (dw_and1 (db_cmp ho_gt (dt_of (de_own C__law_draw hr (by omega) (by rfl) (takes_of rfl rfl rfl rfl) (dts_cons (dt_var (pv 0)) (dts_cons (dt_of de_int) dts_nil)) (lo_cons (lo_cons lo_nil)) (by rfl) (by decide) (by rfl) (by rfl))) (dt_of de_int) (by rfl))))) (dss_cons (ds_seto (i := 2) sc__law_other_leaf.nd (by rfl) (by first | exact .inl rfl | exact .inr rfl) (do_lst (dds_cons (de_op ho_addB (dt_var (pv 1)) (dt_of de_str)) (dds_cons (de_slice (dt_var (pv 1)) dp_none (dp_some (de_neg de_int))) (dds_cons (de_upper (de_name (pv 1)) (fun _ h => pe_upper h)) (dds_cons (de_op ho_mulB (dt_var (pv 1)) (dt_of de_int)) (dds_cons de_str (dds_cons de_str (dds_cons de_str (dds_cons de_str (dds_cons de_str (dds_cons de_str dds_nil))))))))))) (by rfl) (by first | exact .inl rfl | exact .inr rfl)) (dss_one (ds_ret (de_own C__law_of hr (by omega) (by rfl) (takes_of rfl rfl rfl rfl) (dts_cons (dt_var (pv 0)) (dts_cons (dt_of (de_name (pv 2))) dts_nil)) (lo_cons (lo_cons lo_nil)) (by rfl) (by decide) (by rfl) (by rfl))))) dss_nil) (dss_cons (ds_if (db_w (dw_and (db_val (de_isi (n := .int) (dt_var (pv 1)) (by rfl) z_isinstance (by rfl) z_int boot_int (by decide) (by decide) (by rfl)) (by intro _; rfl)) (dw_and1 (db_cmp ho_gt (dt_of (de_own C__law_draw hr (by omega) (by rfl) (takes_of rfl rfl rfl rfl) (dts_cons (dt_var (pv 0)) (dts_cons (dt_of de_int) dts_nil)) (lo_cons (lo_cons lo_nil)) (by rfl) (by decide) (by rfl) (by rfl))) (dt_of de_int) (by rfl))))) (dss_one (ds_ret (de_own C__law_of hr (by omega) (by rfl) (takes_of rfl rfl rfl rfl) (dts_cons (dt_var (pv 0)) (dts_cons (dt_of (de_frz (do_lst (dds_cons (de_op ho_addB (dt_var (pv 1)) (dt_of de_int)) (dds_cons (de_op ho_subB (dt_var (pv 1)) (dt_of de_int)) (dds_cons (de_op ho_subB (dt_of de_int) (dt_var (pv 1))) (dds_cons de_bl (dds_cons (de_op ho_addB (dt_var (pv 1)) (dt_of (de_op ho_pow (dt_of de_int) (dt_of de_int)))) (dds_cons (de_op ho_pow (dt_of de_int) (dt_of de_int)) (dds_cons (de_callT hc_strB (by rfl) z_str boot_str (dts_cons (dt_var (pv 1)) dts_nil) (by decide) (by decide) (by rfl) (by rfl)) dds_nil)))))))))) dts_nil)) (lo_cons (lo_cons lo_nil)) (by rfl) (by decide) (by rfl) (by rfl)))) dss_nil) (dss_one (ds_ret (de_own C__law_thing hr (by omega) (by rfl) (takes_of rfl rfl rfl rfl) (dts_cons (dt_var (pv 0)) (dts_cons (dt_of de_int) dts_nil)) (lo_cons (lo_cons lo_nil)) (by rfl) (by decide) (by rfl) (by rfl))))))
abbrev s__law_otherwise : Stmt := topS 14
theorem sc__law_otherwise : FnScope ["draws", "thing", "deep", "parts", "place", "way"] ["draws", "thing", "deep"] (defScope s__law_otherwise) := ⟨rfl, rfl, rfl, by decide +kernel, rfl, by decide +kernel, by decide +kernel⟩
def m__law_otherwise (self : Sem) : B := sSeq (sSetO 3 (eCallBO listD (aCons (eVar 1) (aNil)))) (sSeq (sIf (eTest (eOp eqD (eVar 3) (eVal (eFrz (eLst (pNil)))))) (sRet (eTup (pCons (eCallD (f__law_thing 5) (aCons (eVar 0) (aCons (eVal (pC (.int 1))) (aNil)))) (pNil)))) (sSkip)) (sSeq (sSet 4 (eCallD (f__law_draw) (aCons (eVar 0) (aCons (eVal (eCallB lenD (aCons (eVar 3) (aNil)))) (aNil))))) (sSeq (sIf (eAndB (eTest (eIsi [.tuple, .list] (eVal (eOp ixD (eVar 3) (eVar 4))))) (eAndB (eTest (eOp gtD (eVar 2) (eVal (pC (.int 0))))) (eTest (eOp gtD (eVal (eCallD (f__law_draw) (aCons (eVar 0) (aCons (eVal (pC (.int 4))) (aNil))))) (eVal (pC (.int 0))))))) (sSeq (sPut 3 (eCallD (self) (aCons (eVar 0) (aCons (eVal (eOp ixD (eVar 3) (eVar 4))) (aCons (eVal (eOp subB (eVar 2) (eVal (pC (.int 1))))) (aNil))))) (eName 4)) (sRet (eIf (eTest (eIsi [.list] (eVar 1))) (eName 3) (eCallB tupD (aCons (eVar 3) (aNil)))))) (sSkip)) (sSeq (sSet 5 (eCallD (f__law_draw) (aCons (eVar 0) (aCons (eVal (pC (.int 7))) (aNil))))) (sSeq (sIf (eTest (eOp eqD (eVar 5) (eVal (pC (.int 0))))) (sExpr (eMethO 3 popO (pCons (eName 4) (pNil)))) (sIf (eTest (eOp eqD (eVar 5) (eVal (pC (.int 1))))) (sExpr (eMethO 3 insertO (pCons (eName 4) (pCons (eOp ixD (eVar 3) (eVar 4)) (pNil))))) (sIf (eTest (eOp eqD (eVar 5) (eVal (pC (.int 2))))) (sCut 3 (eRev (eVal (eSlice (eVar 3) (ePart (eName 4)) (ePart (eOp addB (eVar 4) (eVal (pC (.int 2)))))))) (eName 4) (eOp addB (eVar 4) (eVal (pC (.int 2))))) (sIf (eTest (eOp ltD (eVar 5) (eVal (pC (.int 6))))) (sPut 3 (eCallD (f__law_other_leaf) (aCons (eVar 0) (aCons (eVal (eOp ixD (eVar 3) (eVar 4))) (aNil)))) (eName 4)) (sRet (eIf (eTest (eIsi [.list] (eVar 1))) (eCallB tupD (aCons (eVar 3) (aNil))) (eName 3))))))) (sRet (eIf (eTest (eIsi [.list] (eVar 1))) (eName 3) (eCallB tupD (aCons (eVar 3) (aNil))))))))))
def f__law_otherwise : Nat → Sem
  | 0 => fBad
  | n + 1 => runBody 6 (m__law_otherwise (f__law_otherwise n))
theorem ok__law_otherwise {f : Addr} {fd : FuncData} (F : FnP K "_law_otherwise" s__law_otherwise f fd) (z_isinstance : mg "isinstance" = none) (z_len : mg "len" = none) (z_list : mg "list" = none) (z_tuple : mg "tuple" = none) {a__law_draw : Addr} {d__law_draw : FuncData} (C__law_draw : Cal P w K mg base "_law_draw" 1 ["draws", "many"] f__law_draw a__law_draw d__law_draw) {a__law_thing : Addr} {d__law_thing : FuncData} (C__law_thing : Cal P w K mg base "_law_thing" 8 ["draws", "deep"] (f__law_thing 5) a__law_thing d__law_thing) {a__law_other_leaf : Addr} {d__law_other_leaf : FuncData} (C__law_other_leaf : Cal P w K mg base "_law_other_leaf" 9 ["draws", "thing"] f__law_other_leaf a__law_other_leaf d__law_other_leaf) (g_self : mg "_law_otherwise" = some (.ref f)) (b_self : Binds K fd ["draws", "thing", "deep"] []) : ∀ n : Nat, FnOk P w K mg base (L2.CX P w) (10 + n) f fd ["draws", "thing", "deep"] (spOf K mg 3 (f__law_otherwise n))
  | 0 => fn_bad F sc__law_otherwise
  | n + 1 => by
    have C__law_otherwise : Cal P w K mg base "_law_otherwise" (10 + n) ["draws", "thing", "deep"] (f__law_otherwise n) f fd := ⟨ok__law_otherwise F z_isinstance z_len z_list z_tuple C__law_draw C__law_thing C__law_other_leaf g_self b_self n, g_self, F.kp, b_self⟩
    refine fn_okE (b := m__law_otherwise (f__law_otherwise n)) (n := 6) F sc__law_otherwise rfl rfl rfl fun cdv A outer s H E hr => ?_
    replace hr : Room (10 + n) (A.deeper (envOfC "_law_otherwise" (defScope s__law_otherwise) s.heap.objs.size f cdv)) := hr
    have hu := hr.units
    have hu5 : (A.deeper (envOfC "_law_otherwise" (defScope s__law_otherwise) s.heap.objs.size f cdv)).units + 65 < cLine := by
      have := hr.un
      omega
    exact (dss_cons (ds_seto (i := 3) sc__law_otherwise.nd (by rfl) (by first | exact .inl rfl | exact .inr rfl) (do_callT hc_list (by rfl) z_list boot_list (dts_cons (dt_var (pv 1)) dts_nil) (by decide) (by decide) (by rfl) (by rfl)) (by rfl) (by first | exact .inl rfl | exact .inr rfl)) (dss_cons (ds_if (db_cmp (ho_eq hu) (dt_var (pv 3)) (dt_of (de_frz (do_lst dds_nil))) (by rfl)) (dss_one (ds_ret (de_tup (dds_cons (de_own C__law_thing hr (by omega) (by rfl) (takes_of rfl rfl rfl rfl) (dts_cons (dt_var (pv 0)) (dts_cons (dt_of de_int) dts_nil)) (lo_cons (lo_cons lo_nil)) (by rfl) (by decide) (by rfl) (by rfl)) dds_nil)))) dss_nil) (dss_cons (ds_setd (i := 4) sc__law_otherwise.nd (by rfl) (by first | exact .inl rfl | exact .inr rfl) (de_own C__law_draw hr (by omega) (by rfl) (takes_of rfl rfl rfl rfl) (dts_cons (dt_var (pv 0)) (dts_cons (dt_of (de_callB hc_len (by rfl) z_len PySem.boot_len (dts_cons (dt_var (pv 3)) dts_nil) (by decide) (by decide) (by rfl) (by rfl))) dts_nil)) (lo_cons (lo_cons lo_nil)) (by rfl) (by decide) (by rfl) (by rfl)) (by rfl) (by first | exact .inl rfl | exact .inr rfl)) (dss_cons (ds_if (db_w (dw_and (db_val (de_isi2 (n := .tuple) (m := .list) (dt_of (de_ix (dt_var (pv 3)) (dt_var (pv 4)) (fun _ _ => rfl))) (by rfl) z_isinstance (by rfl) z_tuple boot_tuple (by decide) (by decide) (by rfl) z_list boot_list (by decide) (by decide) (by rfl)) (by intro _; rfl)) (dw_and (db_cmp ho_gt (dt_var (pv 2)) (dt_of de_int) (by rfl)) (dw_and1 (db_cmp ho_gt (dt_of (de_own C__law_draw hr (by omega) (by rfl) (takes_of rfl rfl rfl rfl) (dts_cons (dt_var (pv 0)) (dts_cons (dt_of de_int) dts_nil)) (lo_cons (lo_cons lo_nil)) (by rfl) (by decide) (by rfl) (by rfl))) (dt_of de_int) (by rfl)))))) (dss_cons (ds_put (de_own C__law_otherwise hr (by omega) (by rfl) (takes_of rfl rfl rfl rfl) (dts_cons (dt_var (pv 0)) (dts_cons (dt_of (de_ix (dt_var (pv 3)) (dt_var (pv 4)) (fun _ _ => rfl))) (dts_cons (dt_of (de_op ho_subB (dt_var (pv 2)) (dt_of de_int))) dts_nil))) (lo_cons (lo_cons (lo_cons lo_nil))) (by rfl) (by decide) (by rfl) (by rfl)) (pv 3) (de_name (pv 4)) (fun _ _ ha hb => ps_asg ha (pg_sub (pv 3) hb set_list (fun _ => by rfl)) (by rfl) (by rfl) (by rfl))) (dss_one (ds_ret (de_if (db_val (de_isi (n := .list) (dt_var (pv 1)) (by rfl) z_isinstance (by rfl) z_list boot_list (by decide) (by decide) (by rfl)) (by intro _; rfl)) (de_name (pv 3)) (de_callT hc_tup (by rfl) z_tuple boot_tuple (dts_cons (dt_var (pv 3)) dts_nil) (by decide) (by decide) (by rfl) (by rfl)))))) dss_nil) (dss_cons (ds_setd (i := 5) sc__law_otherwise.nd (by rfl) (by first | exact .inl rfl | exact .inr rfl) (de_own C__law_draw hr (by omega) (by rfl) (takes_of rfl rfl rfl rfl) (dts_cons (dt_var (pv 0)) (dts_cons (dt_of de_int) dts_nil)) (lo_cons (lo_cons lo_nil)) (by rfl) (by decide) (by rfl) (by rfl)) (by rfl) (by first | exact .inl rfl | exact .inr rfl)) (dss_cons (ds_if (db_cmp (ho_eq hu) (dt_var (pv 5)) (dt_of de_int) (by rfl)) (dss_one (ds_expr (de_methO PySem.F.slot_list_pop PySem.F.type_list_pop hm_pop (pv 3) (dds_cons (de_name (pv 4)) dds_nil) (by rfl) (by rfl) (by rfl) (by rfl) (by rfl)) (by rfl))) (dss_one (ds_if (db_cmp (ho_eq hu) (dt_var (pv 5)) (dt_of de_int) (by rfl)) (dss_one (ds_expr (de_methO PySem.F.slot_list_insert PySem.F.type_list_insert hm_insert (pv 3) (dds_cons (de_name (pv 4)) (dds_cons (de_ix (dt_var (pv 3)) (dt_var (pv 4)) (fun _ _ => rfl)) dds_nil)) (by rfl) (by rfl) (by rfl) (by rfl) (by rfl)) (by rfl))) (dss_one (ds_if (db_cmp (ho_eq hu) (dt_var (pv 5)) (dt_of de_int) (by rfl)) (dss_one (ds_cut (de_rev (dt_of (de_slice (dt_var (pv 3)) (dp_some (de_name (pv 4))) (dp_some (de_op ho_addB (dt_var (pv 4)) (dt_of de_int)))))) (pv 3) (de_name (pv 4)) (de_op ho_addB (dt_var (pv 4)) (dt_of de_int)) (fun _ => by rfl) (fun _ _ ha hg => ps_asg ha hg (by rfl) (by rfl) (by rfl)))) (dss_one (ds_if (db_cmp (ho_lt hu) (dt_var (pv 5)) (dt_of de_int) (by rfl)) (dss_one (ds_put (de_own C__law_other_leaf hr (by omega) (by rfl) (takes_of rfl rfl rfl rfl) (dts_cons (dt_var (pv 0)) (dts_cons (dt_of (de_ix (dt_var (pv 3)) (dt_var (pv 4)) (fun _ _ => rfl))) dts_nil)) (lo_cons (lo_cons lo_nil)) (by rfl) (by decide) (by rfl) (by rfl)) (pv 3) (de_name (pv 4)) (fun _ _ ha hb => ps_asg ha (pg_sub (pv 3) hb set_list (fun _ => by rfl)) (by rfl) (by rfl) (by rfl)))) (dss_one (ds_ret (de_if (db_val (de_isi (n := .list) (dt_var (pv 1)) (by rfl) z_isinstance (by rfl) z_list boot_list (by decide) (by decide) (by rfl)) (by intro _; rfl)) (de_callT hc_tup (by rfl) z_tuple boot_tuple (dts_cons (dt_var (pv 3)) dts_nil) (by decide) (by decide) (by rfl) (by rfl)) (de_name (pv 3)))))))))))) (dss_one (ds_ret (de_if (db_val (de_isi (n := .list) (dt_var (pv 1)) (by rfl) z_isinstance (by rfl) z_list boot_list (by decide) (by decide) (by rfl)) (by intro _; rfl)) (de_name (pv 3)) (de_callT hc_tup (by rfl) z_tuple boot_tuple (dts_cons (dt_var (pv 3)) dts_nil) (by decide) (by decide) (by rfl) (by rfl)))))))))))
abbrev s__law_is_name : Stmt := topS 15
theorem sc__law_is_name : FnScope ["thing", "sign"] ["thing"] (defScope s__law_is_name) := ⟨rfl, rfl, rfl, by decide +kernel, rfl, by decide +kernel, by decide +kernel⟩
def m__law_is_name : B := sSeq (sIf (eOrB (eNotB (eTest (eIsi [.str] (eVar 0)))) (eNotB (eTest (eChain leD leD (eVal (pC (.int 1))) (eVal (eCallB lenD (aCons (eVar 0) (aNil)))) (eVal (pC (.int 8))))))) (sRet (pC (.bool false))) (sSkip)) (sRet (eOp eqD (eVal (eFrz (eComp (eSeq (eName 0)) (sName 1) [1] (eTest (eOp ninD (eVar 1) (eVal (pC (.str "abcdefghijklmnopqrstuvwxyz"))))) (eName 1)))) (eVal (eFrz (eLst (pNil))))))
def f__law_is_name : Sem := runBody 2 m__law_is_name
theorem ok__law_is_name {f : Addr} {fd : FuncData} (F : FnP K "_law_is_name" s__law_is_name f fd) (z_isinstance : mg "isinstance" = none) (z_len : mg "len" = none) (z_str : mg "str" = none) : FnOk P w K mg base (L2.CX P w) 1 f fd ["thing"] (spOf K mg 1 f__law_is_name) := by
  refine fn_okE (b := m__law_is_name) (n := 2) F sc__law_is_name rfl rfl rfl fun cdv A outer s H E hr => ?_
  have hu := hr.units
  have hu5 : (A.deeper (envOfC "_law_is_name" (defScope s__law_is_name) s.heap.objs.size f cdv)).units + 65 < cLine := by
    have := hr.un
    omega
  exact (dss_cons (ds_if (db_w (dw_or (db_not (db_val (de_isi (n := .str) (dt_var (pv 0)) (by rfl) z_isinstance (by rfl) z_str boot_str (by decide) (by decide) (by rfl)) (by intro _; rfl))) (dw_or1 (db_not (db_chain ho_le ho_le (dt_of de_int) (dt_of (de_callB hc_len (by rfl) z_len PySem.boot_len (dts_cons (dt_var (pv 0)) dts_nil) (by decide) (by decide) (by rfl) (by rfl))) (dt_of de_int) (by rfl)))))) (dss_one (ds_ret de_bl)) dss_nil) (dss_one (ds_ret (de_cmp (ho_eq hu) (dt_of (de_frz (do_comp (by rfl) sc__law_is_name.nd (di_seq (de_name (pv 0))) (blkOk_by (own := [("sign", 1)]) (by kernel_rfl)) (fun _ _ _ _ _ => (dg_name (pg_name (i := 1) sc__law_is_name.nd (by rfl) (by first | exact .inl rfl | exact .inr rfl)))) (fun _ _ _ _ _ => (dts_if (db_cmp (ho_nin hu5) (dt_var (pv 1)) (dt_of de_str) (by rfl)))) (fun _ _ _ _ _ => (de_name (pv 1))) (fun _ => rfl) (by decide)))) (dt_of (de_frz (do_lst dds_nil))) (by rfl)))))
abbrev s__law_is_schema : Stmt := topS 16
theorem sc__law_is_schema : FnScope ["thing", "names", "many", "column"] ["thing"] (defScope s__law_is_schema) := ⟨rfl, rfl, rfl, by decide +kernel, rfl, by decide +kernel, by decide +kernel⟩
def m__law_is_schema : B := sSeq (sIf (eOrB (eNotB (eTest (eIsi [.tuple] (eVar 0)))) (eNotB (eTest (eChain leD leD (eVal (pC (.int 1))) (eVal (eCallB lenD (aCons (eVar 0) (aNil)))) (eVal (pC (.int 4))))))) (sRet (pC (.bool false))) (sSkip)) (sSeq (sPar 1 2 (rOwn (eLst (pNil))) (rDat (pC (.int 0)))) (sSeq (sFor (eSeq (eName 0)) (sName 3) (sSeq (sIf (eOrB (eNotB (eTest (eIsi [.tuple] (eVar 3)))) (eOrB (eTest (eOp neD (eVal (eCallB lenD (aCons (eVar 3) (aNil)))) (eVal (pC (.int 2))))) (eNotB (eTest (eCallD (f__law_is_name) (aCons (eVal (eOp ixD (eVar 3) (eVal (pC (.int 0))))) (aNil))))))) (sRet (pC (.bool false))) (sSkip)) (sSeq (sIf (eOrB (eNotB (eTest (eIsi [.str] (eVal (eOp ixD (eVar 3) (eVal (pC (.int 1)))))))) (eOrB (eTest (eOp ninD (eVal (eOp ixD (eVar 3) (eVal (pC (.int 1))))) (eVal (eTup (pCons (pC (.str "key")) (pCons (pC (.str "data")) (pNil))))))) (eTest (eOp inD (eVal (eOp ixD (eVar 3) (eVal (pC (.int 0))))) (eVar 1))))) (sRet (pC (.bool false))) (sSkip)) (sSeq (sExpr (eMethO 1 appendO (pCons (eOp ixD (eVar 3) (eVal (pC (.int 0)))) (pNil)))) (sSet 2 (eOp addB (eVar 2) (eVal (eCallB intD (aCons (eVal (eOp eqD (eVal (eOp ixD (eVar 3) (eVal (pC (.int 1))))) (eVal (pC (.str "key"))))) (aNil)))))))))) (sRet (eChain leD leD (eVal (pC (.int 1))) (eVar 2) (eVal (pC (.int 3)))))))
def f__law_is_schema : Sem := runBody 4 m__law_is_schema
theorem ok__law_is_schema {f : Addr} {fd : FuncData} (F : FnP K "_law_is_schema" s__law_is_schema f fd) (z_int : mg "int" = none) (z_isinstance : mg "isinstance" = none) (z_len : mg "len" = none) (z_str : mg "str" = none) (z_tuple : mg "tuple" = none) {a__law_is_name : Addr} {d__law_is_name : FuncData} (C__law_is_name : Cal P w K mg base "_law_is_name" 1 ["thing"] f__law_is_name a__law_is_name d__law_is_name) : FnOk P w K mg base (L2.CX P w) 2 f fd ["thing"] (spOf K mg 1 f__law_is_schema) := by
  refine fn_okE (b := m__law_is_schema) (n := 4) F sc__law_is_schema rfl rfl rfl fun cdv A outer s H E hr => ?_
  have hu := hr.units
  have hu5 : (A.deeper (envOfC "_law_is_schema" (defScope s__law_is_schema) s.heap.objs.size f cdv)).units + 65 < cLine := by
    have := hr.un
    omega
  exact (dss_cons (ds_if (db_w (dw_or (db_not (db_val (de_isi (n := .tuple) (dt_var (pv 0)) (by rfl) z_isinstance (by rfl) z_tuple boot_tuple (by decide) (by decide) (by rfl)) (by intro _; rfl))) (dw_or1 (db_not (db_chain ho_le ho_le (dt_of de_int) (dt_of (de_callB hc_len (by rfl) z_len PySem.boot_len (dts_cons (dt_var (pv 0)) dts_nil) (by decide) (by decide) (by rfl) (by rfl))) (dt_of de_int) (by rfl)))))) (dss_one (ds_ret de_bl)) dss_nil) (dss_cons (ds_par (i := 1) (j := 2) (by rfl) sc__law_is_schema.nd (by rfl) (by rfl) (by decide) (by rfl) (by rfl) (dr_own (do_lst dds_nil)) (dr_dat de_int) (by rfl) (by rfl) (by rfl) (by rfl)) (dss_cons (ds_for (passes_of rfl) (by rfl) (di_seq (de_name (pv 0))) (dg_name (pg_name (i := 3) sc__law_is_schema.nd (by rfl) (by first | exact .inl rfl | exact .inr rfl))) (dss_cons (ds_if (db_w (dw_or (db_not (db_val (de_isi (n := .tuple) (dt_var (pv 3)) (by rfl) z_isinstance (by rfl) z_tuple boot_tuple (by decide) (by decide) (by rfl)) (by intro _; rfl))) (dw_or (db_cmp (ho_ne hu) (dt_of (de_callB hc_len (by rfl) z_len PySem.boot_len (dts_cons (dt_var (pv 3)) dts_nil) (by decide) (by decide) (by rfl) (by rfl))) (dt_of de_int) (by rfl)) (dw_or1 (db_not (db_val (de_own C__law_is_name hr (by omega) (by rfl) (takes_of rfl rfl rfl rfl) (dts_cons (dt_of (de_ix (dt_var (pv 3)) (dt_of de_int) (fun _ _ => rfl))) dts_nil) (lo_cons lo_nil) (by rfl) (by decide) (by rfl) (by rfl)) (by intro _; rfl))))))) (dss_one (ds_ret de_bl)) dss_nil) (dss_cons (ds_if (db_w (dw_or (db_not (db_val (de_isi (n := .str) (dt_of (de_ix (dt_var (pv 3)) (dt_of de_int) (fun _ _ => rfl))) (by rfl) z_isinstance (by rfl) z_str boot_str (by decide) (by decide) (by rfl)) (by intro _; rfl))) (dw_or (db_cmp (ho_nin hu5) (dt_of (de_ix (dt_var (pv 3)) (dt_of de_int) (fun _ _ => rfl))) (dt_of (de_tup (dds_cons de_str (dds_cons de_str dds_nil)))) (by rfl)) (dw_or1 (db_cmp (ho_in hu5) (dt_of (de_ix (dt_var (pv 3)) (dt_of de_int) (fun _ _ => rfl))) (dt_var (pv 1)) (by rfl)))))) (dss_one (ds_ret de_bl)) dss_nil) (dss_cons (ds_expr (de_methO PySem.F.slot_list_append PySem.F.type_list_append hm_append (pv 1) (dds_cons (de_ix (dt_var (pv 3)) (dt_of de_int) (fun _ _ => rfl)) dds_nil) (by rfl) (by rfl) (by rfl) (by rfl) (by rfl)) (by rfl)) (dss_one (ds_setd (i := 2) sc__law_is_schema.nd (by rfl) (by first | exact .inl rfl | exact .inr rfl) (de_op ho_addB (dt_var (pv 2)) (dt_of (de_callT hc_int (by rfl) z_int boot_int (dts_cons (dt_of (de_cmp (ho_eq hu) (dt_of (de_ix (dt_var (pv 3)) (dt_of de_int) (fun _ _ => rfl))) (dt_of de_str) (by rfl))) dts_nil) (by decide) (by decide) (by rfl) (by rfl)))) (by rfl) (by first | exact .inl rfl | exact .inr rfl)))))) (fun _ => rfl)) (dss_one (ds_ret (de_chain ho_le ho_le (dt_of de_int) (dt_var (pv 2)) (dt_of de_int) (by rfl)))))))
abbrev s_law : Stmt := topS 17
theorem sc_law : FnScope ["script", "k", "draws", "columns", "once", "things", "thing"] ["script"] (defScope s_law) := ⟨rfl, rfl, rfl, by decide +kernel, rfl, by decide +kernel, by decide +kernel⟩
def m_law : B := sSeq (sFor (eCallI range1D (pCons (eCallB maxD (aCons (eVal (pC (.int 1))) (aCons (eVal (eCallB minD (aCons (eVal (pC (.int 30))) (aCons (eVal (eLenS 0)) (aNil))))) (aNil)))) (pNil))) (sName 1) (sSeq (sSetO 2 (eCallO (f__law_draws) (aCons (eVar 0) (aCons (eVal (eName 1)) (aNil))))) (sSeq (sSet 3 (eCallD (f__law_of) (aCons (eVar 2) (aCons (eVal (call0D f__law_schemas)) (aNil))))) (sSeq (sSet 4 (eCallD (f__law_otherwise 5) (aCons (eVar 2) (aCons (eVal (eName 3)) (aCons (eVal (pC (.int 2))) (aNil)))))) (sSeq (sSetO 5 (eLst (pCons (eName 3) (pCons (eName 4) (pCons (eFrz (eCallBO listD (aCons (eVar 3) (aNil)))) (pCons (eRev (eVar 3)) (pCons (eOp addB (eVar 3) (eVal (eSlice (eVar 3) (M.pure none) (ePart (pC (.int 1)))))) (pCons (eOp addB (eVar 3) (eVal (eTup (pCons (eTup (pCons (pC (.str "e")) (pCons (pC (.str "key")) (pNil)))) (pNil))))) (pNil))))))))) (sSeq (sSetO 5 (eCat (eVar 5) (eVal (eFrz (eLst (pCons (eOp addB (eVar 3) (eVal (eTup (pCons (eTup (pCons (pC (.str "e")) (pCons (pC (.str "data")) (pNil)))) (pNil))))) (pCons (eSlice (eVar 3) (M.pure none) (ePart (pC (.int 1)))) (pCons (eSlice (eVar 3) (ePart (pC (.int 1))) (M.pure none)) (pCons (eTup (pNil)) (pCons (eCallD (f__law_thing 5) (aCons (eVar 2) (aCons (eVal (pC (.int 3))) (aNil)))) (pNil))))))))))) (sSeq (sExpr (eMethO 5 appendO (pCons (eIf (eTest (eOp ninD (eVar 4) (eVal (eTup (pCons (eTup (pNil)) (pCons (eFrz (eLst (pNil))) (pNil))))))) (eCallD (f__law_otherwise 5) (aCons (eVar 2) (aCons (eVal (eName 4)) (aCons (eVal (pC (.int 2))) (aNil))))) (eName 4)) (pNil)))) (sFor (eSeq (eName 5)) (sName 6) (sIf (eNotB (eTest (eCallD (f__law_truly) (aCons (eVal (eCallD (f_is_schema) (aCons (eVal (eName 6)) (aNil)))) (aCons (eVal (eCallD (f__law_is_schema) (aCons (eVal (eName 6)) (aNil)))) (aNil)))))) (sRet (pC (.bool false))) (sSkip)))))))))) (sRet (eOp isD (eVal (eCallD (f_is_schema) (aCons (eVal (eTup (pCons (eTup (pCons (pC (.str "a")) (pCons (pC (.str "key")) (pNil)))) (pCons (eTup (pCons (pC (.str "b")) (pCons (pC (.str "key")) (pNil)))) (pCons (eTup (pCons (pC (.str "c")) (pCons (pC (.str "key")) (pNil)))) (pCons (eTup (pCons (pC (.str "d")) (pCons (pC (.str "key")) (pNil)))) (pNil))))))) (aNil)))) (eVal (pC (.bool false)))))
def f_law : Sem := runBody 7 m_law
theorem ok_law {f : Addr} {fd : FuncData} (F : FnP K "law" s_law f fd) (z_len : mg "len" = none) (z_list : mg "list" = none) (z_max : mg "max" = none) (z_min : mg "min" = none) (z_range : mg "range" = none) {a__law_draws : Addr} {d__law_draws : FuncData} (C__law_draws : Cal P w K mg base "_law_draws" 1 ["script", "k"] f__law_draws a__law_draws d__law_draws) {a__law_of : Addr} {d__law_of : FuncData} (C__law_of : Cal P w K mg base "_law_of" 2 ["draws", "some"] f__law_of a__law_of d__law_of) {a__law_otherwise : Addr} {d__law_otherwise : FuncData} (C__law_otherwise : Cal P w K mg base "_law_otherwise" 15 ["draws", "thing", "deep"] (f__law_otherwise 5) a__law_otherwise d__law_otherwise) {a_is_schema : Addr} {d_is_schema : FuncData} (C_is_schema : Cal P w K mg base "is_schema" 3 ["value"] f_is_schema a_is_schema d_is_schema) {a__law_schemas : Addr} {d__law_schemas : FuncData} (C__law_schemas : Cal P w K mg base "_law_schemas" 1 [] f__law_schemas a__law_schemas d__law_schemas) {a__law_thing : Addr} {d__law_thing : FuncData} (C__law_thing : Cal P w K mg base "_law_thing" 8 ["draws", "deep"] (f__law_thing 5) a__law_thing d__law_thing) {a__law_truly : Addr} {d__law_truly : FuncData} (C__law_truly : Cal P w K mg base "_law_truly" 1 ["found", "due"] f__law_truly a__law_truly d__law_truly) {a__law_is_schema : Addr} {d__law_is_schema : FuncData} (C__law_is_schema : Cal P w K mg base "_law_is_schema" 2 ["thing"] f__law_is_schema a__law_is_schema d__law_is_schema) : FnOk P w K mg base (L2.CX P w) 16 f fd ["script"] (spOf K mg 1 f_law) := by
  refine fn_okE (b := m_law) (n := 7) F sc_law rfl rfl rfl fun cdv A outer s H E hr => ?_
  have hu := hr.units
  have hu5 : (A.deeper (envOfC "law" (defScope s_law) s.heap.objs.size f cdv)).units + 65 < cLine := by
    have := hr.un
    omega
  exact (dss_cons (ds_for (passes_of rfl) (by rfl) (di_range1 (by rfl) z_range (dds_cons (de_callB (hc_max (by rfl)) (by rfl) z_max boot_max (dts_cons (dt_of de_int) (dts_cons (dt_of (de_callB (hc_min (by rfl)) (by rfl) z_min boot_min (dts_cons (dt_of de_int) (dts_cons (dt_of (de_lenS (pv 0) (by rfl) z_len (by rfl))) dts_nil)) (by decide) (by decide) (by rfl) (by rfl))) dts_nil)) (by decide) (by decide) (by rfl) (by rfl)) dds_nil) (by rfl)) (dg_name (pg_name (i := 1) sc_law.nd (by rfl) (by first | exact .inl rfl | exact .inr rfl))) (dss_cons (ds_seto (i := 2) sc_law.nd (by rfl) (by first | exact .inl rfl | exact .inr rfl) (do_own C__law_draws hr (by omega) (by rfl) (takes_of rfl rfl rfl rfl) (dts_cons (dt_var (pv 0)) (dts_cons (dt_of (de_name (pv 1))) dts_nil)) (lo_cons (lo_cons lo_nil)) (by rfl) (by decide) (by rfl) (by rfl)) (by rfl) (by first | exact .inl rfl | exact .inr rfl)) (dss_cons (ds_setd (i := 3) sc_law.nd (by rfl) (by first | exact .inl rfl | exact .inr rfl) (de_own C__law_of hr (by omega) (by rfl) (takes_of rfl rfl rfl rfl) (dts_cons (dt_var (pv 2)) (dts_cons (dt_of (de_own0 C__law_schemas hr (by omega) (by rfl) (by decide))) dts_nil)) (lo_cons (lo_cons lo_nil)) (by rfl) (by decide) (by rfl) (by rfl)) (by rfl) (by first | exact .inl rfl | exact .inr rfl)) (dss_cons (ds_setd (i := 4) sc_law.nd (by rfl) (by first | exact .inl rfl | exact .inr rfl) (de_own C__law_otherwise hr (by omega) (by rfl) (takes_of rfl rfl rfl rfl) (dts_cons (dt_var (pv 2)) (dts_cons (dt_of (de_name (pv 3))) (dts_cons (dt_of de_int) dts_nil))) (lo_cons (lo_cons (lo_cons lo_nil))) (by rfl) (by decide) (by rfl) (by rfl)) (by rfl) (by first | exact .inl rfl | exact .inr rfl)) (dss_cons (ds_seto (i := 5) sc_law.nd (by rfl) (by first | exact .inl rfl | exact .inr rfl) (do_lst (dds_cons (de_name (pv 3)) (dds_cons (de_name (pv 4)) (dds_cons (de_frz (do_callT hc_list (by rfl) z_list boot_list (dts_cons (dt_var (pv 3)) dts_nil) (by decide) (by decide) (by rfl) (by rfl))) (dds_cons (de_rev (dt_var (pv 3))) (dds_cons (de_op ho_addB (dt_var (pv 3)) (dt_of (de_slice (dt_var (pv 3)) dp_none (dp_some de_int)))) (dds_cons (de_op ho_addB (dt_var (pv 3)) (dt_of (de_tup (dds_cons (de_tup (dds_cons de_str (dds_cons de_str dds_nil))) dds_nil)))) dds_nil))))))) (by rfl) (by first | exact .inl rfl | exact .inr rfl)) (dss_cons (ds_seto (i := 5) sc_law.nd (by rfl) (by first | exact .inl rfl | exact .inr rfl) (do_cat (dt_var (pv 5)) (dt_of (de_frz (do_lst (dds_cons (de_op ho_addB (dt_var (pv 3)) (dt_of (de_tup (dds_cons (de_tup (dds_cons de_str (dds_cons de_str dds_nil))) dds_nil)))) (dds_cons (de_slice (dt_var (pv 3)) dp_none (dp_some de_int)) (dds_cons (de_slice (dt_var (pv 3)) (dp_some de_int) dp_none) (dds_cons (de_tup dds_nil) (dds_cons (de_own C__law_thing hr (by omega) (by rfl) (takes_of rfl rfl rfl rfl) (dts_cons (dt_var (pv 2)) (dts_cons (dt_of de_int) dts_nil)) (lo_cons (lo_cons lo_nil)) (by rfl) (by decide) (by rfl) (by rfl)) dds_nil))))))))) (by rfl) (by first | exact .inl rfl | exact .inr rfl)) (dss_cons (ds_expr (de_methO PySem.F.slot_list_append PySem.F.type_list_append hm_append (pv 5) (dds_cons (de_if (db_cmp (ho_nin hu5) (dt_var (pv 4)) (dt_of (de_tup (dds_cons (de_tup dds_nil) (dds_cons (de_frz (do_lst dds_nil)) dds_nil)))) (by rfl)) (de_own C__law_otherwise hr (by omega) (by rfl) (takes_of rfl rfl rfl rfl) (dts_cons (dt_var (pv 2)) (dts_cons (dt_of (de_name (pv 4))) (dts_cons (dt_of de_int) dts_nil))) (lo_cons (lo_cons (lo_cons lo_nil))) (by rfl) (by decide) (by rfl) (by rfl)) (de_name (pv 4))) dds_nil) (by rfl) (by rfl) (by rfl) (by rfl) (by rfl)) (by rfl)) (dss_one (ds_for (passes_of rfl) (by rfl) (di_seq (de_name (pv 5))) (dg_name (pg_name (i := 6) sc_law.nd (by rfl) (by first | exact .inl rfl | exact .inr rfl))) (dss_one (ds_if (db_not (db_val (de_own C__law_truly hr (by omega) (by rfl) (takes_of rfl rfl rfl rfl) (dts_cons (dt_of (de_own C_is_schema hr (by omega) (by rfl) (takes_of rfl rfl rfl rfl) (dts_cons (dt_of (de_name (pv 6))) dts_nil) (lo_cons lo_nil) (by rfl) (by decide) (by rfl) (by rfl))) (dts_cons (dt_of (de_own C__law_is_schema hr (by omega) (by rfl) (takes_of rfl rfl rfl rfl) (dts_cons (dt_of (de_name (pv 6))) dts_nil) (lo_cons lo_nil) (by rfl) (by decide) (by rfl) (by rfl))) dts_nil)) (lo_cons (lo_cons lo_nil)) (by rfl) (by decide) (by rfl) (by rfl)) (by intro _; rfl))) (dss_one (ds_ret de_bl)) dss_nil)) (fun _ => rfl))))))))) (fun _ => rfl)) (dss_one (ds_ret (de_cmp ho_is (dt_of (de_own C_is_schema hr (by omega) (by rfl) (takes_of rfl rfl rfl rfl) (dts_cons (dt_of (de_tup (dds_cons (de_tup (dds_cons de_str (dds_cons de_str dds_nil))) (dds_cons (de_tup (dds_cons de_str (dds_cons de_str dds_nil))) (dds_cons (de_tup (dds_cons de_str (dds_cons de_str dds_nil))) (dds_cons (de_tup (dds_cons de_str (dds_cons de_str dds_nil))) dds_nil)))))) dts_nil) (lo_cons lo_nil) (by rfl) (by decide) (by rfl) (by rfl))) (dt_of de_bl) (by rfl)))))
end
section
def D_is_name : He.DefD := ⟨("is_name", none), "is_name", "is_name", defArgs s_is_name, defBody s_is_name, defScope s_is_name, [], []⟩
def D_is_column : He.DefD := ⟨("is_column", none), "is_column", "is_column", defArgs s_is_column, defBody s_is_column, defScope s_is_column, [], []⟩
def D_keys_of : He.DefD := ⟨("keys_of", none), "keys_of", "keys_of", defArgs s_keys_of, defBody s_keys_of, defScope s_keys_of, [], []⟩
def D_is_schema : He.DefD := ⟨("is_schema", none), "is_schema", "is_schema", defArgs s_is_schema, defBody s_is_schema, defScope s_is_schema, [], []⟩
def D__law_draws : He.DefD := ⟨("_law_draws", none), "_law_draws", "_law_draws", defArgs s__law_draws, defBody s__law_draws, defScope s__law_draws, [], []⟩
def D__law_draw : He.DefD := ⟨("_law_draw", none), "_law_draw", "_law_draw", defArgs s__law_draw, defBody s__law_draw, defScope s__law_draw, [], []⟩
def D__law_of : He.DefD := ⟨("_law_of", none), "_law_of", "_law_of", defArgs s__law_of, defBody s__law_of, defScope s__law_of, [], []⟩
def D__law_schemas : He.DefD := ⟨("_law_schemas", none), "_law_schemas", "_law_schemas", defArgs s__law_schemas, defBody s__law_schemas, defScope s__law_schemas, [], []⟩
def D__law_truly : He.DefD := ⟨("_law_truly", none), "_law_truly", "_law_truly", defArgs s__law_truly, defBody s__law_truly, defScope s__law_truly, [], []⟩
def D__law_thing : He.DefD := ⟨("_law_thing", none), "_law_thing", "_law_thing", defArgs s__law_thing, defBody s__law_thing, defScope s__law_thing, [], []⟩
def D__law_other_leaf : He.DefD := ⟨("_law_other_leaf", none), "_law_other_leaf", "_law_other_leaf", defArgs s__law_other_leaf, defBody s__law_other_leaf, defScope s__law_other_leaf, [], []⟩
def D__law_otherwise : He.DefD := ⟨("_law_otherwise", none), "_law_otherwise", "_law_otherwise", defArgs s__law_otherwise, defBody s__law_otherwise, defScope s__law_otherwise, [], []⟩
def D__law_is_name : He.DefD := ⟨("_law_is_name", none), "_law_is_name", "_law_is_name", defArgs s__law_is_name, defBody s__law_is_name, defScope s__law_is_name, [], []⟩
def D__law_is_schema : He.DefD := ⟨("_law_is_schema", none), "_law_is_schema", "_law_is_schema", defArgs s__law_is_schema, defBody s__law_is_schema, defScope s__law_is_schema, [], []⟩
def D_law : He.DefD := ⟨("law", none), "law", "law", defArgs s_law, defBody s_law, defScope s_law, [], []⟩
def fn : List He.DefD := [D_is_name, D_is_column, D_keys_of, D_is_schema, D__law_draws, D__law_draw, D__law_of, D__law_schemas, D__law_truly, D__law_thing, D__law_other_leaf, D__law_otherwise, D__law_is_name, D__law_is_schema, D_law]
def fa : List He.Fa := [.glo "is_name", .glo "is_column", .glo "keys_of", .glo "is_schema", .glo "_law_draws", .glo "_law_draw", .glo "_law_of", .glo "_law_schemas", .glo "_law_truly", .glo "_law_thing", .glo "_law_other_leaf", .glo "_law_otherwise", .glo "_law_is_name", .glo "_law_is_schema", .glo "law", .free "abs", .free "all", .free "bool", .free "enumerate", .free "int", .free "isinstance", .free "len", .free "list", .free "max", .free "min", .free "range", .free "str", .free "tuple", .str "LETTERS" "abcdefghijklmnopqrstuvwxyz"]
def loose : List PySem.Str := ["is_name", "is_column", "keys_of", "is_schema", "_law_draws", "_law_draw", "_law_of", "_law_schemas", "_law_truly", "_law_thing", "_law_other_leaf", "_law_otherwise", "_law_is_name", "_law_is_schema", "LETTERS"]
abbrev R : PySem.W.OpenRow := PySem.W.OpenLaw.row PySem.Challenge.rw_putagain_k01_what_is_a_schema
abbrev hk : PySem.W.Hook
      := He.hookD 4 fa fn
def ob (s :
      PySem.W.SharedT) : He.AlD := He.obsDG 4 fa fn (HandSHeadRun.getT s)
theorem ob_eq (s :
      PySem.W.SharedT) : ob s = hk.obs s.abs := He.obsDG_eq (HandSHeadRun.getT_eq s)
theorem run (w : World) : HandSHeadRun.RunEq R (PySem.W.view R.prog [17]) hk ob 640 loose w := by
  intro os
  kernel_rfl
theorem facts {P : Program} {w : World} {K : PySem.W.Frag} {h : Heap} {mg : Str → Option Value} {f : Addr} (X
      : K.In h) (G : h.Ns mainGlobals mg) (hfa : mg ("law" : Str) = some (.ref f)) (c : He.SaysD fa fn K) :
    ∃ fd : FuncData, (∀ (s : Shared) (v : Value), BindsTo s fd ⟨[v], []⟩ [("script", v)]) ∧ ∀ base : Heap, K.In base → base.Ns mainGlobals mg → FnOk P w K mg base (L2.CX P w) 16 f fd ["script"] (spOf K mg 1 f_law) := by
  obtain ⟨d_is_name, F_is_name⟩ := c.def_ 0 (d := D_is_name) rfl
  have g_is_name := He.glo_ok X G (c.fact 0 (f := .glo "is_name") rfl)
  have b_is_name : L2.Binds K d_is_name ["value"] [] := F_is_name.bindsN fun _ _ _ _ _ _ us hl => match us, hl with | [_], _ => rfl
  obtain ⟨d_is_column, F_is_column⟩ := c.def_ 1 (d := D_is_column) rfl
  have g_is_column := He.glo_ok X G (c.fact 1 (f := .glo "is_column") rfl)
  have b_is_column : L2.Binds K d_is_column ["value"] [] := F_is_column.bindsN fun _ _ _ _ _ _ us hl => match us, hl with | [_], _ => rfl
  obtain ⟨d_keys_of, F_keys_of⟩ := c.def_ 2 (d := D_keys_of) rfl
  have g_keys_of := He.glo_ok X G (c.fact 2 (f := .glo "keys_of") rfl)
  have b_keys_of : L2.Binds K d_keys_of ["schema"] [] := F_keys_of.bindsN fun _ _ _ _ _ _ us hl => match us, hl with | [_], _ => rfl
  obtain ⟨d_is_schema, F_is_schema⟩ := c.def_ 3 (d := D_is_schema) rfl
  have g_is_schema := He.glo_ok X G (c.fact 3 (f := .glo "is_schema") rfl)
  have b_is_schema : L2.Binds K d_is_schema ["value"] [] := F_is_schema.bindsN fun _ _ _ _ _ _ us hl => match us, hl with | [_], _ => rfl
  obtain ⟨d__law_draws, F__law_draws⟩ := c.def_ 4 (d := D__law_draws) rfl
  have g__law_draws := He.glo_ok X G (c.fact 4 (f := .glo "_law_draws") rfl)
  have b__law_draws : L2.Binds K d__law_draws ["script", "k"] [] := F__law_draws.bindsN fun _ _ _ _ _ _ us hl => match us, hl with | [_, _], _ => rfl
  obtain ⟨d__law_draw, F__law_draw⟩ := c.def_ 5 (d := D__law_draw) rfl
  have g__law_draw := He.glo_ok X G (c.fact 5 (f := .glo "_law_draw") rfl)
  have b__law_draw : L2.Binds K d__law_draw ["draws", "many"] [] := F__law_draw.bindsN fun _ _ _ _ _ _ us hl => match us, hl with | [_, _], _ => rfl
  obtain ⟨d__law_of, F__law_of⟩ := c.def_ 6 (d := D__law_of) rfl
  have g__law_of := He.glo_ok X G (c.fact 6 (f := .glo "_law_of") rfl)
  have b__law_of : L2.Binds K d__law_of ["draws", "some"] [] := F__law_of.bindsN fun _ _ _ _ _ _ us hl => match us, hl with | [_, _], _ => rfl
  obtain ⟨d__law_schemas, F__law_schemas⟩ := c.def_ 7 (d := D__law_schemas) rfl
  have g__law_schemas := He.glo_ok X G (c.fact 7 (f := .glo "_law_schemas") rfl)
  have b__law_schemas : L2.Binds K d__law_schemas [] [] := F__law_schemas.bindsN fun _ _ _ _ _ _ us hl => match us, hl with | [], _ => rfl
  obtain ⟨d__law_truly, F__law_truly⟩ := c.def_ 8 (d := D__law_truly) rfl
  have g__law_truly := He.glo_ok X G (c.fact 8 (f := .glo "_law_truly") rfl)
  have b__law_truly : L2.Binds K d__law_truly ["found", "due"] [] := F__law_truly.bindsN fun _ _ _ _ _ _ us hl => match us, hl with | [_, _], _ => rfl
  obtain ⟨d__law_thing, F__law_thing⟩ := c.def_ 9 (d := D__law_thing) rfl
  have g__law_thing := He.glo_ok X G (c.fact 9 (f := .glo "_law_thing") rfl)
  have b__law_thing : L2.Binds K d__law_thing ["draws", "deep"] [] := F__law_thing.bindsN fun _ _ _ _ _ _ us hl => match us, hl with | [_, _], _ => rfl
  obtain ⟨d__law_other_leaf, F__law_other_leaf⟩ := c.def_ 10 (d := D__law_other_leaf) rfl
  have g__law_other_leaf := He.glo_ok X G (c.fact 10 (f := .glo "_law_other_leaf") rfl)
  have b__law_other_leaf : L2.Binds K d__law_other_leaf ["draws", "thing"] [] := F__law_other_leaf.bindsN fun _ _ _ _ _ _ us hl => match us, hl with | [_, _], _ => rfl
  obtain ⟨d__law_otherwise, F__law_otherwise⟩ := c.def_ 11 (d := D__law_otherwise) rfl
  have g__law_otherwise := He.glo_ok X G (c.fact 11 (f := .glo "_law_otherwise") rfl)
  have b__law_otherwise : L2.Binds K d__law_otherwise ["draws", "thing", "deep"] [] := F__law_otherwise.bindsN fun _ _ _ _ _ _ us hl => match us, hl with | [_, _, _], _ => rfl
  obtain ⟨d__law_is_name, F__law_is_name⟩ := c.def_ 12 (d := D__law_is_name) rfl
  have g__law_is_name := He.glo_ok X G (c.fact 12 (f := .glo "_law_is_name") rfl)
  have b__law_is_name : L2.Binds K d__law_is_name ["thing"] [] := F__law_is_name.bindsN fun _ _ _ _ _ _ us hl => match us, hl with | [_], _ => rfl
  obtain ⟨d__law_is_schema, F__law_is_schema⟩ := c.def_ 13 (d := D__law_is_schema) rfl
  have g__law_is_schema := He.glo_ok X G (c.fact 13 (f := .glo "_law_is_schema") rfl)
  have b__law_is_schema : L2.Binds K d__law_is_schema ["thing"] [] := F__law_is_schema.bindsN fun _ _ _ _ _ _ us hl => match us, hl with | [_], _ => rfl
  have z_abs := He.free_ok X G (c.fact 15 (f := .free "abs") rfl)
  have z_all := He.free_ok X G (c.fact 16 (f := .free "all") rfl)
  have z_bool := He.free_ok X G (c.fact 17 (f := .free "bool") rfl)
  have z_enumerate := He.free_ok X G (c.fact 18 (f := .free "enumerate") rfl)
  have z_int := He.free_ok X G (c.fact 19 (f := .free "int") rfl)
  have z_isinstance := He.free_ok X G (c.fact 20 (f := .free "isinstance") rfl)
  have z_len := He.free_ok X G (c.fact 21 (f := .free "len") rfl)
  have z_list := He.free_ok X G (c.fact 22 (f := .free "list") rfl)
  have z_max := He.free_ok X G (c.fact 23 (f := .free "max") rfl)
  have z_min := He.free_ok X G (c.fact 24 (f := .free "min") rfl)
  have z_range := He.free_ok X G (c.fact 25 (f := .free "range") rfl)
  have z_str := He.free_ok X G (c.fact 26 (f := .free "str") rfl)
  have z_tuple := He.free_ok X G (c.fact 27 (f := .free "tuple") rfl)
  obtain ⟨t_LETTERS, c_LETTERS⟩ := He.str_ok X G (c.fact 28 (f := .str "LETTERS" "abcdefghijklmnopqrstuvwxyz") rfl)
  have r_LETTERS : RelV (.str "abcdefghijklmnopqrstuvwxyz") (.str "abcdefghijklmnopqrstuvwxyz" t_LETTERS) := ⟨_, rfl⟩
  obtain ⟨fd, F_law⟩ := c.def_ 14 (d := D_law) rfl
  have e := hfa.symm.trans (He.glo_ok X G (c.fact 14 (f := .glo "law") rfl))
  cases e
  have bl := FunD.bindsA (ps := ["script"]) F_law fun _ _ _ _ _ _ us hl => match us, hl with | [_], _ => rfl
  refine ⟨fd, fun s v => bl s [v] rfl, fun base _ _ => ?_⟩
  have C__law_draws : Cal P w K mg base "_law_draws" 1 ["script", "k"] f__law_draws _ d__law_draws := ⟨ok__law_draws F__law_draws z_abs z_int z_len, g__law_draws, F__law_draws.kp, b__law_draws⟩
  have C__law_draw : Cal P w K mg base "_law_draw" 1 ["draws", "many"] f__law_draw _ d__law_draw := ⟨ok__law_draw F__law_draw z_int, g__law_draw, F__law_draw.kp, b__law_draw⟩
  have C__law_of : Cal P w K mg base "_law_of" 2 ["draws", "some"] f__law_of _ d__law_of := ⟨ok__law_of F__law_of z_len C__law_draw, g__law_of, F__law_of.kp, b__law_of⟩
  have C__law_thing : Cal P w K mg base "_law_thing" 8 ["draws", "deep"] (f__law_thing 5) _ d__law_thing := ⟨ok__law_thing F__law_thing z_range z_tuple C__law_draw C__law_of g__law_thing b__law_thing 5, g__law_thing, F__law_thing.kp, b__law_thing⟩
  have C__law_other_leaf : Cal P w K mg base "_law_other_leaf" 9 ["draws", "thing"] f__law_other_leaf _ d__law_other_leaf := ⟨ok__law_other_leaf F__law_other_leaf z_int z_isinstance z_str C__law_thing C__law_of C__law_draw, g__law_other_leaf, F__law_other_leaf.kp, b__law_other_leaf⟩
  have C__law_otherwise : Cal P w K mg base "_law_otherwise" 15 ["draws", "thing", "deep"] (f__law_otherwise 5) _ d__law_otherwise := ⟨ok__law_otherwise F__law_otherwise z_isinstance z_len z_list z_tuple C__law_draw C__law_thing C__law_other_leaf g__law_otherwise b__law_otherwise 5, g__law_otherwise, F__law_otherwise.kp, b__law_otherwise⟩
  have C_is_name : Cal P w K mg base "is_name" 1 ["value"] f_is_name _ d_is_name := ⟨ok_is_name F_is_name z_all z_isinstance z_len z_str c_LETTERS r_LETTERS, g_is_name, F_is_name.kp, b_is_name⟩
  have C_is_column : Cal P w K mg base "is_column" 2 ["value"] f_is_column _ d_is_column := ⟨ok_is_column F_is_column z_isinstance z_len z_str z_tuple C_is_name, g_is_column, F_is_column.kp, b_is_column⟩
  have C_keys_of : Cal P w K mg base "keys_of" 1 ["schema"] f_keys_of _ d_keys_of := ⟨ok_keys_of F_keys_of z_enumerate, g_keys_of, F_keys_of.kp, b_keys_of⟩
  have C_is_schema : Cal P w K mg base "is_schema" 3 ["value"] f_is_schema _ d_is_schema := ⟨ok_is_schema F_is_schema z_all z_isinstance z_len z_tuple C_is_column C_keys_of, g_is_schema, F_is_schema.kp, b_is_schema⟩
  have C__law_schemas : Cal P w K mg base "_law_schemas" 1 [] f__law_schemas _ d__law_schemas := ⟨ok__law_schemas F__law_schemas , g__law_schemas, F__law_schemas.kp, b__law_schemas⟩
  have C__law_truly : Cal P w K mg base "_law_truly" 1 ["found", "due"] f__law_truly _ d__law_truly := ⟨ok__law_truly F__law_truly z_bool z_isinstance, g__law_truly, F__law_truly.kp, b__law_truly⟩
  have C__law_is_name : Cal P w K mg base "_law_is_name" 1 ["thing"] f__law_is_name _ d__law_is_name := ⟨ok__law_is_name F__law_is_name z_isinstance z_len z_str, g__law_is_name, F__law_is_name.kp, b__law_is_name⟩
  have C__law_is_schema : Cal P w K mg base "_law_is_schema" 2 ["thing"] f__law_is_schema _ d__law_is_schema := ⟨ok__law_is_schema F__law_is_schema z_int z_isinstance z_len z_str z_tuple C__law_is_name, g__law_is_schema, F__law_is_schema.kp, b__law_is_schema⟩
  exact ok_law F_law z_len z_list z_max z_min z_range C__law_draws C__law_of C__law_otherwise C_is_schema C__law_schemas C__law_thing C__law_truly C__law_is_schema
end
end K01
/-! P01: the plain law of k01. -/
namespace K01
open PySem PySem.Spec L2 PF
open PyProof.Rows hiding St b2i
open PF (Sem)

def LET : Str := "abcdefghijklmnopqrstuvwxyz"
def inLET (d : PyData) : Bool := match d with
  | .str ⟨⟨[c]⟩⟩ => decide (c ∈ LET.cps.toList)
  | _ => false
def nameB : PyData → Bool
  | .str z => decide (1 ≤ z.length) && decide (z.length ≤ 8) && (signsD z).all inLET
  | _ => false
theorem sign_in {z : Str} {d : PyData} (h : d ∈ signsD z) : inD d (.str LET) = some (.bool (inLET d)) ∧ ninD d (.str LET) = some (.bool (!inLET d)) := by
  unfold signsD at h
  obtain ⟨c, _, rfl⟩ := List.mem_map.mp h
  exact ⟨rfl, rfl⟩
theorem bls_map (g : PyData → Bool) : ∀ ds : List PyData, blsOf (ds.map fun d => .bool (g d)) = some (ds.map g)
  | [] => rfl
  | d :: ds => by
    rw [List.map_cons]
    unfold blsOf
    rw [bls_map g ds]
    rfl
theorem filter_true (ds : List PyData) : ds.filter (fun _ => true) = ds := by
  induction ds with
  | nil => rfl
  | cons d ds ih => rw [List.filter_cons_of_pos rfl, ih]
theorem name_comp (z : Str) (h : z.length ≤ sizeLine) : eComp (eSeq (eName 0)) (sName 1) [1] eYes (eOp inD (eVar 1) (eVal (pC (.str "abcdefghijklmnopqrstuvwxyz")))) [some (.dat (.str z)), none] = .ok ((signsD z).map fun d => .bool (inLET d)) [some (.dat (.str z)), none] := by
  have it : eSeq (eName 0) [some (.dat (.str z)), none] = .ok (signsD z) [some (.dat (.str z)), none] := by
    simp [iterOf, h]
  rw [comp_map it (fun d => .bool (inLET d)) (fun _ => true)]
  · rw [filter_true]
    rfl
  · intro d hd
    refine ⟨[some (.dat (.str z)), some (.dat d)], [some (.dat (.str z)), some (.dat d)], rfl, rfl, (fun q => nomatch q), fun _ => ⟨[some (.dat (.str z)), some (.dat d)], ?_, rfl⟩⟩
    have k := (sign_in hd).1
    unfold LET at k
    simp [k]
theorem name_ok (d : PyData) (h : ∀ z, d = .str z → z.length ≤ sizeLine) : f_is_name [.dat d] = .ok (.dat (.bool (nameB d))) [.dat d] := by
  unfold f_is_name runBody m_is_name
  cases d with
  | str z =>
    have hz := h z rfl
    by_cases h1 : 1 ≤ z.length
    · have h1' : (1 : Int) ≤ z.length := by omega
      by_cases h2 : z.length ≤ 8
      · have h2' : (z.length : Int) ≤ 8 := by omega
        simp [isTy, kd, isK, lenD_s, hz, h1', h2', name_comp z hz, allD, bls_map, outsOf, nameB, h1, h2]
      · have h2' : ¬ (z.length : Int) ≤ 8 := by omega
        simp [isTy, kd, isK, lenD_s, hz, h1', h2', outsOf, nameB, h1, h2]
    · have h1' : ¬ (1 : Int) ≤ z.length := by omega
      simp [isTy, kd, isK, lenD_s, hz, h1', outsOf, nameB, h1]
  | _ => simp [isTy, kd, isK, outsOf, nameB]
/-! ### columns -/
def kdB (y : Str) : Bool := (("key" : Str) == y) || (("data" : Str) == y)
def colB : PyData → Bool
  | .tuple [a, .str y] => nameB a && kdB y
  | _ => false
/-- what the two tests are asked of -/
abbrev Fit (k : Nat) (d : PyData) : Prop := wf 1000 (10 ^ 60) 1000 k d
theorem sh_kd : SeqAt.shaped (.tuple [.str "key", .str "data"]) = true := by decide +kernel
theorem name_fit {k : Nat} {d : PyData} (h : Fit k d) : f_is_name [.dat d] = .ok (.dat (.bool (nameB d))) [.dat d] := name_ok d fun z e => by
  subst e
  have := (wf_str h).1
  have := sizeLine_eq
  omega
theorem in_kd {y : Str} (h : SeqAt.shaped (.str y) = true) : inD (.str y) (.tuple [.str "key", .str "data"]) = some (.bool (kdB y)) ∧ ninD (.str y) (.tuple [.str "key", .str "data"]) = some (.bool (!kdB y)) := by
  obtain ⟨h1, h2⟩ := inD_tup h sh_kd
  rw [h1, h2]
  simp [PyData.eqv, kdB]
theorem col_ok {k : Nat} (hk : k ≤ 60) (d : PyData) (h : Fit k d) : f_is_column [.dat d] = .ok (.dat (.bool (colB d))) [.dat d] := by
  unfold f_is_column runBody m_is_column
  cases d with
  | tuple ds =>
    obtain ⟨k, rfl, hl, hd⟩ := wf_tup h
    match ds, hl, hd with
    | [], _, _ => simp [isTy, kd, isK, outsOf, colB]
    | [a], _, _ => simp [isTy, kd, isK, outsOf, colB]
    | [a, b], hl, hd =>
      have ha := hd a (by simp)
      have hb := hd b (by simp)
      have n1 := fun e : PF.Env => callD_v1 (e := e) (name_fit ha)
      cases b with
      | str y =>
        have hy := in_kd (wf_shaped (by omega) hb)
        cases q : nameB a <;> simp [isTy, kd, isK, outsOf, colB, n1, q, hy, sizeLine]
      | _ => simp [isTy, kd, isK, outsOf, colB]
    | a :: b :: c :: r, _, _ =>
      have z : ¬ ((r.length : Int) + 1 + 1 + 1 = 2) := by omega
      simp [isTy, kd, isK, outsOf, colB, z]
  | _ => simp [isTy, kd, isK, outsOf, colB]
/-! ### the program's answer -/
def fstOf : PyData → PyData
  | .tuple (a :: _) => a
  | d => d
def keyCol : PyData → Bool
  | .tuple [_, .str y] => y == ("key" : Str)
  | _ => false
def cntK (cs : List PyData) : Nat := (cs.filter keyCol).length
def keysL (cs : List PyData) : List Key := cs.filterMap fun c => keyOf (fstOf c)
def schemaB : PyData → Bool
  | .tuple cs => decide (1 ≤ cs.length) && decide (cs.length ≤ 4) && cs.all colB && decide ((dd (keysL cs)).length = cs.length) && decide (1 ≤ cntK cs) && decide (cntK cs ≤ 3)
  | _ => false
theorem colB_inv {c : PyData} (h : colB c = true) : ∃ z y, c = .tuple [.str z, .str y] ∧ nameB (.str z) = true ∧ kdB y = true := by
  unfold colB at h
  split at h
  · rename_i a y
    rw [Bool.and_eq_true] at h
    cases a with
    | str z => exact ⟨z, y, rfl, h.1, h.2⟩
    | _ => exact absurd h.1 Bool.false_ne_true
  · cases h
theorem enum_filter (p : PyData → Bool) (q : PyData → Bool) (hp : ∀ n c, p (.tuple [.int n, c]) = q c) : ∀ (cs : List PyData) (n : Nat), ((enumD n cs).filter p).length = (cs.filter q).length
  | [], n => rfl
  | c :: cs, n => by
    unfold enumD
    cases h : q c with
    | true =>
      rw [List.filter_cons_of_pos (by rw [hp]; exact h), List.filter_cons_of_pos h, List.length_cons, List.length_cons, enum_filter p q hp cs (n + 1)]
    | false =>
      rw [List.filter_cons_of_neg (by rw [hp, h]; exact Bool.false_ne_true), List.filter_cons_of_neg (by rw [h]; exact Bool.false_ne_true), enum_filter p q hp cs (n + 1)]
theorem enum_mem {d : PyData} : ∀ {cs : List PyData} {n : Nat}, d ∈ enumD n cs → ∃ m c, d = .tuple [.int m, c] ∧ c ∈ cs
  | [], n, h => by
    unfold enumD at h
    cases h
  | c :: cs, n, h => by
    unfold enumD at h
    rcases List.mem_cons.mp
          h with e | h
    · exact ⟨n, c, e, List.mem_cons_self⟩
    · obtain ⟨m, c', e, h⟩ := enum_mem h
      exact ⟨m, c', e, List.mem_cons_of_mem _ h⟩
theorem eqv_str {x y : Str} : PyData.eqv (.str x) (.str y) = (x == y) := by
  rw [PyData.eqv]
theorem keys_ok {k : Nat} (hk : k ≤ 60) (cs : List PyData) (h : Fit k (.tuple cs)) (hc : ∀ c ∈ cs, colB c = true) : ∃ ks : List PyData, ks.length = cntK cs ∧ f_keys_of [.dat (.tuple cs)] = .ok (.dat (.list ks)) [.dat (.tuple cs)] := by
  refine ⟨((enumD 0 cs).filter fun d => match d with | .tuple [_, c] => keyCol c | _ => false).map fun d => match d with | .tuple [x, _] => x | d => d, ?_, ?_⟩
  · rw [List.length_map]
    exact enum_filter _ keyCol (fun n c => rfl) cs 0
  · unfold f_keys_of runBody m_keys_of
    have it : eCallI enum1D (pCons (eName 0) pNil) [some (.dat (.tuple cs)), none, none] = .ok (enumD 0 cs) [some (.dat (.tuple cs)), none, none] := by
      simp [enum1D, seqOf]
    have cm := comp_map (s := sTup 2 (sCons (sName 1) (sCons (sName 2) sNil))) (vs := [1, 2]) (t := eTest (eOp eqD (eVal (eOp ixD (eVar 2) (eVal (pC (.int 1))))) (eVal (pC (.str "key"))))) (y := eName 1) it
      (fun d => match d with | .tuple [x, _] => x | d => d) (fun d => match d with | .tuple [_, c] => keyCol c | _ => false) (fun d hd => by
        obtain ⟨m, c, rfl, hm⟩ := enum_mem hd
        obtain ⟨z, y, rfl, h1, h2⟩ := colB_inv (hc c hm)
        have w0 : wipeE [some (.dat (.tuple cs)), none, none] [1, 2] = [some (.dat (.tuple cs)), none, none] := rfl
        rw [w0]
        obtain ⟨k', rfl, _, hd'⟩ := wf_tup h
        obtain ⟨k2, rfl, _, hy⟩ := wf_tup (hd' _ hm)
        have sy : SeqAt.shaped (.str y) = true := wf_shaped (by omega) (hy _ (by simp))
        have e1 := eqD_wf (d := .str y) (e := .str "key") sy (by decide +kernel)
        refine ⟨_, [some (.dat (.tuple cs)), some (.dat (.int m)), some (.dat (.tuple [.str z, .str y]))], rfl, ?_, fun _ => rfl, fun _ => ⟨_, rfl, rfl⟩⟩
        simp [e1, keyCol, eqv_str])
    simp [cm, outsOf]
    rfl
theorem keys_some : ∀ {cs : List PyData}, (∀ c ∈ cs, colB c = true) → keysOf (cs.map fstOf) = some (keysL cs)
  | [], _ => rfl
  | c :: cs, h => by
    obtain ⟨z, y, rfl, h1, h2⟩ := colB_inv (h c List.mem_cons_self)
    have ih := keys_some fun x hx => h x (List.mem_cons_of_mem _ hx)
    rw [List.map_cons]
    unfold keysOf
    rw [ih]
    rfl
theorem schema_ok {k : Nat} (hk : k ≤ 60) (d : PyData) (h : Fit k d) : f_is_schema [.dat d] = .ok (.dat (.bool (schemaB d))) [.dat d] := by
  unfold f_is_schema runBody m_is_schema
  cases d with
  | tuple cs =>
    obtain ⟨k', rfl, hl, hd⟩ := wf_tup h
    have sl := sizeLine_eq
    have it : eSeq (eName 0) [some (.dat (.tuple cs)), none] = .ok cs [some (.dat (.tuple cs)), none] := by simp
    have w0 : wipeE [some (.dat (.tuple cs)), none] [1] = [some (.dat (.tuple cs)), none] := rfl
    have c1 : eComp (eSeq (eName 0)) (sName 1) [1] eYes (eCallD f_is_column (aCons (eVal (eName 1)) aNil)) [some (.dat (.tuple cs)), none] = .ok (cs.map fun c => .bool (colB c)) [some (.dat (.tuple cs)), none] := by
      rw [comp_map it (fun c => .bool (colB c)) (fun _ => true)]
      · rw [filter_true]
        rfl
      · intro c hc
        refine ⟨_, _, rfl, rfl, (fun q => nomatch q), fun _ => ⟨[some (.dat (.tuple cs)), some (.dat c)], ?_, rfl⟩⟩
        have n1 := fun e : PF.Env => callD_v1 (e := e) (col_ok (by omega) c (hd c hc))
        simp [w0, n1]
    by_cases h1 : 1 ≤ cs.length
    · have h1' : (1 : Int) ≤ cs.length := by omega
      by_cases h2 : cs.length ≤ 4
      · have h2' : (cs.length : Int) ≤ 4 := by omega
        cases hb : cs.all colB with
        | false =>
          have hb' : (cs.map colB).all id = false := by
            rw [List.all_map]
            exact hb
          simp [isTy, kd, isK, h1', h2', c1, allD, bls_map, outsOf, schemaB, hb, hb']
        | true =>
          have hb' : (cs.map colB).all id = true := by
            rw [List.all_map]
            exact hb
          have hc : ∀ c ∈ cs, colB c = true := List.all_eq_true.mp hb
          have s1 : eSetC (eSeq (eName 0)) (sName 1) [1] eYes (eOp ixD (eVar 1) (eVal (pC (.int 0)))) [some (.dat (.tuple cs)), none] = .ok (dd (keysL cs)) [some (.dat (.tuple cs)), none] := by
            rw [setc_map it fstOf (fun _ => true) (by omega) (by rw [filter_true]; exact keys_some hc)]
            · rfl
            · intro c hm
              obtain ⟨z, y, rfl, _, _⟩ := colB_inv (hc c hm)
              refine ⟨_, _, rfl, rfl, (fun q => nomatch q), fun _ => ⟨[some (.dat (.tuple cs)), some (.dat (.tuple [.str z, .str y]))], ?_, rfl⟩⟩
              simp [w0, fstOf]
          obtain ⟨ks, k1, k2⟩ := keys_ok hk cs h hc
          have n2 := fun e : PF.Env => callD_v1 (e := e) k2
          by_cases h3 : (dd (keysL cs)).length = cs.length
          · by_cases h4 : 1 ≤ cntK cs
            · have h4' : (1 : Int) ≤ ks.length := by omega
              by_cases h5 : cntK cs ≤ 3
              · have h5' : (ks.length : Int) ≤ 3 := by omega
                simp [isTy, kd, isK, h1, h2, h1', h2', c1, allD, bls_map, outsOf, schemaB, hb, hb', s1, n2, h3, h4, h4', h5, h5']
              · have h5' : ¬ (ks.length : Int) ≤ 3 := by omega
                simp [isTy, kd, isK, h1, h2, h1', h2', c1, allD, bls_map, outsOf, schemaB, hb, hb', s1, n2, h3, h4, h4', h5, h5']
            · have h4' : ¬ (1 : Int) ≤ ks.length := by omega
              simp [isTy, kd, isK, h1, h2, h1', h2', c1, allD, bls_map, outsOf, schemaB, hb, hb', s1, n2, h3, h4, h4']
          · have h3' : ¬ ((dd (keysL cs)).length : Int) = cs.length := by omega
            simp [isTy, kd, isK, h1, h2, h1', h2', c1, allD, bls_map, outsOf, schemaB, hb, hb', s1, n2, h3, h3']
      · have h2' : ¬ (cs.length : Int) ≤ 4 := by omega
        simp [isTy, kd, isK, h1', h2', outsOf, schemaB, h2]
    · have h1' : ¬ (1 : Int) ≤ cs.length := by omega
      simp [isTy, kd, isK, h1', outsOf, schemaB, h1]
  | _ => simp [isTy, kd, isK, outsOf, schemaB]
/-! ### the law's own answer -/
theorem signs_wf {z : Str} (ha : asc z) {n i l k : Nat} (hn : 1 ≤ n) {d : PyData} (h : d ∈ signsD z) : wf n i l k d := by
  unfold signsD at h
  obtain ⟨c, hc, rfl⟩ := List.mem_map.mp h
  refine wf_leaf (n := n) (i := i) (d := .str ⟨#[c]⟩) (show (⟨#[c]⟩ : Str).length ≤ n ∧ asc ⟨#[c]⟩ from ⟨hn, fun x hx => ?_⟩) k
  have : x = c := by simpa using hx
  rw [this]
  exact ha c hc
theorem eqv_nil {ds : List PyData} : PyData.eqv (.list ds) (.list []) = ds.isEmpty := by
  rw [PyData.eqv]
  cases ds <;> rw [PyData.eqvAll] <;> rfl
theorem signs_len (z : Str) : (signsD z).length = z.length := by
  unfold signsD
  rw [List.length_map,
        Array.length_toList]
  rfl
theorem lname_ok {k : Nat} (hk : k ≤ 60) (d : PyData) (h : Fit k d) : f__law_is_name [.dat d] = .ok (.dat (.bool (nameB d))) [.dat d] := by
  unfold f__law_is_name runBody m__law_is_name
  cases d with
  | str z =>
    obtain ⟨hz, ha⟩ := wf_str h
    have sl := sizeLine_eq
    have hz' : z.length ≤ sizeLine := by omega
    by_cases h1 : 1 ≤ z.length
    · have h1' : (1 : Int) ≤ z.length := by omega
      by_cases h2 : z.length ≤ 8
      · have h2' : (z.length : Int) ≤ 8 := by omega
        have it : eSeq (eName 0) [some (.dat (.str z)), none] = .ok (signsD z) [some (.dat (.str z)), none] := by
          simp [iterOf, hz']
        have w0 : wipeE [some (.dat (.str z)), none] [1] = [some (.dat (.str z)), none] := rfl
        have cm := comp_map (s := sName 1) (vs := [1]) (t := eTest (eOp ninD (eVar 1) (eVal (pC (.str "abcdefghijklmnopqrstuvwxyz"))))) (y := eName 1) it (fun d => d) (fun d => !inLET d) (fun d hd => by
          refine ⟨_, [some (.dat (.str z)), some (.dat d)], rfl, ?_, fun _ => rfl, fun _ => ⟨_, rfl, rfl⟩⟩
          have k := (sign_in hd).2
          unfold LET at k
          simp [w0, k])
        rw [List.map_id'] at cm
        have sh : SeqAt.shaped (.list ((signsD z).filter fun d => !inLET d)) = true := by
          refine wf_shaped (n := 8) (i := 0) (l := 8) (k := 1) (by omega) ⟨?_, fun d hd => signs_wf ha (by omega) (List.mem_filter.mp hd).1⟩
          exact Nat.le_trans (List.length_filter_le _ _) (by rw [signs_len]; exact h2)
        have e1 := eqD_wf (d := .list ((signsD z).filter fun d => !inLET d)) (e := .list []) sh (by decide +kernel)
        rw [eqv_nil] at e1
        have e2 : ((signsD z).filter fun d => !inLET d).isEmpty = (signsD z).all inLET := by
          rw [Bool.eq_iff_iff, List.isEmpty_iff, List.filter_eq_nil_iff, List.all_eq_true]
          simp
        rw [e2] at e1
        simp [isTy, kd, isK, lenD_s, hz', h1', h2', cm, e1, outsOf, nameB, h1, h2]
        rfl
      · have h2' : ¬ (z.length : Int) ≤ 8 := by omega
        simp [isTy, kd, isK, lenD_s, hz', h1', h2', outsOf, nameB, h1, h2]
    · have h1' : ¬ (1 : Int) ≤ z.length := by omega
      simp [isTy, kd, isK, lenD_s, hz', h1', outsOf, nameB, h1]
  | _ => simp [isTy, kd, isK, outsOf, nameB]
def lawGo : List PyData → Int → List PyData → Option Int
  | _, m, [] => some m
  | ns, m, c :: cs => if colB c && !(ns.any fun z => PyData.eqv z (fstOf c)) then lawGo (ns ++ [fstOf c]) (m + b2i (keyCol c)) cs else none
theorem fold_len : ∀ (l acc : List Key), (l.foldl addKey acc).length ≤ acc.length + l.length
  | [], acc => Nat.le_refl _
  | k :: l, acc => by
    have := fold_len l (addKey acc k)
    have := addKey_len (ks := acc) (k := k)
    rw [List.foldl_cons,
          List.length_cons]
    omega
theorem any_mem (x : Str) : ∀ ns : List Str, ((ns.map PyData.str).any fun z => PyData.eqv z (.str x)) = memK (ns.map Sum.inr) (.inr x)
  | [] => rfl
  | z :: ns => by
    unfold memK
    rw [List.map_cons, List.map_cons, List.any_cons, List.any_cons, eqv_str]
    have ih := any_mem x ns
    unfold memK at ih
    rw [ih]
    congr 1
    by_cases h : z = x
    · subst h
      simp
    · rw [beq_eq_false_iff_ne.mpr h, decide_eq_false]
      exact fun q => h (Sum.inr.inj q).symm
theorem go_eq : ∀ (cs : List PyData) (ns : List Str) (m : Int), lawGo (ns.map .str) m cs = if cs.all colB && decide (((keysL cs).foldl addKey (ns.map Sum.inr)).length = ns.length + cs.length) then some (m + cntK cs) else none
  | [], ns, m => by
    unfold lawGo
    simp [keysL, cntK]
  | c :: cs, ns, m => by
    unfold lawGo
    cases hc : colB c with
    | false => simp [hc]
    | true =>
      obtain ⟨z, y, rfl, h1, h2⟩ := colB_inv hc
      have kl : keysL (.tuple [.str z, .str y] :: cs) = .inr z :: keysL cs := rfl
      have kn : (keysL cs).length ≤ cs.length := List.length_filterMap_le _ _
      rw [show fstOf (.tuple [.str z, .str y]) = .str z from rfl, any_mem, kl, List.foldl_cons]
      cases hm : memK (ns.map Sum.inr) (.inr z) with
      | true =>
        have ha : addKey (ns.map Sum.inr) (.inr z) = ns.map Sum.inr := by
          unfold addKey
          rw [if_pos hm]
        have := fold_len (keysL cs) (ns.map Sum.inr)
        rw [List.length_map] at this
        rw [ha, if_neg (by simp), if_neg]
        rw [Bool.and_eq_true, decide_eq_true_eq, List.length_cons]
        intro q
        omega
      | false =>
        have ha : addKey (ns.map Sum.inr) (.inr z) = (ns ++ [z]).map Sum.inr := by
          unfold addKey
          rw [if_neg (by rw [hm]; exact Bool.false_ne_true), List.map_append]
          rfl
        have hn : ns.map PyData.str ++ [.str z] = (ns ++ [z]).map .str := by
          rw [List.map_append]
          rfl
        rw [ha, if_pos (by simp), hn, go_eq cs (ns ++ [z])]
        have e1 : (ns ++ [z]).length + cs.length = ns.length + (PyData.tuple [.str z, .str y] :: cs).length := by
          simp only [List.length_append, List.length_cons, List.length_nil]
          omega
        have e2 : (PyData.tuple [.str z, .str y] :: cs).all colB = cs.all colB := by
          rw [List.all_cons, hc]
          rfl
        have e3 : m + b2i (keyCol (.tuple [.str z, .str y])) + (cntK cs : Int) = m + cntK (.tuple [.str z, .str y] :: cs) := by
          unfold cntK
          cases hk : keyCol (.tuple [.str z, .str y]) with
          | true =>
            rw [List.filter_cons_of_pos hk, List.length_cons]
            unfold b2i
            simp
            omega
          | false =>
            rw [List.filter_cons_of_neg (by rw [hk]; exact Bool.false_ne_true)]
            unfold b2i
            simp
        rw [e1, e2, e3]
def lbody : B := sSeq (sIf (eOrB (eNotB (eTest (eIsi [.tuple] (eVar 3)))) (eOrB (eTest (eOp neD (eVal (eCallB lenD (aCons (eVar 3) (aNil)))) (eVal (pC (.int 2))))) (eNotB (eTest (eCallD (f__law_is_name) (aCons (eVal (eOp ixD (eVar 3) (eVal (pC (.int 0))))) (aNil))))))) (sRet (pC (.bool false))) (sSkip)) (sSeq (sIf (eOrB (eNotB (eTest (eIsi [.str] (eVal (eOp ixD (eVar 3) (eVal (pC (.int 1)))))))) (eOrB (eTest (eOp ninD (eVal (eOp ixD (eVar 3) (eVal (pC (.int 1))))) (eVal (eTup (pCons (pC (.str "key")) (pCons (pC (.str "data")) (pNil))))))) (eTest (eOp inD (eVal (eOp ixD (eVar 3) (eVal (pC (.int 0))))) (eVar 1))))) (sRet (pC (.bool false))) (sSkip)) (sSeq (sExpr (eMethO 1 appendO (pCons (eOp ixD (eVar 3) (eVal (pC (.int 0)))) (pNil)))) (sSet 2 (eOp addB (eVar 2) (eVal (eCallB intD (aCons (eVal (eOp eqD (eVal (eOp ixD (eVar 3) (eVal (pC (.int 1))))) (eVal (pC (.str "key"))))) (aNil))))))))
theorem lawstep {k : Nat} (hk : k ≤ 60) {d c : PyData} {ns : List Str} {m : Int} {x : Option SV} (hc : Fit k c) (hn : SeqAt.shaped (.list (ns.map PyData.str)) = true) (hl : ns.length ≤ 1000) (e : PF.Env) (he : e = [some (.dat d), some (.own (ns.map .str)), some (.dat (.int m)), some (.dat c)]) :
    lbody e = if colB c && !((ns.map PyData.str).any fun z => PyData.eqv z (fstOf c)) then .nx [some (.dat d), some (.own (ns.map .str ++ [fstOf c])), some (.dat (.int (m + b2i (keyCol c)))), some (.dat c)] else .rt (.dat (.bool false)) [some (.dat d), some (.own (ns.map .str)), some (.dat (.int m)), some (.dat c)] := by
  subst he
  unfold lbody
  have sl := sizeLine_eq
  cases c with
  | tuple ds =>
    obtain ⟨k, rfl, hl2, hd⟩ := wf_tup hc
    match ds, hl2, hd with
    | [], _, _ => simp [isTy, kd, isK, colB]
    | [a], _, _ => simp [isTy, kd, isK, colB]
    | [a, b], hl2, hd =>
      have ha := hd a (by simp)
      have hb := hd b (by simp)
      have n1 := fun e : PF.Env => callD_v1 (e := e) (lname_ok (by omega) a ha)
      have s1 := inD_lst (d := a) (wf_shaped (by omega) ha) hn
      have hln : ns.length < sizeLine := by omega
      cases q : nameB a with
      | false => cases b <;> simp [isTy, kd, isK, colB, n1, q]
      | true =>
        cases b with
        | str y =>
          have sy : SeqAt.shaped (.str y) = true := wf_shaped (by omega) hb
          have hy := in_kd sy
          have e1 := eqD_wf (d := .str y) (e := .str "key") sy (by decide +kernel)
          cases q2 : kdB y with
          | false => simp [isTy, kd, isK, colB, n1, q, hy, q2, sizeLine]
          | true =>
            cases q3 : (ns.map PyData.str).any fun z => PyData.eqv z a with
            | true =>
              rw [q3] at s1
              simp [isTy, kd, isK, colB, n1, q, hy, q2, sizeLine, s1, fstOf, q3]
            | false =>
              rw [q3] at s1
              simp [isTy, kd, isK, colB, n1, q, hy, q2, s1, fstOf, q3, appendO, hln, keyCol, e1, eqv_str, show 2 ≤ sizeLine by omega]
        | _ => simp [isTy, kd, isK, colB, n1, q]
    | a :: b :: c :: r, _, _ =>
      have z : ¬ ((r.length : Int) + 1 + 1 + 1 = 2) := by omega
      simp [isTy, kd, isK, colB, z]
  | _ => simp [isTy, kd, isK, colB]
theorem lloop {d : PyData} {k : Nat} (hk : k ≤ 60) : ∀ (cs : List PyData) (ns : List Str) (m : Int) (x : Option SV), (∀ c ∈ cs, Fit k c) → (∀ z ∈ ns, z.length ≤ 1000 ∧ asc z) → ns.length + cs.length ≤ 1000 →
    (∃ e, forM (sName 3) lbody cs [some (.dat d), some (.own (ns.map .str)), some (.dat (.int m)), x] = .rt (.dat (.bool false)) (some (.dat d) :: e) ∧ lawGo (ns.map .str) m cs = none) ∨
      ∃ ns' m' x', forM (sName 3) lbody cs [some (.dat d), some (.own (ns.map .str)), some (.dat (.int m)), x] = .nx [some (.dat d), some (.own ns'), some (.dat (.int m')), x'] ∧ lawGo (ns.map .str) m cs = some m'
  | [], ns, m, x, _, _, _ => .inr ⟨_, m, x, rfl, rfl⟩
  | c :: cs, ns, m, x, hf, hn, hl => by
    have hc := hf c List.mem_cons_self
    have sh : SeqAt.shaped (.list (ns.map PyData.str)) = true := by
      refine wf_shaped (n := 1000) (i := 0) (l := 1000) (k := 1) (by omega) ⟨by rw [List.length_map]; omega, fun d hd => ?_⟩
      obtain ⟨z, hz, rfl⟩ := List.mem_map.mp hd
      exact hn z hz
    rw [for_cons (s := sName 3) (e1 := [some (.dat d), some (.own (ns.map .str)), some (.dat (.int m)), some (.dat c)]) rfl, lawstep hk (ns := ns) (m := m) (x := x) hc sh (by omega) _ rfl]
    unfold lawGo
    by_cases q : (colB c && !((ns.map PyData.str).any fun z => PyData.eqv z (fstOf c))) = true
    · rw [if_pos q, if_pos q]
      dsimp only
      rw [Bool.and_eq_true] at q
      obtain ⟨z, y, rfl, h1, h2⟩ := colB_inv q.1
      have hz : z.length ≤ 1000 ∧ asc z := by
        obtain ⟨k', rfl, _, hd⟩ := wf_tup hc
        exact wf_str (hd (.str z) (by simp))
      have hm : ns.map PyData.str ++ [fstOf (.tuple [.str z, .str y])] = (ns ++ [z]).map .str := by
        rw [List.map_append]
        rfl
      rw [hm]
      refine lloop hk cs (ns ++ [z]) _ _ (fun c hc => hf c (List.mem_cons_of_mem _ hc)) (fun w hw => ?_) ?_
      · rcases List.mem_append.mp hw with g | g
        · exact hn w g
        · rw [List.mem_singleton.mp g]
          exact hz
      · simp only [List.length_append, List.length_cons, List.length_nil] at hl ⊢
        omega
    · rw [if_neg q, if_neg q]
      exact .inl ⟨_, rfl, rfl⟩
theorem lschema_ok {k : Nat} (hk : k ≤ 60) (d : PyData) (h : Fit k d) : f__law_is_schema [.dat d] = .ok (.dat (.bool (schemaB d))) [.dat d] := by
  have e0 : m__law_is_schema = sSeq (sIf (eOrB (eNotB (eTest (eIsi [.tuple] (eVar 0)))) (eNotB (eTest (eChain leD leD (eVal (pC (.int 1))) (eVal (eCallB lenD (aCons (eVar 0) (aNil)))) (eVal (pC (.int 4))))))) (sRet (pC (.bool false))) (sSkip)) (sSeq (sPar 1 2 (rOwn (eLst (pNil))) (rDat (pC (.int 0)))) (sSeq (sFor (eSeq (eName 0)) (sName 3) lbody) (sRet (eChain leD leD (eVal (pC (.int 1))) (eVar 2) (eVal (pC (.int 3))))))) := rfl
  unfold f__law_is_schema runBody
  rw [e0]
  cases d with
  | tuple cs =>
    obtain ⟨k', rfl, hl, hd⟩ := wf_tup h
    by_cases h1 : 1 ≤ cs.length
    · have h1' : (1 : Int) ≤ cs.length := by omega
      by_cases h2 : cs.length ≤ 4
      · have h2' : (cs.length : Int) ≤ 4 := by omega
        have g := go_eq cs [] 0
        rw [List.map_nil, List.map_nil] at g
        have e1 : schemaB (.tuple cs) = match lawGo [] 0 cs with
          | some m => decide (1 ≤ m) && decide (m ≤ 3)
          | none => false := by
          rw [g]
          unfold schemaB dd
          dsimp only
          rw [decide_eq_true h1, decide_eq_true h2, List.length_nil, Nat.zero_add, Bool.true_and, Bool.true_and]
          cases cs.all colB && decide ((List.foldl addKey [] (keysL cs)).length = cs.length) with
          | false => rfl
          | true =>
            rw [if_pos rfl, Bool.true_and]
            dsimp only
            congr 1
            · congr 1
              apply propext
              omega
            · congr 1
              apply propext
              omega
        rw [e1]
        rcases lloop (d := .tuple cs) (k := k') (by omega) cs [] 0 none hd (fun z hz => by cases hz) (by simpa using hl) with ⟨e, q1, q2⟩ | ⟨ns', m', x', q1, q2⟩
        · rw [List.map_nil] at q1 q2
          simp [isTy, kd, isK, h1', h2', q1, q2, outsOf]
        · rw [List.map_nil] at q1 q2
          simp [isTy, kd, isK, h1', h2', q1, q2]
          by_cases p1 : 1 ≤ m'
          · by_cases p2 : m' ≤ 3 <;> simp [p1, p2, outsOf]
          · simp [p1, outsOf]
      · have h2' : ¬ (cs.length : Int) ≤ 4 := by omega
        simp [isTy, kd, isK, h1', h2', outsOf, schemaB, h2]
    · have h1' : ¬ (1 : Int) ≤ cs.length := by omega
      simp [isTy, kd, isK, h1', outsOf, schemaB, h1]
  | _ => simp [isTy, kd, isK, outsOf, schemaB]
end K01
/-! P02: what k01's law draws. -/
namespace K01
open PySem PySem.Spec L2 PF
open PyProof.Rows hiding St b2i
open PF (Sem)

theorem fd_eq : f__law_draw = f_draw := rfl
theorem fo_eq : f__law_of = f_of := rfl
theorem fds_eq : f__law_draws = f_draws := rfl
/-- a draw, as an expression of a slot 0 -/
theorem draw_call {ds : List PyData} (h : Dr ds) (many : Int) (h1 : 1 ≤ many) (h2 : many ≤ 1000000) : ∃ (v : Int) (ds' : List PyData), 0 ≤ v ∧ v < many ∧ Dr ds' ∧ (∀ (e : PF.Env) (j : Nat), ownOf e[j]? = some ds → callD f__law_draw [.var j, .val (.int many)] e = .ok (.int v) (putOwn e j ds')) := by
  have hb : many < 2 ^ 4096 := by
    obtain ⟨m, rfl⟩ := Int.eq_ofNat_of_zero_le (show 0 ≤ many by omega)
    have e : (2 : Nat) ^ 20 ≤ 2 ^ 4096 := Nat.pow_le_pow_right (by omega) (by omega)
    have e2 : (2 :
          Nat) ^ 20 = 1048576 := by decide
    have : m < 2 ^ 4096 := by omega
    exact_mod_cast this
  obtain ⟨v, ds', q1, q2, q3, q4⟩ := draw_ok h h1 hb
  refine ⟨v, ds', q2, q3, q4, fun e j he => ?_⟩
  rw [fd_eq]
  exact callD_lent1 he q1
theorem of_call {ds xs : List PyData} {d : PyData} (h : Dr ds) (h1 : 1 ≤ xs.length) (h2 : xs.length ≤ 1000000) (hd : d = .list xs ∨ d = .tuple xs) : ∃ (x : PyData) (ds' : List PyData), x ∈ xs ∧ Dr ds' ∧ (∀ (e : PF.Env) (j : Nat), ownOf e[j]? = some ds → callD f__law_of [.var j, .val d] e = .ok x (putOwn e j ds')) := by
  obtain ⟨x, ds', q1, q2, q3⟩ := of_ok h h1 h2 hd
  refine ⟨x, ds', q2, q3, fun e j he => ?_⟩
  rw [fo_eq]
  exact callD_lent1 he q1
/-! ### any thing -/
def T39 : Int := 10 ^ 39
def leaves : List PyData := [.int 0, .int 1, .int (-1), .bool true, .bool false, .none, .str "", .str "a", .str "id", .str "key", .str "data", .str "add", .str "plus", .str "A", .int 1000000]
def leaves2 : List PyData := [.int 1000001, .int T39, .tuple [], .list [], .tuple [.int 1], .tuple [.str "id", .str "key"]]
theorem p6 : powD (.int 10) (.int 6) = some (.int 1000000) := by
  rw [powD_ii, if_pos (by decide +kernel)]
  rfl
theorem p39 : powD (.int 10) (.int 39) = some (.int T39) := by
  rw [powD_ii, if_pos (by decide +kernel)]
  rfl
theorem leaves_wf : ∀ d ∈ leaves ++ leaves2, wf 8 (10 ^ 40) 8 1 d := wfB_all (by decide +kernel)
/-- what a thing is -/
abbrev Th (k : Nat) (d : PyData) : Prop := wf 8 (10 ^ 40) 8 k d
theorem thing_ok : ∀ (n deep : Nat) (ds : List PyData), deep < n → Dr ds → ∃ (d : PyData) (ds' : List PyData), f__law_thing n [.ino ds, .dat (.int deep)] = .ok (.dat d) [.ino ds', .dat (.int deep)] ∧ Th (deep + 1) d ∧ Dr ds'
  | 0, deep, ds, h, _ => absurd h (by omega)
  | n + 1, deep, ds, h, hd => by
    have sl := sizeLine_eq
    obtain ⟨way, ds1, w1, w2, d1, c1⟩ := draw_call hd 9 (by omega) (by omega)
    have e1 := c1 [some (.ino ds), some (.dat (.int deep)), none, none, none, none] 0 rfl
    unfold f__law_thing runBody m__law_thing
    by_cases hq : way < 6 ∨ deep = 0
    · obtain ⟨x, ds2, x1, d2, c2⟩ := of_call (xs := leaves ++ leaves2) (d := .list (leaves ++ leaves2)) d1 (by decide) (by decide) (.inl rfl)
      have e2 := c2 [some (.ino ds1), some (.dat (.int deep)), some (.dat (.int way)), some (.own leaves), none, none] 0 rfl
      refine ⟨x, ds2, ?_, wf_mono (Nat.le_refl _) (Nat.le_refl _) (Nat.le_refl _) (by omega) (leaves_wf x x1), d2⟩
      simp [leaves, leaves2] at e2
      by_cases h6 : way < 6
      · simp [e1, h6, p6, p39, e2, addB_ll, outsOf, sizeLine]
      · have h0 : deep = 0 := by
          rcases hq with z | z
          · exact absurd z h6
          · exact z
        subst h0
        simp at e1 e2
        simp [e1, h6, p6, p39, e2, addB_ll, outsOf, sizeLine]
    · have h6 : ¬ way < 6 := fun z => hq (.inl z)
      have h0 : ¬ deep = 0 := fun z => hq (.inr z)
      obtain ⟨m, ds2, m1, m2, d2, c2⟩ := draw_call d1 4 (by omega) (by omega)
      have e2 := c2 [some (.ino ds1), some (.dat (.int deep)), some (.dat (.int way)), none, none, none] 0 rfl
      have it : eCallI range1D (pCons (eCallD f__law_draw (aCons (eVar 0) (aCons (eVal (pC (.int 4))) aNil))) pNil) [some (.ino ds1), some (.dat (.int deep)), some (.dat (.int way)), none, none, none] = .ok (rangeD 0 m.toNat) [some (.ino ds2), some (.dat (.int deep)), some (.dat (.int way)), none, none, none] := by
        have r1 : range1D [.int m] = some (rangeD 0 m.toNat) := by
          unfold range1D
          dsimp only
          rw [if_pos (by omega)]
        simp [e2, r1]
      obtain ⟨rs, e3, k1, ⟨ds3, x, rfl, d3⟩, k3, k4⟩ := comp_inv (s := sName 5) (vs := [5]) (t := eYes) (y := eCallD (f__law_thing n) (aCons (eVar 0) (aCons (eVal (eOp subB (eVar 1) (eVal (pC (.int 1))))) aNil))) (I := fun e => ∃ ds' x, e = [some (.ino ds'), some (.dat (.int deep)), some (.dat (.int way)), none, none, x] ∧ Dr ds') (Good := Th deep) it ⟨ds2, none, rfl, d2⟩ (fun d hd e ⟨ds', x, he, hD⟩ => by
        subst he
        obtain ⟨t, ds4, t1, t2, t3⟩ := thing_ok n (deep - 1) ds' (by omega) hD
        have ed : ((deep - 1 : Nat) : Int) = (deep : Int) - 1 := by omega
        rw [ed] at t1
        have t4 := callD_lent1 (e := [some (.ino ds'), some (.dat (.int deep)), some (.dat (.int way)), none, none, some (.dat d)]) (j := 0) rfl t1
        refine ⟨_, [some (.ino ds'), some (.dat (.int deep)), some (.dat (.int way)), none, none, some (.dat d)], rfl, .inr ⟨rfl, t, [some (.ino ds4), some (.dat (.int deep)), some (.dat (.int way)), none, none, some (.dat d)], ?_, ⟨ds4, _, rfl, t3⟩, ?_⟩⟩
        · simp [t4]
        · rw [show deep - 1 + 1 = deep by omega] at t2
          exact t2)
      have hr : restore [some (.ino ds2), some (.dat (.int deep)), some (.dat (.int way)), none, none, none] [some (.ino ds3), some (.dat (.int deep)), some (.dat (.int way)), none, none, x] [5] = [some (.ino ds3), some (.dat (.int deep)), some (.dat (.int way)), none, none, none] := rfl
      rw [hr] at k1
      have hl : rs.length ≤ 8 := by
        have : (rangeD 0 m.toNat).length = m.toNat := by
          unfold rangeD
          rw [List.length_map,
                List.length_range]
        omega
      have hw : way = 6 ∨ way = 7 ∨ way = 8 := by omega
      rcases hw with rfl | rfl | rfl
      · refine ⟨.list rs, ds3, ?_, ⟨hl, k4⟩, d3⟩
        simp [e1, h0, k1, outsOf, sizeLine]
      · refine ⟨.tuple rs, ds3, ?_, ⟨hl, k4⟩, d3⟩
        simp [e1, h0, k1, outsOf, sizeLine]
      · refine ⟨.tuple rs, ds3, ?_, ⟨hl, k4⟩, d3⟩
        have a2 : L2.atI [PyData.list rs, .tuple rs, .tuple rs] 2 = some (.tuple rs) := rfl
        simp [e1, h0, k1, outsOf, sizeLine, a2]
/-! ### another leaf -/
theorem asc_app {x y : Str} (hx : asc x) (hy : asc y) : asc (x ++ y) := fun c hc => by
  have h : c ∈ x.cps.toList ++ y.cps.toList := by
    have e : (x ++ y).cps = x.cps ++ y.cps := rfl
    rw [e] at hc
    simpa using hc
  rcases List.mem_append.mp
        h with h | h
  · exact hx c h
  · exact hy c h
theorem len_app (x y : Str) : (x ++ y).length = x.length + y.length := by
  show (x.cps ++ y.cps).size = _
  rw [Array.size_append]
  rfl
theorem asc_cut {z : Str} (h : asc z) (lo hi : Option Int) : asc (cutS z lo hi) := fun c hc => by
  have hc : c ∈ ((z.cps.toList.drop (HT.sIx z.length 0 lo)).take (HT.sIx z.length z.length hi - HT.sIx z.length 0 lo)) := by
    have hc : c ∈ (((z.cps.toList.drop (HT.sIx z.length 0 lo)).take (HT.sIx z.length z.length hi - HT.sIx z.length 0 lo)).toArray).toList := hc
    simpa using hc
  exact h c (List.mem_of_mem_drop (List.mem_of_mem_take hc))
theorem len_cut (z : Str) (lo hi : Option Int) : (cutS z lo hi).length ≤ z.length := by
  show (((z.cps.toList.drop (HT.sIx z.length 0 lo)).take (HT.sIx z.length
        z.length hi - HT.sIx z.length 0 lo)).toArray).size ≤ z.cps.size
  rw [List.size_toArray, List.length_take,
        List.length_drop, Array.length_toList]
  omega
theorem asc_up {z : Str} (h : asc z) : asc (Txt.upper z) := by
  rw [upper_ascii h]
  intro c hc
  have hc : c ∈ (z.cps.map up1).toList := hc
  rw [Array.toList_map] at hc
  obtain ⟨b, hb, rfl⟩ := List.mem_map.mp hc
  have := h b hb
  unfold up1
  split <;> omega
theorem asc_fold {a : Array Nat} (h : ∀ c ∈ a.toList, c < 128) : ∀ (n : Nat) (acc : Array Nat), (∀ c ∈ acc.toList, c < 128) → ∀ c ∈ ((List.replicate n a).foldl (· ++ ·) acc).toList, c < 128
  | 0, acc, ha => ha
  | n + 1, acc, ha => by
    rw [List.replicate_succ, List.foldl_cons]
    refine asc_fold h n (acc ++ a) fun c hc => ?_
    rw [Array.toList_append] at hc
    rcases List.mem_append.mp
          hc with hc | hc
    · exact ha c hc
    · exact h c hc
theorem asc_rep {z : Str} (h : asc z) (n : Nat) : asc (repS z n) := asc_fold h n #[] fun c hc => by simp at hc
theorem len_rep (z : Str) (n : Nat) : (repS z n).length = n * z.length := by
  show ((List.replicate n z.cps).foldl (· ++ ·) #[]).size = _
  rw [fold_size]
  show 0 + n * z.length = _
  omega
theorem asc_int (j : Int) : asc ((toString j : String) : Str) := fun c hc => by
  rcases Nat.lt_or_ge c 128 with h | h
  · exact h
  · exact absurd hc (int_text_free' c ⟨by omega, .inr (by omega)⟩ j)
theorem len_int {j : Int} (h : j.natAbs < 10 ^ 45) : ((toString j : String) : Str).length ≤ 46 := by
  have e := PySem.int_text_length_le10 (k := 45) (by decide) h
  show (Str.ofString (toString j)).length ≤ 46
  rw [PySem.ofString_length]
  exact e
theorem lf_str {n i l k : Nat} {z : Str} (h1 : z.length ≤ n) (h2 : asc z) : wf n i l k (.str z) := wf_leaf (n := n) (i := i) (d := .str z) ⟨h1, h2⟩ k
theorem lf_int {n i l k : Nat} {j : Int} (h1 : j.natAbs ≤ i) : wf n i l k (.int j) := wf_leaf (n := n) (i := i) (d := .int j) h1 k
theorem lf_bool {n i l k : Nat} {b : Bool} : wf n i l k (.bool b) := wf_leaf (n := n) (i := i) (d := .bool b) trivial k
theorem leaf_ok {n i l k : Nat} {d : PyData} {ds : List PyData} (hn : n ≤ 300) (hi : 10 ^ 40 ≤ i) (hi2 : i ≤ 10 ^ 42) (h : wf n i l k d) (hd : Dr ds) :
    ∃ (x : PyData) (ds' : List PyData), f__law_other_leaf [.ino ds, .dat d] = .ok (.dat x) [.ino ds', .dat d] ∧ wf (3 * n + 60) (i + 1000000) 8 3 x ∧ Dr ds' := by
  have sl := sizeLine_eq
  unfold f__law_other_leaf runBody m__law_other_leaf
  -- the last way
  have last : ∀ ds1, Dr ds1 → ∃ (x : PyData) (ds' : List PyData), callD (f__law_thing 5) [.var 0, .val (.int 2)] [some (.ino ds1), some (.dat d), none] = .ok x [some (.ino ds'), some (.dat d), none] ∧ wf (3 * n + 60) (i + 1000000) 8 3 x ∧ Dr ds' := fun ds1 h1 => by
    obtain ⟨x, ds2, q1, q2, q3⟩ := thing_ok 5 2 ds1 (by omega) h1
    exact ⟨x, ds2, callD_lent1 (e := [some (.ino ds1), some (.dat d), none]) (j := 0) rfl q1, wf_mono (by omega) (by omega) (by omega) (by omega) q2, q3⟩
  obtain ⟨v, ds1, v1, v2, d1, c1⟩ := draw_call hd 3 (by omega) (by omega)
  have e1 := c1 [some (.ino ds), some (.dat d), none] 0 rfl
  cases d with
  | str z =>
    obtain ⟨hz, ha⟩ := wf_str h
    by_cases hv : 0 < v
    · have a1 : addB (.str z) (.str "s") = some (.str (z ++ "s")) := by
        rw [addB_ss, if_pos]
        have : ("s" : Str).length = 1 := by decide
        omega
      have s1 : sliceD none (some (-1)) (.str z) = some (.str (cutS z none (some (-1)))) := by
        unfold sliceD
        dsimp only
        rw [if_pos (by omega)]
      obtain ⟨m, m1, m2⟩ : ∃ m : Str, mulB (.str z) (.int 3) = some (.str m) ∧ m.length ≤ 3 * n ∧ asc m := by
        by_cases h0 : z.length = 0
        · refine ⟨z, ?_, by omega, ha⟩
          unfold mulB
          dsimp only
          rw [if_neg (by omega), if_pos (by omega)]
        · refine ⟨repS z 3, ?_, ?_, asc_rep ha 3⟩
          · unfold mulB
            dsimp only
            rw [if_pos (by omega)]
            rfl
          · rw [len_rep]
            omega
      obtain ⟨x, ds2, x1, d2, c2⟩ := of_call (xs := [.str (z ++ "s"), .str (cutS z none (some (-1))), .str (Txt.upper z), .str m, .str "new", .str "most", .str "key", .str "data", .str "take", .str "skip"]) (d := .list [.str (z ++ "s"), .str (cutS z none (some (-1))), .str (Txt.upper z), .str m, .str "new", .str "most", .str "key", .str "data", .str "take", .str "skip"]) d1 (by simp) (by simp) (.inl rfl)
      have e2 := c2 [some (.ino ds1), some (.dat (.str z)), some (.dat (.list [.str (z ++ "s"), .str (cutS z none (some (-1))), .str (Txt.upper z), .str m, .str "new", .str "most", .str "key", .str "data", .str "take", .str "skip"]))] 0 rfl
      refine ⟨x, ds2, ?_, ?_, d2⟩
      · simp [isTy, kd, isK, e1, hv, a1, s1, m1, show z.length ≤ 1000 by omega, e2, outsOf, sizeLine]
      · have lu := len_upper z
        simp only [List.mem_cons, List.not_mem_nil, or_false] at x1
        rcases x1 with rfl | rfl | rfl | rfl | rfl | rfl | rfl | rfl | rfl | rfl
        · refine lf_str ?_ (asc_app ha (by unfold asc; decide))
          rw [len_app]
          have : ("s" : Str).length = 1 := by decide
          omega
        · exact lf_str (Nat.le_trans (len_cut z _ _) (by omega)) (asc_cut ha _ _)
        · exact lf_str (by omega) (asc_up ha)
        · exact lf_str (by omega) m2.2
        all_goals exact lf_str (Nat.le_trans (m := 60) (by decide) (by omega)) (by unfold asc; decide)
    · obtain ⟨x, ds2, q1, q2, q3⟩ := last ds1 d1
      refine ⟨x, ds2, ?_, q2, q3⟩
      simp [isTy, kd, isK, e1, hv, q1, outsOf]
  | int j =>
    have hj := wf_int h
    by_cases hv : 0 < v
    · have lg : j.natAbs.log2 < 1920 := by
        refine Nat.lt_of_le_of_lt (log_le (k := 200) (Nat.lt_of_le_of_lt (Nat.le_trans hj hi2) (by decide +kernel))) (by omega)
      have st : strB [.int j] = some (.str (toString j)) := by
        unfold strB
        dsimp only
        rw [if_pos lg]
      obtain ⟨x, ds2, x1, d2, c2⟩ := of_call (xs := [.int (j + 1), .int (j - 1), .int (-j), .bool true, .int (j + 1000000), .int 1000000, .str (toString j)]) (d := .list [.int (j + 1), .int (j - 1), .int (-j), .bool true, .int (j + 1000000), .int 1000000, .str (toString j)]) d1 (by simp) (by simp) (.inl rfl)
      have e2 := c2 [some (.ino ds1), some (.dat (.int j)), none] 0 rfl
      refine ⟨x, ds2, ?_, ?_, d2⟩
      · simp at e2 st
        simp [isTy, kd, isK, e1, hv, p6, st, e2, outsOf, sizeLine]
      · have sj : ((toString j : String) : Str).length ≤ 46 := len_int (Nat.lt_of_le_of_lt (Nat.le_trans hj hi2) (by decide +kernel))
        simp only [List.mem_cons, List.not_mem_nil, or_false] at x1
        rcases x1 with rfl | rfl | rfl | rfl | rfl | rfl | rfl
        · exact lf_int (by omega)
        · exact lf_int (by omega)
        · exact lf_int (by omega)
        · exact lf_bool
        · exact lf_int (by omega)
        · exact lf_int (by omega)
        · exact lf_str (by omega) (asc_int j)
    · obtain ⟨x, ds2, q1, q2, q3⟩ := last ds1 d1
      refine ⟨x, ds2, ?_, q2, q3⟩
      simp [isTy, kd, isK, e1, hv, q1, outsOf]
  | bool b =>
    by_cases hv : 0 < v
    · have st : strB [.bool b] = some (.str (if b then "True" else "False")) := rfl
      obtain ⟨x, ds2, x1, d2, c2⟩ := of_call (xs := [.int (b2i b + 1), .int (b2i b - 1), .int (-b2i b), .bool true, .int (b2i b + 1000000), .int 1000000, .str (if b then "True" else "False")]) (d := .list [.int (b2i b + 1), .int (b2i b - 1), .int (-b2i b), .bool true, .int (b2i b + 1000000), .int 1000000, .str (if b then "True" else "False")]) d1 (by simp) (by simp) (.inl rfl)
      have e2 := c2 [some (.ino ds1), some (.dat (.bool b)), none] 0 rfl
      have hb : 0 ≤ b2i b ∧ b2i b ≤ 1 := by unfold b2i; split <;> omega
      refine ⟨x, ds2, ?_, ?_, d2⟩
      · simp [isTy, kd, isK, e1, hv, p6, st, outsOf, sizeLine]
        simp at e2
        simp [e2, outsOf]
      · simp only [List.mem_cons, List.not_mem_nil, or_false] at x1
        rcases x1 with rfl | rfl | rfl | rfl | rfl | rfl | rfl
        · exact lf_int (by omega)
        · exact lf_int (by omega)
        · exact lf_int (by omega)
        · exact lf_bool
        · exact lf_int (by omega)
        · exact lf_int (by omega)
        · cases b
          · exact lf_str (Nat.le_trans (m := 60) (by decide) (by omega)) (by unfold asc; decide)
          · exact lf_str (Nat.le_trans (m := 60) (by decide) (by omega)) (by unfold asc; decide)
    · obtain ⟨x, ds2, q1, q2, q3⟩ := last ds1 d1
      refine ⟨x, ds2, ?_, q2, q3⟩
      simp [isTy, kd, isK, e1, hv, q1, outsOf]
  | _ =>
    obtain ⟨x, ds2, q1, q2, q3⟩ := last ds hd
    refine ⟨x, ds2, ?_, q2, q3⟩
    simp [isTy, kd, isK, q1, outsOf]
end K01
/-! P03: k01: one thing otherwise. -/
namespace K01
open PySem PySem.Spec L2 PF
open PyProof.Rows hiding St b2i cutD
open PF (Sem)

def oG : B := sRet (eIf (eTest (eIsi [.list] (eVar 1))) (eName 3) (eCallB tupD (aCons (eVar 3) (aNil))))
def oH : B := sRet (eIf (eTest (eIsi [.list] (eVar 1))) (eCallB tupD (aCons (eVar 3) (aNil))) (eName 3))
def oF : B := sIf (eTest (eOp eqD (eVar 5) (eVal (pC (.int 0))))) (sExpr (eMethO 3 popO (pCons (eName 4) (pNil)))) (sIf (eTest (eOp eqD (eVar 5) (eVal (pC (.int 1))))) (sExpr (eMethO 3 insertO (pCons (eName 4) (pCons (eOp ixD (eVar 3) (eVar 4)) (pNil))))) (sIf (eTest (eOp eqD (eVar 5) (eVal (pC (.int 2))))) (sCut 3 (eRev (eVal (eSlice (eVar 3) (ePart (eName 4)) (ePart (eOp addB (eVar 4) (eVal (pC (.int 2)))))))) (eName 4) (eOp addB (eVar 4) (eVal (pC (.int 2))))) (sIf (eTest (eOp ltD (eVar 5) (eVal (pC (.int 6))))) (sPut 3 (eCallD (f__law_other_leaf) (aCons (eVar 0) (aCons (eVal (eOp ixD (eVar 3) (eVar 4))) (aNil)))) (eName 4)) oH)))
def oD (self : Sem) : B := sIf (eAndB (eTest (eIsi [.tuple, .list] (eVal (eOp ixD (eVar 3) (eVar 4))))) (eAndB (eTest (eOp gtD (eVar 2) (eVal (pC (.int 0))))) (eTest (eOp gtD (eVal (eCallD (f__law_draw) (aCons (eVar 0) (aCons (eVal (pC (.int 4))) (aNil))))) (eVal (pC (.int 0))))))) (sSeq (sPut 3 (eCallD (self) (aCons (eVar 0) (aCons (eVal (eOp ixD (eVar 3) (eVar 4))) (aCons (eVal (eOp subB (eVar 2) (eVal (pC (.int 1))))) (aNil))))) (eName 4)) oG) (sSkip)
theorem o_eq (self : Sem) : m__law_otherwise self = sSeq (sSetO 3 (eCallBO listD (aCons (eVar 1) (aNil)))) (sSeq (sIf (eTest (eOp eqD (eVar 3) (eVal (eFrz (eLst (pNil)))))) (sRet (eTup (pCons (eCallD (f__law_thing 5) (aCons (eVar 0) (aCons (eVal (pC (.int 1))) (aNil)))) (pNil)))) (sSkip)) (sSeq (sSet 4 (eCallD (f__law_draw) (aCons (eVar 0) (aCons (eVal (eCallB lenD (aCons (eVar 3) (aNil)))) (aNil))))) (sSeq (oD self) (sSeq (sSet 5 (eCallD (f__law_draw) (aCons (eVar 0) (aCons (eVal (pC (.int 7))) (aNil))))) (sSeq oF oG))))) := rfl
def seqd (d : PyData) (xs : List PyData) : Prop := d = .tuple xs ∨ d = .list xs
section
variable {ds xs ys : List PyData} {d dp : PyData} {p w : Option SV}
theorem g_ok (hd : seqd d xs) : ∃ r e', oG [some (.ino ds), some (.dat d), some (.dat dp), some (.own ys), p, w] = .rt (.dat r) (some (.ino ds) :: some (.dat d) :: some (.dat dp) :: e') ∧ seqd r ys := by
  unfold oG
  rcases hd with rfl | rfl
  · refine ⟨.tuple ys, [some (.own ys), p, w], ?_, .inl rfl⟩
    simp [isTy, kd, isK]
  · refine ⟨.list ys, [some (.dat (.list ys)), p, w], ?_, .inr rfl⟩
    simp [isTy, kd, isK]
theorem h_ok (hd : seqd d xs) : ∃ r e', oH [some (.ino ds), some (.dat d), some (.dat dp), some (.own ys), p, w] = .rt (.dat r) (some (.ino ds) :: some (.dat d) :: some (.dat dp) :: e') ∧ seqd r ys := by
  unfold oH
  rcases hd with rfl | rfl
  · refine ⟨.list ys, [some (.dat (.list ys)), p, w], ?_, .inr rfl⟩
    simp [isTy, kd, isK]
  · refine ⟨.tuple ys, [some (.own ys), p, w], ?_, .inl rfl⟩
    simp [isTy, kd, isK]
theorem ix_nat {n p : Nat} (h : p < n) : ixN n (p : Int) = some p := by
  unfold ixN
  rw [if_pos (by omega),
        if_pos (by omega)]
  rfl
section
variable {p : Nat}
abbrev oE (ds : List PyData) (d dp : PyData) (xs : List PyData) (p : Nat) (w : Int) : PF.Env := [some (.ino ds), some (.dat d), some (.dat dp), some (.own xs), some (.dat (.int p)), some (.dat (.int w))]
theorem f0_ok (hp : p < xs.length) : oF (oE ds d dp xs p 0) = .nx (oE ds d dp (xs.eraseIdx p) p 0) := by
  have po : popO xs [.int p] = some (xs[p], xs.eraseIdx p) := by
    unfold popO
    dsimp only
    rw [if_pos ⟨by omega, by omega⟩, Int.toNat_natCast, List.getElem?_eq_getElem hp]
    rfl
  unfold oF
  simp [po]
theorem f1_ok (hp : p < xs.length) (hx : xs.length ≤ 1001) : oF (oE ds d dp xs p 1) = .nx (oE ds d dp (xs.take p ++ [xs[p]] ++ xs.drop p) p 1) := by
  have sl := sizeLine_eq
  have hpa : L2.atI xs (p : Int) = some xs[p] := by rw [at_nat hp, List.getElem?_eq_getElem hp]
  have io : insertO xs [.int p, xs[p]] = some (.none, xs.take p ++ [xs[p]] ++ xs.drop p) := by
    unfold insertO
    dsimp only
    rw [if_pos ⟨by omega, by omega, by omega⟩, Int.toNat_natCast]
  unfold oF
  simp [hpa, io]
theorem cut_fact (xs : List PyData) (p : Nat) : ∃ C : List PyData, C.length = min (p + 2) xs.length - p ∧ (∀ y ∈ C, y ∈ xs) ∧ sliceD (some (p : Int)) (some ((p : Int) + 2)) (.list xs) = some (.list C) := by
  have e2 : ((p + 2 : Nat) : Int) = (p : Int) + 2 := by omega
  refine ⟨cutD xs (some (p : Int)) (some ((p : Int) + 2)), ?_, fun y hy => ?_, rfl⟩
  · unfold cutD
    rw [← e2, HT.sIx_nat, HT.sIx_nat, List.length_take, List.length_drop]
    omega
  · unfold cutD at hy
    exact List.mem_of_mem_drop (List.mem_of_mem_take hy)
theorem f2_ok (hp : p < xs.length) (hx : xs.length ≤ 1001) : ∃ C : List PyData, C.length = min (p + 2) xs.length - p ∧ (∀ y ∈ C, y ∈ xs) ∧ oF (oE ds d dp xs p 2) = .nx (oE ds d dp (xs.take p ++ C.reverse ++ xs.drop (p + 2)) p 2) := by
  have sl := sizeLine_eq
  obtain ⟨C, cl, cm, s1⟩ := cut_fact xs p
  refine ⟨C, cl, cm, ?_⟩
  have st : cutStep 3 (.list C.reverse) (some (p : Int)) (some ((p : Int) + 2)) (oE ds d dp xs p 2) = .nx (oE ds d dp (xs.take p ++ C.reverse ++ xs.drop (p + 2)) p 2) := by
    have t1 : ((p : Int)).toNat = p := by omega
    have t2 : ((p : Int) + 2).toNat = p + 2 := by omega
    have cr : C.reverse.length = C.length := List.length_reverse
    unfold cutStep
    have o : PF.ownOf (oE ds d dp xs p 2)[3]? = some xs := rfl
    rw [o]
    dsimp only
    rw [if_pos ⟨by omega, by omega, by omega, by omega⟩, t1, t2]
    rfl
  unfold oF
  simp [s1, st]
theorem f3_ok {w : Int} {x : PyData} {ds' : List PyData} (hp : p < xs.length) (h3 : 3 ≤ w) (h6 : w < 6) (h : f__law_other_leaf [.ino ds, .dat xs[p]] = .ok (.dat x) [.ino ds', .dat xs[p]]) : oF (oE ds d dp xs p w) = .nx (oE ds' d dp (xs.set p x) p w) := by
  have hpa : L2.atI xs (p : Int) = some xs[p] := by rw [at_nat hp, List.getElem?_eq_getElem hp]
  have e1 := callD_lent1 (e := oE ds d dp xs p w) (j := 0) rfl h
  have c0 : ¬ w = 0 := by omega
  have c1 : ¬ w = 1 := by omega
  have c2 : ¬ w = 2 := by omega
  unfold oF
  simp [c0, c1, c2, h6, hpa, e1, ix_nat hp]
theorem f4_ok {w : Int} (h6 : 6 ≤ w) : oF (oE ds d dp xs p w) = oH (oE ds d dp xs p w) := by
  have c0 : ¬ w = 0 := by omega
  have c1 : ¬ w = 1 := by omega
  have c2 : ¬ w = 2 := by omega
  have c6 : ¬ w < 6 := by omega
  unfold oF
  simp [c0, c1, c2, c6]
end
/-- the step in the middle -/
theorem f_ok {n i n' i' l k : Nat} (hn' : 3 * n + 60 ≤ n') (hi' : i + 1000000 ≤ i') {p : Nat} {w : Int} (hn : n ≤ 300) (hi : 10 ^ 40 ≤ i) (hi2 : i ≤ 10 ^ 42) (hl8 : 8 ≤ l) (hl : l ≤ 1000) (hD : Dr ds) (hd : seqd d xs) (hp : p < xs.length) (hx : xs.length ≤ l) (hw : ∀ x ∈ xs, wf n i l k x) (w0 : 0 ≤ w) (w7 : w < 7) :
    (∃ ys ds', oF (oE ds d dp xs p w) = .nx (oE ds' d dp ys p w) ∧ Dr ds' ∧ ys.length ≤ l + 1 ∧ ∀ y ∈ ys, wf n' i' (l + 1) (k + 4) y) ∨
      ∃ r e', oF (oE ds d dp xs p w) = .rt (.dat r) (some (.ino ds) :: some (.dat d) :: some (.dat dp) :: e') ∧ seqd r xs := by
  have up : ∀ x ∈ xs, wf n' i' (l + 1) (k + 4) x := fun x hx => wf_mono (by omega) (by omega) (by omega) (by omega) (hw x hx)
  have hm : xs[p] ∈ xs := List.getElem_mem hp
  by_cases c0 : w = 0
  · subst c0
    refine .inl ⟨xs.eraseIdx p, ds, f0_ok hp, hD, ?_, fun y hy => up y (List.mem_of_mem_eraseIdx hy)⟩
    rw [List.length_eraseIdx]
    split <;> omega
  · by_cases c1 : w = 1
    · subst c1
      refine .inl ⟨xs.take p ++ [xs[p]] ++ xs.drop p, ds, f1_ok hp (by omega), hD, ?_, fun y hy => ?_⟩
      · simp only [List.length_append, List.length_take, List.length_drop, List.length_singleton]
        omega
      · rcases List.mem_append.mp hy with hy | hy
        · rcases List.mem_append.mp hy with hy | hy
          · exact up y (List.mem_of_mem_take hy)
          · rw [List.mem_singleton.mp hy]
            exact up _ hm
        · exact up y (List.mem_of_mem_drop hy)
    · by_cases c2 : w = 2
      · subst c2
        obtain ⟨C, cl, cm, q⟩ := f2_ok (ds := ds) (d := d) (dp := dp) hp (by omega)
        refine .inl ⟨_, ds, q, hD, ?_, fun y hy => ?_⟩
        · simp only [List.length_append, List.length_take, List.length_drop, List.length_reverse]
          omega
        · rcases List.mem_append.mp hy with hy | hy
          · rcases List.mem_append.mp hy with hy | hy
            · exact up y (List.mem_of_mem_take hy)
            · exact up y (cm y (List.mem_reverse.mp hy))
          · exact up y (List.mem_of_mem_drop hy)
      · by_cases c6 : w < 6
        · obtain ⟨x, ds', q1, q2, q3⟩ := leaf_ok hn hi hi2 (hw _ hm) hD
          refine .inl ⟨xs.set p x, ds', f3_ok hp (by omega) c6 q1, q3, by rw [List.length_set]; omega, fun y hy => ?_⟩
          rcases List.mem_or_eq_of_mem_set hy with hy | hy
          · exact up y hy
          · rw [hy]
            exact wf_mono hn' hi' (by omega) (by omega) q2
        · obtain ⟨r, e', q1, q2⟩ := h_ok (ds := ds) (ys := xs) (dp := dp) (p := some (.dat (.int p))) (w := some (.dat (.int w))) hd
          exact .inr ⟨r, e', (f4_ok (by omega)).trans q1, q2⟩
theorem other_ok {n i n' i' l : Nat} (hn' : 3 * n + 60 ≤ n') (hi' : i + 1000000 ≤ i') (hn : n ≤ 300) (hi : 10 ^ 40 ≤ i) (hi2 : i ≤ 10 ^ 42) (hl8 : 8 ≤ l) (hl : l ≤ 1000) : ∀ (f deep k : Nat) (ds : List PyData) (d : PyData) (xs : List PyData), deep < f → k ≤ 50 → seqd d xs → wf n i l k d → Dr ds →
    ∃ (r : PyData) (ys ds' : List PyData), f__law_otherwise f [.ino ds, .dat d, .dat (.int deep)] = .ok (.dat r) [.ino ds', .dat d, .dat (.int deep)] ∧ seqd r ys ∧ wf n' i' (l + 1) (k + 4) r ∧ Dr ds'
  | 0, deep, k, ds, d, xs, h, _, _, _, _ => absurd h (by omega)
  | f + 1, deep, k, ds, d, xs, h, hk, hs, hw, hD => by
    have sl := sizeLine_eq
    -- what stands in it
    obtain ⟨k', rfl, hx, hxs⟩ : ∃ k', k = k' + 1 ∧ xs.length ≤ l ∧ ∀ x ∈ xs, wf n i l k' x := by
      rcases hs with rfl | rfl
      · exact wf_tup hw
      · exact wf_lst hw
    have mk : ∀ {r : PyData} {ys : List PyData}, seqd r ys → ys.length ≤ l + 1 → (∀ y ∈ ys, wf n' i' (l + 1) (k' + 4) y) → wf n' i' (l + 1) (k' + 1 + 4) r := fun {r ys} h1 h2 h3 => by
      rcases h1 with rfl | rfl
      · exact ⟨h2, h3⟩
      · exact ⟨h2, h3⟩
    have hlst : listD [d] = some xs := by rcases hs with rfl | rfl <;> rfl
    have sh : SeqAt.shaped (.list xs) = true := wf_shaped (n := n) (i := i) (l := l) (k := k' + 1) (by omega) ⟨hx, hxs⟩
    have eq0 := eqD_wf (d := .list xs) (e := .list []) sh (by decide +kernel)
    rw [eqv_nil] at eq0
    unfold f__law_otherwise runBody
    rw [o_eq]
    cases hxe : xs with
    | nil =>
      subst hxe
      obtain ⟨x, ds1, q1, q2, q3⟩ := thing_ok 5 1 ds (by omega) hD
      have e1 := callD_lent1 (e := [some (.ino ds), some (.dat d), some (.dat (.int deep)), some (.own []), none, none]) (j := 0) rfl q1
      refine ⟨.tuple [x], [x], ds1, ?_, .inl rfl, mk (.inl rfl) (by simp) (fun y hy => ?_), q3⟩
      · have eq0 : eqD (.list []) (.list []) = some (.bool true) := eq0
        simp at e1
        simp [hlst, eq0, e1, sizeLine, outsOf]
      · rw [List.mem_singleton.mp hy]
        exact wf_mono (by omega) (by omega) (by omega) (by omega) q2
    | cons x0 xr =>
      have hpos : 1 ≤ xs.length := by rw [hxe]; simp
      have eq1 : eqD (.list xs) (.list []) = some (.bool false) := by rw [eq0, hxe]; rfl
      clear hxe
      obtain ⟨v, ds1, v1, v2, d1, c1⟩ := draw_call hD xs.length (by omega) (by omega)
      obtain ⟨p, rfl⟩ := Int.eq_ofNat_of_zero_le v1
      have hp : p < xs.length := by omega
      have e1 := c1 [some (.ino ds), some (.dat d), some (.dat (.int deep)), some (.own xs), none, none] 0 rfl
      have hpa : L2.atI xs (p : Int) = some xs[p] := by rw [at_nat hp, List.getElem?_eq_getElem hp]
      have hm : xs[p] ∈ xs := List.getElem_mem hp
      -- the rest behind the part within
      have rest : ∀ ds2, Dr ds2 → ∃ (r : PyData) (ys ds' e' : _), sSeq (sSet 5 (eCallD (f__law_draw) (aCons (eVar 0) (aCons (eVal (pC (.int 7))) (aNil))))) (sSeq oF oG) [some (.ino ds2), some (.dat d), some (.dat (.int deep)), some (.own xs), some (.dat (.int p)), none] = .rt (.dat r) (some (.ino ds') :: some (.dat d) :: some (.dat (.int deep)) :: e') ∧ seqd r ys ∧ ys.length ≤ l + 1 ∧ (∀ y ∈ ys, wf n' i' (l + 1) (k' + 4) y) ∧ Dr ds' := fun ds2 hD2 => by
        obtain ⟨w, ds3, w1, w2, d3, c3⟩ := draw_call hD2 7 (by omega) (by omega)
        have e3 := c3 [some (.ino ds2), some (.dat d), some (.dat (.int deep)), some (.own xs), some (.dat (.int p)), none] 0 rfl
        rcases f_ok (ds := ds3) (dp := .int deep) hn' hi' hn hi hi2 hl8 hl d3 hs hp hx hxs w1 w2 with ⟨ys, ds4, q1, q2, q3, q4⟩ | ⟨r, e', q1, q2⟩
        · obtain ⟨r, e', g1, g2⟩ := g_ok (ds := ds4) (ys := ys) (dp := .int deep) (p := some (.dat (.int p))) (w := some (.dat (.int w))) hs
          refine ⟨r, ys, ds4, e', ?_, g2, q3, q4, q2⟩
          simp [e3, q1, g1]
        · refine ⟨r, xs, ds3, e', ?_, q2, by omega, fun y hy => wf_mono (by omega) (by omega) (by omega) (by omega) (hxs y hy), d3⟩
          simp [e3, q1]
      have fin : ∀ ds2, Dr ds2 → oD (f__law_otherwise f) [some (.ino ds1), some (.dat d), some (.dat (.int deep)), some (.own xs), some (.dat (.int p)), none] = .nx [some (.ino ds2), some (.dat d), some (.dat (.int deep)), some (.own xs), some (.dat (.int p)), none] →
          ∃ (r : PyData) (ys ds' : List PyData), (match sSeq (sSetO 3 (eCallBO listD (aCons (eVar 1) (aNil)))) (sSeq (sIf (eTest (eOp eqD (eVar 3) (eVal (eFrz (eLst (pNil)))))) (sRet (eTup (pCons (eCallD (f__law_thing 5) (aCons (eVar 0) (aCons (eVal (pC (.int 1))) (aNil)))) (pNil)))) (sSkip)) (sSeq (sSet 4 (eCallD (f__law_draw) (aCons (eVar 0) (aCons (eVal (eCallB lenD (aCons (eVar 3) (aNil)))) (aNil))))) (sSeq (oD (f__law_otherwise f)) (sSeq (sSet 5 (eCallD (f__law_draw) (aCons (eVar 0) (aCons (eVal (pC (.int 7))) (aNil))))) (sSeq oF oG))))) [some (.ino ds), some (.dat d), some (.dat (.int deep)), none, none, none] with
            | .rt r e => match outsOf [.ino ds, .dat d, .dat (.int deep)] e with
              | some o => FR.ok r o
              | none => .bad
            | .nx e => match outsOf [.ino ds, .dat d, .dat (.int deep)] e with
              | some o => .ok (.dat .none) o
              | none => .bad
            | .exc x e => match outsOf [.ino ds, .dat d, .dat (.int deep)] e with
              | some o => .exc x o
              | none => .bad
            | _ => .bad) = .ok (.dat r) [.ino ds', .dat d, .dat (.int deep)] ∧ seqd r ys ∧ wf n' i' (l + 1) (k' + 1 + 4) r ∧ Dr ds' := fun ds2 h2 hq => by
        obtain ⟨r, ys, ds', e', q1, q2, q3, q4, q5⟩ := rest ds2 h2
        refine ⟨r, ys, ds', ?_, q2, mk q2 q3 q4, q5⟩
        simp only [sSeq_ap] at q1
        simp [hlst, eq1, e1, hq] at q1 ⊢
        simp [q1, outsOf]
      by_cases hin : isTy .tuple xs[p] = true ∨ isTy .list xs[p] = true
      · by_cases hdp : 0 < deep
        · have hdp' : (0 : Int) < deep := by omega
          obtain ⟨w, ds2, w1, w2, d2, c2⟩ := draw_call d1 4 (by omega) (by omega)
          have e2 := c2 [some (.ino ds1), some (.dat d), some (.dat (.int deep)), some (.own xs), some (.dat (.int p)), none] 0 rfl
          by_cases hw0 : 0 < w
          · -- within
            obtain ⟨zs, hz⟩ : ∃ zs, seqd xs[p] zs := by
              cases hq : xs[p] with
              | tuple zs => exact ⟨zs, .inl rfl⟩
              | list zs => exact ⟨zs, .inr rfl⟩
              | _ => rw [hq] at hin; simp [isTy, kd, isK] at hin
            obtain ⟨r, ys, ds3, q1, q2, q3, q4⟩ := other_ok hn' hi' hn hi hi2 hl8 hl f (deep - 1) k' ds2 xs[p] zs (by omega) (by omega) hz (hxs _ hm) d2
            have ed : ((deep - 1 : Nat) : Int) = (deep : Int) - 1 := by omega
            rw [ed] at q1
            have e3 := callD_lent2 (e := [some (.ino ds2), some (.dat d), some (.dat (.int deep)), some (.own xs), some (.dat (.int p)), none]) (j := 0) rfl q1
            obtain ⟨r2, e', g1, g2⟩ := g_ok (ds := ds3) (ys := xs.set p r) (dp := .int deep) (p := some (.dat (.int p))) (w := none) hs
            refine ⟨r2, xs.set p r, ds3, ?_, g2, mk g2 (by rw [List.length_set]; omega) (fun y hy => ?_), q4⟩
            · rcases hin with hin | hin <;> simp [hlst, eq1, e1, oD, hpa, hin, hdp', hdp, e2, hw0, e3, ix_nat hp, g1, outsOf]
            · rcases List.mem_or_eq_of_mem_set hy with hy | hy
              · exact wf_mono (by omega) (by omega) (by omega) (by omega) (hxs y hy)
              · rw [hy]
                exact wf_mono (Nat.le_refl _) (Nat.le_refl _) (Nat.le_refl _) (by omega) q3
          · refine fin ds2 d2 ?_
            rcases hin with hin | hin <;> simp [oD, hpa, hin, hdp', hdp, e2, hw0]
        · have hdp' : ¬ (0 : Int) < deep := by omega
          refine fin ds1 d1 ?_
          rcases hin with hin | hin <;> simp [oD, hpa, hin, hdp', hdp]
      · refine fin ds1 d1 ?_
        have h1 : isTy .tuple xs[p] = false := by
          cases q : isTy .tuple xs[p] with
          | false => rfl
          | true => exact absurd (.inl q) hin
        have h2 : isTy .list xs[p] = false := by
          cases q : isTy .list xs[p] with
          | false => rfl
          | true => exact absurd (.inr q) hin
        simp [oD, hpa, h1, h2]
end
end K01
/-! P04: k01: the law is true. -/
namespace K01
open PySem PySem.Spec L2 PF
open PyProof.Rows hiding St b2i cutD putAll
open PF (Sem)

def S1 : List PyData := [.tuple [.tuple [.str "id", .str "key"], .tuple [.str "n", .str "data"]], .tuple [.tuple [.str "id", .str "key"], .tuple [.str "mail", .str "key"], .tuple [.str "n", .str "data"]], .tuple [.tuple [.str "id", .str "key"], .tuple [.str "mail", .str "key"], .tuple [.str "n", .str "data"]], .tuple [.tuple [.str "x", .str "data"], .tuple [.str "b", .str "key"], .tuple [.str "y", .str "data"], .tuple [.str "a", .str "key"]], .tuple [.tuple [.str "a", .str "key"], .tuple [.str "b", .str "key"], .tuple [.str "c", .str "key"]], .tuple [.tuple [.str "abcdefgh", .str "key"]]]
theorem schemas_ok (e : PF.Env) : call0D f__law_schemas e = .ok (.list S1) e := by
  unfold call0D f__law_schemas runBody m__law_schemas
  simp [sizeLine, List.replicate, outsOf]
  rfl
theorem S1_wf : ∀ d ∈ S1, wf 8 (10 ^ 40) 4 2 d := wfB_all (by decide +kernel)
theorem S1_tup {d : PyData} (h : d ∈ S1) : ∃ cs, d = .tuple cs := by
  simp [S1] at h
  rcases h with rfl | rfl | rfl | rfl | rfl <;> exact ⟨_, rfl⟩
theorem truly_ok (b : Bool) : f__law_truly [.dat (.bool b), .dat (.bool b)] = .ok (.dat (.bool true)) [.dat (.bool b), .dat (.bool b)] := by
  unfold f__law_truly runBody m__law_truly
  cases b <;> simp [isTy, kd, isK, outsOf]
def chk : B := sIf (eNotB (eTest (eCallD (f__law_truly) (aCons (eVal (eCallD (f_is_schema) (aCons (eVal (eName 6)) (aNil)))) (aCons (eVal (eCallD (f__law_is_schema) (aCons (eVal (eName 6)) (aNil)))) (aNil)))))) (sRet (pC (.bool false))) (sSkip)
theorem chk_ok {d : PyData} (h : Fit 60 d) {e : PF.Env} (he : e[6]? = some (some (.dat d))) : chk e = .nx e := by
  have e1 := callD_v1 (e := e) (schema_ok (Nat.le_refl 60) d h)
  have e2 := callD_v1 (e := e) (lschema_ok (Nat.le_refl 60) d h)
  have e3 := callD_v2 (e := e) (truly_ok (schemaB d))
  unfold chk
  simp [he, e1, e2, e3]
theorem chk_all {x0 x1 x2 x3 x4 x5 : Option SV} : ∀ (ds : List PyData) (x6 : Option SV), (∀ d ∈ ds, Fit 60 d) → ∃ y, forM (sName 6) chk ds [x0, x1, x2, x3, x4, x5, x6] = .nx [x0, x1, x2, x3, x4, x5, y]
  | [], x6, _ => ⟨x6, rfl⟩
  | d :: ds, x6, h => by
    obtain ⟨y, hy⟩ := chk_all ds (some (.dat d)) fun x hx => h x (List.mem_cons_of_mem _ hx)
    refine ⟨y, ?_⟩
    rw [for_cons (s := sName 6) (e1 := [x0, x1, x2, x3, x4, x5, some (.dat d)]) rfl, chk_ok (h d List.mem_cons_self) rfl]
    exact hy
theorem start_call {ns : List Int} {sv : SV} {k : Nat} (hs : sv = .scr (ns.map .int) ∨ sv = .ino (ns.map .int)) (hl : ns.length ≤ 63) (hk : k ≤ 63) (r : PF.Env) : ∃ ds : List PyData, callO f__law_draws [.var 0, .val (.int k)] (some sv :: r) = .ok ds (some sv :: r) ∧ Dr ds := by
  obtain ⟨ds, q1, q2⟩ := draws_ok hs hl hk
  refine ⟨ds, ?_, q2⟩
  rw [fds_eq]
  unfold callO callRes
  rcases hs with rfl | rfl
  · simp [argSVs, argSV, outPairs, q1, kindsOk, putAll]
  · simp [argSVs, argSV, outPairs, q1, kindsOk, putAll]
def cE : PyData := .tuple [.tuple [.str "e", .str "key"]]
def cD : PyData := .tuple [.tuple [.str "e", .str "data"]]
def lawB : B := (sSeq (sSetO 2 (eCallO (f__law_draws) (aCons (eVar 0) (aCons (eVal (eName 1)) (aNil))))) (sSeq (sSet 3 (eCallD (f__law_of) (aCons (eVar 2) (aCons (eVal (call0D f__law_schemas)) (aNil))))) (sSeq (sSet 4 (eCallD (f__law_otherwise 5) (aCons (eVar 2) (aCons (eVal (eName 3)) (aCons (eVal (pC (.int 2))) (aNil)))))) (sSeq (sSetO 5 (eLst (pCons (eName 3) (pCons (eName 4) (pCons (eFrz (eCallBO listD (aCons (eVar 3) (aNil)))) (pCons (eRev (eVar 3)) (pCons (eOp addB (eVar 3) (eVal (eSlice (eVar 3) (M.pure none) (ePart (pC (.int 1)))))) (pCons (eOp addB (eVar 3) (eVal (eTup (pCons (eTup (pCons (pC (.str "e")) (pCons (pC (.str "key")) (pNil)))) (pNil))))) (pNil))))))))) (sSeq (sSetO 5 (eCat (eVar 5) (eVal (eFrz (eLst (pCons (eOp addB (eVar 3) (eVal (eTup (pCons (eTup (pCons (pC (.str "e")) (pCons (pC (.str "data")) (pNil)))) (pNil))))) (pCons (eSlice (eVar 3) (M.pure none) (ePart (pC (.int 1)))) (pCons (eSlice (eVar 3) (ePart (pC (.int 1))) (M.pure none)) (pCons (eTup (pNil)) (pCons (eCallD (f__law_thing 5) (aCons (eVar 2) (aCons (eVal (pC (.int 3))) (aNil)))) (pNil))))))))))) (sSeq (sExpr (eMethO 5 appendO (pCons (eIf (eTest (eOp ninD (eVar 4) (eVal (eTup (pCons (eTup (pNil)) (pCons (eFrz (eLst (pNil))) (pNil))))))) (eCallD (f__law_otherwise 5) (aCons (eVar 2) (aCons (eVal (eName 4)) (aCons (eVal (pC (.int 2))) (aNil))))) (eName 4)) (pNil)))) (sFor (eSeq (eName 5)) (sName 6) chk)))))))
theorem law_eq : m_law = sSeq (sFor (eCallI range1D (pCons (eCallB maxD (aCons (eVal (pC (.int 1))) (aCons (eVal (eCallB minD (aCons (eVal (pC (.int 30))) (aCons (eVal (eLenS 0)) (aNil))))) (aNil)))) (pNil))) (sName 1) lawB) (sRet (eOp isD (eVal (eCallD (f_is_schema) (aCons (eVal (eTup (pCons (eTup (pCons (pC (.str "a")) (pCons (pC (.str "key")) (pNil)))) (pCons (eTup (pCons (pC (.str "b")) (pCons (pC (.str "key")) (pNil)))) (pCons (eTup (pCons (pC (.str "c")) (pCons (pC (.str "key")) (pNil)))) (pCons (eTup (pCons (pC (.str "d")) (pCons (pC (.str "key")) (pNil)))) (pNil))))))) (aNil)))) (eVal (pC (.bool false))))) := rfl
theorem cut_mem {α : Type} {xs : List α} {lo hi : Option Int} : (∀ y ∈ cutD xs lo hi, y ∈ xs) ∧ (cutD xs lo hi).length ≤ xs.length := by
  unfold cutD
  refine ⟨fun y hy => List.mem_of_mem_drop (List.mem_of_mem_take hy), ?_⟩
  rw [List.length_take,
        List.length_drop]
  omega
theorem bod_ok {ns : List Int} {sv : SV} {k : Nat} (hs : sv = .scr (ns.map .int) ∨ sv = .ino (ns.map .int)) (hl : ns.length ≤ 63) (hk : k ≤ 63) {x2 x3 x4 x5 x6 : Option SV} :
    ∃ y1 y2 y3 y4 y5 y6, lawB [some sv, some (.dat (.int k)), x2, x3, x4, x5, x6] = .nx [some sv, y1, y2, y3, y4, y5, y6] := by
  have sl := sizeLine_eq
  obtain ⟨ds, q1, d1⟩ := start_call hs hl hk [some (.dat (.int k)), x2, x3, x4, x5, x6]
  obtain ⟨c, ds2, c1, d2, q2⟩ := of_call (xs := S1) (d := .list S1) d1 (by decide) (by decide) (.inl rfl)
  have q2 := q2 [some sv, some (.dat (.int k)), some (.own ds), x3, x4, x5, x6] 2 rfl
  obtain ⟨cs, rfl⟩ := S1_tup c1
  have cw := S1_wf _ c1
  have cw8 : wf 8 (10 ^ 40) 8 2 (.tuple cs) := wf_mono (Nat.le_refl _) (Nat.le_refl _) (by omega) (Nat.le_refl _) cw
  obtain ⟨o, os, ds3, q3, s3, w3, d3⟩ := other_ok (n := 8) (i := 10 ^ 40) (n' := 100) (i' := 10 ^ 41) (l := 8) (by omega) (by decide +kernel) (by omega) (Nat.le_refl _) (by decide +kernel) (by omega) (by omega) 5 2 2 ds2 (.tuple cs) cs (by omega) (by omega) (.inl rfl) cw8 d2
  have q3 := callD_lent2 (e := [some sv, some (.dat (.int k)), some (.own ds2), some (.dat (.tuple cs)), x4, x5, x6]) (j := 2) rfl q3
  obtain ⟨t, ds4, q4, w4, d4⟩ := thing_ok 5 3 ds3 (by omega) d3
  have q4 := fun x5 : Option SV => callD_lent1 (e := [some sv, some (.dat (.int k)), some (.own ds3), some (.dat (.tuple cs)), some (.dat o), x5, x6]) (j := 2) rfl q4
  obtain ⟨u, us, ds5, q5, s5, w5, d5⟩ := other_ok (n := 100) (i := 10 ^ 41) (n' := 400) (i' := 10 ^ 43) (l := 9) (by omega) (by decide +kernel) (by omega) (by decide +kernel) (by decide +kernel) (by omega) (by omega) 5 2 6 ds4 o os (by omega) (by omega) s3 w3 d4
  have q5 := fun x5 : Option SV => callD_lent2 (e := [some sv, some (.dat (.int k)), some (.own ds4), some (.dat (.tuple cs)), some (.dat o), x5, x6]) (j := 2) rfl q5
  simp only [show ((2 : Nat) : Int) = 2 from rfl] at q3 q5
  simp only [show ((3 : Nat) : Int) = 3 from rfl] at q4
  have hcl : cs.length ≤ 4 := cw.1
  have hce : ∀ z ∈ cs, wf 8 (10 ^ 40) 4 1 z := cw.2
  have nin := (inD_tup (d := o) (ds := [.tuple [], .list []]) (wf_shaped (by omega) w3) (by decide +kernel)).2
  generalize hb : ([PyData.tuple [], .list []].any fun z => PyData.eqv z o) = b at nin
  have a1 : addB (.tuple cs) (.tuple (cutD cs none (some 1))) = some (.tuple (cs ++ cutD cs none (some 1))) := by
    rw [addB_tt, if_pos]
    have := (cut_mem (xs := cs) (lo := none) (hi := some 1)).2
    omega
  have a2 : addB (.tuple cs) (.tuple [.tuple [.str "e", .str "key"]]) = some (.tuple (cs ++ [.tuple [.str "e", .str "key"]])) := by
    rw [addB_tt, if_pos]
    simp
    omega
  have a3 : addB (.tuple cs) (.tuple [.tuple [.str "e", .str "data"]]) = some (.tuple (cs ++ [.tuple [.str "e", .str "data"]])) := by
    rw [addB_tt, if_pos]
    simp
    omega
  have s1 : sliceD none (some 1) (.tuple cs) = some (.tuple (cutD cs none (some 1))) := rfl
  have s2 : sliceD (some 1) none (.tuple cs) = some (.tuple (cutD cs (some 1) none)) := rfl
  -- the things
  have up : ∀ z ∈ cs, Fit 59 z := fun z hz => wf_mono (by omega) (by decide +kernel) (by omega) (by omega) (hce z hz)
  have tf : ∀ zs : List PyData, (∀ z ∈ zs, Fit 59 z) → zs.length ≤ 1000 → Fit 60 (.tuple zs) := fun zs h1 h2 => ⟨h2, h1⟩
  have lf : ∀ zs : List PyData, (∀ z ∈ zs, Fit 59 z) → zs.length ≤ 1000 → Fit 60 (.list zs) := fun zs h1 h2 => ⟨h2, h1⟩
  have ek : Fit 59 (.tuple [.str "e", .str "key"]) := wfB_ok (by decide +kernel)
  have ed : Fit 59 (.tuple [.str "e", .str "data"]) := wfB_ok (by decide +kernel)
  have app : ∀ {xs ys : List PyData}, (∀ z ∈ xs, Fit 59 z) → (∀ z ∈ ys, Fit 59 z) → ∀ z ∈ xs ++ ys, Fit 59 z := fun h1 h2 z hz => (List.mem_append.mp hz).elim (h1 z) (h2 z)
  have one : ∀ {x : PyData}, Fit 59 x → ∀ z ∈ [x], Fit 59 z := fun h z hz => by
    rw [List.mem_singleton.mp hz]
    exact h
  have cut := fun (lo hi : Option Int) => cut_mem (xs := cs) (lo := lo) (hi := hi)
  have fo : Fit 60 o := wf_mono (by omega) (by decide +kernel) (by omega) (by omega) w3
  have ft : Fit 60 t := wf_mono (by omega) (by decide +kernel) (by omega) (by omega) w4
  have fu : Fit 60 u := wf_mono (by omega) (by decide +kernel) (by omega) (by omega) w5
  have all : ∀ last, Fit 60 last → ∀ d ∈ [.tuple cs, o, .list cs, .tuple cs.reverse, .tuple (cs ++ cutD cs none (some 1)), .tuple (cs ++ [.tuple [.str "e", .str "key"]]), .tuple (cs ++ [.tuple [.str "e", .str "data"]]), .tuple (cutD cs none (some 1)), .tuple (cutD cs (some 1) none), .tuple [], t, last], Fit 60 d := fun last hla d hd => by
    simp only [List.mem_cons, List.not_mem_nil, or_false] at hd
    have c1 := (cut none (some 1)).2
    have c2 := (cut (some 1) none).2
    rcases hd with rfl | rfl | rfl | rfl | rfl | rfl | rfl | rfl | rfl | rfl | rfl | rfl
    · exact tf _ up (by omega)
    · exact fo
    · exact lf _ up (by omega)
    · exact tf _ (fun z hz => up z (List.mem_reverse.mp hz)) (by rw [List.length_reverse]; omega)
    · exact tf _ (app up fun z hz => up z ((cut none (some 1)).1 z hz)) (by rw [List.length_append]; omega)
    · exact tf _ (app up (one ek)) (by rw [List.length_append, List.length_singleton]; omega)
    · exact tf _ (app up (one ed)) (by rw [List.length_append, List.length_singleton]; omega)
    · exact tf _ (fun z hz => up z ((cut none (some 1)).1 z hz)) (by omega)
    · exact tf _ (fun z hz => up z ((cut (some 1) none).1 z hz)) (by omega)
    · exact tf _ (fun z hz => by cases hz) (by simp)
    · exact ft
    · exact hla
  cases b with
  | true =>
    obtain ⟨y, hy⟩ := chk_all (x0 := some sv) (x1 := some (.dat (.int k))) (x2 := some (.own ds4)) (x3 := some (.dat (.tuple cs))) (x4 := some (.dat o)) (x5 := some (.dat (.list [.tuple cs, o, .list cs, .tuple cs.reverse, .tuple (cs ++ cutD cs none (some 1)), .tuple (cs ++ [.tuple [.str "e", .str "key"]]), .tuple (cs ++ [.tuple [.str "e", .str "data"]]), .tuple (cutD cs none (some 1)), .tuple (cutD cs (some 1) none), .tuple [], t, o]))) _ x6 (all o fo)
    refine ⟨some (.dat (.int k)), some (.own ds4), some (.dat (.tuple cs)), some (.dat o), some (.dat (.list [.tuple cs, o, .list cs, .tuple cs.reverse, .tuple (cs ++ cutD cs none (some 1)), .tuple (cs ++ [.tuple [.str "e", .str "key"]]), .tuple (cs ++ [.tuple [.str "e", .str "data"]]), .tuple (cutD cs none (some 1)), .tuple (cutD cs (some 1) none), .tuple [], t, o])), y, ?_⟩
    unfold lawB
    simp [q1, schemas_ok, q2, q3, a1, a2, a3, s1, s2, q4, nin, appendO, sizeLine, hy]
  | false =>
    obtain ⟨y, hy⟩ := chk_all (x0 := some sv) (x1 := some (.dat (.int k))) (x2 := some (.own ds5)) (x3 := some (.dat (.tuple cs))) (x4 := some (.dat o)) (x5 := some (.dat (.list [.tuple cs, o, .list cs, .tuple cs.reverse, .tuple (cs ++ cutD cs none (some 1)), .tuple (cs ++ [.tuple [.str "e", .str "key"]]), .tuple (cs ++ [.tuple [.str "e", .str "data"]]), .tuple (cutD cs none (some 1)), .tuple (cutD cs (some 1) none), .tuple [], t, u]))) _ x6 (all u fu)
    refine ⟨some (.dat (.int k)), some (.own ds5), some (.dat (.tuple cs)), some (.dat o), some (.dat (.list [.tuple cs, o, .list cs, .tuple cs.reverse, .tuple (cs ++ cutD cs none (some 1)), .tuple (cs ++ [.tuple [.str "e", .str "key"]]), .tuple (cs ++ [.tuple [.str "e", .str "data"]]), .tuple (cutD cs none (some 1)), .tuple (cutD cs (some 1) none), .tuple [], t, u])), y, ?_⟩
    unfold lawB
    simp [q1, schemas_ok, q2, q3, a1, a2, a3, s1, s2, q4, q5, nin, appendO, sizeLine, hy]
theorem last_ok (e : PF.Env) : callD f_is_schema [.val (.tuple [.tuple [.str "a", .str "key"], .tuple [.str "b", .str "key"], .tuple [.str "c", .str "key"], .tuple [.str "d", .str "key"]])] e = .ok (.bool false) e := by
  have h := schema_ok (k := 60) (Nat.le_refl 60) (.tuple [.tuple [.str "a", .str "key"], .tuple [.str "b", .str "key"], .tuple [.str "c", .str "key"], .tuple [.str "d", .str "key"]]) (wfB_ok (by decide +kernel))
  have z : schemaB (.tuple [.tuple [.str "a", .str "key"], .tuple [.str "b", .str "key"], .tuple [.str "c", .str "key"], .tuple [.str "d", .str "key"]]) = false := by decide +kernel
  rw [z] at h
  exact callD_v1 h
theorem law_sv {ns : List Int} {sv : SV} (hl : ns.length ≤ 63) (hs : sv = .scr (ns.map .int) ∨ sv = .ino (ns.map .int)) : ∃ o, f_law [sv] = .ok (.dat (.bool true)) o := by
  have hsc : scrOf (some (some sv)) = some (ns.map .int) := by rcases hs with rfl | rfl <;> rfl
  have hou : ∀ e : PF.Env, outsOf [sv] (some sv :: e) = some [sv] := fun e => by rcases hs with rfl | rfl <;> rfl
  generalize hv : gr 1 (le1 30 (ns.length : Int)) = v
  have v1 : 1 ≤ v ∧ v ≤ 30 := by
    rw [← hv]
    unfold gr le1
    repeat' split
    all_goals omega
  have r1 : range1D [.int v] = some (rangeD 0 v.toNat) := by
    have sl := sizeLine_eq
    unfold range1D
    dsimp only
    rw [if_pos (by omega)]
  obtain ⟨e', h1, y1, y2, y3, y4, y5, y6, rfl⟩ := for_inv (s := sName 1) (body := lawB) (I := fun e => ∃ y1 y2 y3 y4 y5 y6, e = [some sv, y1, y2, y3, y4, y5, y6]) (rangeD 0 v.toNat) [some sv, none, none, none, none, none, none] ⟨_, _, _, _, _, _, rfl⟩ (fun d hd e ⟨y1, y2, y3, y4, y5, y6, he⟩ => by
    subst he
    unfold rangeD at hd
    obtain ⟨i, hi, rfl⟩ := List.mem_map.mp hd
    have hi := List.mem_range.mp hi
    have ei : (0 : Int) + (i : Nat) = (i : Nat) := by omega
    obtain ⟨z1, z2, z3, z4, z5, z6, hz⟩ := bod_ok (k := i) (x2 := y2) (x3 := y3) (x4 := y4) (x5 := y5) (x6 := y6) hs hl (by omega)
    refine ⟨[some sv, some (.dat (.int i)), y2, y3, y4, y5, y6], _, ?_, .inl hz, ⟨_, _, _, _, _, _, rfl⟩⟩
    rw [ei]
    rfl)
  refine ⟨[sv], ?_⟩
  unfold f_law runBody
  rw [law_eq]
  have isF : isD (.bool false) (.bool false) = some (.bool true) := rfl
  simp [hsc, hv, r1, List.replicate, h1, last_ok, sizeLine, isF, hou]
theorem law_true : LawTrue f_law := fun ns hl => ⟨law_sv hl (.inl rfl), law_sv hl (.inr rfl)⟩
end K01
open PySem PySem.W
      PySem.Calls PyProof.Rows
set_option maxHeartbeats 0 in
theorem PySem.Challenge.cw_putagain_k01_what_is_a_schema_holds : PySem.Challenge.rw_putagain_k01_what_is_a_schema.Holds := by
  w_on; o_law
  refine HandSHeadRun.head_any (r := OpenLaw.row PySem.Challenge.rw_putagain_k01_what_is_a_schema) (q := view (OpenLaw.row PySem.Challenge.rw_putagain_k01_what_is_a_schema).prog [17]) (H := K01.hk) (ob := K01.ob) (M := 640) (loose := K01.loose) (d := HandSHeadRun.topDef (OpenLaw.row PySem.Challenge.rw_putagain_k01_what_is_a_schema).prog 17) (kwd := []) K01.ob_eq
    (by kernel_rfl) (fun s => by kernel_rfl) K01.run (by kernel_rfl) (by kernel_rfl) (by kernel_rfl) (by rfl) (by first | assumption | decide +kernel) (by decide +kernel) ⟨rfl, rfl, rfl, rfl, rfl, by decide +kernel⟩ ?hw ?hc
  case hw => w_witness2
  case hc =>
    refine PF.walk_ofX (l := PySem.Challenge.rw_putagain_k01_what_is_a_schema) (n := 63) (k := 16) (x := "script") rfl (by decide) (by kernel_rfl) ⟨rfl, by decide, by decide⟩ ?F
    intro w mg fa h Y G hmg0
    obtain ⟨K, KX, c⟩ := Y
    have hmg : mg ("law" :
          PySem.Str) = some (.ref fa) := by
      have e : (HandSHeadRun.topDef (OpenLaw.row PySem.Challenge.rw_putagain_k01_what_is_a_schema).prog 17).name = ("law" : PySem.Str) := by kernel_rfl
      rw [← e]
      exact hmg0
    obtain ⟨fd, hb, hF⟩ := K01.facts (P := (PySem.Challenge.rw_putagain_k01_what_is_a_schema).prog) (w := w) KX G hmg c
    exact ⟨K, fd, PF.spOf K mg 1 K01.f_law, KX, hb, fun H a ns hl _ hS => PF.law_sp K01.law_true H a ns hl hS, hF⟩
