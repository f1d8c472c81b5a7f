import PyProof.Rows.All
import Wide.All
import OpenK.AllK
import Wide.FinOn
import HandS.ForMost
import HandS.ForExc
import HandS.TupAny
import HandS.Deep
import HandS.Nested
import KE.SortData
import KE.LtData
import HandS.TupLe
import HandS.Style
import HandS.Zip
import HandS.IsInst
import HandS.More
import PyProof.ZipIter
import HandS.Zip0
import PyProof.Rows.ReprShort
import KE.KTupSum
import HandS.Conv
import HandS.TupMul
import KE.GoesEnum
import HandS.Exc
import HandS.EndTab
import HandS.SetFor
import HandS.TupSets
import KE.DataMinMax
import PySem.Challenge.RW_bittables_k30_whole_nearest_even_tallies
set_option Elab.async false
set_option linter.all false
set_option maxRecDepth 100000
set_option maxHeartbeats 4000000
namespace PF
open PySem PySem.Spec L2
inductive D where
  | non | bl (b : Bool) | int (i : Int) | str (s : Str)
  | tup (xs : List D) | lst (xs : List D) | rdl (xs : List D) | ins (c : Nat) (fs : List (Str × D)) | opq | fnv

/-- an exception: its class, its fields -/
structure Exc where
  c : Nat
  fs : List (Str × D)

/-- a slot: unset, a value that stays as it is, an own list or instance, a lent one, a lent one that has been frozen -/
inductive Sl where
  | un | fr (d : D) | ow (d : D) | ln (d : D) | lf (d : D)
abbrev En := List Sl

inductive R (α : Type) where
  | ok (a : α) (ρ : En)
  | ex (x : Exc) (ρ : En)
  | bad

def R.bind {α β : Type} : R α → (α → En → R β) → R β
  | .ok a ρ, f => f a ρ
  | .ex x ρ, _ => .ex x ρ
  | .bad, _ => .bad
/-- the classes' objects; the function that was handed in, what was frozen when it was made; the code tables of the defs -/
structure Cl where
  ad : Nat → Addr
  fn : Addr
  F0 : Hp
  T : List NdefX.NTab
instance : CoeFun Cl (fun _ => Nat → Addr) := ⟨Cl.ad⟩
def Le (F G : Hp) : Prop := ∀ a o, F a = some o → G a = some o
section
variable (K : PySem.W.Frag) (cl : Cl) (F : Hp)
mutual
inductive Den : V → D → Prop
  | non : Den .non .non
  | bl (b : Bool) : Den (.bl b) (.bl b)
  | int (i : Int) : Den (.int i) (.int i)
  | str (x : Str) : Den (.str x) (.str x)
  | opq {a : Addr} : F a = some (.dK []) → Den (.ref a) .opq
  | fnv : Le cl.F0 F → Den (.ref cl.fn) .fnv
  | lst {a : Addr} {vs : List V} {ds : List D} : F a = some (.lst vs) → DenL vs ds → Den (.ref a) (.lst ds)
  | rdl {a : Addr} {vs : List V} {ds : List D} : SqL K F a vs → DenL vs ds → Den (.ref a) (.rdl ds)
  | tup {a : Addr} {vs : List V} {ds : List D} : SqT K F a vs → DenL vs ds → Den (.ref a) (.tup ds)
  | ins {a dx : Addr} {c : Nat} {fv : List (Str × V)} {fs : List (Str × D)} : F a = some (.ins (cl c) dx fv) → F dx = some (.own a) → DenF fv fs → Den (.ref a) (.ins c fs)
inductive DenL : List V → List D → Prop
  | nil : DenL [] []
  | cons {v : V} {vs : List V} {d : D} {ds : List D} : Den v d → DenL vs ds → DenL (v :: vs) (d :: ds)
inductive DenF : List (Str × V) → List (Str × D) → Prop
  | nil : DenF [] []
  | cons {f : Str} {v : V} {vs : List (Str × V)} {d : D} {ds : List (Str × D)} : Den v d → DenF vs ds → DenF ((f, v) :: vs) ((f, d) :: ds)
end
end

theorem Le.refl (F : Hp) : Le F F := fun _ _ h => h
theorem Le.trans {F G H : Hp} (a : Le F G) (b : Le G H) : Le F H := fun x o h => b x o (a x o h)
theorem Le.rd {F G : Hp} (e : Le F G) {a : Addr} {u : HO} (h : Rd F a u) : Rd G a u := by
  rcases h with h | ⟨o, h⟩
  · exact .inl (e a _ h)
  · exact .inr ⟨o, e a _ h⟩
theorem Le.sqL {F G : Hp} (e : Le F G) {K : PySem.W.Frag} {a : Addr} {xs : List V} (h : SqL K F a xs) : SqL K G a xs := by
  rcases h with h | h
  · exact .inl (e.rd h)
  · exact .inr h
theorem Le.sqT {F G : Hp} (e : Le F G) {K : PySem.W.Frag} {a : Addr} {xs : List V} (h : SqT K F a xs) : SqT K G a xs := by
  rcases h with h | h
  · exact .inl (e.rd h)
  · exact .inr h
theorem Le.new {F : Hp} {p : Addr} {o : HO} (h : F p = none) : Le F (upd F p o) := fun a u e => by
  rw [upd_ne (ne_of_none e h)]; exact e
theorem Le.some {F G : Hp} (e : Le F G) {p : Addr} (h : F p ≠ none) : G p ≠ none := fun z => by
  cases q : F p with
  | none => exact h q
  | some o => rw [e p o q] at z; cases z
theorem Le.back {F G : Hp} (e : Le F G) {p : Addr} (h : G p = none) : F p = none := by
  cases q : F p with
  | none => rfl
  | some o => rw [e p o q] at h; cases h

section
variable {K : PySem.W.Frag} {cl : Cl} {F G : Hp}
mutual
theorem Den.le (e : Le F G) : ∀ {v : V} {d : D}, Den K cl F v d → Den K cl G v d
  | _, _, .non => .non
  | _, _, .bl b => .bl b
  | _, _, .int i => .int i
  | _, _, .str x => .str x
  | _, _, .opq h => .opq (e _ _ h)
  | _, _, .fnv h => .fnv fun a o q => e _ _ (h a o q)
  | _, _, .lst h t => .lst (e _ _ h) (DenL.le e t)
  | _, _, .rdl h t => .rdl (e.sqL h) (DenL.le e t)
  | _, _, .tup h t => .tup (e.sqT h) (DenL.le e t)
  | _, _, .ins h h2 t => .ins (e _ _ h) (e _ _ h2) (DenF.le e t)
theorem DenL.le (e : Le F G) : ∀ {vs : List V} {ds : List D}, DenL K cl F vs ds → DenL K cl G vs ds
  | _, _, .nil => .nil
  | _, _, .cons h t => .cons (Den.le e h) (DenL.le e t)
theorem DenF.le (e : Le F G) : ∀ {vs : List (Str × V)} {ds : List (Str × D)}, DenF K cl F vs ds → DenF K cl G vs ds
  | _, _, .nil => .nil
  | _, _, .cons h t => .cons (Den.le e h) (DenF.le e t)
end
theorem DenL.length : ∀ {vs : List V} {ds : List D}, DenL K cl F vs ds → vs.length = ds.length
  | _, _, .nil => rfl
  | _, _, .cons _ t => by simp [DenL.length t]
theorem DenL.get : ∀ {vs : List V} {ds : List D}, DenL K cl F vs ds → ∀ {i : Nat} {d : D}, ds[i]? = some d → ∃ v, vs[i]? = some v ∧ Den K cl F v d
  | _, _, .nil, i, d, h => by simp at h
  | _, _, .cons q t, 0, d, h => by simp at h; subst h; exact ⟨_, rfl, q⟩
  | _, _, .cons _ t, i + 1, d, h => by
    obtain ⟨v, h1, h2⟩ := DenL.get t (i := i) (d := d) (by simpa using h)
    exact ⟨v, by simpa using h1, h2⟩
theorem DenL.get' : ∀ {vs : List V} {ds : List D}, DenL K cl F vs ds → ∀ {i : Nat} {v : V}, vs[i]? = some v → ∃ d, ds[i]? = some d ∧ Den K cl F v d
  | _, _, .nil, i, d, h => by simp at h
  | _, _, .cons q t, 0, d, h => by simp at h; subst h; exact ⟨_, rfl, q⟩
  | _, _, .cons _ t, i + 1, d, h => by
    obtain ⟨v, h1, h2⟩ := DenL.get' t (i := i) (v := d) (by simpa using h)
    exact ⟨v, by simpa using h1, h2⟩
theorem DenL.append : ∀ {vs ws : List V} {ds es : List D}, DenL K cl F vs ds → DenL K cl F ws es → DenL K cl F (vs ++ ws) (ds ++ es)
  | _, _, _, _, .nil, h => h
  | _, _, _, _, .cons q t, h => .cons q (DenL.append t h)
theorem DenL.one {v : V} {d : D} (h : Den K cl F v d) : DenL K cl F [v] [d] := .cons h .nil
theorem DenL.take (n : Nat) : ∀ {vs : List V} {ds : List D}, DenL K cl F vs ds → DenL K cl F (vs.take n) (ds.take n) := by
  induction n with
  | zero => intro vs ds _; simpa using DenL.nil
  | succ n ih =>
    intro vs ds h
    cases h with
    | nil => exact .nil
    | cons q t => exact .cons q (ih t)
theorem DenL.drop (n : Nat) : ∀ {vs : List V} {ds : List D}, DenL K cl F vs ds → DenL K cl F (vs.drop n) (ds.drop n) := by
  induction n with
  | zero => intro vs ds h; exact h
  | succ n ih =>
    intro vs ds h
    cases h with
    | nil => exact .nil
    | cons q t => exact ih t
theorem DenL.set : ∀ {vs : List V} {ds : List D} (i : Nat) {v : V} {d : D}, DenL K cl F vs ds → Den K cl F v d → DenL K cl F (vs.set i v) (ds.set i d)
  | _, _, _, _, _, .nil, _ => .nil
  | _, _, 0, _, _, .cons _ t, h => .cons h t
  | _, _, i + 1, _, _, .cons q t, h => .cons q (DenL.set i t h)
theorem DenL.reverse : ∀ {vs : List V} {ds : List D}, DenL K cl F vs ds → DenL K cl F vs.reverse ds.reverse
  | _, _, .nil => .nil
  | _, _, .cons q t => by
    rw [List.reverse_cons, List.reverse_cons]
    exact (DenL.reverse t).append (.one q)
theorem DenF.look : ∀ {vs : List (Str × V)} {ds : List (Str × D)}, DenF K cl F vs ds → ∀ {f : Str} {d : D}, ds.lookup f = some d → ∃ v, vs.lookup f = some v ∧ Den K cl F v d
  | _, _, .nil, f, d, h => by simp at h
  | _, _, .cons (f := g) q t, f, d, h => by
    rw [List.lookup_cons] at h ⊢
    cases hb : f == g with
    | true => rw [hb] at h; cases h; exact ⟨_, rfl, q⟩
    | false => rw [hb] at h; exact DenF.look t h
/-- the fields, one put -/
def putD (f : Str) (d : D) : List (Str × D) → List (Str × D)
  | [] => [(f, d)]
  | (g, x) :: r => if g = f then (g, d) :: r else (g, x) :: putD f d r
theorem DenF.put {f : Str} {v : V} {d : D} (h : Den K cl F v d) : ∀ {vs : List (Str × V)} {ds : List (Str × D)}, DenF K cl F vs ds → DenF K cl F (putF f v vs) (putD f d ds)
  | _, _, .nil => .cons h .nil
  | _, _, .cons (f := g) q t => by
    unfold putF putD
    by_cases e : g = f
    · rw [if_pos e, if_pos e]; exact .cons h t
    · rw [if_neg e, if_neg e]; exact .cons q (DenF.put h t)
theorem DenF.length : ∀ {vs : List (Str × V)} {ds : List (Str × D)}, DenF K cl F vs ds → vs.length = ds.length
  | _, _, .nil => rfl
  | _, _, .cons _ t => by simp [DenF.length t]
end
inductive Own (K : PySem.W.Frag) (cl : Cl) (F H : Hp) (a : Addr) : D → Prop
  | lst {vs : List V} {ds : List D} : H a = some (.lst vs) → DenL K cl F vs ds → Own K cl F H a (.lst ds)
  | ins {dx : Addr} {c : Nat} {fv : List (Str × V)} {fs : List (Str × D)} : H a = some (.ins (cl c) dx fv) → H dx = some (.own a) → DenF K cl F fv fs → Own K cl F H a (.ins c fs)
theorem Own.there {K : PySem.W.Frag} {cl : Cl} {F H : Hp} {a : Addr} {d : D} (h : Own K cl F H a d) : ∃ o, H a = some o := by
  cases h with
  | lst h _ => exact ⟨_, h⟩
  | ins h _ _ => exact ⟨_, h⟩

def Sl.own? : Sl → Option D
  | .ow d => some d
  | .ln d => some d
  | _ => none

/-- a slot and what stands there -/
def SlOk (K : PySem.W.Frag) (cl : Cl) (F H : Hp) (x : Sl) (o : Option V) : Prop := match x with
  | .un => True
  | .fr d => ∃ v, o = some v ∧ Den K cl F v d
  | .ow d => ∃ a, o = some (.ref a) ∧ F a = none ∧ Own K cl F H a d
  | .ln d => ∃ a, o = some (.ref a) ∧ F a = none ∧ Own K cl F H a d
  | .lf d => ∃ a, o = some (.ref a) ∧ F a ≠ none ∧ Den K cl F (.ref a) d

/-- the addresses of the own objects -/
def Owned (σ : St) (ρ : En) (a : Addr) : Prop := ∃ (i : Nat) (x : Sl) (d : D), ρ[i]? = some x ∧ x.own? = some d ∧ σ[i]? = some (some (.ref a))

/-- the code tables: what they tell is known -/
def TabOk (T : List NdefX.NTab) (F H : Hp) : Prop := ∀ p ∈ T, ∃ ps : Array Value, H p.1 = some (.tbl ps) ∧ F p.1 = none ∧ TriplesOk ps.toList ∧ ∀ (pos : Pos) (cv : Value), codeAmong pos ps.toList = some cv → ∃ c, cv = .ref c ∧ F c = some (LamX.CodeO c (p.2 pos.line pos.col))
theorem TabOk.mono {T : List NdefX.NTab} {F H F' H' : Hp} (t : TabOk T F H) (le : Le F F') (k : ∀ a ps, H a = some (.tbl ps) → F a = none → H' a = some (.tbl ps) ∧ F' a = none) : TabOk T F' H' := fun p hp => by
  obtain ⟨ps, h1, h2, h3, h4⟩ := t p hp
  obtain ⟨k1, k2⟩ := k _ _ h1 h2
  refine ⟨ps, k1, k2, h3, fun pos cv e => ?_⟩
  obtain ⟨c, e1, e2⟩ := h4 pos cv e
  exact ⟨c, e1, le _ _ e2⟩
structure Corr (K : PySem.W.Frag) (cl : Cl) (F : Hp) (ρ : En) (σ : St) (H : Hp) : Prop where
  len : ρ.length = σ.length
  le : Le F H
  slot : ∀ (i : Nat) (x : Sl) (o : Option V), ρ[i]? = some x → σ[i]? = some o → SlOk K cl F H x o
  inj : ∀ (i j : Nat) (x y : Sl) (d e : D) (a : Addr), ρ[i]? = some x → ρ[j]? = some y → x.own? = some d → y.own? = some e → σ[i]? = some (some (.ref a)) → σ[j]? = some (some (.ref a)) → i = j
  tab : TabOk cl.T F H

/-- from one state to a later one -/
structure Step (F : Hp) (ρ : En) (σ : St) (H : Hp) (F' : Hp) (ρ' : En) (σ' : St) (H' : Hp) : Prop where
  le : Le F F'
  keep : ∀ a o, H a = some o → (∀ ps, o ≠ .tbl ps) → ¬ Owned σ ρ a → H' a = some o
  thaw : ∀ a o, H a = some o → (∀ b, o ≠ .own b) → ¬ Owned σ ρ a → F a = none → F' a = none
  tbl : ∀ a ps, H a = some (.tbl ps) → ∃ ps', H' a = some (.tbl ps')
  own : ∀ a, Owned σ' ρ' a → Owned σ ρ a ∨ H a = none
  live : ∀ a o, H a = some o → ∃ o', H' a = some o'
  ln : ∀ (i : Nat) (d : D), ρ[i]? = some (Sl.ln d) → σ'[i]? = σ[i]? ∧ ((∃ e : D, ρ'[i]? = some (Sl.ln e)) ∨ ∃ e : D, ρ'[i]? = some (Sl.lf e))
  lf : ∀ (i : Nat) (d : D), ρ[i]? = some (Sl.lf d) → σ'[i]? = σ[i]? ∧ ρ'[i]? = some (Sl.lf d)

theorem Step.refl (F : Hp) (ρ : En) (σ : St) (H : Hp) : Step F ρ σ H F ρ σ H := ⟨Le.refl _, fun _ _ h _ _ => h, fun _ _ _ _ _ h => h, fun _ ps h => ⟨ps, h⟩, fun _ h => .inl h, fun _ o h => ⟨o, h⟩, fun _ d h => ⟨rfl, .inl ⟨d, h⟩⟩, fun _ _ h => ⟨rfl, h⟩⟩
section
variable {F F1 F2 : Hp} {ρ ρ1 ρ2 : En} {σ σ1 σ2 : St} {H H1 H2 : Hp}
theorem Step.back (s : Step F ρ σ H F1 ρ1 σ1 H1) {a : Addr} (h : H1 a = none) : H a = none := by
  cases q : H a with
  | none => rfl
  | some o =>
    obtain ⟨o', e⟩ := s.live a o q
    rw [e] at h; cases h
theorem Step.trans (s : Step F ρ σ H F1 ρ1 σ1 H1) (t : Step F1 ρ1 σ1 H1 F2 ρ2 σ2 H2) : Step F ρ σ H F2 ρ2 σ2 H2 where
  le := s.le.trans t.le
  keep := fun a o h w n => t.keep a o (s.keep a o h w n) w fun z => (s.own a z).elim n fun e => by rw [h] at e; cases e
  thaw := fun a o h w n e => by
    have q : ∃ o1, H1 a = some o1 ∧ ∀ b, o1 ≠ .own b := by
      by_cases z : ∀ ps, o ≠ .tbl ps
      · exact ⟨o, s.keep a o h z n, w⟩
      · have : ∃ ps, o = .tbl ps := Classical.byContradiction fun y => z fun ps e => y ⟨ps, e⟩
        obtain ⟨ps, rfl⟩ := this
        obtain ⟨ps', e⟩ := s.tbl a ps h
        exact ⟨_, e, fun b e => by cases e⟩
    obtain ⟨o1, h1, w1⟩ := q
    exact t.thaw a o1 h1 w1 (fun z => (s.own a z).elim n fun e => by rw [h] at e; cases e) (s.thaw a o h w n e)
  tbl := fun a ps h => by
    obtain ⟨ps1, e⟩ := s.tbl a ps h
    exact t.tbl a ps1 e
  own := fun a h => (t.own a h).elim (fun z => s.own a z) fun z => .inr (s.back z)
  live := fun a o h => by
    obtain ⟨o', e⟩ := s.live a o h
    exact t.live a o' e
  ln := fun i d h => by
    obtain ⟨e1, h1 | ⟨e, h1⟩⟩ := s.ln i d h
    · obtain ⟨e, h1⟩ := h1
      obtain ⟨e2, h2⟩ := t.ln i e h1
      exact ⟨e2.trans e1, h2⟩
    · obtain ⟨e2, h2⟩ := t.lf i e h1
      exact ⟨e2.trans e1, .inr ⟨e, h2⟩⟩
  lf := fun i d h => by
    obtain ⟨e1, h1⟩ := s.lf i d h
    obtain ⟨e2, h2⟩ := t.lf i d h1
    exact ⟨e2.trans e1, h2⟩
end
end PF

namespace PF
open PySem PySem.Spec L2
structure Grow (F H F' H' : Hp) : Prop where
  le : Le F F'
  keep : Le H H'
  in' : Le F' H'
  thaw : ∀ a o, H a = some o → (∀ b, o ≠ .own b) → F a = none → F' a = none
theorem Grow.refl {F H : Hp} (h : Le F H) : Grow F H F H := ⟨Le.refl _, Le.refl _, h, fun _ _ _ _ e => e⟩
/-- a new frozen object -/
theorem Grow.new {F H : Hp} (h : Le F H) {p : Addr} (n : H p = none) (o : HO) : Grow F H (upd F p o) (upd H p o) where
  le := Le.new (h.back n)
  keep := Le.new n
  in' := fun a u e => by
    by_cases q : a = p
    · subst q; rw [upd_same] at e ⊢; exact e
    · rw [upd_ne q] at e ⊢; exact h a u e
  thaw := fun a o' e _ z => by rw [upd_ne (ne_of_none e n)]; exact z
/-- a new own object -/
theorem Grow.own {F H : Hp} (h : Le F H) {p : Addr} (n : H p = none) (o : HO) : Grow F H F (upd H p o) where
  le := Le.refl _
  keep := Le.new n
  in' := h.trans (Le.new n)
  thaw := fun _ _ _ _ z => z

section
variable {K : PySem.W.Frag} {cl : Cl}
theorem SqL.val {K : PySem.W.Frag} {F : Hp} {a : Addr} {xs : List V} (h : F a = some (.lst xs)) : SqL K F a xs := .inl (.inl h)
theorem SqT.val {K : PySem.W.Frag} {F : Hp} {a : Addr} {xs : List V} (h : F a = some (.tup xs)) : SqT K F a xs := .inl (.inl h)

theorem Own.keep {F F' H H' : Hp} {a : Addr} {d : D} (le : Le F F') (k : ∀ o, H a = some o → H' a = some o) (kd : ∀ b, H b = some (.own a) → H' b = some (.own a)) (h : Own K cl F H a d) : Own K cl F' H' a d := by
  cases h with
  | lst h t => exact .lst (k _ h) (t.le le)
  | ins h h2 t => exact .ins (k _ h) (kd _ h2) (t.le le)

theorem Own.keep' {F F' H H' : Hp} {a : Addr} {d : D} (le : Le F F') (k : ∀ o, H a = some o → (∀ ps, o ≠ .tbl ps) → H' a = some o) (kd : ∀ b, H b = some (.own a) → H' b = some (.own a)) (h : Own K cl F H a d) : Own K cl F' H' a d := by
  cases h with
  | lst h t => exact .lst (k _ h fun ps e => by cases e) (t.le le)
  | ins h h2 t => exact .ins (k _ h fun ps e => by cases e) (kd _ h2) (t.le le)

theorem own_slot {F H : Hp} {x : Sl} {o : Option V} {d : D} (h : SlOk K cl F H x o) (q : x.own? = some d) : ∃ a, o = some (.ref a) ∧ F a = none ∧ Own K cl F H a d := by
  cases x with
  | un => cases q
  | fr d => cases q
  | ow d => cases q; exact h
  | ln d => cases q; exact h
  | lf d => cases q

/-- an own object is a list or an instance -/
theorem Own.not_own {F H : Hp} {a : Addr} {d : D} (h : Own K cl F H a d) : ∃ o, H a = some o ∧ ∀ b, o ≠ .own b := by
  cases h with
  | lst h _ => exact ⟨_, h, fun b e => by cases e⟩
  | ins h _ _ => exact ⟨_, h, fun b e => by cases e⟩

theorem Own.kind {F H : Hp} {a : Addr} {d : D} (h : Own K cl F H a d) : ∃ o, H a = some o ∧ ∀ ps, o ≠ .tbl ps := by
  cases h with
  | lst h _ => exact ⟨_, h, fun b e => by cases e⟩
  | ins h _ _ => exact ⟨_, h, fun b e => by cases e⟩
theorem Corr.grow {F ρ σ H F' H'} (c : Corr K cl F ρ σ H) (g : Grow F H F' H') : Corr K cl F' ρ σ H' where
  len := c.len
  le := g.in'
  slot := fun i x o h1 h2 => by
    have q := c.slot i x o h1 h2
    cases x with
    | un => trivial
    | fr d =>
      obtain ⟨v, e, z⟩ := q
      exact ⟨v, e, z.le g.le⟩
    | lf d =>
      obtain ⟨a, e, n, z⟩ := q
      exact ⟨a, e, g.le.some n, z.le g.le⟩
    | ow d =>
      obtain ⟨a, e, n, z⟩ := q
      obtain ⟨u, hu, nu⟩ := z.not_own
      exact ⟨a, e, g.thaw a u hu nu n, z.keep g.le (fun o h => g.keep _ _ h) fun b h => g.keep _ _ h⟩
    | ln d =>
      obtain ⟨a, e, n, z⟩ := q
      obtain ⟨u, hu, nu⟩ := z.not_own
      exact ⟨a, e, g.thaw a u hu nu n, z.keep g.le (fun o h => g.keep _ _ h) fun b h => g.keep _ _ h⟩
  inj := c.inj
  tab := c.tab.mono g.le fun a ps h n => ⟨g.keep _ _ h, g.thaw a _ h (fun b e => by cases e) n⟩
theorem Grow.step {F H F' H' : Hp} (g : Grow F H F' H') (ρ : En) (σ : L2.St) : Step F ρ σ H F' ρ σ H' :=
  ⟨g.le, fun a o h _ _ => g.keep a o h, fun a o h w _ n => g.thaw a o h w n, fun a ps h => ⟨ps, g.keep a _ h⟩, fun a h => .inl h, fun a o h => ⟨o, g.keep a o h⟩, fun _ d h => ⟨rfl, .inl ⟨d, h⟩⟩, fun _ _ h => ⟨rfl, h⟩⟩
/-- the same where code tables may have grown -/
structure GrowT (T : List NdefX.NTab) (F H F' H' : Hp) : Prop where
  le : Le F F'
  keep : ∀ a o, H a = some o → (∀ ps, o ≠ .tbl ps) → H' a = some o
  tbl : ∀ a ps, H a = some (.tbl ps) → ∃ ps', H' a = some (.tbl ps')
  tab : TabOk T F' H'
  live : ∀ a o, H a = some o → ∃ o', H' a = some o'
  in' : Le F' H'
  thaw : ∀ a o, H a = some o → (∀ b, o ≠ .own b) → F a = none → F' a = none
theorem Corr.growT {F ρ σ H F' H'} (c : Corr K cl F ρ σ H) (g : GrowT cl.T F H F' H') : Corr K cl F' ρ σ H' where
  len := c.len
  le := g.in'
  slot := fun i x o h1 h2 => by
    have q := c.slot i x o h1 h2
    cases x with
    | un => trivial
    | fr d =>
      obtain ⟨v, e, z⟩ := q
      exact ⟨v, e, z.le g.le⟩
    | lf d =>
      obtain ⟨a, e, n, z⟩ := q
      exact ⟨a, e, g.le.some n, z.le g.le⟩
    | ow d =>
      obtain ⟨a, e, n, z⟩ := q
      obtain ⟨u, hu, nu⟩ := z.not_own
      exact ⟨a, e, g.thaw a u hu nu n, z.keep' g.le (fun o h w => g.keep _ _ h w) fun b h => g.keep _ _ h fun ps e => by cases e⟩
    | ln d =>
      obtain ⟨a, e, n, z⟩ := q
      obtain ⟨u, hu, nu⟩ := z.not_own
      exact ⟨a, e, g.thaw a u hu nu n, z.keep' g.le (fun o h w => g.keep _ _ h w) fun b h => g.keep _ _ h fun ps e => by cases e⟩
  inj := c.inj
  tab := g.tab
theorem GrowT.step {T : List NdefX.NTab} {F H F' H' : Hp} (g : GrowT T F H F' H') (ρ : En) (σ : L2.St) : Step F ρ σ H F' ρ σ H' :=
  ⟨g.le, fun a o h w _ => g.keep a o h w, fun a o h w _ n => g.thaw a o h w n, g.tbl, fun a h => .inl h, g.live, fun _ d h => ⟨rfl, .inl ⟨d, h⟩⟩, fun _ _ h => ⟨rfl, h⟩⟩
end
/-- how an exception lies -/
def ExRel (K : PySem.W.Frag) (cl : Cl) (F H : Hp) (x : Exc) (c : Value) (dd : Option Addr) : Prop :=
  c = .ref (cl x.c) ∧ (x.fs ≠ [] → ∃ a fv, dd = some a ∧ H a = some (.xd fv) ∧ DenF K cl F fv x.fs)

section
variable (K : PySem.W.Frag) (cl : Cl) (W : WX)
def Post {α : Type} (r : R α) (F : Hp) (ρ : En) (σ : L2.St) (H : Hp) (k : α → En → Hp → Hp → Prop) : Prop := match r with
  | .ok a ρ' => ∀ F' H', Step F ρ σ H F' ρ' σ H' → Corr K cl F' ρ' σ H' → k a ρ' F' H'
  | .ex x ρ' => ∀ F' H' c dd, Step F ρ σ H F' ρ' σ H' → Corr K cl F' ρ' σ H' → ExRel K cl F' H' x c dd → W c dd σ H'
  | .bad => False
/-- a value that has just come: frozen, or an own one that no slot holds -/
def Tmp (o : Bool) (F : Hp) (ρ : En) (σ : L2.St) (H : Hp) (F' : Hp) (ρ' : En) (H' : Hp) (v : V) (d : D) : Prop :=
  if o = true then ∃ a, v = .ref a ∧ F' a = none ∧ Own K cl F' H' a d ∧ ¬ Owned σ ρ' a ∧ (H a = none ∨ Owned σ ρ a) else Den K cl F' v d
def tE (den : En → R D) : TE := fun σ H Q => ∃ F ρ, Corr K cl F ρ σ H ∧ Post K cl W (den ρ) F ρ σ H fun d ρ' F' H' => ∀ v, Den K cl F' v d → Q v H'
def tO (den : En → R (D × Bool)) : TE := fun σ H Q => ∃ F ρ, Corr K cl F ρ σ H ∧ Post K cl W (den ρ) F ρ σ H fun d ρ' F' H' => ∀ v, Tmp K cl d.2 F ρ σ H F' ρ' H' v d.1 → Q v H'
def tT (den : En → R Bool) : TT := fun σ H Q => ∃ F ρ, Corr K cl F ρ σ H ∧ Post K cl W (den ρ) F ρ σ H fun d ρ' F' H' => Q d H'
def tA (den : En → R (List D)) : TA := fun σ H Q => ∃ F ρ, Corr K cl F ρ σ H ∧ Post K cl W (den ρ) F ρ σ H fun d ρ' F' H' => ∀ v, DenL K cl F' v d → Q v H'
end

section
variable {K : PySem.W.Frag} {cl : Cl} {W : WX} {F F1 : Hp} {ρ ρ1 : En} {σ : L2.St} {H H1 : Hp}
theorem Post.step {α : Type} {r : R α} {k : α → En → Hp → Hp → Prop} (s : Step F ρ σ H F1 ρ1 σ H1) (p : Post K cl W r F ρ σ H k) : Post K cl W r F1 ρ1 σ H1 k := by
  cases r with
  | ok a ρ' => exact fun F' H' t c => p F' H' (s.trans t) c
  | ex x ρ' => exact fun F' H' c dd t co e => p F' H' c dd (s.trans t) co e
  | bad => exact p
theorem Post.mono {α : Type} {r : R α} {k k' : α → En → Hp → Hp → Prop} (h : ∀ a ρ' F' H', Step F ρ σ H F' ρ' σ H' → Corr K cl F' ρ' σ H' → k a ρ' F' H' → k' a ρ' F' H') (p : Post K cl W r F ρ σ H k) : Post K cl W r F ρ σ H k' := by
  cases r with
  | ok a ρ' => exact fun F' H' t c => h a ρ' F' H' t c (p F' H' t c)
  | ex x ρ' => exact p
  | bad => exact p
theorem Post.bind {α β : Type} {r : R α} {f : α → En → R β} {k : β → En → Hp → Hp → Prop} (p : Post K cl W (r.bind f) F ρ σ H k) :
    Post K cl W r F ρ σ H fun a ρ' F' H' => Post K cl W (f a ρ') F' ρ' σ H' k := by
  cases r with
  | ok a ρ' => exact fun F' H' t c => Post.step t p
  | ex x ρ' => exact p
  | bad => exact p
theorem Post.okk {α : Type} {a : α} {k : α → En → Hp → Hp → Prop} (p : Post K cl W (.ok a ρ) F ρ σ H k) (c : Corr K cl F ρ σ H) : k a ρ F H := p F H (Step.refl _ _ _ _) c

/-- freezing what has just come -/
theorem Corr.freeze {a : Addr} {d : D} (c : Corr K cl F ρ σ H) (n : F a = none) (o : Own K cl F H a d) (no : ¬ Owned σ ρ a) :
    ∃ F', Le F F' ∧ (∀ b, F' b = F b ∨ b = a ∨ H b = some (.own a)) ∧ Corr K cl F' ρ σ H ∧ Den K cl F' (.ref a) d ∧ F' a ≠ none := by
  have key : ∀ F', Le F F' → Le F' H → (∀ b, F' b = F b ∨ b = a ∨ H b = some (.own a)) → Corr K cl F' ρ σ H := by
    intro F' le le' hb
    refine ⟨c.len, le', fun i x w h1 h2 => ?_, c.inj, c.tab.mono le fun b ps h1 h2 => ⟨h1, ?_⟩⟩
    rotate_left
    · rcases hb b with z | z | z
      · rw [z]; exact h2
      · subst z
        obtain ⟨u, hu, nu⟩ := o.kind
        rw [h1] at hu; cases hu
        exact absurd rfl (nu ps)
      · rw [h1] at z; cases z
    have q := c.slot i x w h1 h2
    have own : ∀ (d' : D), x.own? = some d' → ∃ b, w = some (.ref b) ∧ F' b = none ∧ Own K cl F' H b d' := fun d' e => by
      obtain ⟨b, e1, e2, e3⟩ := own_slot q e
      refine ⟨b, e1, ?_, e3.keep le (fun _ h => h) fun _ h => h⟩
      rcases hb b with z | z | z
      · rw [z]; exact e2
      · subst z; exact absurd ⟨i, x, d', h1, e, by rw [h2, e1]⟩ no
      · obtain ⟨u, hu, nu⟩ := e3.not_own
        rw [z] at hu; cases hu; exact absurd rfl (nu a)
    cases x with
    | un => trivial
    | fr d' =>
      obtain ⟨v, e, z⟩ := q
      exact ⟨v, e, z.le le⟩
    | lf d' =>
      obtain ⟨b, e, n, z⟩ := q
      exact ⟨b, e, le.some n, z.le le⟩
    | ow d' => exact own d' rfl
    | ln d' => exact own d' rfl
  cases o with
  | @lst vs ds h t =>
    have l1 : Le F (upd F a (.lst vs)) := Le.new n
    refine ⟨upd F a (.lst vs), l1, fun b => ?_, key _ l1 (fun b u e => ?_) (fun b => ?_), .lst upd_same (t.le l1), by rw [upd_same]; simp⟩
    · by_cases z : b = a
      · exact .inr (.inl z)
      · exact .inl (upd_ne z)
    · by_cases z : b = a
      · subst z; rw [upd_same] at e; cases e; exact h
      · rw [upd_ne z] at e; exact c.le b u e
    · by_cases z : b = a
      · exact .inr (.inl z)
      · exact .inl (upd_ne z)
  | @ins dx k fv fs h h2 t =>
    have nd : dx ≠ a := fun z => by subst z; rw [h] at h2; cases h2
    have l1 : Le F (upd (upd F dx (.own a)) a (.ins (cl k) dx fv)) := fun b u e => by
      by_cases z : b = a
      · subst z; rw [n] at e; cases e
      · rw [upd_ne z]
        by_cases z2 : b = dx
        · subst z2; rw [upd_same]
          have := c.le _ _ e
          rw [h2] at this; exact this
        · rw [upd_ne z2]; exact e
    have hb : ∀ b, (upd (upd F dx (.own a)) a (.ins (cl k) dx fv)) b = F b ∨ b = a ∨ H b = some (.own a) := fun b => by
      by_cases z : b = a
      · exact .inr (.inl z)
      · by_cases z2 : b = dx
        · subst z2; exact .inr (.inr h2)
        · exact .inl (by rw [upd_ne z, upd_ne z2])
    refine ⟨_, l1, hb, key _ l1 (fun b u e => ?_) hb, .ins upd_same (by rw [upd_ne nd, upd_same]) (t.le l1), by rw [upd_same]; simp⟩
    by_cases z : b = a
    · subst z; rw [upd_same] at e; cases e; exact h
    · rw [upd_ne z] at e
      by_cases z2 : b = dx
      · subst z2; rw [upd_same] at e; cases e; exact h2
      · rw [upd_ne z2] at e; exact c.le b u e

/-- the own flag forgotten -/
def fz (den : En → R (D × Bool)) : En → R D := fun ρ => (den ρ).bind fun d ρ' => .ok d.1 ρ'

theorem Step.freeze {F F1 F2 : Hp} {ρ ρ1 : En} {H H1 : Hp} {a : Addr} (s : Step F ρ σ H F1 ρ1 σ H1) (le : Le F1 F2) (hb : ∀ b, F2 b = F1 b ∨ b = a ∨ H1 b = some (.own a)) (fr : H a = none ∨ Owned σ ρ a) : Step F ρ σ H F2 ρ1 σ H1 :=
  ⟨s.le.trans le, s.keep, fun b o h w n e => by
    have q := s.thaw b o h w n e
    rcases hb b with z | z | z
    · rw [z]; exact q
    · subst z
      rcases fr with z | z
      · rw [z] at h; cases h
      · exact absurd z n
    · by_cases y : ∀ ps, o ≠ .tbl ps
      · have := s.keep b o h y n
        rw [z] at this; cases this; exact absurd rfl (w a)
      · have : ∃ ps, o = .tbl ps := Classical.byContradiction fun x => y fun ps e => x ⟨ps, e⟩
        obtain ⟨ps, rfl⟩ := this
        obtain ⟨ps', e⟩ := s.tbl b ps h
        exact absurd (Option.some.inj (z.symm.trans e)) (fun y => by cases y), s.tbl, s.own, s.live, s.ln, s.lf⟩

theorem tO.fz {den : En → R (D × Bool)} {Q : VK} (h : tE K cl W (fz den) σ H Q) : tO K cl W den σ H Q := by
  obtain ⟨F, ρ, c, p⟩ := h
  refine ⟨F, ρ, c, ?_⟩
  unfold PF.fz at p
  cases hd : den ρ with
  | bad => rw [hd] at p; exact p
  | ex x ρ' => rw [hd] at p; exact p
  | ok d ρ' =>
    rw [hd] at p
    intro F' H' st co v hv
    have p : ∀ F' H', Step F ρ σ H F' ρ' σ H' → Corr K cl F' ρ' σ H' → ∀ v, Den K cl F' v d.1 → Q v H' := p
    obtain ⟨d, o⟩ := d
    cases o with
    | false => exact p F' H' st co v hv
    | true =>
      obtain ⟨a, rfl, n, ow, no, fr⟩ := (show ∃ a, v = .ref a ∧ F' a = none ∧ Own K cl F' H' a d ∧ ¬ Owned σ ρ' a ∧ (H a = none ∨ Owned σ ρ a) from hv)
      obtain ⟨F2, le, hb, co2, de, _⟩ := co.freeze n ow no
      exact p F2 H' (st.freeze le hb fr) co2 _ de
end
end PF

namespace PF
open PySem PySem.Spec L2

/-- what a slot shows -/
def Sl.see : Sl → Option D
  | .un => none
  | .fr d => some d
  | .ow d => some d
  | .ln d => some d
  | .lf d => some d
def see (ρ : En) (i : Nat) : Option D := (ρ[i]?).bind Sl.see

/-- a value as it may be looked at: frozen, or an own object -/
def Vw (K : PySem.W.Frag) (cl : Cl) (F H : Hp) (v : V) (d : D) : Prop := Den K cl F v d ∨ ∃ a, v = .ref a ∧ Own K cl F H a d

section
variable {K : PySem.W.Frag} {cl : Cl} {W : WX} {F F1 : Hp} {ρ ρ1 : En} {σ : L2.St} {H H1 : Hp}
theorem Vw.lst {v : V} {ds : List D} (le : Le F H) (h : Vw K cl F H v (.lst ds)) : ∃ a vs, v = .ref a ∧ H a = some (.lst vs) ∧ DenL K cl F vs ds := by
  rcases h with h | ⟨a, rfl, h⟩
  · cases h with
    | lst h t => exact ⟨_, _, rfl, le _ _ h, t⟩
  · cases h with
    | lst h t => exact ⟨_, _, rfl, h, t⟩
theorem Vw.opq {v : V} (le : Le F H) (h : Vw K cl F H v .opq) : ∃ a, v = .ref a ∧ H a = some (.dK []) := by
  rcases h with h | ⟨a, rfl, h⟩
  · cases h with
    | opq h => exact ⟨_, rfl, le _ _ h⟩
  · cases h
theorem Vw.rdl {v : V} {ds : List D} (le : Le F H) (h : Vw K cl F H v (.rdl ds)) : ∃ a vs, v = .ref a ∧ SqL K H a vs ∧ DenL K cl F vs ds := by
  rcases h with h | ⟨a, rfl, h⟩
  · cases h with
    | rdl h t => exact ⟨_, _, rfl, le.sqL h, t⟩
  · cases h
theorem Vw.tup {v : V} {ds : List D} (le : Le F H) (h : Vw K cl F H v (.tup ds)) : ∃ a vs, v = .ref a ∧ SqT K F a vs ∧ SqT K H a vs ∧ DenL K cl F vs ds := by
  rcases h with h | ⟨a, rfl, h⟩
  · cases h with
    | tup h t => exact ⟨_, _, rfl, h, le.sqT h, t⟩
  · cases h
theorem Vw.ins {v : V} {c : Nat} {fs : List (Str × D)} (le : Le F H) (h : Vw K cl F H v (.ins c fs)) : ∃ a dx fv, v = .ref a ∧ H a = some (.ins (cl c) dx fv) ∧ DenF K cl F fv fs := by
  rcases h with h | ⟨a, rfl, h⟩
  · cases h with
    | ins h h2 t => exact ⟨_, _, _, rfl, le _ _ h, t⟩
  · cases h with
    | ins h h2 t => exact ⟨_, _, _, rfl, h, t⟩
theorem Vw.int {v : V} {i : Int} (h : Vw K cl F H v (.int i)) : v = .int i := by
  rcases h with h | ⟨a, rfl, h⟩
  · cases h; rfl
  · cases h
theorem Vw.bl {v : V} {i : Bool} (h : Vw K cl F H v (.bl i)) : v = .bl i := by
  rcases h with h | ⟨a, rfl, h⟩
  · cases h; rfl
  · cases h
theorem Vw.str {v : V} {i : Str} (h : Vw K cl F H v (.str i)) : v = .str i := by
  rcases h with h | ⟨a, rfl, h⟩
  · cases h; rfl
  · cases h
theorem Vw.non {v : V} (h : Vw K cl F H v .non) : v = .non := by
  rcases h with h | ⟨a, rfl, h⟩
  · cases h; rfl
  · cases h

/-- an operand: a name (seen late), or a value that has come -/
inductive Opd where
  | var (i : Nat)
  | exp (den : En → R (D × Bool))
def Opd.ev : Opd → En → R (Sum Nat D)
  | .var i, ρ => match see ρ i with
    | some _ => .ok (.inl i) ρ
    | none => .bad
  | .exp den, ρ => (fz den ρ).bind fun d ρ' => .ok (.inr d) ρ'
def late (ρ : En) : Sum Nat D → Option D
  | .inl i => see ρ i
  | .inr d => some d
def Hold (K : PySem.W.Frag) (cl : Cl) (F : Hp) (σ : L2.St) (a : Sum Nat D) (x : V) : Prop := match a with
  | .inl i => σ[i]? = some (some x)
  | .inr d => Den K cl F x d
theorem Hold.le {a : Sum Nat D} {x : V} (h : Hold K cl F σ a x) (l : Le F F1) : Hold K cl F1 σ a x := by
  cases a with
  | inl i => exact h
  | inr d => exact Den.le l h
theorem see_ok {i : Nat} {d : D} (c : Corr K cl F ρ σ H) (h : see ρ i = some d) : ∃ x, σ[i]? = some (some x) ∧ Vw K cl F H x d := by
  unfold see at h
  cases hr : ρ[i]? with
  | none => rw [hr] at h; cases h
  | some s =>
    rw [hr] at h
    have hi : i < σ.length := by rw [← c.len]; exact (List.getElem?_eq_some_iff.mp hr).1
    obtain ⟨o, ho⟩ : ∃ o, σ[i]? = some o := ⟨_, List.getElem?_eq_getElem hi⟩
    have q := c.slot i s o hr ho
    cases s with
    | un => cases h
    | fr e => cases h; obtain ⟨v, rfl, z⟩ := q; exact ⟨v, ho, .inl z⟩
    | ow e => cases h; obtain ⟨a, rfl, _, z⟩ := q; exact ⟨.ref a, ho, .inr ⟨a, rfl, z⟩⟩
    | ln e => cases h; obtain ⟨a, rfl, _, z⟩ := q; exact ⟨.ref a, ho, .inr ⟨a, rfl, z⟩⟩
    | lf e => cases h; obtain ⟨a, rfl, _, z⟩ := q; exact ⟨_, ho, .inl z⟩
theorem late_ok {a : Sum Nat D} {x : V} {d : D} (c : Corr K cl F ρ σ H) (h : Hold K cl F σ a x) (l : late ρ a = some d) : Vw K cl F H x d := by
  cases a with
  | inr e => cases l; exact .inl h
  | inl i =>
    obtain ⟨y, h1, h2⟩ := see_ok c l
    have h : σ[i]? = some (some x) := h
    rw [h] at h1; cases h1; exact h2
def tOpd (K : PySem.W.Frag) (cl : Cl) (W : WX) : Opd → TE
  | .var i => tVar i
  | .exp den => tE K cl W (fz den)
/-- an operand is evaluated -/
theorem opd_ok {o : Opd} {k : Sum Nat D → En → Hp → Hp → Prop} {Q : VK} (c : Corr K cl F ρ σ H) (p : Post K cl W (o.ev ρ) F ρ σ H k)
    (h : ∀ a ρ1 F1 H1 x, Step F ρ σ H F1 ρ1 σ H1 → Corr K cl F1 ρ1 σ H1 → Hold K cl F1 σ a x → k a ρ1 F1 H1 → Q x H1) : tOpd K cl W o σ H Q := by
  cases o with
  | var i =>
    unfold Opd.ev at p
    dsimp only at p
    cases hs : see ρ i with
    | none => rw [hs] at p; exact p.elim
    | some d =>
      rw [hs] at p
      obtain ⟨x, h1, _⟩ := see_ok c hs
      exact ⟨x, h1, h (.inl i) ρ F H x (Step.refl _ _ _ _) c h1 (p F H (Step.refl _ _ _ _) c)⟩
  | exp den =>
    refine ⟨F, ρ, c, ?_⟩
    refine (Post.bind p).mono fun d ρ' F' H' st co q v hv => ?_
    exact h (.inr d) ρ' F' H' v st co hv (q F' H' (Step.refl _ _ _ _) co)

/-- what an operation gives -/
def Res (o : Bool) (H F' H' : Hp) (v : V) (d : D) : Prop := if o = true then ∃ a, v = .ref a ∧ H a = none ∧ F' a = none ∧ Own K cl F' H' a d else Den K cl F' v d
theorem Res.tmp {o : Bool} {F' H' : Hp} {v : V} {d : D} (c : Corr K cl F ρ σ H) (h : Res (K := K) (cl := cl) o H F' H' v d) : Tmp K cl o F ρ σ H F' ρ H' v d := by
  cases o with
  | false => exact h
  | true =>
    obtain ⟨a, rfl, n, n2, ow⟩ := h
    refine ⟨a, rfl, n2, ow, ?_, .inl n⟩
    rintro ⟨i, x, e, h1, h2, h3⟩
    obtain ⟨b, q1, _, q3⟩ := own_slot (c.slot i x _ h1 h3) h2
    cases q1
    obtain ⟨u, hu⟩ := q3.there
    rw [n] at hu; cases hu
/-- ends of an operation -/
theorem Post.done {d : D} {o : Bool} {F' H' : Hp} {v : V} {Q : VK} {F0 H0 : Hp} {ρ0 : En} (c : Corr K cl F ρ σ H) (g : Grow F H F' H') (r : Res (K := K) (cl := cl) o H F' H' v d) (s : Step F0 ρ0 σ H0 F ρ σ H)
    (p : Post K cl W (.ok (d, o) ρ) F ρ σ H fun d ρ' F' H' => ∀ v, Tmp K cl d.2 F0 ρ0 σ H0 F' ρ' H' v d.1 → Q v H') : Q v H' := by
  refine p F' H' (g.step ρ σ) (c.grow g) v ?_
  have t := r.tmp c
  cases o with
  | false => exact t
  | true =>
    obtain ⟨a, e, n, ow, no, fr⟩ := (show ∃ a, v = .ref a ∧ F' a = none ∧ Own K cl F' H' a d ∧ ¬ Owned σ ρ a ∧ (H a = none ∨ Owned σ ρ a) from t)
    refine ⟨a, e, n, ow, no, ?_⟩
    rcases fr with z | z
    · exact .inl (s.back z)
    · exact absurd z no

/-- an operation on two values does what f tells -/
def OpS (K : PySem.W.Frag) (cl : Cl) (r : R2) (f : D → D → Option (D × Bool)) : Prop :=
  ∀ (F H : Hp) (x y : V) (a b c : D) (o : Bool) (Q : VK), Le F H → Vw K cl F H x a → Vw K cl F H y b → f a b = some (c, o) → (∀ F' H' v, Grow F H F' H' → Res (K := K) (cl := cl) o H F' H' v c → Q v H') → r x y H Q
def UnS (K : PySem.W.Frag) (cl : Cl) (r : V → Hp → VK → Prop) (f : D → Option (D × Bool)) : Prop :=
  ∀ (F H : Hp) (x : V) (a c : D) (o : Bool) (Q : VK), Le F H → Vw K cl F H x a → f a = some (c, o) → (∀ F' H' v, Grow F H F' H' → Res (K := K) (cl := cl) o H F' H' v c → Q v H') → r x H Q
/-- on a list of values -/
inductive VwL (K : PySem.W.Frag) (cl : Cl) (F H : Hp) : List V → List D → Prop
  | nil : VwL K cl F H [] []
  | cons {v d vs ds} : Vw K cl F H v d → VwL K cl F H vs ds → VwL K cl F H (v :: vs) (d :: ds)
def CallS (K : PySem.W.Frag) (cl : Cl) (r : List V → Hp → VK → Prop) (f : List D → Option (D × Bool)) : Prop :=
  ∀ (F H : Hp) (xs : List V) (as : List D) (c : D) (o : Bool) (Q : VK), Le F H → VwL K cl F H xs as → f as = some (c, o) → (∀ F' H' v, Grow F H F' H' → Res (K := K) (cl := cl) o H F' H' v c → Q v H') → r xs H Q

def ret? (o : Option (D × Bool)) (ρ : En) : R (D × Bool) := match o with
  | some d => .ok d ρ
  | none => .bad
def bin (f : D → D → Option (D × Bool)) (a b : Opd) : En → R (D × Bool) := fun ρ =>
  (a.ev ρ).bind fun x ρ1 => (b.ev ρ1).bind fun y ρ2 => match late ρ2 x, late ρ2 y with
    | some x, some y => ret? (f x y) ρ2
    | _, _ => .bad
def una (f : D → Option (D × Bool)) (a : Opd) : En → R (D × Bool) := fun ρ =>
  (a.ev ρ).bind fun x ρ1 => match late ρ1 x with
    | some x => ret? (f x) ρ1
    | _ => .bad

theorem bin_ok {f : D → D → Option (D × Bool)} {r : R2} {a b : Opd} {Q : VK} (hs : OpS K cl r f) (h : tO K cl W (bin f a b) σ H Q) : tOp r (tOpd K cl W a) (tOpd K cl W b) σ H Q := by
  obtain ⟨F, ρ, c, p⟩ := h
  refine opd_ok c (Post.bind p) fun x ρ1 F1 H1 v st1 c1 h1 p1 => ?_
  refine opd_ok c1 (Post.bind p1) fun y ρ2 F2 H2 u st2 c2 h2 p2 => ?_
  cases ha : late ρ2 x with
  | none => rw [ha] at p2; exact p2.elim
  | some da =>
    cases hb : late ρ2 y with
    | none => rw [ha, hb] at p2; exact p2.elim
    | some db =>
      rw [ha, hb] at p2
      dsimp only at p2
      cases hf : f da db with
      | none => rw [hf] at p2; exact p2.elim
      | some z =>
        rw [hf] at p2
        obtain ⟨z, o⟩ := z
        exact hs F2 H2 v u da db z o Q c2.le (late_ok c2 (h1.le st2.le) ha) (late_ok c2 h2 hb) hf fun F' H' w g rs => Post.done c2 g rs (st1.trans st2) p2
theorem una_ok {f : D → Option (D × Bool)} {r : V → Hp → VK → Prop} {a : Opd} {Q : VK} (hs : UnS K cl r f) (h : tO K cl W (una f a) σ H Q) : tUn r (tOpd K cl W a) σ H Q := by
  obtain ⟨F, ρ, c, p⟩ := h
  refine opd_ok c (Post.bind p) fun x ρ1 F1 H1 v st1 c1 h1 p1 => ?_
  cases ha : late ρ1 x with
  | none => rw [ha] at p1; exact p1.elim
  | some da =>
    rw [ha] at p1
    dsimp only at p1
    cases hf : f da with
    | none => rw [hf] at p1; exact p1.elim
    | some z =>
      rw [hf] at p1
      obtain ⟨z, o⟩ := z
      exact hs F1 H1 v da z o Q c1.le (late_ok c1 h1 ha) hf fun F' H' w g rs => Post.done c1 g rs st1 p1
def evs : List Opd → En → R (List (Sum Nat D))
  | [], ρ => .ok [] ρ
  | a :: r, ρ => (a.ev ρ).bind fun x ρ1 => (evs r ρ1).bind fun xs ρ2 => .ok (x :: xs) ρ2
def lates (ρ : En) : List (Sum Nat D) → Option (List D)
  | [] => some []
  | a :: r => match late ρ a, lates ρ r with
    | some x, some xs => some (x :: xs)
    | _, _ => none
def calD (f : List D → Option (D × Bool)) (as : List Opd) : En → R (D × Bool) := fun ρ =>
  (evs as ρ).bind fun xs ρ1 => match lates ρ1 xs with
    | some xs => ret? (f xs) ρ1
    | none => .bad
def tOpds (K : PySem.W.Frag) (cl : Cl) (W : WX) : List Opd → TA
  | [] => tNil
  | a :: r => tCons (tOpd K cl W a) (tOpds K cl W r)
def HoldL (K : PySem.W.Frag) (cl : Cl) (F : Hp) (σ : L2.St) : List (Sum Nat D) → List V → Prop
  | [], [] => True
  | a :: r, x :: xs => Hold K cl F σ a x ∧ HoldL K cl F σ r xs
  | _, _ => False
theorem opds_ok : ∀ {as : List Opd} {k : List (Sum Nat D) → En → Hp → Hp → Prop} {Q : List V → Hp → Prop} {F : Hp} {ρ : En} {H : Hp}, Corr K cl F ρ σ H → Post K cl W (evs as ρ) F ρ σ H k →
    (∀ a ρ1 F1 H1 x, Step F ρ σ H F1 ρ1 σ H1 → Corr K cl F1 ρ1 σ H1 → HoldL K cl F1 σ a x → k a ρ1 F1 H1 → Q x H1) → tOpds K cl W as σ H Q
  | [], k, Q, F, ρ, H, c, p, h => h [] ρ F H [] (Step.refl _ _ _ _) c trivial (p F H (Step.refl _ _ _ _) c)
  | a :: r, k, Q, F, ρ, H, c, p, h => by
    refine opd_ok c (Post.bind p) fun x ρ1 F1 H1 v st1 c1 h1 p1 => ?_
    refine opds_ok c1 (Post.bind p1) fun xs ρ2 F2 H2 vs st2 c2 h2 p2 => ?_
    exact h (x :: xs) ρ2 F2 H2 (v :: vs) (st1.trans st2) c2 ⟨h1.le st2.le, h2⟩ (p2 F2 H2 (Step.refl _ _ _ _) c2)
theorem lates_ok (c : Corr K cl F ρ σ H) : ∀ {as : List (Sum Nat D)} {xs : List V} {ds : List D}, HoldL K cl F σ as xs → lates ρ as = some ds → VwL K cl F H xs ds
  | [], [], _, _, h => by cases h; exact .nil
  | [], _ :: _, _, h, _ => h.elim
  | _ :: _, [], _, h, _ => h.elim
  | a :: r, x :: xs, ds, h, e => by
    unfold lates at e
    cases ha : late ρ a with
    | none => rw [ha] at e; cases e
    | some d =>
      cases hr : lates ρ r with
      | none => rw [ha, hr] at e; cases e
      | some dr =>
        rw [ha, hr] at e; cases e
        exact .cons (late_ok c h.1 ha) (lates_ok c h.2 hr)
/-- a reading of a call by values: t the arguments -/
theorem calD_ok {f : List D → Option (D × Bool)} {r : List V → Hp → VK → Prop} {as : List Opd} {Q : VK} (hs : CallS K cl r f) (h : tO K cl W (calD f as) σ H Q) : tOpds K cl W as σ H fun vs H1 => r vs H1 Q := by
  obtain ⟨F, ρ, c, p⟩ := h
  refine opds_ok c (Post.bind p) fun x ρ1 F1 H1 v st1 c1 h1 p1 => ?_
  cases ha : lates ρ1 x with
  | none => rw [ha] at p1; exact p1.elim
  | some da =>
    rw [ha] at p1
    dsimp only at p1
    cases hf : f da with
    | none => rw [hf] at p1; exact p1.elim
    | some z =>
      rw [hf] at p1
      obtain ⟨z, o⟩ := z
      exact hs F1 H1 v da z o Q c1.le (lates_ok c1 h1 ha) hf fun F' H' w g rs => Post.done c1 g rs st1 p1
end
end PF

namespace PF
open PySem PySem.Spec L2

def lim : Nat := 1000000
theorem lim_le {n : Nat} (h : n ≤ lim) : n ≤ sizeLine := Nat.le_trans h (by rw [sizeLine_eq]; decide)
theorem lim_lt {n : Nat} (h : n ≤ lim) : n < sizeLine := Nat.lt_of_le_of_lt h (by rw [sizeLine_eq]; decide)
mutual
def toPy : D → PyData
  | .non => .none
  | .bl b => .bool b
  | .int i => .int i
  | .str s => .str s
  | .tup xs => .tuple (toPyL xs)
  | .lst xs => .list (toPyL xs)
  | .rdl xs => .list (toPyL xs)
  | .ins _ _ => .dict []
  | .opq => .none
  | .fnv => .none
def toPyL : List D → List PyData
  | [] => []
  | x :: xs => toPy x :: toPyL xs
end
mutual
/-- no instance within -/
def plain : D → Bool
  | .non | .bl _ | .int _ | .str _ => true
  | .tup xs | .lst xs | .rdl xs => plainL xs
  | .ins _ _ => false
  | .opq => false
  | .fnv => false
def plainL : List D → Bool
  | [] => true
  | x :: xs => plain x && plainL xs
end
theorem toPyL_map : ∀ xs : List D, toPyL xs = xs.map toPy
  | [] => by simp [toPyL]
  | x :: xs => by simp [toPyL, toPyL_map xs]
section
variable {K : PySem.W.Frag} {cl : Cl} {F H : Hp}
mutual
theorem Den.dp : ∀ {v : V} {d : D}, plain d = true → Den K cl F v d → Dp K F v (toPy d)
  | _, _, _, .non => by simp only [toPy]; exact .non
  | _, _, _, .bl b => by simp only [toPy]; exact .bl b
  | _, _, _, .int i => by simp only [toPy]; exact .int i
  | _, _, _, .str x => by simp only [toPy]; exact .str x
  | _, _, p, .lst h t => by simp only [toPy]; exact .lst (SqL.val h) (DenL.dp (by simpa [plain] using p) t)
  | _, _, p, .rdl h t => by simp only [toPy]; exact .lst h (DenL.dp (by simpa [plain] using p) t)
  | _, _, p, .tup h t => by simp only [toPy]; exact .tup h (DenL.dp (by simpa [plain] using p) t)
  | _, _, p, .ins _ _ _ => by simp [plain] at p
  | _, _, p, .opq _ => by simp [plain] at p
  | _, _, p, .fnv _ => by simp [plain] at p
theorem DenL.dp : ∀ {vs : List V} {ds : List D}, plainL ds = true → DenL K cl F vs ds → DpAll K F vs (toPyL ds)
  | _, _, _, .nil => by simp only [toPyL]; exact .nil
  | _, _, p, .cons h t => by
    simp only [plainL, Bool.and_eq_true] at p
    simp only [toPyL]
    exact .cons (Den.dp p.1 h) (DenL.dp p.2 t)
end
mutual
theorem dp_le {G : Hp} (e : Le F G) : ∀ {v : V} {d : PyData}, Dp K F v d → Dp K G v d
  | _, _, .non => .non
  | _, _, .bl b => .bl b
  | _, _, .int i => .int i
  | _, _, .str x => .str x
  | _, _, .lst h t => .lst (e.sqL h) (dpL_le e t)
  | _, _, .tup h t => .tup (e.sqT h) (dpL_le e t)
theorem dpL_le {G : Hp} (e : Le F G) : ∀ {vs : List V} {ds : List PyData}, DpAll K F vs ds → DpAll K G vs ds
  | _, _, .nil => .nil
  | _, _, .cons h t => .cons (dp_le e h) (dpL_le e t)
end
theorem Vw.dp {v : V} {d : D} (le : Le F H) (p : plain d = true) (h : Vw K cl F H v d) : Dp K H v (toPy d) := by
  rcases h with h | ⟨a, rfl, h⟩
  · exact dp_le le (h.dp p)
  · cases h with
    | lst h t =>
      simp only [toPy]
      exact .lst (SqL.val h) (dpL_le le (t.dp (by simpa [plain] using p)))
    | ins => simp [plain] at p
end

/-- a and b may be compared by == as data -/
def shp (a : D) : Bool := plain a && SeqAt.shaped (toPy a)
def eqvD (a b : D) : Bool := PyData.eqv (toPy a) (toPy b)
abbrev F2 := D → D → Option (D × Bool)
def vI (i : Int) : Option (D × Bool) := some (.int i, false)
def vB (b : Bool) : Option (D × Bool) := some (.bl b, false)
def fAdd : F2
  | .int i, .int j => vI (i + j)
  | .tup xs, .tup ys => if xs.length + ys.length ≤ lim then some (.tup (xs ++ ys), false) else none
  | .lst xs, .lst ys => if xs.length + ys.length ≤ lim then some (.lst (xs ++ ys), true) else none
  | .str x, .str y => if x.length + y.length ≤ lim then some (.str (x ++ y), false) else none
  | _, _ => none
/-- two ints in, under a condition -/
def onI (C : Int → Int → Prop) [∀ i j, Decidable (C i j)] (g : Int → Int → Int) : F2
  | .int i, .int j => if C i j then vI (g i j) else none
  | _, _ => none
def cMul (i j : Int) : Prop := (-(2 ^ 64) < i ∧ i < 2 ^ 64) ∨ (-(2 ^ 64) < j ∧ j < 2 ^ 64)
def cDiv (i j : Int) : Prop := 0 < j ∧ j < 1073741824
def cMod (i j : Int) : Prop := 0 < j
def cPow (i j : Int) : Prop := 0 ≤ j ∧ j ≤ 1000000 ∧ i.natAbs < 2 ^ 64
def cShr (i j : Int) : Prop := 0 ≤ j
def cAll (i j : Int) : Prop := True
instance (i j : Int) : Decidable (cMul i j) := inferInstanceAs (Decidable (_ ∨ _))
instance (i j : Int) : Decidable (cDiv i j) := inferInstanceAs (Decidable (_ ∧ _))
instance (i j : Int) : Decidable (cMod i j) := inferInstanceAs (Decidable (_ < _))
instance (i j : Int) : Decidable (cPow i j) := inferInstanceAs (Decidable (_ ∧ _))
instance (i j : Int) : Decidable (cShr i j) := inferInstanceAs (Decidable (_ ≤ _))
instance (i j : Int) : Decidable (cAll i j) := inferInstanceAs (Decidable True)
def fSub : F2 := onI cAll fun i j => i - j
def fMul : F2 := onI cMul fun i j => i * j
def fDiv : F2 := onI cDiv fun i j => i / j
def fMod : F2 := onI cMod fun i j => i % j
def fPow : F2 := onI cPow fun i j => i ^ j.toNat
def fShl : F2 := onI cPow fun i j => i * 2 ^ j.toNat
def fShr : F2 := onI cShr fun i j => i / 2 ^ j.toNat
def fAnd : F2 := onI cAll fun i j => Builtin.bitAnd i j
def fOr : F2 := onI cAll fun i j => Builtin.bitOr i j
def fXor : F2 := onI cAll fun i j => Builtin.bitXor i j
def fOp : Operator → F2
  | .Add => fAdd | .Sub => fSub | .Mult => fMul | .FloorDiv => fDiv | .Mod => fMod | .Pow => fPow | .LShift => fShl | .RShift => fShr
  | .BitAnd => fAnd | .BitOr => fOr | .BitXor => fXor
  | _ => fun _ _ => none

section
variable {X : Cx} {cl : Cl}
/-- a rule for what f tells -/
def OpK (X : Cx) (cl : Cl) (g : Value → Value → Sem Value) (f : F2) : Prop := ∃ r, OpR X g r ∧ OpS X.K cl r f
theorem OpK.none {g : Value → Value → Sem Value} : OpK X cl g fun _ _ => none := ⟨fun _ _ _ _ => False, fun _ _ _ _ _ _ _ _ _ _ _ _ h => h.elim, fun _ _ _ _ _ _ _ _ _ _ _ _ h => nomatch h⟩
theorem opS_I {g : Int → Int → V} {f : F2} {C : Int → Int → Prop} {h : Int → Int → D} (hf : ∀ a b c o, f a b = some (c, o) → ∃ i j, a = .int i ∧ b = .int j ∧ C i j ∧ o = false ∧ c = h i j)
    (hd : ∀ i j F, Den X.K cl F (g i j) (h i j)) : OpS X.K cl (rI C g) f := by
  intro F H x y a b c o Q le va vb e q
  obtain ⟨i, j, rfl, rfl, hc, rfl, rfl⟩ := hf _ _ _ _ e
  exact ⟨i, j, va.int, vb.int, hc, q F H _ (Grow.refl le) (hd i j F)⟩
theorem opS_I0 {g : Int → Int → V} {f : F2} {h : Int → Int → D} (hf : ∀ a b c o, f a b = some (c, o) → ∃ i j, a = .int i ∧ b = .int j ∧ o = false ∧ c = h i j)
    (hd : ∀ i j F, Den X.K cl F (g i j) (h i j)) : OpS X.K cl (rI0 g) f := by
  intro F H x y a b c o Q le va vb e q
  obtain ⟨i, j, rfl, rfl, rfl, rfl⟩ := hf _ _ _ _ e
  exact ⟨i, j, va.int, vb.int, q F H _ (Grow.refl le) (hd i j F)⟩

theorem opK_add : OpK X cl (binaryOp .Add) fAdd := by
  refine ⟨_, OpR.or (op_add (X := X)) (OpR.or (op_catA (X := X)) (OpR.or (op_cat (X := X)) (op_add_str (X := X)))), ?_⟩
  intro F H x y a b c o Q le va vb e q
  unfold fAdd at e
  split at e
  · cases e; exact .inl ⟨_, _, va.int, vb.int, q F H _ (Grow.refl le) (.int _)⟩
  · rename_i xs ys
    split at e
    · rename_i hl
      cases e
      obtain ⟨p, vs, rfl, f1, h1, t1⟩ := va.tup le
      obtain ⟨p2, vs2, rfl, f2, h2, t2⟩ := vb.tup le
      have l1 := t1.length
      have l2 := t2.length
      refine .inr (.inl ⟨p, p2, vs, vs2, rfl, rfl, h1, h2, lim_le (by omega), fun e1 => ?_, fun _ e2 => ?_, fun _ _ p3 n3 => ?_⟩)
      · subst e1; cases t1; exact q F H _ (Grow.refl le) (.tup f2 t2)
      · subst e2; cases t2; exact q F H _ (Grow.refl le) (by show Den _ _ _ _ _; rw [List.append_nil]; exact .tup f1 t1)
      · have g := Grow.new le n3 (.tup (vs ++ vs2))
        exact q _ _ _ g (.tup (SqT.val upd_same) ((t1.append t2).le g.le))
    · cases e
  · rename_i xs ys
    split at e
    · rename_i hl
      cases e
      obtain ⟨p, vs, rfl, h1, t1⟩ := va.lst le
      obtain ⟨p2, vs2, rfl, h2, t2⟩ := vb.lst le
      have l1 := t1.length
      have l2 := t2.length
      refine .inr (.inr (.inl ⟨p, p2, vs, vs2, rfl, rfl, h1, h2, lim_le (by omega), fun p3 n3 => ?_⟩))
      exact q F _ _ (Grow.own le n3 _) ⟨p3, rfl, n3, le.back n3, .lst upd_same (t1.append t2)⟩
    · cases e
  · rename_i xs ys
    split at e
    · rename_i hl
      cases e
      exact .inr (.inr (.inr ⟨xs, ys, va.str, vb.str, lim_le hl, q F H _ (Grow.refl le) (.str _)⟩))
    · cases e
  · cases e
theorem onI_some {C : Int → Int → Prop} [∀ i j, Decidable (C i j)] {g : Int → Int → Int} {a b c : D} {o : Bool} (e : onI C g a b = some (c, o)) : ∃ i j, a = .int i ∧ b = .int j ∧ C i j ∧ o = false ∧ c = .int (g i j) := by
  unfold onI at e
  split at e
  · split at e
    · cases e; exact ⟨_, _, rfl, rfl, by assumption, rfl, rfl⟩
    · cases e
  · cases e
theorem opK_I {gg : Value → Value → Sem Value} {C C' : Int → Int → Prop} [∀ i j, Decidable (C' i j)] {g : Int → Int → Int} (h : OpR X gg (rI C fun i j => .int (g i j))) (hc : ∀ i j, C' i j → C i j) : OpK X cl gg (onI C' g) :=
  ⟨_, h, opS_I (h := fun i j => .int (g i j)) (fun a b c o e => by
    obtain ⟨i, j, h1, h2, h3, h4, h5⟩ := onI_some e
    exact ⟨i, j, h1, h2, hc _ _ h3, h4, h5⟩) fun i j F => .int _⟩
theorem opK_I0 {gg : Value → Value → Sem Value} {C' : Int → Int → Prop} [∀ i j, Decidable (C' i j)] {g : Int → Int → Int} (h : OpR X gg (rI0 fun i j => .int (g i j))) : OpK X cl gg (onI C' g) :=
  ⟨_, h, opS_I0 (h := fun i j => .int (g i j)) (fun a b c o e => by
    obtain ⟨i, j, h1, h2, h3, h4, h5⟩ := onI_some e
    exact ⟨i, j, h1, h2, h4, h5⟩) fun i j F => .int _⟩
theorem opK_of : ∀ {op : Operator}, OpK X cl (binaryOp op) (fOp op)
  | .Add => opK_add
  | .Sub => opK_I0 op_sub
  | .Mult => opK_I op_mul fun _ _ h => h
  | .FloorDiv => opK_I op_fdiv fun _ _ h => h
  | .Mod => opK_I op_mod fun _ _ h => h
  | .Pow => opK_I op_pow fun _ _ h => h
  | .LShift => opK_I op_shl fun _ _ h => h
  | .RShift => opK_I op_shr fun _ _ h => h
  | .BitAnd => opK_I0 op_and
  | .BitOr => opK_I0 op_or
  | .BitXor => opK_I0 op_xor
  | .MatMult => .none
  | .Div => .none
def isSeq : D → Bool
  | .tup _ => true
  | .lst _ => true
  | _ => false
def dLtS (a b : D) : Option Bool := if shp a && shp b && PySem.W.alike (toPy a) (toPy b) && isSeq a then some (PySem.W.dataLt (toPy a) (toPy b)) else none
def dLt (a b : D) : Option Bool := match a, b with
  | .int i, .int j => some (decide (i < j))
  | .str x, .str y => some (decide (x.cps.toList < y.cps.toList))
  | a, b => dLtS a b
def dIn (a b : D) : Option Bool := match b with
  | .lst xs => if shp a && shp b then some (xs.any fun y => eqvD y a) else none
  | .tup xs => if shp a && shp b then some (xs.any fun y => eqvD y a) else none
  | _ => none
def dEq (a b : D) : Option Bool := if shp a && shp b then some (eqvD a b) else none
def oB (o : Option Bool) : Option (D × Bool) := o.map fun b => (.bl b, false)
def fCmp : CmpOp → F2
  | .Eq => fun a b => oB (dEq a b)
  | .NotEq => fun a b => oB ((dEq a b).map not)
  | .Lt => fun a b => oB (dLt a b)
  | .Gt => fun | .int i, .int j => vB (decide (j < i)) | _, _ => none
  | .LtE => fun | .int i, .int j => vB (decide (i ≤ j)) | _, _ => none
  | .GtE => fun | .int i, .int j => vB (decide (j ≤ i)) | _, _ => none
  | .In => fun a b => oB (dIn a b)
  | .NotIn => fun a b => oB ((dIn a b).map not)
  | .Is => fun a b => match b with | .non => (match a with | .non => vB true | .opq => none | _ => vB false) | .bl j => (match a with | .bl i => vB (decide (i = j)) | _ => none) | _ => none
  | .IsNot => fun a b => match b with | .non => (match a with | .non => vB false | .opq => none | _ => vB true) | .bl j => (match a with | .bl i => vB (!decide (i = j)) | _ => none) | _ => none
theorem shp_plain {a : D} (h : shp a = true) : plain a = true ∧ SeqAt.shaped (toPy a) = true := by
  unfold shp at h
  rwa [Bool.and_eq_true] at h
theorem op_inT (hu : X.A.units + 65 < cLine) : OpR X (compareOp .In) (fun x y H Q => ∃ d ds, Dp X.K H x d ∧ Dp X.K H y (.tuple ds) ∧ SeqAt.shaped d = true ∧ SeqAt.shaped (.tuple ds) = true ∧ Q (.bl (ds.any fun z => PyData.eqv z d)) H) := by
  intro pins s σ H x y v u Q I rx ry h
  obtain ⟨d, ds, hd, he, sd, se, q⟩ := h
  obtain ⟨as, r1⟩ := Dp.reads I d x v hd rx
  obtain ⟨bs, r2⟩ := Dp.reads I (.tuple ds) y u he ry
  exact SeqAt.in_tuple_reads r2 r1 (SeqAt.canLay_of_shaped se) (SeqAt.canLay_of_shaped sd) (PyProof.Rows.room_in_shaped sd hu) ⟨.bl _, H, I, rfl, q⟩
theorem op_notInT (hu : X.A.units + 65 < cLine) : OpR X (compareOp .NotIn) (fun x y H Q => ∃ d ds, Dp X.K H x d ∧ Dp X.K H y (.tuple ds) ∧ SeqAt.shaped d = true ∧ SeqAt.shaped (.tuple ds) = true ∧ Q (.bl (!ds.any fun z => PyData.eqv z d)) H) := by
  intro pins s σ H x y v u Q I rx ry h
  obtain ⟨d, ds, hd, he, sd, se, q⟩ := h
  obtain ⟨as, r1⟩ := Dp.reads I d x v hd rx
  obtain ⟨bs, r2⟩ := Dp.reads I (.tuple ds) y u he ry
  exact SeqAt.notIn_tuple_reads r2 r1 (SeqAt.canLay_of_shaped se) (SeqAt.canLay_of_shaped sd) (PyProof.Rows.room_in_shaped sd hu) ⟨.bl _, H, I, rfl, q⟩
theorem any_py (a : D) : ∀ xs : List D, ((toPyL xs).any fun z => PyData.eqv z (toPy a)) = xs.any fun y => eqvD y a
  | [] => by simp [toPyL]
  | x :: xs => by simp [toPyL, any_py a xs, eqvD]
theorem op_ltD (hu : X.A.units + 64 < cLine) : OpR X (compareOp .Lt) (fun x y H Q => ∃ d e, Dp X.K H x d ∧ Dp X.K H y e ∧ SeqAt.shaped d = true ∧ PySem.W.alike d e = true ∧ d ≠ .none ∧ Q (.bl (PySem.W.dataLt d e)) H) := by
  intro pins s σ H x y v u Q I rx ry h
  obtain ⟨d, e, hd, he, sd, al, nn, q⟩ := h
  obtain ⟨as, r1⟩ := Dp.reads I d x v hd rx
  obtain ⟨bs, r2⟩ := Dp.reads I e y u he ry
  have hd64 : d.depth ≤ 64 := by
    unfold SeqAt.shaped at sd
    simp only [Bool.and_eq_true, decide_eq_true_eq] at sd
    exact sd.2
  refine show wpAny (model X.prog X.w) X.A (richCompare .Lt v u) _ _ _ from ?_
  exact PySem.W.rcLt_alike d e X.A s v u as bs r1 r2 al nn (by omega) X.prog X.w X.xe _ ⟨.bl _, H, I, rfl, q⟩

theorem opK_cmp {op : CmpOp} (hu : X.A.units + 65 < cLine) : OpK X cl (compareOp op) (fCmp op) := by
  have hu64 : X.A.units + 64 < cLine := by omega
  cases op with
  | Eq =>
    refine ⟨_, op_eqD hu64, fun F H x y a b c o Q le va vb e q => ?_⟩
    simp only [fCmp, dEq, oB] at e
    split at e
    · rename_i h
      rw [Bool.and_eq_true] at h
      cases e
      exact ⟨_, _, va.dp le (shp_plain h.1).1, vb.dp le (shp_plain h.2).1, (shp_plain h.1).2, (shp_plain h.2).2, q F H _ (Grow.refl le) (.bl _)⟩
    · cases e
  | NotEq =>
    refine ⟨_, op_neD hu64, fun F H x y a b c o Q le va vb e q => ?_⟩
    simp only [fCmp, dEq, oB] at e
    split at e
    · rename_i h
      rw [Bool.and_eq_true] at h
      cases e
      exact ⟨_, _, va.dp le (shp_plain h.1).1, vb.dp le (shp_plain h.2).1, (shp_plain h.1).2, (shp_plain h.2).2, q F H _ (Grow.refl le) (.bl _)⟩
    · cases e
  | Lt =>
    refine ⟨_, OpR.or (op_lt (X := X)) (OpR.or (op_lt_str (X := X)) (op_ltD hu64)), fun F H x y a b c o Q le va vb e q => ?_⟩
    simp only [fCmp, dLt, oB] at e
    split at e
    · cases e; exact .inl ⟨_, _, va.int, vb.int, q F H _ (Grow.refl le) (.bl _)⟩
    · cases e; exact .inr (.inl ⟨_, _, va.str, vb.str, q F H _ (Grow.refl le) (.bl _)⟩)
    · unfold dLtS at e
      split at e
      · rename_i h
        rw [Bool.and_eq_true, Bool.and_eq_true, Bool.and_eq_true] at h
        obtain ⟨⟨⟨ha, hb⟩, hal⟩, hn⟩ := h
        cases e
        refine .inr (.inr ⟨_, _, va.dp le (shp_plain ha).1, vb.dp le (shp_plain hb).1, (shp_plain ha).2, hal, fun z => ?_, q F H _ (Grow.refl le) (.bl _)⟩)
        cases a <;> first | (simp [toPy] at z; done) | (simp [isSeq] at hn; done)
      · cases e
  | Gt =>
    refine ⟨_, op_gt, fun F H x y a b c o Q le va vb e q => ?_⟩
    simp only [fCmp] at e
    split at e
    · cases e; exact ⟨_, _, va.int, vb.int, q F H _ (Grow.refl le) (.bl _)⟩
    · cases e
  | LtE =>
    refine ⟨_, op_le, fun F H x y a b c o Q le va vb e q => ?_⟩
    simp only [fCmp] at e
    split at e
    · cases e; exact ⟨_, _, va.int, vb.int, q F H _ (Grow.refl le) (.bl _)⟩
    · cases e
  | GtE =>
    refine ⟨_, op_ge, fun F H x y a b c o Q le va vb e q => ?_⟩
    simp only [fCmp] at e
    split at e
    · cases e; exact ⟨_, _, va.int, vb.int, q F H _ (Grow.refl le) (.bl _)⟩
    · cases e
  | In =>
    refine ⟨_, OpR.or (op_inD hu) (op_inT hu), fun F H x y a b c o Q le va vb e q => ?_⟩
    simp only [fCmp, dIn, oB] at e
    split at e
    · split at e
      · rename_i h
        rw [Bool.and_eq_true] at h
        cases e
        have pb := vb.dp le (shp_plain h.2).1
        have sb := (shp_plain h.2).2
        simp only [toPy] at pb sb
        exact .inl ⟨_, _, va.dp le (shp_plain h.1).1, pb, (shp_plain h.1).2, sb, by rw [any_py]; exact q F H _ (Grow.refl le) (.bl _)⟩
      · cases e
    · split at e
      · rename_i h
        rw [Bool.and_eq_true] at h
        cases e
        have pb := vb.dp le (shp_plain h.2).1
        have sb := (shp_plain h.2).2
        simp only [toPy] at pb sb
        exact .inr ⟨_, _, va.dp le (shp_plain h.1).1, pb, (shp_plain h.1).2, sb, by rw [any_py]; exact q F H _ (Grow.refl le) (.bl _)⟩
      · cases e
    · cases e
  | NotIn =>
    refine ⟨_, OpR.or (op_notInD hu) (op_notInT hu), fun F H x y a b c o Q le va vb e q => ?_⟩
    simp only [fCmp, dIn, oB] at e
    split at e
    · split at e
      · rename_i h
        rw [Bool.and_eq_true] at h
        cases e
        have pb := vb.dp le (shp_plain h.2).1
        have sb := (shp_plain h.2).2
        simp only [toPy] at pb sb
        exact .inl ⟨_, _, va.dp le (shp_plain h.1).1, pb, (shp_plain h.1).2, sb, by rw [any_py]; exact q F H _ (Grow.refl le) (.bl _)⟩
      · cases e
    · split at e
      · rename_i h
        rw [Bool.and_eq_true] at h
        cases e
        have pb := vb.dp le (shp_plain h.2).1
        have sb := (shp_plain h.2).2
        simp only [toPy] at pb sb
        exact .inr ⟨_, _, va.dp le (shp_plain h.1).1, pb, (shp_plain h.1).2, sb, by rw [any_py]; exact q F H _ (Grow.refl le) (.bl _)⟩
      · cases e
    · cases e
  | Is =>
    refine ⟨_, (op_isN.or op_is_bl), fun F H x y a b c o Q le va vb e q => ?_⟩
    simp only [fCmp] at e
    split at e
    · split at e
      · cases e
        have e1 := va.non
        subst e1
        exact .inl ⟨vb.non, q F H _ (Grow.refl le) (.bl _)⟩
      · cases e
      · rename_i hn ho
        cases e
        have e1 : x ≠ .non := by
          rintro rfl
          rcases va with va | ⟨_, h, _⟩
          · cases va
            · exact hn rfl
          · cases h
        refine .inl ⟨vb.non, ?_⟩
        rw [decide_eq_false e1]
        exact q F H _ (Grow.refl le) (.bl _)
    · split at e
      · cases e
        exact .inr ⟨_, _, va.bl, vb.bl, q F H _ (Grow.refl le) (.bl _)⟩
      · cases e
    · cases e
  | IsNot =>
    refine ⟨_, (op_notN.or op_isnot_bl), fun F H x y a b c o Q le va vb e q => ?_⟩
    simp only [fCmp] at e
    split at e
    · split at e
      · cases e
        have e1 := va.non
        subst e1
        exact .inl ⟨vb.non, q F H _ (Grow.refl le) (.bl _)⟩
      · cases e
      · rename_i hn ho
        cases e
        have e1 : x ≠ .non := by
          rintro rfl
          rcases va with va | ⟨_, h, _⟩
          · cases va
            · exact hn rfl
          · cases h
        refine .inl ⟨vb.non, ?_⟩
        rw [decide_eq_false e1]
        exact q F H _ (Grow.refl le) (.bl _)
    · split at e
      · cases e
        exact .inr ⟨_, _, va.bl, vb.bl, q F H _ (Grow.refl le) (.bl _)⟩
      · cases e
    · cases e
end
end PF

namespace PF
open PySem PySem.Spec L2
structure FnG (P : Program) (w : World) (K : PySem.W.Frag) (mg : Str → Option Value) (base : Heap) (k : Nat) (f : Addr) (fd : FuncData) (ps : List Str) (sp : Sp) : Prop where
  arity : ∀ vs H Q E, sp vs H Q E → vs.length = ps.length
  go : ∀ (A : Around) (outer : List Env) (s : Shared) (H : Hp) (args : Args) (us : List Value) (vs : List V) (Q : VK) (E : XK),
    Room k A → A.guards = some [] → Env0 P w K mg base A outer s H → BindsTo s fd args (ps.zip us) → Vals vs us → sp vs H Q E →
    codeAny (model P w) A (.call (.ref f) args) (CR (L2.CX P w) outer P w H s Q E) s

section
open PyProof.Rows
variable {P : Program} {w : World} {K : PySem.W.Frag} {mg : Str → Option Value} {base : Heap}
/-- what a body's end means for the call -/
theorem flow_end {N : List Str} {qual : Str} {scope : Scope} {f : Addr} {cdv : Value} {A : Around} {outer : List Env} {s s' : Shared} {H : Hp} {Q : VK} {E : XK} {fl : Flow}
    (h : SP (cxOf (L2.CX P w) P w K mg base N qual scope f cdv A outer s H E) [] { nx := fun _ H' => Q .non H', rt := Q } fl s') :
    CR (L2.CX P w) outer P w H s Q E (.ok (match fl with | .ret u => .ret u | _ => .ret .none)) s' := by
  rcases fl with _ | _ | _ | u
  · rcases h with ⟨_, G, J, q⟩; exact ⟨.non, G, J.os, J.bare, J.base, J.hok, rfl, q⟩
  · rcases h with ⟨_, _, _, q⟩; cases q
  · rcases h with ⟨_, _, _, q⟩; cases q
  · rcases h with ⟨v, _, G, J, r, q⟩; exact ⟨v, G, J.os, J.bare, J.base, J.hok, r, q⟩
theorem fnG {k : Nat} {f : Addr} {name qual : Str} {params : Arguments} {body : List Stmt} {scope : Scope} {dV kV doc pm cdv ct oc : Value} {an od : Option Addr}
    {osl : Array (Option Value)} {N ps : List Str} {sp : Sp} (lk : K.lookup f = some ⟨oc, od, .func (PySem.W.fnOf name qual params body scope dV kV doc pm an cdv ct), osl⟩) (cd : PySem.W.codeIn K cdv qual = true) (S : FnScope N ps scope)
    (ar : ∀ vs H Q E, sp vs H Q E → vs.length = ps.length)
    (B : ∀ (A : Around) (outer : List Env) (s : Shared) (H : Hp) (vs : List V) (Q : VK) (E : XK), Room k (A.deeper (envOfC qual scope s.heap.objs.size f cdv)) → A.guards = some [] → sp vs H Q E →
      ∃ t, PSs (cxOf (L2.CX P w) P w K mg base N qual scope f cdv A outer s H E) body t ∧ t { nx := fun _ H' => Q .non H', rt := Q } (start N vs) H) :
    FnG P w K mg base (k + 1) f (PySem.W.fnOf name qual params body scope dV kV doc pm an cdv ct) ps sp where
  arity := ar
  go A outer s H args us vs Q E room gd e0 bt rv hs := by
    have kin : K.In s.heap := e0.mod.kin.keeps fun b o q => (e0.bs b o q).1
    have nl : s.heap.NoLimit := e0.mod.nolimit.keeps fun b o q => (e0.bs b o q).1
    refine codeAny_call_function room.depth (kin _ _ lk) rfl S.co S.gen rfl (PySem.W.codeRec_of kin cd) (bt _ _ _ _ (wpAny_newFunctionEnv_cells S.kind (fun y hy => ?_) fun env e s1 x => ?_))
    · rcases S.par y.1 (List.of_mem_zip (show (y.1, y.2) ∈ _ from hy)).1 with q | q
      · exact .inl q
      · exact .inr ⟨q, PySem.W.cellsFrom_some _ _ _ (.inl q)⟩
    · subst e
      obtain ⟨t, hp, ht⟩ := B A outer s H vs Q E (room.deeper _) gd hs
      refine ⟨nl.keeps x.toInCall.keep, codeAny_func (wpAny_mono (hp.run [] s1 (start N vs) H _ (inv_start S room.hd e0 (ar _ _ _ _ hs) rv x) ht) (fun fl s' z => ?_) fun _ _ z => z)⟩
      have q := flow_end z
      cases fl <;> first | exact q | (rcases z with ⟨_, _, _, z⟩; cases z)
end

section
variable {X : Cx} {W : WX} {k : Nat} {f C : Addr} {fd : FuncData} {ps : List Str} {sp : Sp}
/-- the callee's end at the caller -/
theorem back_here {pins : List (Addr × Obj)} {σ : L2.St} {H H' : Hp} {s : Shared} {Q : VK} {r : Result} {s' : Shared} (tk : Takes X W) (I : Inv X pins σ H s)
    (h : CR (L2.CX X.prog X.w) X.stack X.prog X.w H s Q (WE W σ) r s') : (∃ e, r = .error e ∧ X.xe e s') ∨ ∃ u, r = .ok (.ret u) ∧ EP X pins σ Q u s' := by
  cases r with
  | error e => exact .inl ⟨e, rfl, passAt tk σ pins H s e s' I h⟩
  | ok fl =>
    cases fl with
    | ret u => exact .inr ⟨u, rfl, I.after h⟩
    | next => cases h
    | brk => cases h
    | cont => cases h
theorem here_fn {pins : List (Addr × Obj)} {σ : L2.St} {H : Hp} {s : Shared} {Q : VK} {us : List Value} {vs : List V} (F : FnG X.prog X.w X.K X.mg X.base k f fd ps sp) (room : Room k X.A) (gd : X.A.guards = some []) (bs : Binds X.K fd ps [])
    (tk : Takes X W) (I : Inv X pins σ H s) (rv : Vals vs us) (h : sp vs H Q (WE W σ)) : wpAny (model X.prog X.w) X.A (call (.ref f) us) (EP X pins σ Q) X.xe s := by
  have b := bs s us I.kIn (by simpa using rv.length.symm.trans (F.arity _ _ _ _ h))
  simp only [List.append_nil] at b
  refine wpAny_call (codeAny_mono (F.go X.A X.stack s H ⟨us, []⟩ us vs Q (WE W σ) room gd I.env0 b rv h) fun r s' z => ?_)
  rcases back_here (H' := H) tk I z with ⟨e, rfl, q⟩ | ⟨u, rfl, q⟩
  · exact q
  · exact q
/-- a call by the name of a def -/
theorem call_G {x : Str} {p pos : Pos} {e : Expr} {es : List Expr} {t : TA} (F : FnG X.prog X.w X.K X.mg X.base k f fd ps sp) (room : Room k X.A) (gd : X.A.guards = some []) (hg : Gl X x) (hm : X.mg x = some (.ref f)) (kp : PySem.W.keepIn X.K (.ref f) = true)
    (bs : Binds X.K fd ps []) (tk : Takes X W) (ha : PA X (e :: es) t) (nd : (x == ("__debug__" : Str)) = false) (st : starEach (e :: es) X.env = (false, eval e X.env) :: starEach es X.env) (pl : (backTo pos (starEach es X.env)).any (·.1) = false) :
    PE X (.Call (.Name x p) (e :: es) [] pos) (tCallS sp (WE W) t) where
  run pins s σ H Q I h := wpAny_Call_Name_kw (ld_glob I hg hm (PySem.W.callWith_K (h₀ := X.base) I.ok.mod.kin kp (thn (ha.run pos pins s σ H _ I h) fun us s1 ⟨vs, H1, J, r, q⟩ => ⟨J.kIn, here_fn F room gd bs tk J r q⟩) st pl) nd)
theorem call_G0 {x : Str} {p pos : Pos} (F : FnG X.prog X.w X.K X.mg X.base k f fd ps sp) (room : Room k X.A) (gd : X.A.guards = some []) (hg : Gl X x) (hm : X.mg x = some (.ref f)) (kp : PySem.W.keepIn X.K (.ref f) = true)
    (bs : Binds X.K fd ps []) (tk : Takes X W) (nd : (x == ("__debug__" : Str)) = false) : PE X (.Call (.Name x p) [] [] pos) (tCallS sp (WE W) tNil) where
  run pins s σ H Q I h := wpAny_Call_Name_kw (ld_glob I hg hm (PySem.W.callWith_K0 I.kIn kp (here_fn (us := []) F room gd bs tk I .nil h)) nd)

/-- a new instance, then its __init__ -/
def tNew (C : Addr) (sp : Sp) (E : L2.St → XK) (t : TA) : TE := fun σ H Q => t σ H fun vs H1 => ∀ x dx, H1 x = none → H1 dx = none → dx ≠ x →
  sp (.ref x :: vs) (upd (upd H1 dx (.own x)) x (.ins C dx [])) (fun v H2 => v = .non ∧ Q (.ref x) H2) (E σ)
theorem under_make {A : Around} {C : Addr} {us : List Value} (h : A.guards = some []) : (A.under (.builtin "type.__call__" ⟨.ref C :: us, []⟩)).guards = some [] := by
  simp [Around.under, Code.guards, Code.isGuard, guardIds, pushGuards, h]
theorem here_new {pins : List (Addr × Obj)} {σ : L2.St} {H : Hp} {s : Shared} {Q : VK} {us : List Value} {vs : List V} (M : Mk X.K C f) (F : FnG X.prog X.w X.K X.mg X.base k f fd ps sp) (room : Room (k + 1) X.A) (gd : X.A.guards = some []) (bs : Binds X.K fd ps [])
    (tk : Takes X W) (I : Inv X pins σ H s) (rv : Vals vs us)
    (h : ∀ x dx, H x = none → H dx = none → dx ≠ x → sp (.ref x :: vs) (upd (upd H dx (.own x)) x (.ins C dx [])) (fun v H2 => v = .non ∧ Q (.ref x) H2) (WE W σ)) :
    wpAny (model X.prog X.w) X.A (call (.ref C) us) (EP X pins σ Q) X.xe s := by
  have J := Inv.made (C := C) I
  have hq := h _ _ (I.hok.fresh (Nat.le_succ _)) (I.hok.fresh (Nat.le_refl s.heap.objs.size)) (Nat.ne_of_lt (Nat.lt_succ_self _))
  have rv2 : Vals (V.ref (s.heap.objs.size + 1) :: vs) (Value.ref (s.heap.objs.size + 1) :: us) := .cons rfl rv
  have b := bs _ (Value.ref (s.heap.objs.size + 1) :: us) J.kIn (by simpa using rv2.length.symm.trans (F.arity _ _ _ _ hq))
  simp only [List.append_nil] at b
  refine wpAny_call (make_map (f := f) I.kIn M.makes M.init (beq_iff_eq.mp M.fn) (codeAny_mono (F.go _ X.stack _ _ ⟨_, []⟩ _ _ _ (WE W σ) (room.make C us []) (under_make gd) (J.env0.make C us []) b rv2 hq) fun r s' z => ?_))
  rcases back_here (H' := H) tk J z with ⟨e, rfl, q⟩ | ⟨u, rfl, v, H', J2, r, rfl, q⟩
  · exact q
  · exact ⟨r, .ref _, H', J2, rfl, q⟩
theorem new_G {x : Str} {p pos : Pos} {e : Expr} {es : List Expr} {t : TA} (M : Mk X.K C f) (F : FnG X.prog X.w X.K X.mg X.base k f fd ps sp) (room : Room (k + 1) X.A) (gd : X.A.guards = some []) (hg : Gl X x) (hm : X.mg x = some (.ref C)) (bs : Binds X.K fd ps [])
    (tk : Takes X W) (ha : PA X (e :: es) t) (nd : (x == ("__debug__" : Str)) = false) (st : starEach (e :: es) X.env = (false, eval e X.env) :: starEach es X.env) (pl : (backTo pos (starEach es X.env)).any (·.1) = false) :
    PE X (.Call (.Name x p) (e :: es) [] pos) (tNew C sp (WE W) t) where
  run pins s σ H Q I h := wpAny_Call_Name_kw (ld_glob I hg hm (PySem.W.callWith_K (h₀ := X.base) I.ok.mod.kin M.kp (thn (ha.run pos pins s σ H _ I h) fun us s1 ⟨vs, H1, J, r, q⟩ => ⟨J.kIn, here_new M F room gd bs tk J r q⟩) st pl) nd)
end
section
variable {X : Cx} {cl : Cl}
def CallK (X : Cx) (cl : Cl) (f : Value) (g : List D → Option (D × Bool)) : Prop := ∃ r, CallR X f r ∧ CallS X.K cl r g
def rRepr (K : PySem.W.Frag) : List V → Hp → VK → Prop := fun xs H Q => ∃ x d, xs = [x] ∧ Dp K H x d ∧ SeqAt.shaped d = true ∧ d.showable = true ∧ d.shown.length ≤ sizeLine ∧ Q (.str d.shown) H
theorem shaped_canLay {d : PyData} (h : SeqAt.shaped d = true) : d.canLay0 = true ∧ d.depth ≤ 64 := by
  unfold SeqAt.shaped at h
  simpa using h
theorem call_repr (gd : X.A.guards = some []) (hu : X.A.units + 66 < cLine) : CallR X (.builtin "repr") (rRepr X.K) := by
  intro pins s σ H xs us Q I r h
  obtain ⟨x, d, rfl, hd, sh, hs, hz, q⟩ := h
  obtain ⟨u, rfl, ru⟩ := Vals.one r
  obtain ⟨as, rd⟩ := Dp.reads I d x u hd ru
  obtain ⟨cn, dp⟩ := shaped_canLay sh
  cases hd with
  | non => cases ru; exact PySem.P.repr_of_none ⟨.str _, H, I.tok _, ⟨_, rfl⟩, q⟩
  | bl b => cases ru; exact PySem.P.repr_of_bool ⟨.str _, H, I.tok _, ⟨_, rfl⟩, q⟩
  | int i => obtain ⟨t, rfl⟩ := ru; exact PySem.P.repr_of_int (by simpa [PyData.showable] using hs) ⟨.str _, H, I.tok _, ⟨_, rfl⟩, q⟩
  | str i => obtain ⟨t, rfl⟩ := ru; exact PySem.P.repr_of_str ⟨.str _, H, I.tok _, ⟨_, rfl⟩, q⟩ (by simpa [PyData.shown] using hz)
  | lst _ _ =>
    cases ru
    exact repr_of_reads' rd hs (PyData.noDict_hsm (PyData.hasDict_of_canLay _ cn)) gd (by omega) (fun _ _ h => h) (fun h' u tk k => ⟨.str _, H, I.kept k, ⟨_, rfl⟩, q⟩) hz
  | tup _ _ =>
    cases ru
    exact repr_of_reads' rd hs (PyData.noDict_hsm (PyData.hasDict_of_canLay _ cn)) gd (by omega) (fun _ _ h => h) (fun h' u tk k => ⟨.str _, H, I.kept k, ⟨_, rfl⟩, q⟩) hz
/-- what repr tells -/
def fRepr : List D → Option (D × Bool)
  | [d] => if shp d && (toPy d).showable && decide ((toPy d).shown.length ≤ lim) then some (.str (toPy d).shown, false) else none
  | _ => none
theorem callK_repr (gd : X.A.guards = some []) (hu : X.A.units + 66 < cLine) : CallK X cl (.builtin "repr") fRepr := by
  refine ⟨_, call_repr gd hu, fun F H xs as c o Q le va e q => ?_⟩
  unfold fRepr at e
  split at e
  · split at e
    · rename_i h
      simp only [Bool.and_eq_true, decide_eq_true_eq] at h
      cases e
      cases va with
      | cons v t =>
        cases t
        exact ⟨_, _, rfl, v.dp le (shp_plain h.1.1).1, (shp_plain h.1.1).2, h.1.2, lim_le h.2, q F H _ (Grow.refl le) (.str _)⟩
    · cases e
  · cases e
end
end PF

namespace PF
open PySem PySem.Spec L2

abbrev FR := List Sl → R (D × Bool)

/-- a call's end, as the caller sees it -/
structure CEnd (K : PySem.W.Frag) (cl : Cl) (F : Hp) (as : En) (vs : List V) (H F' : Hp) (ρ' : En) (H' : Hp) : Prop where
  le : Le F F'
  in' : Le F' H'
  keep : ∀ a o, H a = some o → (∀ ps, o ≠ .tbl ps) → ¬ Owned (vs.map some) as a → H' a = some o
  tbl : ∀ a ps, H a = some (.tbl ps) → ∃ ps', H' a = some (.tbl ps')
  tab : TabOk cl.T F' H'
  thaw : ∀ a o, H a = some o → (∀ b, o ≠ .own b) → ¬ Owned (vs.map some) as a → F a = none → F' a = none
  live : ∀ a o, H a = some o → ∃ o', H' a = some o'
  lent : ∀ (i : Nat) (d : D), as[i]? = some (Sl.ln d) → ∃ a, vs[i]? = some (.ref a) ∧ ((∃ e, ρ'[i]? = some (Sl.ln e) ∧ F' a = none ∧ Own K cl F' H' a e) ∨ ∃ e, ρ'[i]? = some (Sl.lf e) ∧ F' a ≠ none ∧ Den K cl F' (.ref a) e)

def Argy (as : En) : Prop := ∀ x ∈ as, (∃ d, x = Sl.fr d) ∨ ∃ d, x = Sl.ln d
/-- what a def promises that does as g tells, at what is frozen at the call -/
abbrev spAt (K : PySem.W.Frag) (cl : Cl) (n : Nat) (g : FR) (F : Hp) : Sp := fun vs H Q E => ∃ as, Corr K cl F as (vs.map some) H ∧ Argy as ∧ as.length = n ∧ match g as with
  | .ok d ρ' => ∀ F' H' v, CEnd K cl F as vs H F' ρ' H' → (if d.2 = true then ∃ a, v = .ref a ∧ H a = none ∧ F' a = none ∧ Own K cl F' H' a d.1 else Den K cl F' v d.1) → Q v H'
  | .ex x ρ' => ∀ F' H' c dd, CEnd K cl F as vs H F' ρ' H' → ExRel K cl F' H' x c dd → E c dd H'
  | .bad => False
def spOf (K : PySem.W.Frag) (cl : Cl) (n : Nat) (g : FR) : Sp := fun vs H Q E => ∃ F, spAt K cl n g F vs H Q E
/-- the same of a function that was handed in -/
def spC (K : PySem.W.Frag) (cl : Cl) (n : Nat) (g : FR) : Sp := fun vs H Q E => ∃ F, Le cl.F0 F ∧ spAt K cl n g F vs H Q E
theorem spOf_len {K : PySem.W.Frag} {cl : Cl} {n : Nat} {g : FR} {vs : List V} {H : Hp} {Q : VK} {E : XK} (h : spOf K cl n g vs H Q E) : vs.length = n := by
  obtain ⟨F, as, c, _, l, _⟩ := h
  have := c.len
  simp at this
  omega
def lendS : Sl → Option Sl
  | .fr d => some (.fr d)
  | .lf d => some (.fr d)
  | .ow d => some (.ln d)
  | .ln d => some (.ln d)
  | .un => none
def hand (ρ : En) : List (Sum Nat D) → Option En
  | [] => some []
  | .inr d :: r => (hand ρ r).map (Sl.fr d :: ·)
  | .inl j :: r => match (ρ[j]?).bind lendS, hand ρ r with
    | some x, some xs => some (x :: xs)
    | _, _ => none
def takeS : Sl → Option Sl → Option Sl
  | .fr d, _ => some (.fr d)
  | .lf d, _ => some (.lf d)
  | .ow _, some (.ln e) => some (.ow e)
  | .ow _, some (.lf e) => some (.fr e)
  | .ln _, some (.ln e) => some (.ln e)
  | .ln _, some (.lf e) => some (.lf e)
  | _, _ => none
def takeB (ρc : En) : Nat → List (Sum Nat D) → En → Option En
  | _, [], ρ => some ρ
  | p, .inr _ :: r, ρ => takeB ρc (p + 1) r ρ
  | p, .inl j :: r, ρ => match ρ[j]? with
    | some x => match takeS x (ρc[p]?) with
      | some y => takeB ρc (p + 1) r (ρ.set j y)
      | none => none
    | none => none
/-- no slot twice -/
def apart : List (Sum Nat D) → Bool
  | [] => true
  | .inr _ :: r => apart r
  | .inl j :: r => r.all (fun x => match x with | .inl i => i != j | .inr _ => true) && apart r
def handR (n : Nat) (g : FR) (xs : List (Sum Nat D)) : En → R (D × Bool) := fun ρ1 =>
  if (apart xs && xs.length == n) = true then match hand ρ1 xs with
    | some sl => match g sl with
      | .ok d ρc => match takeB ρc 0 xs ρ1 with
        | some ρ2 => .ok d ρ2
        | none => .bad
      | .ex x ρc => match takeB ρc 0 xs ρ1 with
        | some ρ2 => .ex x ρ2
        | none => .bad
      | .bad => .bad
    | none => .bad
  else .bad
def usr (n : Nat) (g : FR) (as : List Opd) : En → R (D × Bool) := fun ρ => (evs as ρ).bind fun xs ρ1 => handR n g xs ρ1

theorem apart_ne : ∀ {xs : List (Sum Nat D)} {p q j : Nat}, apart xs = true → xs[p]? = some (.inl j) → xs[q]? = some (.inl j) → p = q
  | [], _, _, _, _, h, _ => by simp at h
  | .inr d :: r, 0, _, _, _, h, _ => by simp at h
  | .inr d :: r, p + 1, 0, _, _, _, h => by simp at h
  | .inr d :: r, p + 1, q + 1, j, ha, h1, h2 => by
    have := apart_ne (xs := r) (p := p) (q := q) (j := j) ha (by simpa using h1) (by simpa using h2)
    omega
  | .inl i :: r, p, q, j, ha, h1, h2 => by
    unfold apart at ha
    rw [Bool.and_eq_true, List.all_eq_true] at ha
    have no : ∀ m : Nat, r[m]? = some (Sum.inl i) → False := fun m hm => by
      have := ha.1 _ (List.mem_of_getElem? hm)
      simp at this
    cases p with
    | zero =>
      cases q with
      | zero => rfl
      | succ q => simp at h1 h2; subst h1; exact (no q h2).elim
    | succ p =>
      cases q with
      | zero => simp at h1 h2; subst h2; exact (no p h1).elim
      | succ q =>
        have := apart_ne (xs := r) (p := p) (q := q) (j := j) ha.2 (by simpa using h1) (by simpa using h2)
        omega
theorem hand_get {ρ : En} : ∀ {xs : List (Sum Nat D)} {as : En}, hand ρ xs = some as → as.length = xs.length ∧ ∀ (p : Nat), (∀ d, xs[p]? = some (.inr d) → as[p]? = some (.fr d)) ∧ (∀ j, xs[p]? = some (.inl j) → ∃ x y, ρ[j]? = some x ∧ lendS x = some y ∧ as[p]? = some y)
  | [], as, h => by cases h; exact ⟨rfl, fun p => ⟨fun d h => by simp at h, fun j h => by simp at h⟩⟩
  | .inr d :: r, as, h => by
    unfold hand at h
    cases hr : hand ρ r with
    | none => rw [hr] at h; cases h
    | some xs =>
      rw [hr] at h; cases h
      obtain ⟨l, g⟩ := hand_get hr
      refine ⟨by simp [l], fun p => ?_⟩
      cases p with
      | zero => exact ⟨fun e h => by simp at h; subst h; rfl, fun j h => by simp at h⟩
      | succ p => simpa using g p
  | .inl j :: r, as, h => by
    unfold hand at h
    cases hx : (ρ[j]?).bind lendS with
    | none => rw [hx] at h; cases h
    | some x =>
      cases hr : hand ρ r with
      | none => rw [hx, hr] at h; cases h
      | some xs =>
        rw [hx, hr] at h; cases h
        obtain ⟨l, g⟩ := hand_get hr
        refine ⟨by simp [l], fun p => ?_⟩
        cases p with
        | zero =>
          refine ⟨fun e h => by simp at h, fun i h => ?_⟩
          simp at h; subst h
          cases hj : ρ[j]? with
          | none => rw [hj] at hx; cases hx
          | some y => rw [hj] at hx; exact ⟨y, x, rfl, hx, rfl⟩
        | succ p => simpa using g p
/-- what stands in the slots behind -/
theorem takeB_get {ρc : En} : ∀ {xs : List (Sum Nat D)} {p : Nat} {ρ ρ2 : En}, apart xs = true → takeB ρc p xs ρ = some ρ2 → ρ2.length = ρ.length ∧
    ∀ (i : Nat), (∀ (q : Nat), xs[q]? = some (.inl i) → ∃ x y, ρ[i]? = some x ∧ takeS x (ρc[p + q]?) = some y ∧ ρ2[i]? = some y) ∧ ((∀ (q : Nat), xs[q]? ≠ some (.inl i)) → ρ2[i]? = ρ[i]?)
  | [], p, ρ, ρ2, _, h => by cases h; exact ⟨rfl, fun i => ⟨fun q h => by simp at h, fun _ => rfl⟩⟩
  | .inr d :: r, p, ρ, ρ2, ha, h => by
    obtain ⟨l, g⟩ := takeB_get (xs := r) (p := p + 1) ha h
    refine ⟨l, fun i => ⟨fun q hq => ?_, fun hn => (g i).2 fun q => ?_⟩⟩
    · cases q with
      | zero => simp at hq
      | succ q =>
        have := (g i).1 q (by simpa using hq)
        rwa [show p + 1 + q = p + (q + 1) by omega] at this
    · have := hn (q + 1)
      simpa using this
  | .inl j :: r, p, ρ, ρ2, ha, h => by
    have ha' := ha
    unfold apart at ha
    rw [Bool.and_eq_true] at ha
    unfold takeB at h
    cases hx : ρ[j]? with
    | none => rw [hx] at h; cases h
    | some x =>
      rw [hx] at h
      dsimp only at h
      cases hy : takeS x (ρc[p]?) with
      | none => rw [hy] at h; cases h
      | some y =>
        rw [hy] at h
        have hj : j < ρ.length := (List.getElem?_eq_some_iff.mp hx).1
        obtain ⟨l, g⟩ := takeB_get (xs := r) (p := p + 1) ha.2 h
        refine ⟨by rw [l, List.length_set], fun i => ⟨fun q hq => ?_, fun hn => ?_⟩⟩
        · cases q with
          | zero =>
            simp at hq; subst hq
            refine ⟨x, y, hx, hy, ?_⟩
            rw [(g j).2 fun q hq => ?_, List.getElem?_set_self hj]
            have := apart_ne (p := 0) (q := q + 1) ha' rfl (by simpa using hq)
            omega
          | succ q =>
            have hq' : r[q]? = some (.inl i) := by simpa using hq
            have hij : i ≠ j := by
              rintro rfl
              have := apart_ne (p := 0) (q := q + 1) ha' rfl hq
              omega
            obtain ⟨x', y', h1, h2, h3⟩ := (g i).1 q hq'
            rw [List.getElem?_set_ne (Ne.symm hij)] at h1
            rw [show p + 1 + q = p + (q + 1) by omega] at h2
            exact ⟨x', y', h1, h2, h3⟩
        · have hij : i ≠ j := by
            rintro rfl
            exact hn 0 rfl
          rw [(g i).2 fun q hq => hn (q + 1) (by simpa using hq), List.getElem?_set_ne (Ne.symm hij)]

theorem holdL_get {K : PySem.W.Frag} {cl : Cl} {F : Hp} {σ : L2.St} : ∀ {xs : List (Sum Nat D)} {vs : List V}, HoldL K cl F σ xs vs → vs.length = xs.length ∧ ∀ (p : Nat) a, xs[p]? = some a → ∃ v, vs[p]? = some v ∧ Hold K cl F σ a v
  | [], [], _ => ⟨rfl, fun p a h => by simp at h⟩
  | [], _ :: _, h => h.elim
  | _ :: _, [], h => h.elim
  | x :: xs, v :: vs, h => by
    obtain ⟨l, g⟩ := holdL_get h.2
    refine ⟨by simp [l], fun p a hp => ?_⟩
    cases p with
    | zero => simp at hp; subst hp; exact ⟨v, rfl, h.1⟩
    | succ p => simpa using g p a (by simpa using hp)

section
variable {K : PySem.W.Frag} {cl : Cl} {W : WX} {F F1 : Hp} {ρ ρ1 : En} {σ : L2.St} {H H1 : Hp}
theorem slot_of {i : Nat} {x : Sl} (c : Corr K cl F ρ σ H) (h : ρ[i]? = some x) : ∃ o, σ[i]? = some o ∧ SlOk K cl F H x o := by
  have hi : i < σ.length := by rw [← c.len]; exact (List.getElem?_eq_some_iff.mp h).1
  exact ⟨_, List.getElem?_eq_getElem hi, c.slot i x _ h (List.getElem?_eq_getElem hi)⟩
/-- the callee's slots at its start -/
theorem hand_corr {xs : List (Sum Nat D)} {vs : List V} {as : En} (c : Corr K cl F ρ σ H) (hl : HoldL K cl F σ xs vs) (ap : apart xs = true) (hh : hand ρ xs = some as) : Corr K cl F as (vs.map some) H ∧ Argy as := by
  obtain ⟨l1, g1⟩ := holdL_get hl
  obtain ⟨l2, g2⟩ := hand_get hh
  have key : ∀ (i : Nat) (x : Sl), as[i]? = some x → (∃ d v, xs[i]? = some (.inr d) ∧ x = .fr d ∧ vs[i]? = some v ∧ Den K cl F v d) ∨ ∃ j y v, xs[i]? = some (.inl j) ∧ ρ[j]? = some y ∧ lendS y = some x ∧ vs[i]? = some v ∧ σ[j]? = some (some v) := fun i x hi => by
    have hix : i < xs.length := by rw [← l2]; exact (List.getElem?_eq_some_iff.mp hi).1
    obtain ⟨a, ha⟩ : ∃ a, xs[i]? = some a := ⟨_, List.getElem?_eq_getElem hix⟩
    obtain ⟨v, hv, hd⟩ := g1 i a ha
    cases a with
    | inr d =>
      have := (g2 i).1 d ha
      rw [hi] at this; cases this
      exact .inl ⟨d, v, ha, rfl, hv, hd⟩
    | inl j =>
      obtain ⟨y, z, h1, h2, h3⟩ := (g2 i).2 j ha
      rw [hi] at h3; cases h3
      exact .inr ⟨j, y, v, ha, h1, h2, hv, hd⟩
  have ownk : ∀ (i : Nat) (x : Sl) (d : D), as[i]? = some x → x.own? = some d → ∃ (j : Nat) (y : Sl) (v : V), xs[i]? = some (.inl j) ∧ ρ[j]? = some y ∧ y.own? = some d ∧ vs[i]? = some v ∧ σ[j]? = some (some v) := fun i x d hi ho => by
    rcases key i x hi with ⟨e, v, _, rfl, _⟩ | ⟨j, y, v, h1, h2, h3, h4, h5⟩
    · cases ho
    · refine ⟨j, y, v, h1, h2, ?_, h4, h5⟩
      cases y <;> cases h3 <;> first | exact ho | cases ho
  refine ⟨⟨by simp [l1, l2], c.le, fun i x o hi ho => ?_, fun i j x y d e a h1 h2 h3 h4 h5 h6 => ?_, c.tab⟩, fun x hx => ?_⟩
  · rw [List.getElem?_map] at ho
    rcases key i x hi with ⟨d, v, _, rfl, hv, hd⟩ | ⟨j, y, v, h1, h2, h3, h4, h5⟩
    · rw [hv] at ho; cases ho
      exact ⟨v, rfl, hd⟩
    · rw [h4] at ho; cases ho
      have q := c.slot j y _ h2 h5
      cases y with
      | un => cases h3
      | fr d => cases h3; exact q
      | lf d => cases h3; obtain ⟨a, e, _, z⟩ := q; exact ⟨_, e, z⟩
      | ow d => cases h3; exact q
      | ln d => cases h3; exact q
  · obtain ⟨p, y1, v1, q1, q2, q3, q4, q5⟩ := ownk i x d h1 h3
    obtain ⟨p2, y2, v2, r1, r2, r3, r4, r5⟩ := ownk j y e h2 h4
    rw [List.getElem?_map, q4] at h5
    rw [List.getElem?_map, r4] at h6
    cases h5
    cases h6
    have := c.inj p p2 y1 y2 d e a q2 r2 q3 r3 q5 r5
    subst this
    exact apart_ne ap q1 r1
  · obtain ⟨i, hi⟩ := List.getElem?_of_mem hx
    rcases key i x hi with ⟨d, v, _, rfl, _⟩ | ⟨j, y, v, h1, h2, h3, _⟩
    · exact .inl ⟨d, rfl⟩
    · cases y <;> cases h3 <;> first | exact .inl ⟨_, rfl⟩ | exact .inr ⟨_, rfl⟩

theorem lent_owned {xs : List (Sum Nat D)} {vs : List V} {as : En} {a : Addr} (c : Corr K cl F ρ σ H) (hl : HoldL K cl F σ xs vs) (hh : hand ρ xs = some as) (h : Owned (vs.map some) as a) : ∃ (i j : Nat) (y : Sl) (d : D), xs[i]? = some (.inl j) ∧ ρ[j]? = some y ∧ y.own? = some d ∧ σ[j]? = some (some (.ref a)) ∧ as[i]? = some (.ln d) := by
  obtain ⟨i, x, d, h1, h2, h3⟩ := h
  obtain ⟨l1, g1⟩ := holdL_get hl
  obtain ⟨l2, g2⟩ := hand_get hh
  have hix : i < xs.length := by rw [← l2]; exact (List.getElem?_eq_some_iff.mp h1).1
  obtain ⟨b, hb⟩ : ∃ b, xs[i]? = some b := ⟨_, List.getElem?_eq_getElem hix⟩
  obtain ⟨v, hv, hd⟩ := g1 i b hb
  rw [List.getElem?_map, hv] at h3
  cases h3
  cases b with
  | inr e =>
    have := (g2 i).1 e hb
    rw [h1] at this; cases this; cases h2
  | inl j =>
    obtain ⟨y, z, q1, q2, q3⟩ := (g2 i).2 j hb
    rw [h1] at q3; cases q3
    refine ⟨i, j, y, d, hb, q1, ?_, hd, ?_⟩
    · cases y <;> cases q2 <;> first | exact h2 | cases h2
    · cases y <;> cases q2 <;> first | (cases h2; exact h1) | cases h2

/-- behind a call: the caller's state -/
theorem call_step {xs : List (Sum Nat D)} {vs : List V} {as ρc ρ2 : En} {F' H' : Hp} (c : Corr K cl F ρ σ H) (hl : HoldL K cl F σ xs vs) (ap : apart xs = true) (hh : hand ρ xs = some as)
    (ce : CEnd K cl F as vs H F' ρc H') (ht : takeB ρc 0 xs ρ = some ρ2) : Step F ρ σ H F' ρ2 σ H' ∧ Corr K cl F' ρ2 σ H' ∧ ∀ a, Owned σ ρ2 a → Owned σ ρ a := by
  obtain ⟨l1, g1⟩ := holdL_get hl
  obtain ⟨l2, g2⟩ := hand_get hh
  obtain ⟨l3, g3⟩ := takeB_get ap ht
  have noL : ∀ a, ¬ Owned σ ρ a → ¬ Owned (vs.map some) as a := fun a n z => by
    obtain ⟨i, j, y, d, _, h2, h3, h4, _⟩ := lent_owned c hl hh z
    exact n ⟨j, y, d, h2, h3, h4⟩
  -- each slot behind
  have key : ∀ (i : Nat) (y : Sl), ρ2[i]? = some y → (ρ[i]? = some y ∧ (y.own? = none ∨ ∀ q : Nat, xs[q]? ≠ some (.inl i))) ∨
      ∃ (a : Addr) (x : Sl) (d : D), ρ[i]? = some x ∧ x.own? = some d ∧ σ[i]? = some (some (.ref a)) ∧ ((∃ e, y.own? = some e ∧ F' a = none ∧ Own K cl F' H' a e ∧ ((∃ d, x = Sl.ow d) → y = .ow e) ∧ ((∃ d, x = Sl.ln d) → y = .ln e)) ∨
        ∃ e, (y = .fr e ∨ y = .lf e) ∧ F' a ≠ none ∧ Den K cl F' (.ref a) e ∧ ((∃ d, x = Sl.ln d) → y = .lf e)) := fun i y hy => by
    by_cases hq : ∃ q : Nat, xs[q]? = some (.inl i)
    · obtain ⟨q, hq⟩ := hq
      obtain ⟨x, y', h1, h2, h3⟩ := (g3 i).1 q hq
      rw [hy] at h3; cases h3
      rw [Nat.zero_add] at h2
      obtain ⟨x', z, r1, r2, r3⟩ := (g2 q).2 i hq
      rw [h1] at r1; cases r1
      cases x with
      | un => cases r2
      | fr d => cases h2; exact .inl ⟨h1, .inl rfl⟩
      | lf d => cases h2; exact .inl ⟨h1, .inl rfl⟩
      | ow d =>
        cases r2
        obtain ⟨a, ha, hz⟩ := ce.lent q d r3
        obtain ⟨v, hv, hd⟩ := g1 q _ hq
        rw [ha] at hv; cases hv
        refine .inr ⟨a, _, d, h1, rfl, hd, ?_⟩
        rcases hz with ⟨e, z1, z2, z3⟩ | ⟨e, z1, zn, z2⟩
        · rw [z1] at h2; cases h2; exact .inl ⟨e, rfl, z2, z3, fun _ => rfl, fun ⟨_, z⟩ => by cases z⟩
        · rw [z1] at h2; cases h2; exact .inr ⟨e, .inl rfl, zn, z2, fun ⟨_, z⟩ => by cases z⟩
      | ln d =>
        cases r2
        obtain ⟨a, ha, hz⟩ := ce.lent q d r3
        obtain ⟨v, hv, hd⟩ := g1 q _ hq
        rw [ha] at hv; cases hv
        refine .inr ⟨a, _, d, h1, rfl, hd, ?_⟩
        rcases hz with ⟨e, z1, z2, z3⟩ | ⟨e, z1, zn, z2⟩
        · rw [z1] at h2; cases h2; exact .inl ⟨e, rfl, z2, z3, (fun ⟨_, z⟩ => by cases z), fun _ => rfl⟩
        · rw [z1] at h2; cases h2; exact .inr ⟨e, .inr rfl, zn, z2, fun _ => rfl⟩
    · have := (g3 i).2 fun q z => hq ⟨q, z⟩
      rw [hy] at this
      exact .inl ⟨this.symm, .inr fun q z => hq ⟨q, z⟩⟩
  have own : ∀ a, Owned σ ρ2 a → Owned σ ρ a := fun a ⟨i, y, d, h1, h2, h3⟩ => by
    rcases key i y h1 with ⟨q, _⟩ | ⟨b, x, e, q1, q2, q3, _⟩
    · exact ⟨i, y, d, q, h2, h3⟩
    · exact ⟨i, x, e, q1, q2, h3⟩
  refine ⟨⟨ce.le, fun a o h w n => ce.keep a o h w (noL a n), fun a o h w n e => ce.thaw a o h w (noL a n) e, ce.tbl, fun a h => .inl (own a h), ce.live, fun i d h => ⟨rfl, ?_⟩, fun i d h => ⟨rfl, ?_⟩⟩, ⟨by rw [l3]; exact c.len, ce.in', fun i y o h1 h2 => ?_, fun i j x y d e a h1 h2 h3 h4 h5 h6 => ?_, ce.tab⟩, own⟩
  · have hi : i < ρ2.length := by rw [l3]; exact (List.getElem?_eq_some_iff.mp h).1
    obtain ⟨y, hy⟩ : ∃ y, ρ2[i]? = some y := ⟨_, List.getElem?_eq_getElem hi⟩
    rcases key i y hy with ⟨q, _⟩ | ⟨a, x, e, q1, q2, q3, q4⟩
    · rw [h] at q; cases q; exact .inl ⟨d, hy⟩
    · rw [h] at q1; cases q1
      rcases q4 with ⟨e', _, _, _, _, z⟩ | ⟨e', _, _, _, z⟩
      · exact .inl ⟨e', by rw [hy, z ⟨d, rfl⟩]⟩
      · exact .inr ⟨e', by rw [hy, z ⟨d, rfl⟩]⟩
  · have hi : i < ρ2.length := by rw [l3]; exact (List.getElem?_eq_some_iff.mp h).1
    obtain ⟨y, hy⟩ : ∃ y, ρ2[i]? = some y := ⟨_, List.getElem?_eq_getElem hi⟩
    rcases key i y hy with ⟨q, _⟩ | ⟨a, x, e, q1, q2, q3, q4⟩
    · rw [h] at q; cases q; exact hy
    · rw [h] at q1; cases q1; cases q2
  · rcases key i y h1 with ⟨q, qo⟩ | ⟨a, x, e, q1, q2, q3, q4⟩
    · have z := c.slot i y o q h2
      have ownc : ∀ d, y.own? = some d → ∃ a, o = some (.ref a) ∧ F' a = none ∧ Own K cl F' H' a d := fun d hd => by
        obtain ⟨a, e1, e2, e3⟩ := own_slot z hd
        rcases qo with qo | qo
        · rw [qo] at hd; cases hd
        · have nl : ¬ Owned (vs.map some) as a := fun w => by
            obtain ⟨p, j, y2, d2, w1, w2, w3, w4, _⟩ := lent_owned c hl hh w
            have := c.inj i j y y2 d d2 a q w2 hd w3 (by rw [h2, e1]) w4
            subst this
            exact qo p w1
          obtain ⟨u, hu, nu⟩ := e3.not_own
          refine ⟨a, e1, ce.thaw a u hu nu nl e2, e3.keep' ce.le (fun o h w => ce.keep _ _ h w nl) fun b h => ce.keep _ _ h (fun ps e => by cases e) fun w => ?_⟩
          obtain ⟨p, j, y2, d2, w1, w2, w3, w4, _⟩ := lent_owned c hl hh w
          obtain ⟨b', f1, _, f3⟩ := own_slot (c.slot j y2 _ w2 w4) w3
          cases f1
          obtain ⟨u2, hu2, nu2⟩ := f3.not_own
          rw [h] at hu2; cases hu2
          exact nu2 a rfl
      cases y with
      | un => trivial
      | fr d => obtain ⟨v, e, w⟩ := z; exact ⟨v, e, w.le ce.le⟩
      | lf d => obtain ⟨b, e, n, w⟩ := z; exact ⟨b, e, ce.le.some n, w.le ce.le⟩
      | ow d => exact ownc d rfl
      | ln d => exact ownc d rfl
    · rw [q3] at h2; cases h2
      rcases q4 with ⟨e', z1, z2, z3, _⟩ | ⟨e', z1, zn, z2, _⟩
      · cases y <;> first | (cases z1; exact ⟨a, rfl, z2, z3⟩) | cases z1
      · rcases z1 with rfl | rfl
        · exact ⟨_, rfl, z2⟩
        · exact ⟨a, rfl, zn, z2⟩
  · have back : ∀ (i : Nat) (x : Sl) (d : D), ρ2[i]? = some x → x.own? = some d → ∃ y e, ρ[i]? = some y ∧ y.own? = some e := fun i x d h h' => by
      rcases key i x h with ⟨q, _⟩ | ⟨a, x', e, q1, q2, _⟩
      · exact ⟨x, d, q, h'⟩
      · exact ⟨x', e, q1, q2⟩
    obtain ⟨x', d', p1, p2⟩ := back i x d h1 h3
    obtain ⟨y', e', r1, r2⟩ := back j y e h2 h4
    exact c.inj i j x' y' d' e' a p1 r1 p2 r2 h5 h6

theorem handR_at {g : FR} {xs : List (Sum Nat D)} {vs : List V} {n : Nat} {Q : VK} (st1 : Step F ρ σ H F1 ρ1 σ H1) (c1 : Corr K cl F1 ρ1 σ H1) (h1 : HoldL K cl F1 σ xs vs)
    (p1 : Post K cl W (handR n g xs ρ1) F1 ρ1 σ H1 fun d ρ' F' H' => ∀ v, Tmp K cl d.2 F ρ σ H F' ρ' H' v d.1 → Q v H') : spAt K cl n g F1 vs H1 Q (WE W σ) := by
  unfold handR at p1
  split at p1
  case isFalse => exact p1.elim
  rename_i ap
  rw [Bool.and_eq_true, beq_iff_eq] at ap
  obtain ⟨ap, hln⟩ := ap
  cases hh : hand ρ1 xs with
  | none => rw [hh] at p1; exact p1.elim
  | some sl =>
    rw [hh] at p1
    obtain ⟨c2, ar⟩ := hand_corr c1 h1 ap hh
    refine ⟨sl, c2, ar, (hand_get hh).1.trans hln, ?_⟩
    dsimp only at p1
    cases hg : g sl with
    | bad => rw [hg] at p1; exact p1
    | ok d ρc =>
      rw [hg] at p1
      dsimp only at p1 ⊢
      intro F' H' v ce res
      cases ht : takeB ρc 0 xs ρ1 with
      | none => rw [ht] at p1; exact p1.elim
      | some ρ2 =>
        rw [ht] at p1
        obtain ⟨st, co, ow2⟩ := call_step c1 h1 ap hh ce ht
        refine p1 F' H' st co v ?_
        obtain ⟨d, o⟩ := d
        cases o with
        | false => exact res
        | true =>
          obtain ⟨a, e, n1, n2, ow⟩ := res
          refine ⟨a, e, n2, ow, fun z => ?_, .inl (st1.back n1)⟩
          obtain ⟨i, x, d', w1, w2, w3⟩ := ow2 a z
          obtain ⟨b, f1, _, f3⟩ := own_slot (c1.slot i x _ w1 w3) w2
          cases f1
          obtain ⟨u, hu⟩ := f3.there
          rw [n1] at hu; cases hu
    | ex x ρc =>
      rw [hg] at p1
      dsimp only at p1 ⊢
      intro F' H' cc dd ce er
      cases ht : takeB ρc 0 xs ρ1 with
      | none => rw [ht] at p1; exact p1.elim
      | some ρ2 =>
        rw [ht] at p1
        obtain ⟨st, co, _⟩ := call_step c1 h1 ap hh ce ht
        exact p1 F' H' cc dd st co er
theorem handR_ok {g : FR} {xs : List (Sum Nat D)} {vs : List V} {n : Nat} {Q : VK} (st1 : Step F ρ σ H F1 ρ1 σ H1) (c1 : Corr K cl F1 ρ1 σ H1) (h1 : HoldL K cl F1 σ xs vs)
    (p1 : Post K cl W (handR n g xs ρ1) F1 ρ1 σ H1 fun d ρ' F' H' => ∀ v, Tmp K cl d.2 F ρ σ H F' ρ' H' v d.1 → Q v H') : spOf K cl n g vs H1 Q (WE W σ) := ⟨F1, handR_at st1 c1 h1 p1⟩
/-- a call of what was handed in -/
def usrV (i n : Nat) (g : FR) (as : List Opd) : En → R (D × Bool) := fun ρ => match ρ[i]? with
  | some (.fr .fnv) => usr n g as ρ
  | _ => .bad
theorem usrV_ok {g : FR} {as : List Opd} {i n : Nat} {Q : VK} (h : tO K cl W (usrV i n g as) σ H Q) : σ[i]? = some (some (.ref cl.fn)) ∧ tCallS (spC K cl n g) (WE W) (tOpds K cl W as) σ H Q := by
  obtain ⟨F, ρ, c, p⟩ := h
  unfold usrV at p
  split at p
  · rename_i hr
    have hi : i < σ.length := by rw [← c.len]; exact (List.getElem?_eq_some_iff.mp hr).1
    obtain ⟨o, hs⟩ : ∃ o, σ[i]? = some o := ⟨_, List.getElem?_eq_getElem hi⟩
    obtain ⟨v, e, hv⟩ := c.slot i _ o hr hs
    cases e
    cases hv with
    | fnv l => exact ⟨hs, opds_ok c (Post.bind p) fun xs ρ1 F1 H1 vs st1 c1 h1 p1 => ⟨F1, l.trans st1.le, handR_at st1 c1 h1 p1⟩⟩
  · exact p.elim
theorem usr_ok {g : FR} {as : List Opd} {n : Nat} {Q : VK} (h : tO K cl W (usr n g as) σ H Q) : tCallS (spOf K cl n g) (WE W) (tOpds K cl W as) σ H Q := by
  obtain ⟨F, ρ, c, p⟩ := h
  exact opds_ok c (Post.bind p) fun xs ρ1 F1 H1 vs st1 c1 h1 p1 => handR_ok st1 c1 h1 p1
end
end PF

namespace PF
open PySem PySem.Spec L2

inductive Fl where
  | nx | rt (d : D × Bool) | bk | ct
abbrev Sm := En → R Fl

section
variable (K : PySem.W.Frag) (cl : Cl) (W : WX)
def PostS (r : R Fl) (F : Hp) (ρ : En) (σ : L2.St) (H : Hp) (Dn : Ends) : Prop := match r with
  | .ok .nx ρ' => ∀ F' σ' H', Step F ρ σ H F' ρ' σ' H' → Corr K cl F' ρ' σ' H' → Dn.nx σ' H'
  | .ok .bk ρ' => ∀ F' σ' H', Step F ρ σ H F' ρ' σ' H' → Corr K cl F' ρ' σ' H' → Dn.bk σ' H'
  | .ok .ct ρ' => ∀ F' σ' H', Step F ρ σ H F' ρ' σ' H' → Corr K cl F' ρ' σ' H' → Dn.ct σ' H'
  | .ok (.rt d) ρ' => ∀ F' σ' H' v, Step F ρ σ H F' ρ' σ' H' → Corr K cl F' ρ' σ' H' →
      (if d.2 = true then ∃ a, v = .ref a ∧ F' a = none ∧ Own K cl F' H' a d.1 ∧ ¬ Owned σ' ρ' a ∧ (H a = none ∨ Owned σ ρ a) else Den K cl F' v d.1) → Dn.rt v H'
  | .ex x ρ' => ∀ F' σ' H' c dd, Step F ρ σ H F' ρ' σ' H' → Corr K cl F' ρ' σ' H' → ExRel K cl F' H' x c dd → W c dd σ' H'
  | .bad => False
def tS (den : Sm) : TS := fun Dn σ H => ∃ F ρ, Corr K cl F ρ σ H ∧ PostS K cl W (den ρ) F ρ σ H Dn
end
section
variable {K : PySem.W.Frag} {cl : Cl} {W : WX} {F F1 : Hp} {ρ ρ1 : En} {σ σ1 : L2.St} {H H1 : Hp} {Dn : Ends}
theorem PostS.step {r : R Fl} (s : Step F ρ σ H F1 ρ1 σ1 H1) (p : PostS K cl W r F ρ σ H Dn) : PostS K cl W r F1 ρ1 σ1 H1 Dn := by
  cases r with
  | bad => exact p
  | ex x ρ' => exact fun F' σ' H' c dd t co e => p F' σ' H' c dd (s.trans t) co e
  | ok fl ρ' =>
    cases fl with
    | nx => exact fun F' σ' H' t c => p F' σ' H' (s.trans t) c
    | bk => exact fun F' σ' H' t c => p F' σ' H' (s.trans t) c
    | ct => exact fun F' σ' H' t c => p F' σ' H' (s.trans t) c
    | rt d =>
      intro F' σ' H' v t c hv
      refine p F' σ' H' v (s.trans t) c ?_
      split
      · rename_i hd
        rw [if_pos hd] at hv
        obtain ⟨a, e, n, ow, no, fr⟩ := hv
        refine ⟨a, e, n, ow, no, ?_⟩
        rcases fr with z | z
        · exact .inl (s.back z)
        · exact (s.own a z).symm
      · rename_i hd
        rwa [if_neg hd] at hv
/-- other ends, the same flow -/
theorem PostS.ends {r : R Fl} {Dn' : Ends} (p : PostS K cl W r F ρ σ H Dn) (h1 : ∀ σ' H', Dn.nx σ' H' → Dn'.nx σ' H') (h2 : ∀ v H', Dn.rt v H' → Dn'.rt v H') (h3 : ∀ σ' H', Dn.bk σ' H' → Dn'.bk σ' H') (h4 : ∀ σ' H', Dn.ct σ' H' → Dn'.ct σ' H') :
    PostS K cl W r F ρ σ H Dn' := by
  cases r with
  | bad => exact p
  | ex x ρ' => exact p
  | ok fl ρ' =>
    cases fl with
    | nx => exact fun F' σ' H' t c => h1 _ _ (p F' σ' H' t c)
    | bk => exact fun F' σ' H' t c => h3 _ _ (p F' σ' H' t c)
    | ct => exact fun F' σ' H' t c => h4 _ _ (p F' σ' H' t c)
    | rt d => exact fun F' σ' H' v t c hv => h2 _ _ (p F' σ' H' v t c hv)
/-- from an expression's end to a statement's -/
theorem PostS.of {α : Type} {r : R α} {f : α → En → R Fl} (p : PostS K cl W (match r with | .ok a ρ' => f a ρ' | .ex x ρ' => .ex x ρ' | .bad => .bad) F ρ σ H Dn) :
    Post K cl W r F ρ σ H fun a ρ' F' H' => PostS K cl W (f a ρ') F' ρ' σ H' Dn := by
  cases r with
  | ok a ρ' => exact fun F' H' t c => PostS.step t p
  | ex x ρ' => exact fun F' H' c dd t co e => p F' σ H' c dd t co e
  | bad => exact p
/-- the state at once -/
theorem PostS.nxx {c : Corr K cl F ρ σ H} (p : PostS K cl W (.ok .nx ρ) F ρ σ H Dn) : Dn.nx σ H := p F σ H (Step.refl _ _ _ _) c
end

def bindS {α : Type} (r : R α) (f : α → En → R Fl) : R Fl := match r with | .ok a ρ' => f a ρ' | .ex x ρ' => .ex x ρ' | .bad => .bad
def putS (i : Nat) (x : Sl) (ρ : En) : Option En := match ρ[i]? with
  | some (.ln _) => none
  | some (.lf _) => none
  | some _ => some (ρ.set i x)
  | none => none
section
variable {K : PySem.W.Frag} {cl : Cl} {W : WX} {F F0 : Hp} {ρ ρ0 ρ' : En} {σ σ0 : L2.St} {H H0 : Hp}
theorem putS_some {i : Nat} {x : Sl} (h : putS i x ρ = some ρ') : i < ρ.length ∧ ρ' = ρ.set i x ∧ (∀ d, ρ[i]? ≠ some (Sl.ln d)) ∧ ∀ d, ρ[i]? ≠ some (Sl.lf d) := by
  unfold putS at h
  cases hr : ρ[i]? with
  | none => rw [hr] at h; cases h
  | some s =>
    have hi := (List.getElem?_eq_some_iff.mp hr).1
    rw [hr] at h
    cases s with
    | ln d => cases h
    | lf d => cases h
    | un => cases h; exact ⟨hi, rfl, fun d e => by simp at e, fun d e => by simp at e⟩
    | fr d => cases h; exact ⟨hi, rfl, fun d e => by simp at e, fun d e => by simp at e⟩
    | ow d => cases h; exact ⟨hi, rfl, fun d e => by simp at e, fun d e => by simp at e⟩
theorem put_ok {o : Bool} {i : Nat} {v : V} {d : D} (s : Step F0 ρ0 σ0 H0 F ρ σ H) (c : Corr K cl F ρ σ H)
    (ht : if o = true then ∃ a, v = .ref a ∧ F a = none ∧ Own K cl F H a d ∧ ¬ Owned σ ρ a ∧ (H0 a = none ∨ Owned σ0 ρ0 a) else Den K cl F v d)
    (hp : putS i (if o = true then .ow d else .fr d) ρ = some ρ') : Step F0 ρ0 σ0 H0 F ρ' (σ.set i (some v)) H ∧ Corr K cl F ρ' (σ.set i (some v)) H := by
  obtain ⟨hi, rfl, nl, nf⟩ := putS_some hp
  have hiσ : i < σ.length := by rw [← c.len]; exact hi
  -- the slots behind
  have get : ∀ (j : Nat) (x : Sl), (ρ.set i (if o = true then Sl.ow d else Sl.fr d))[j]? = some x → (j = i ∧ x = (if o = true then Sl.ow d else Sl.fr d) ∧ (σ.set i (some v))[j]? = some (some v)) ∨ (j ≠ i ∧ ρ[j]? = some x ∧ (σ.set i (some v))[j]? = σ[j]?) := fun j x h => by
    by_cases e : j = i
    · subst e
      rw [List.getElem?_set_self hi] at h
      cases h
      exact .inl ⟨rfl, rfl, List.getElem?_set_self hiσ⟩
    · rw [List.getElem?_set_ne (Ne.symm e)] at h
      exact .inr ⟨e, h, List.getElem?_set_ne (Ne.symm e)⟩
  have own : ∀ a, Owned (σ.set i (some v)) (ρ.set i (if o = true then Sl.ow d else Sl.fr d)) a → (o = true ∧ v = .ref a) ∨ Owned σ ρ a := fun a ⟨j, x, e, h1, h2, h3⟩ => by
    rcases get j x h1 with ⟨rfl, rfl, h4⟩ | ⟨_, h4, h5⟩
    · rw [h4] at h3; cases h3
      cases o with
      | true => exact .inl ⟨rfl, rfl⟩
      | false => cases h2
    · rw [h5] at h3; exact .inr ⟨j, x, e, h4, h2, h3⟩
  refine ⟨⟨s.le, s.keep, s.thaw, s.tbl, fun a h => ?_, s.live, fun j e h => ?_, fun j e h => ?_⟩, ⟨by simp [c.len], c.le, fun j x w h1 h2 => ?_, fun j k x y e e' a h1 h2 h3 h4 h5 h6 => ?_, c.tab⟩⟩
  · rcases own a h with ⟨rfl, e⟩ | h
    · obtain ⟨b, e2, _, _, _, fr⟩ := ht
      rw [e] at e2; cases e2
      exact fr.symm
    · exact s.own a h
  · obtain ⟨e1, h1⟩ := s.ln j e h
    have hj : j ≠ i := by
      rintro rfl
      rcases h1 with ⟨z, h1⟩ | ⟨z, h1⟩
      · exact nl z h1
      · exact nf z h1
    rw [List.getElem?_set_ne (Ne.symm hj), List.getElem?_set_ne (Ne.symm hj)]
    exact ⟨e1, h1⟩
  · obtain ⟨e1, h1⟩ := s.lf j e h
    have hj : j ≠ i := by
      rintro rfl
      exact nf e h1
    rw [List.getElem?_set_ne (Ne.symm hj), List.getElem?_set_ne (Ne.symm hj)]
    exact ⟨e1, h1⟩
  · rcases get j x h1 with ⟨rfl, rfl, h4⟩ | ⟨_, h4, h5⟩
    · rw [h4] at h2; cases h2
      cases o with
      | true => obtain ⟨a, e, n, ow, _⟩ := ht; exact ⟨a, by rw [e], n, ow⟩
      | false => exact ⟨v, rfl, ht⟩
    · rw [h5] at h2; exact c.slot j x w h4 h2
  · have one : ∀ (j : Nat) (x : Sl) (e : D), (ρ.set i (if o = true then Sl.ow d else Sl.fr d))[j]? = some x → x.own? = some e → (σ.set i (some v))[j]? = some (some (.ref a)) →
        (j = i ∧ ¬ Owned σ ρ a) ∨ (ρ[j]? = some x ∧ σ[j]? = some (some (.ref a))) := fun j x e h1 h2 h3 => by
      rcases get j x h1 with ⟨rfl, rfl, h4⟩ | ⟨_, h4, h5⟩
      · rw [h4] at h3; cases h3
        cases o with
        | true => obtain ⟨b, e, _, _, no, _⟩ := ht; cases e; exact .inl ⟨rfl, no⟩
        | false => cases h2
      · rw [h5] at h3; exact .inr ⟨h4, h3⟩
    rcases one j x e h1 h3 h5 with ⟨r1, n1⟩ | ⟨r1, r2⟩
    · rcases one k y e' h2 h4 h6 with ⟨s1, _⟩ | ⟨s1, s2⟩
      · omega
      · exact absurd ⟨k, y, e', s1, h4, s2⟩ n1
    · rcases one k y e' h2 h4 h6 with ⟨_, n1⟩ | ⟨s1, s2⟩
      · exact absurd ⟨j, x, e, r1, h3, r2⟩ n1
      · exact c.inj j k x y e e' a r1 s1 h3 h4 r2 s2
/-- what has just come stands on over a later step -/
theorem Tmp.later {o : Bool} {F1 F2 : Hp} {ρ1 ρ2 : En} {H1 H2 : Hp} {v : V} {d : D} (c : Corr K cl F1 ρ1 σ H1) (h : Tmp K cl o F ρ σ H F1 ρ1 H1 v d) (s : Step F1 ρ1 σ H1 F2 ρ2 σ H2) : Tmp K cl o F ρ σ H F2 ρ2 H2 v d := by
  cases o with
  | false => exact Den.le s.le h
  | true =>
    obtain ⟨a, e, n, ow, no, fr⟩ := h
    obtain ⟨u, hu, nu⟩ := ow.not_own
    refine ⟨a, e, s.thaw a u hu nu no n, ow.keep' s.le (fun o h w => s.keep a o h w no) fun b h => s.keep b _ h (fun ps e => by cases e) fun z => ?_, fun z => ?_, fr⟩
    · obtain ⟨i, x, e', w1, w2, w3⟩ := z
      obtain ⟨b', f1, _, f3⟩ := own_slot (c.slot i x _ w1 w3) w2
      cases f1
      obtain ⟨u2, hu2, nu2⟩ := f3.not_own
      rw [h] at hu2; cases hu2
      exact nu2 a rfl
    · rcases s.own a z with z | z
      · exact no z
      · rw [hu] at z; cases z
end
def seqD (a b : Sm) : Sm := fun ρ => match a ρ with
  | .ok .nx ρ1 => b ρ1
  | r => r
def nextD : Sm := fun ρ => .ok .nx ρ
def dropD (den : En → R (D × Bool)) : Sm := fun ρ => bindS (den ρ) fun _ ρ' => .ok .nx ρ'
def retD (den : En → R (D × Bool)) : Sm := fun ρ => bindS (den ρ) fun d ρ' => .ok (.rt d) ρ'
def retN : Sm := fun ρ => .ok (.rt (.non, false)) ρ
def ifS (c : En → R Bool) (a b : Sm) : Sm := fun ρ => bindS (c ρ) fun t ρ' => if t = true then a ρ' else b ρ'
def setD (i : Nat) (den : En → R (D × Bool)) : Sm := fun ρ => bindS (den ρ) fun d ρ' => match putS i (if d.2 = true then .ow d.1 else .fr d.1) ρ' with
  | some ρ2 => .ok .nx ρ2
  | none => .bad
/-- a name handed back: an own object moves -/
def retV (i : Nat) : Sm := fun ρ => match ρ[i]? with
  | some (.ow d) => .ok (.rt (d, true)) (ρ.set i .un)
  | some (.fr d) => .ok (.rt (d, false)) ρ
  | some (.lf d) => .ok (.rt (d, false)) ρ
  | some (.ln d) => .ok (.rt (d, false)) (ρ.set i (.lf d))
  | _ => .bad
/-- a name as a value: an own object is frozen -/
def varD (i : Nat) : En → R (D × Bool) := fun ρ => match ρ[i]? with
  | some (.fr d) => .ok (d, false) ρ
  | some (.lf d) => .ok (d, false) ρ
  | some (.ow d) => .ok (d, false) (ρ.set i (.fr d))
  | some (.ln d) => .ok (d, false) (ρ.set i (.lf d))
  | _ => .bad
def conD (d : D) : En → R (D × Bool) := fun ρ => .ok (d, false) ρ

section
variable {X : Cx} {cl : Cl} {W : WX}
abbrev SO (X : Cx) (cl : Cl) (W : WX) (e : Expr) (den : En → R (D × Bool)) : Prop := PE X e (tO X.K cl W den)
abbrev ST (X : Cx) (cl : Cl) (W : WX) (e : Expr) (den : En → R Bool) : Prop := PT X e (tT X.K cl W den)
abbrev SS (X : Cx) (cl : Cl) (W : WX) (s : Stmt) (den : Sm) : Prop := PS X s (tS X.K cl W den)
abbrev SB (X : Cx) (cl : Cl) (W : WX) (s : List Stmt) (den : Sm) : Prop := PSs X s (tS X.K cl W den)
theorem pe_weak {e : Expr} {t t' : TE} (h : PE X e t) (w : ∀ σ H Q, t' σ H Q → t σ H Q) : PE X e t' := ⟨fun pins s σ H Q I q => h.run pins s σ H Q I (w _ _ _ q)⟩
theorem pt_weak {e : Expr} {t t' : TT} (h : PT X e t) (w : ∀ σ H Q, t' σ H Q → t σ H Q) : PT X e t' := ⟨fun pins s σ H Q I q => h.run pins s σ H Q I (w _ _ _ q)⟩
theorem ps_weak {e : Stmt} {t t' : TS} (h : PS X e t) (w : ∀ Dn σ H, t' Dn σ H → t Dn σ H) : PS X e t' := ⟨fun pins s σ H Q I q => h.run pins s σ H Q I (w _ _ _ q)⟩
theorem pss_weak {e : List Stmt} {t t' : TS} (h : PSs X e t) (w : ∀ Dn σ H, t' Dn σ H → t Dn σ H) : PSs X e t' := ⟨fun pins s σ H Q I q => h.run pins s σ H Q I (w _ _ _ q)⟩
theorem SO.fz {e : Expr} {den : En → R (D × Bool)} (h : SO X cl W e den) : PE X e (tE X.K cl W (PF.fz den)) := pe_weak h fun _ _ _ q => tO.fz q

theorem sb_nil : SB X cl W [] nextD := pss_weak pss_nil fun Dn σ H ⟨F, ρ, c, p⟩ => PostS.nxx (c := c) p
theorem sb_one {s : Stmt} {a : Sm} (h : SS X cl W s a) : SB X cl W [s] a := pss_one h
theorem sb_cons {s : Stmt} {r : List Stmt} {a b : Sm} (h : SS X cl W s a) (h2 : SB X cl W r b) : SB X cl W (s :: r) (seqD a b) := pss_weak (pss_cons h h2) fun Dn σ H ⟨F, ρ, c, p⟩ => by
  refine ⟨F, ρ, c, ?_⟩
  unfold seqD at p
  cases ha : a ρ with
  | bad => rw [ha] at p; exact p
  | ex x ρ' => rw [ha] at p; exact p
  | ok fl ρ' =>
    rw [ha] at p
    cases fl with
    | nx => exact fun F' σ' H' st co => ⟨F', ρ', co, PostS.step st p⟩
    | bk => exact p
    | ct => exact p
    | rt d => exact p
theorem ss_pass {pos : Pos} : SS X cl W (.Pass pos) nextD := ps_weak ps_pass fun Dn σ H ⟨F, ρ, c, p⟩ => PostS.nxx (c := c) p
theorem ss_break {pos : Pos} : SS X cl W (.Break pos) (fun ρ => .ok .bk ρ) := ps_weak ps_break fun Dn σ H ⟨F, ρ, c, p⟩ => p F σ H (Step.refl _ _ _ _) c
theorem ss_continue {pos : Pos} : SS X cl W (.Continue pos) (fun ρ => .ok .ct ρ) := ps_weak ps_continue fun Dn σ H ⟨F, ρ, c, p⟩ => p F σ H (Step.refl _ _ _ _) c
theorem ss_bad {s : Stmt} : SS X cl W s (fun _ => .bad) := ⟨fun _ _ _ _ _ _ ⟨_, _, _, p⟩ => p.elim⟩
theorem so_bad {e : Expr} : SO X cl W e (fun _ => .bad) := ⟨fun _ _ _ _ _ _ ⟨_, _, _, p⟩ => p.elim⟩
theorem ss_ret {e : Expr} {den : En → R (D × Bool)} {pos : Pos} (h : SO X cl W e den) : SS X cl W (.Return (some e) pos) (retD den) := ps_weak (ps_ret h) fun Dn σ H ⟨F, ρ, c, p⟩ => by
  refine ⟨F, ρ, c, ?_⟩
  unfold retD at p
  cases hd : den ρ with
  | bad => rw [hd] at p; exact p
  | ex x ρ' => rw [hd] at p; exact fun F' H' c dd st co e => p F' σ H' c dd st co e
  | ok d ρ' => rw [hd] at p; exact fun F' H' st co v hv => p F' σ H' v st co hv
theorem ss_retN {pos : Pos} : SS X cl W (.Return none pos) retN := ps_weak ps_retN fun Dn σ H ⟨F, ρ, c, p⟩ => p F σ H .non (Step.refl _ _ _ _) c .non
theorem ss_expr {e : Expr} {den : En → R (D × Bool)} {pos : Pos} (h : SO X cl W e den) (hs : swapsWith e none pos.line X.env = pure false) : SS X cl W (.Expr e pos) (dropD den) := ps_weak (ps_expr h hs) fun Dn σ H ⟨F, ρ, c, p⟩ => by
  refine ⟨F, ρ, c, ?_⟩
  unfold dropD at p
  cases hd : den ρ with
  | bad => rw [hd] at p; exact p
  | ex x ρ' => rw [hd] at p; exact fun F' H' c dd st co e => p F' σ H' c dd st co e
  | ok d ρ' => rw [hd] at p; exact fun F' H' st co v hv => p F' σ H' st co
theorem ss_if {e : Expr} {b1 b2 : List Stmt} {c : En → R Bool} {a b : Sm} {pos : Pos} (h : ST X cl W e c) (h1 : SB X cl W b1 a) (h2 : SB X cl W b2 b) : SS X cl W (.If e b1 b2 pos) (ifS c a b) := ps_weak (ps_if h h1 h2) fun Dn σ H ⟨F, ρ, co, p⟩ => by
  refine ⟨F, ρ, co, ?_⟩
  unfold ifS at p
  cases hd : c ρ with
  | bad => rw [hd] at p; exact p
  | ex x ρ' => rw [hd] at p; exact fun F' H' c dd st co e => p F' σ H' c dd st co e
  | ok d ρ' =>
    rw [hd] at p
    intro F' H' st co
    cases d with
    | true => exact (show tS X.K cl W a Dn σ H' from ⟨F', ρ', co, PostS.step st p⟩)
    | false => exact (show tS X.K cl W b Dn σ H' from ⟨F', ρ', co, PostS.step st p⟩)
theorem ss_set {i : Nat} {x : Str} {e : Expr} {den : En → R (D × Bool)} {pos pos' : Pos} (hN : X.N.Nodup) (hi : X.N[i]? = some x) (hx : Loc X.env.scope x) (hf : X.fn x = true ∨ X.env.scope.names.lookup x = some .local) (h : SO X cl W e den)
    (hs : swapsWith e (some (.Name x pos')) pos.line X.env = pure false) : SS X cl W (.Assign [.Name x pos'] e pos) (setD i den) := ps_weak (ps_set hN hi hx h hs hf) fun Dn σ H ⟨F, ρ, c, p⟩ => by
  refine ⟨F, ρ, c, ?_⟩
  unfold setD at p
  cases hd : den ρ with
  | bad => rw [hd] at p; exact p
  | ex x ρ' => rw [hd] at p; exact fun F' H' c dd st co e => p F' σ H' c dd st co e
  | ok d ρ' =>
    rw [hd] at p
    intro F' H' st co v hv
    simp only [bindS] at p
    cases hp : putS i (if d.2 = true then Sl.ow d.1 else Sl.fr d.1) ρ' with
    | none => rw [hp] at p; exact p.elim
    | some ρ2 =>
      rw [hp] at p
      obtain ⟨s2, c2⟩ := put_ok st co hv hp
      exact p F' _ H' s2 c2
section
variable {K : PySem.W.Frag} {F : Hp} {ρ : En} {σ : L2.St} {H : Hp}
/-- a slot let go -/
theorem Corr.release {i : Nat} {x : Sl} {d : D} (c : Corr K cl F ρ σ H) (h : ρ[i]? = some x) (ho : x.own? = some d) : ∃ a, σ[i]? = some (some (.ref a)) ∧ F a = none ∧ Own K cl F H a d ∧ Corr K cl F (ρ.set i .un) σ H ∧ ¬ Owned σ (ρ.set i .un) a ∧ Owned σ ρ a := by
  obtain ⟨o, h1, h2⟩ := slot_of c h
  obtain ⟨a, e, n, ow⟩ := own_slot h2 ho
  subst e
  have hi := (List.getElem?_eq_some_iff.mp h).1
  have get : ∀ (j : Nat) (y : Sl) (e : D), (ρ.set i .un)[j]? = some y → y.own? = some e → j ≠ i ∧ ρ[j]? = some y := fun j y e h1 h2 => by
    by_cases q : j = i
    · subst q; rw [List.getElem?_set_self hi] at h1; cases h1; cases h2
    · rw [List.getElem?_set_ne (Ne.symm q)] at h1; exact ⟨q, h1⟩
  refine ⟨a, h1, n, ow, ⟨by simp [c.len], c.le, fun j y w q1 q2 => ?_, fun j k y z e e' b q1 q2 q3 q4 q5 q6 => ?_, c.tab⟩, fun ⟨j, y, e, q1, q2, q3⟩ => ?_, ⟨i, x, d, h, ho, h1⟩⟩
  · by_cases q : j = i
    · subst q; rw [List.getElem?_set_self hi] at q1; cases q1; trivial
    · rw [List.getElem?_set_ne (Ne.symm q)] at q1; exact c.slot j y w q1 q2
  · exact c.inj j k y z e e' b (get j y e q1 q3).2 (get k z e' q2 q4).2 q3 q4 q5 q6
  · obtain ⟨g1, g2⟩ := get j y e q1 q2
    exact g1 (c.inj j i y x e d a g2 h q2 ho q3 h1)
theorem Step.release {i : Nat} {d : D} (h : ρ[i]? = some (.ow d)) : Step F ρ σ H F (ρ.set i .un) σ H where
  le := Le.refl _
  keep := fun _ _ h _ _ => h
  tbl := fun _ ps h => ⟨ps, h⟩
  thaw := fun _ _ _ _ _ h => h
  own := fun a ⟨j, y, e, q1, q2, q3⟩ => .inl (by
    have hi := (List.getElem?_eq_some_iff.mp h).1
    by_cases q : j = i
    · subst q; rw [List.getElem?_set_self hi] at q1; cases q1; cases q2
    · rw [List.getElem?_set_ne (Ne.symm q)] at q1; exact ⟨j, y, e, q1, q2, q3⟩)
  live := fun _ o h => ⟨o, h⟩
  ln := fun j e q => ⟨rfl, .inl ⟨e, by
    have hj : j ≠ i := by rintro rfl; rw [h] at q; cases q
    rw [List.getElem?_set_ne (Ne.symm hj)]; exact q⟩⟩
  lf := fun j e q => ⟨rfl, by
    have hj : j ≠ i := by rintro rfl; rw [h] at q; cases q
    rw [List.getElem?_set_ne (Ne.symm hj)]; exact q⟩
/-- a slot whose object has been frozen -/
theorem Corr.refill {F' : Hp} {i : Nat} {x y : Sl} {d : D} {v : V} (c : Corr K cl F' (ρ.set i .un) σ H) (h : ρ[i]? = some x) (hv : σ[i]? = some (some v)) (hd : Den K cl F' v d) (hn : ∃ a, v = .ref a ∧ F' a ≠ none) (hy : y = .fr d ∨ y = .lf d) : Corr K cl F' (ρ.set i y) σ H := by
  have hi := (List.getElem?_eq_some_iff.mp h).1
  have hi' : i < (ρ.set i Sl.un).length := by simpa using hi
  have e : ρ.set i y = (ρ.set i .un).set i y := by simp
  have get : ∀ (j : Nat) (z : Sl), (ρ.set i y)[j]? = some z → (j = i ∧ z = y) ∨ (j ≠ i ∧ (ρ.set i .un)[j]? = some z) := fun j z h1 => by
    by_cases q : j = i
    · subst q; rw [List.getElem?_set_self hi] at h1; cases h1; exact .inl ⟨rfl, rfl⟩
    · rw [List.getElem?_set_ne (Ne.symm q)] at h1; exact .inr ⟨q, by rw [List.getElem?_set_ne (Ne.symm q)]; exact h1⟩
  refine ⟨by have := c.len; simpa using this, c.le, fun j z w q1 q2 => ?_, fun j k z z' e1 e2 b q1 q2 q3 q4 q5 q6 => ?_, c.tab⟩
  · rcases get j z q1 with ⟨rfl, rfl⟩ | ⟨_, g⟩
    · rw [hv] at q2; cases q2
      rcases hy with rfl | rfl
      · exact ⟨v, rfl, hd⟩
      · obtain ⟨a, rfl, n⟩ := hn; exact ⟨a, rfl, n, hd⟩
    · exact c.slot j z w g q2
  · rcases get j z q1 with ⟨rfl, rfl⟩ | ⟨_, g⟩
    · rcases hy with rfl | rfl <;> cases q3
    · rcases get k z' q2 with ⟨rfl, rfl⟩ | ⟨_, g2⟩
      · rcases hy with rfl | rfl <;> cases q4
      · exact c.inj j k z z' e1 e2 b g g2 q3 q4 q5 q6
/-- an own slot is frozen -/
theorem freeze_slot {i : Nat} {x y : Sl} {d : D} (c : Corr K cl F ρ σ H) (h : ρ[i]? = some x) (hx : (x = .ow d ∧ y = .fr d) ∨ (x = .ln d ∧ y = .lf d)) :
    ∃ F' v, Step F ρ σ H F' (ρ.set i y) σ H ∧ Corr K cl F' (ρ.set i y) σ H ∧ σ[i]? = some (some v) ∧ Den K cl F' v d := by
  have ho : x.own? = some d := by rcases hx with ⟨rfl, _⟩ | ⟨rfl, _⟩ <;> rfl
  obtain ⟨a, hv, n, ow, c2, no, oz⟩ := c.release h ho
  obtain ⟨F', le, hb, c3, de, dn⟩ := c2.freeze n ow no
  have hi := (List.getElem?_eq_some_iff.mp h).1
  refine ⟨F', .ref a, ?_, c3.refill h hv de ⟨a, rfl, dn⟩ (by rcases hx with ⟨_, rfl⟩ | ⟨_, rfl⟩ <;> simp), hv, de⟩
  have s1 : Step F ρ σ H F (ρ.set i y) σ H := by
    refine ⟨Le.refl _, fun _ _ h _ _ => h, fun _ _ _ _ _ h => h, fun _ ps h => ⟨ps, h⟩, fun b ⟨j, z, e, q1, q2, q3⟩ => .inl ?_, fun _ o h => ⟨o, h⟩, fun j e q => ⟨rfl, ?_⟩, fun j e q => ⟨rfl, ?_⟩⟩
    · by_cases q : j = i
      · subst q; rw [List.getElem?_set_self hi] at q1; cases q1
        rcases hx with ⟨_, rfl⟩ | ⟨_, rfl⟩ <;> cases q2
      · rw [List.getElem?_set_ne (Ne.symm q)] at q1; exact ⟨j, z, e, q1, q2, q3⟩
    · by_cases qi : j = i
      · subst qi
        rw [h] at q; cases q
        rcases hx with ⟨r, _⟩ | ⟨r, rfl⟩
        · cases r
        · exact .inr ⟨d, List.getElem?_set_self hi⟩
      · rw [List.getElem?_set_ne (Ne.symm qi)]; exact .inl ⟨e, q⟩
    · have hj : j ≠ i := by
        rintro rfl; rw [h] at q; cases q
        rcases hx with ⟨r, _⟩ | ⟨r, _⟩ <;> cases r
      rw [List.getElem?_set_ne (Ne.symm hj)]; exact q
  exact s1.freeze le hb (.inr oz)
end
theorem so_var {i : Nat} {x : Str} {pos : Pos} (hN : X.N[i]? = some x) (hv : Vis X.env.scope x) (hd : (x == ("__debug__" : Str)) = false) (hcd : (x == ("__classdict__" : Str)) = false) : SO X cl W (.Name x pos) (varD i) := pe_weak (pe_var hN hv hd hcd) fun σ H Q ⟨F, ρ, c, p⟩ => by
  unfold varD at p
  cases hr : ρ[i]? with
  | none => rw [hr] at p; exact p.elim
  | some s =>
    rw [hr] at p
    cases s with
    | un => exact p.elim
    | fr d =>
      obtain ⟨o, h1, h2⟩ := slot_of c hr
      obtain ⟨v, rfl, hd⟩ := h2
      exact ⟨v, h1, p F H (Step.refl _ _ _ _) c v hd⟩
    | lf d =>
      obtain ⟨o, h1, h2⟩ := slot_of c hr
      obtain ⟨a, rfl, _, hd⟩ := h2
      exact ⟨_, h1, p F H (Step.refl _ _ _ _) c _ hd⟩
    | ow d =>
      obtain ⟨F', v, st, co, hv, hd⟩ := freeze_slot c hr (.inl ⟨rfl, rfl⟩)
      exact ⟨v, hv, p F' H st co v hd⟩
    | ln d =>
      obtain ⟨F', v, st, co, hv, hd⟩ := freeze_slot c hr (.inr ⟨rfl, rfl⟩)
      exact ⟨v, hv, p F' H st co v hd⟩
theorem so_con {e : Expr} {v : V} {d : D} (h : PE X e (tC v)) (hd : ∀ F, Den X.K cl F v d) : SO X cl W e (conD d) := pe_weak h fun σ H Q ⟨F, ρ, c, p⟩ => p F H (Step.refl _ _ _ _) c v (hd F)
/-- return x -/
theorem ss_retV {i : Nat} {x : Str} {pos pos' : Pos} (hN : X.N[i]? = some x) (hv : Vis X.env.scope x) (hd : (x == ("__debug__" : Str)) = false) (hcd : (x == ("__classdict__" : Str)) = false) : SS X cl W (.Return (some (.Name x pos')) pos) (retV i) := ps_weak (ps_ret (pe_var hN hv hd hcd)) fun Dn σ H ⟨F, ρ, c, p⟩ => by
  unfold retV at p
  cases hr : ρ[i]? with
  | none => rw [hr] at p; exact p.elim
  | some s =>
    rw [hr] at p
    cases s with
    | un => exact p.elim
    | fr d =>
      obtain ⟨o, h1, h2⟩ := slot_of c hr
      obtain ⟨v, rfl, hd⟩ := h2
      exact ⟨v, h1, p F σ H v (Step.refl _ _ _ _) c hd⟩
    | lf d =>
      obtain ⟨o, h1, h2⟩ := slot_of c hr
      obtain ⟨a, rfl, _, hd⟩ := h2
      exact ⟨_, h1, p F σ H _ (Step.refl _ _ _ _) c hd⟩
    | ow d =>
      obtain ⟨a, hv, n, ow, c2, no, oz⟩ := c.release hr rfl
      exact ⟨.ref a, hv, p F σ H (.ref a) (Step.release hr) c2 ⟨a, rfl, n, ow, no, .inr oz⟩⟩
    | ln d =>
      obtain ⟨F', v, st, co, hv, hd⟩ := freeze_slot c hr (.inr ⟨rfl, rfl⟩)
      exact ⟨v, hv, p F' σ H v st co hd⟩
end
end PF

namespace PF
open PySem PySem.Spec L2
/-- the test of a value that is a bool -/
def isB (den : En → R (D × Bool)) : En → R Bool := fun ρ => (den ρ).bind fun d ρ' => match d.1 with
  | .bl b => .ok b ρ'
  | _ => .bad
def truth : D → Option Bool
  | .non => some false
  | .bl b => some b
  | .int i => some (i != 0)
  | .str s => if s.length ≤ lim then some ((s.length : Int) != 0) else none
  | .lst xs => some (!xs.isEmpty)
  | .tup xs => some (!xs.isEmpty)
  | _ => none
def tru (o : Opd) : En → R Bool := fun ρ => (o.ev ρ).bind fun x ρ1 => match late ρ1 x with
  | some d => match truth d with
    | some b => .ok b ρ1
    | none => .bad
  | none => .bad
def andT (a b : En → R Bool) : En → R Bool := fun ρ => (a ρ).bind fun c ρ1 => if c = true then b ρ1 else .ok false ρ1
def orT (a b : En → R Bool) : En → R Bool := fun ρ => (a ρ).bind fun c ρ1 => if c = true then .ok true ρ1 else b ρ1
def notT (a : En → R Bool) : En → R Bool := fun ρ => (a ρ).bind fun c ρ1 => .ok (!c) ρ1
def andV (a b : En → R (D × Bool)) : En → R (D × Bool) := fun ρ => (fz a ρ).bind fun d ρ1 => match d with
  | .bl true => b ρ1
  | .bl false => .ok (.bl false, false) ρ1
  | _ => .bad
def orV (a b : En → R (D × Bool)) : En → R (D × Bool) := fun ρ => (fz a ρ).bind fun d ρ1 => match d with
  | .bl true => .ok (.bl true, false) ρ1
  | .bl false => b ρ1
  | _ => .bad
def notV (a : En → R (D × Bool)) : En → R (D × Bool) := fun ρ => (fz a ρ).bind fun d ρ1 => match d with
  | .bl b => .ok (.bl (!b), false) ρ1
  | _ => .bad
def ifV (c : En → R Bool) (a b : En → R (D × Bool)) : En → R (D × Bool) := fun ρ => (c ρ).bind fun t ρ1 => if t = true then a ρ1 else b ρ1

section
variable {K : PySem.W.Frag} {cl : Cl} {W : WX} {F F1 : Hp} {ρ ρ1 : En} {σ : L2.St} {H H1 : Hp}
theorem den_bl {F : Hp} {v : V} {b : Bool} (h : Den K cl F v (.bl b)) : v = .bl b := by cases h; rfl
theorem isB_ok {den : En → R (D × Bool)} {Q : Bool → Hp → Prop} (h : tT K cl W (isB den) σ H Q) : tO K cl W den σ H fun x H' => ∃ k, x = .bl k ∧ Q k H' := by
  obtain ⟨F, ρ, c, p⟩ := h
  refine ⟨F, ρ, c, (Post.bind p).mono fun d ρ' F' H' st co q v hv => ?_⟩
  obtain ⟨d, o⟩ := d
  cases d with
  | bl b =>
    refine ⟨b, ?_, q F' H' (Step.refl _ _ _ _) co⟩
    cases o with
    | false => exact den_bl hv
    | true => obtain ⟨a, _, _, ow, _⟩ := hv; cases ow
  | _ => exact q.elim
/-- a value's test, at once -/
theorem truth_ok {v : V} {d : D} {b : Bool} (le : Le F H) (h : Vw K cl F H v d) (e : truth d = some b) : TruV K v H b := by
  cases d with
  | non => cases e; rw [h.non]; exact rfl
  | bl b => cases e; rw [h.bl]; exact rfl
  | int i => cases e; rw [h.int]; exact rfl
  | str s =>
    simp only [truth] at e
    by_cases hl : s.length ≤ lim
    · rw [if_pos hl] at e
      cases e; rw [h.str]; exact ⟨lim_le hl, rfl⟩
    · rw [if_neg hl] at e; cases e
  | lst xs =>
    cases e
    obtain ⟨a, vs, rfl, h1, t⟩ := h.lst le
    refine .inl ⟨vs, SqL.val h1, ?_⟩
    cases t <;> rfl
  | tup xs =>
    cases e
    obtain ⟨a, vs, rfl, _, h1, t⟩ := h.tup le
    refine .inr (.inl ⟨vs, h1, ?_⟩)
    cases t <;> rfl
  | rdl xs => cases e
  | ins c fs => cases e
  | opq => cases e
  | fnv => cases e
theorem tru_ok' {o : Opd} {Q : Bool → Hp → Prop} (h : tT K cl W (tru o) σ H Q) : tOpd K cl W o σ H fun x H' => ∃ k, TruV K x H' k ∧ Q k H' := by
  obtain ⟨F, ρ, c, p⟩ := h
  refine opd_ok c (Post.bind p) fun x ρ1 F1 H1 v st1 c1 h1 p1 => ?_
  cases ha : late ρ1 x with
  | none => rw [ha] at p1; exact p1.elim
  | some d =>
    rw [ha] at p1
    dsimp only at p1
    cases ht : truth d with
    | none => rw [ht] at p1; exact p1.elim
    | some b =>
      rw [ht] at p1
      exact ⟨b, truth_ok c1.le (late_ok c1 h1 ha) ht, p1 F1 H1 (Step.refl _ _ _ _) c1⟩
theorem andT_ok {a b : En → R Bool} {Q : Bool → Hp → Prop} (h : tT K cl W (andT a b) σ H Q) : tAnd (tT K cl W a) (tT K cl W b) σ H Q := by
  obtain ⟨F, ρ, c, p⟩ := h
  refine ⟨F, ρ, c, (Post.bind p).mono fun d ρ' F' H' st co q => ?_⟩
  cases d with
  | true => exact (show tT K cl W b σ H' Q from ⟨F', ρ', co, q⟩)
  | false => exact q F' H' (Step.refl _ _ _ _) co
theorem orT_ok {a b : En → R Bool} {Q : Bool → Hp → Prop} (h : tT K cl W (orT a b) σ H Q) : tOr (tT K cl W a) (tT K cl W b) σ H Q := by
  obtain ⟨F, ρ, c, p⟩ := h
  refine ⟨F, ρ, c, (Post.bind p).mono fun d ρ' F' H' st co q => ?_⟩
  cases d with
  | true => exact q F' H' (Step.refl _ _ _ _) co
  | false => exact (show tT K cl W b σ H' Q from ⟨F', ρ', co, q⟩)
theorem notT_ok {a : En → R Bool} {Q : Bool → Hp → Prop} (h : tT K cl W (notT a) σ H Q) : tNot (tT K cl W a) σ H Q := by
  obtain ⟨F, ρ, c, p⟩ := h
  exact ⟨F, ρ, c, (Post.bind p).mono fun d ρ' F' H' st co q => q F' H' (Step.refl _ _ _ _) co⟩
/-- tO from a later state: what comes is told against the start -/
theorem tO_at {den : En → R (D × Bool)} {Q : VK} {F' : Hp} {ρ' : En} {H' : Hp} (st : Step F ρ σ H F' ρ' σ H') (co : Corr K cl F' ρ' σ H')
    (q : Post K cl W (den ρ') F' ρ' σ H' fun d ρ2 F2 H2 => ∀ v, Tmp K cl d.2 F ρ σ H F2 ρ2 H2 v d.1 → Q v H2) : tO K cl W den σ H' Q := by
  refine ⟨F', ρ', co, q.mono fun d ρ2 F2 H2 s2 c2 q v hv => q v ?_⟩
  obtain ⟨d, o⟩ := d
  cases o with
  | false => exact hv
  | true =>
    obtain ⟨a, e, n, ow, no, fr⟩ := hv
    refine ⟨a, e, n, ow, no, ?_⟩
    rcases fr with z | z
    · exact .inl (st.back z)
    · exact (st.own a z).symm
theorem andV_ok {a b : En → R (D × Bool)} {Q : VK} (h : tO K cl W (andV a b) σ H Q) : tAndV (tE K cl W (fz a)) (tO K cl W b) σ H Q := by
  obtain ⟨F, ρ, c, p⟩ := h
  refine ⟨F, ρ, c, (Post.bind p).mono fun d ρ' F' H' st co q v hv => ?_⟩
  cases d with
  | bl t =>
    cases t with
    | true => exact ⟨true, den_bl hv, by rw [if_pos rfl]; exact tO_at st co q⟩
    | false => exact ⟨false, den_bl hv, by rw [if_neg Bool.false_ne_true]; exact q F' H' (Step.refl _ _ _ _) co _ (.bl false)⟩
  | _ => exact q.elim
theorem orV_ok {a b : En → R (D × Bool)} {Q : VK} (h : tO K cl W (orV a b) σ H Q) : tOrV (tE K cl W (fz a)) (tO K cl W b) σ H Q := by
  obtain ⟨F, ρ, c, p⟩ := h
  refine ⟨F, ρ, c, (Post.bind p).mono fun d ρ' F' H' st co q v hv => ?_⟩
  cases d with
  | bl t =>
    cases t with
    | true => exact ⟨true, den_bl hv, by rw [if_pos rfl]; exact q F' H' (Step.refl _ _ _ _) co _ (.bl true)⟩
    | false => exact ⟨false, den_bl hv, by rw [if_neg Bool.false_ne_true]; exact tO_at st co q⟩
  | _ => exact q.elim
theorem notV_ok {a : En → R (D × Bool)} {Q : VK} (h : tO K cl W (notV a) σ H Q) : tNotV (tE K cl W (fz a)) σ H Q := by
  obtain ⟨F, ρ, c, p⟩ := h
  refine ⟨F, ρ, c, (Post.bind p).mono fun d ρ' F' H' st co q v hv => ?_⟩
  cases d with
  | bl t => exact ⟨t, den_bl hv, q F' H' (Step.refl _ _ _ _) co _ (.bl _)⟩
  | _ => exact q.elim
theorem ifV_ok {c : En → R Bool} {a b : En → R (D × Bool)} {Q : VK} (h : tO K cl W (ifV c a b) σ H Q) : tIf (tT K cl W c) (tO K cl W a) (tO K cl W b) σ H Q := by
  obtain ⟨F, ρ, co, p⟩ := h
  refine ⟨F, ρ, co, (Post.bind p).mono fun d ρ' F' H' st co q => ?_⟩
  cases d with
  | true => exact (show tO K cl W a σ H' Q from tO_at st co q)
  | false => exact (show tO K cl W b σ H' Q from tO_at st co q)
end

section
variable {X : Cx} {cl : Cl} {W : WX} {e a b : Expr} {pos : Pos}
abbrev SP (X : Cx) (cl : Cl) (W : WX) (e : Expr) (o : Opd) : Prop := PE X e (tOpd X.K cl W o)
theorem sp_exp {den : En → R (D × Bool)} (h : SO X cl W e den) : SP X cl W e (.exp den) := h.fz
theorem sp_var {i : Nat} {x : Str} (hN : X.N[i]? = some x) (hv : Vis X.env.scope x) (hd : (x == ("__debug__" : Str)) = false) (hcd : (x == ("__classdict__" : Str)) = false) : SP X cl W (.Name x pos) (.var i) := pe_var hN hv hd hcd
theorem so_bin {op : Operator} {oa ob : Opd} (ha : SP X cl W a oa) (hb : SP X cl W b ob) : SO X cl W (.BinOp a op b pos) (bin (fOp op) oa ob) := by
  obtain ⟨r, h1, h2⟩ := opK_of (X := X) (cl := cl) (op := op)
  exact pe_weak (pe_op h1 ha hb) fun σ H Q h => bin_ok h2 h
theorem so_cmp {op : CmpOp} {oa ob : Opd} (hu : X.A.units + 65 < cLine) (ha : SP X cl W a oa) (hb : SP X cl W b ob) (hm : behindInMarks op b = false) : SO X cl W (.Compare a [op] [b] pos) (bin (fCmp op) oa ob) := by
  obtain ⟨r, h1, h2⟩ := opK_cmp (X := X) (cl := cl) (op := op) hu
  exact pe_weak (pe_cmpR h1 ha hb hm) fun σ H Q h => bin_ok h2 h
theorem st_cmp {op : CmpOp} {oa ob : Opd} (hu : X.A.units + 65 < cLine) (ha : SP X cl W a oa) (hb : SP X cl W b ob) (hm : behindInMarks op b = false) : ST X cl W (.Compare a [op] [b] pos) (isB (bin (fCmp op) oa ob)) := by
  obtain ⟨r, h1, h2⟩ := opK_cmp (X := X) (cl := cl) (op := op) hu
  exact pt_weak (pt_cmpR h1 ha hb hm) fun σ H Q h => bin_ok h2 (isB_ok h)
theorem st_and1 {t : En → R Bool} (h : ST X cl W a t) : PW X (.BoolOp .And [a] pos) (tT X.K cl W t) := pw_and1 h
theorem st_and {rest : List Expr} {t u : En → R Bool} (h : ST X cl W a t) (h2 : PW X (.BoolOp .And (b :: rest) pos) (tT X.K cl W u)) : PW X (.BoolOp .And (a :: b :: rest) pos) (tT X.K cl W (andT t u)) :=
  ⟨fun wh pins s σ H Q I q => (pw_and h h2).run wh pins s σ H Q I (andT_ok q)⟩
theorem st_or1 {t : En → R Bool} (h : ST X cl W a t) : PW X (.BoolOp .Or [a] pos) (tT X.K cl W t) := pw_or1 h
theorem st_or {rest : List Expr} {t u : En → R Bool} (h : ST X cl W a t) (h2 : PW X (.BoolOp .Or (b :: rest) pos) (tT X.K cl W u)) : PW X (.BoolOp .Or (a :: b :: rest) pos) (tT X.K cl W (orT t u)) :=
  ⟨fun wh pins s σ H Q I q => (pw_or h h2).run wh pins s σ H Q I (orT_ok q)⟩
theorem st_not {t : En → R Bool} (h : ST X cl W a t) : ST X cl W (.UnaryOp .Not a pos) (notT t) := pt_weak (pt_not h) fun σ H Q h => notT_ok h
theorem st_tru {o : Opd} (h : SP X cl W a o) (he : ∀ whole, isTrue a X.env whole = (do let v ← whole; standAt a.pos; holding [v] (truthy v))) : ST X cl W a (tru o) := pt_weak (pt_truth h he) fun σ H Q h => tru_ok' h
theorem so_one {op : BoolOp} {d : En → R (D × Bool)} (h : SO X cl W a d) : SO X cl W (.BoolOp op [a] pos) d := pe_one h
theorem so_and {rest : List Expr} {d u : En → R (D × Bool)} (h : SO X cl W a d) (h2 : SO X cl W (.BoolOp .And (b :: rest) pos) u) : SO X cl W (.BoolOp .And (a :: b :: rest) pos) (andV d u) := pe_weak (pe_and h.fz h2) fun σ H Q h => andV_ok h
theorem so_or {rest : List Expr} {d u : En → R (D × Bool)} (h : SO X cl W a d) (h2 : SO X cl W (.BoolOp .Or (b :: rest) pos) u) : SO X cl W (.BoolOp .Or (a :: b :: rest) pos) (orV d u) := pe_weak (pe_or h.fz h2) fun σ H Q h => orV_ok h
theorem so_not {d : En → R (D × Bool)} (h : SO X cl W a d) : SO X cl W (.UnaryOp .Not a pos) (notV d) := pe_weak (pe_not h.fz) fun σ H Q h => notV_ok h
theorem so_if {c : Expr} {t : En → R Bool} {d u : En → R (D × Bool)} (hc : ST X cl W c t) (h : SO X cl W a d) (h2 : SO X cl W b u) : SO X cl W (.IfExp c a b pos) (ifV t d u) := pe_weak (pe_ifExp hc h h2) fun σ H Q h => ifV_ok h
end
def chain (f g : F2) (a b c : Opd) : En → R (D × Bool) := fun ρ => (a.ev ρ).bind fun x ρ1 => (b.ev ρ1).bind fun y ρ2 => match late ρ2 x, late ρ2 y with
  | some dx, some dy => match f dx dy with
    | some (.bl true, false) => (c.ev ρ2).bind fun z ρ3 => match late ρ3 y, late ρ3 z with
      | some dy, some dz => ret? (g dy dz) ρ3
      | _, _ => .bad
    | some (.bl false, false) => .ok (.bl false, false) ρ2
    | _ => .bad
  | _, _ => .bad
section
variable {K : PySem.W.Frag} {cl : Cl} {W : WX} {F F1 : Hp} {ρ ρ1 : En} {σ : L2.St} {H H1 : Hp}
theorem chain_ok {f g : F2} {r r' : R2} {a b c : Opd} {Q : VK} (hs : OpS K cl r f) (hs' : OpS K cl r' g) (h : tO K cl W (chain f g a b c) σ H Q) : tChain r r' (tOpd K cl W a) (tOpd K cl W b) (tOpd K cl W c) σ H Q := by
  obtain ⟨F, ρ, co, p⟩ := h
  refine opd_ok co (Post.bind p) fun x ρ1 F1 H1 v st1 c1 h1 p1 => ?_
  refine opd_ok c1 (Post.bind p1) fun y ρ2 F2 H2 u st2 c2 h2 p2 => ?_
  cases ha : late ρ2 x with
  | none => rw [ha] at p2; exact p2.elim
  | some da =>
    cases hb : late ρ2 y with
    | none => rw [ha, hb] at p2; exact p2.elim
    | some db =>
      rw [ha, hb] at p2
      dsimp only at p2
      cases hf : f da db with
      | none => rw [hf] at p2; exact p2.elim
      | some z =>
        rw [hf] at p2
        obtain ⟨z, o⟩ := z
        cases o with
        | true => cases z <;> first | exact p2.elim | (rename_i b; cases b <;> exact p2.elim)
        | false =>
        cases z with
        | bl t =>
          refine hs F2 H2 v u da db _ _ _ c2.le (late_ok c2 (h1.le st2.le) ha) (late_ok c2 h2 hb) hf fun F' H' w gr rs => ?_
          have rs : Den K cl F' w (.bl t) := rs
          refine ⟨t, den_bl rs, ?_⟩
          have s3 := gr.step ρ2 σ
          have c3 := c2.grow gr
          cases t with
          | false =>
            rw [if_neg Bool.false_ne_true]
            exact p2 F' H' s3 c3 _ (.bl false)
          | true =>
            rw [if_pos rfl]
            dsimp only at p2
            refine opd_ok c3 (Post.bind (Post.step s3 p2)) fun z ρ4 F4 H4 vz st4 c4 h4 p4 => ?_
            cases hb2 : late ρ4 y with
            | none => rw [hb2] at p4; exact p4.elim
            | some db2 =>
              cases hc : late ρ4 z with
              | none => rw [hb2, hc] at p4; exact p4.elim
              | some dc =>
                rw [hb2, hc] at p4
                dsimp only at p4
                cases hg : g db2 dc with
                | none => rw [hg] at p4; exact p4.elim
                | some zz =>
                  rw [hg] at p4
                  obtain ⟨zz, oo⟩ := zz
                  exact hs' F4 H4 u vz db2 dc zz oo Q c4.le (late_ok c4 (h2.le (s3.trans st4).le) hb2) (late_ok c4 h4 hc) hg fun F' H' w g rs => Post.done c4 g rs ((st1.trans st2).trans (s3.trans st4)) p4
        | _ => exact p2.elim
end
section
variable {X : Cx} {cl : Cl} {W : WX} {a b c : Expr} {pos : Pos} {op op' : CmpOp} {oa ob oc : Opd}
theorem so_chain (hu : X.A.units + 65 < cLine) (ha : SP X cl W a oa) (hb : SP X cl W b ob) (hc : SP X cl W c oc) (hm : lastMarks [op, op'] [b, c] = false) : SO X cl W (.Compare a [op, op'] [b, c] pos) (chain (fCmp op) (fCmp op') oa ob oc) := by
  obtain ⟨r, h1, h2⟩ := opK_cmp (X := X) (cl := cl) (op := op) hu
  obtain ⟨r', h1', h2'⟩ := opK_cmp (X := X) (cl := cl) (op := op') hu
  exact pe_weak (pe_chain h1 h1' ha hb hc hm) fun σ H Q h => chain_ok h2 h2' h
theorem st_chain (hu : X.A.units + 65 < cLine) (ha : SP X cl W a oa) (hb : SP X cl W b ob) (hc : SP X cl W c oc) (hm : lastMarks [op, op'] [b, c] = false) : ST X cl W (.Compare a [op, op'] [b, c] pos) (isB (chain (fCmp op) (fCmp op') oa ob oc)) := by
  obtain ⟨r, h1, h2⟩ := opK_cmp (X := X) (cl := cl) (op := op) hu
  obtain ⟨r', h1', h2'⟩ := opK_cmp (X := X) (cl := cl) (op := op') hu
  exact pt_weak (pt_chain h1 h1' ha hb hc hm) fun σ H Q h => chain_ok h2 h2' (isB_ok h)
end
def fNeg : D → Option (D × Bool)
  | .int i => vI (-i)
  | _ => none
def fInv : D → Option (D × Bool)
  | .int i => vI (Builtin.bitNot i)
  | _ => none
section
variable {X : Cx} {cl : Cl} {W : WX} {a : Expr} {pos : Pos} {o : Opd}
theorem so_neg (h : SP X cl W a o) : SO X cl W (.UnaryOp .USub a pos) (una fNeg o) := pe_weak (pe_un un_neg h) fun σ H Q q => una_ok (fun F H x a c o Q le va e q => by
  unfold fNeg at e
  split at e
  · cases e; exact ⟨_, va.int, q F H _ (Grow.refl le) (.int _)⟩
  · cases e) q
theorem so_inv (h : SP X cl W a o) : SO X cl W (.UnaryOp .Invert a pos) (una fInv o) := pe_weak (pe_un un_inv h) fun σ H Q q => una_ok (fun F H x a c o Q le va e q => by
  unfold fInv at e
  split at e
  · cases e; exact ⟨_, va.int, q F H _ (Grow.refl le) (.int _)⟩
  · cases e) q
end
def evE : List (En → R (D × Bool)) → En → R (List D)
  | [], ρ => .ok [] ρ
  | a :: r, ρ => (fz a ρ).bind fun d ρ1 => (evE r ρ1).bind fun ds ρ2 => .ok (d :: ds) ρ2
def tupD (es : List (En → R (D × Bool))) : En → R (D × Bool) := fun ρ => (evE es ρ).bind fun ds ρ' => if ds.length ≤ lim then .ok (.tup ds, false) ρ' else .bad
def lstD (es : List (En → R (D × Bool))) : En → R (D × Bool) := fun ρ => (evE es ρ).bind fun ds ρ' => if ds.length ≤ lim then .ok (.lst ds, true) ρ' else .bad
section
variable {X : Cx} {cl : Cl} {W : WX} {es : List Expr} {pos : Pos} {ds : List (En → R (D × Bool))}
abbrev SA (X : Cx) (cl : Cl) (W : WX) (es : List Expr) (ds : List (En → R (D × Bool))) : Prop := PA X es (tA X.K cl W (evE ds))
abbrev SAp (X : Cx) (cl : Cl) (W : WX) (es : List Expr) (os : List Opd) : Prop := PA X es (tOpds X.K cl W os)
theorem pa_weak {es : List Expr} {t t' : TA} (h : PA X es t) (w : ∀ σ H Q, t' σ H Q → t σ H Q) : PA X es t' := ⟨fun pos pins s σ H Q I q => h.run pos pins s σ H Q I (w _ _ _ q)⟩
theorem sa_nil : SA X cl W [] [] := pa_weak pa_nil fun σ H Q ⟨F, ρ, c, p⟩ => p F H (Step.refl _ _ _ _) c [] .nil
theorem sa_cons {e : Expr} {d : En → R (D × Bool)} (h : SO X cl W e d) (h2 : SA X cl W es ds) (hs : starEach (e :: es) X.env = (false, eval e X.env) :: starEach es X.env) : SA X cl W (e :: es) (d :: ds) :=
  pa_weak (pa_cons h.fz h2 hs) fun σ H Q ⟨F, ρ, c, p⟩ => by
    refine ⟨F, ρ, c, (Post.bind p).mono fun x ρ1 F1 H1 st1 c1 p1 v hv => ?_⟩
    refine ⟨F1, ρ1, c1, (Post.bind p1).mono fun xs ρ2 F2 H2 st2 c2 p2 vs hvs => ?_⟩
    exact p2 F2 H2 (Step.refl _ _ _ _) c2 (v :: vs) (.cons (hv.le st2.le) hvs)
theorem sap_nil : SAp X cl W [] [] := pa_nil
theorem sap_cons {e : Expr} {o : Opd} {os : List Opd} (h : SP X cl W e o) (h2 : SAp X cl W es os) (hs : starEach (e :: es) X.env = (false, eval e X.env) :: starEach es X.env) : SAp X cl W (e :: es) (o :: os) := pa_cons h h2 hs
theorem so_tup {k : Nat} (h : SA X cl W es ds) : SO X cl W (.Tuple es k pos) (tupD ds) := pe_weak (pe_tup h) fun σ H Q ⟨F, ρ, c, p⟩ => by
  refine ⟨F, ρ, c, (Post.bind p).mono fun xs ρ1 F1 H1 st1 c1 p1 vs hvs => ?_⟩
  split at p1
  · rename_i hl
    refine ⟨lim_le (by rw [hvs.length]; exact hl), fun q nq => ?_⟩
    have g := Grow.new c1.le nq (.tup vs)
    exact Post.done (o := false) c1 g (.tup (SqT.val upd_same) (hvs.le g.le)) st1 p1
  · exact p1.elim
theorem so_lst (h : SA X cl W es ds) : SO X cl W (.List es pos) (lstD ds) := pe_weak (pe_lst h) fun σ H Q ⟨F, ρ, c, p⟩ => by
  refine ⟨F, ρ, c, (Post.bind p).mono fun xs ρ1 F1 H1 st1 c1 p1 vs hvs => ?_⟩
  split at p1
  · rename_i hl
    refine ⟨lim_le (by rw [hvs.length]; exact hl), fun q nq => ?_⟩
    exact Post.done (o := true) c1 (Grow.own c1.le nq _) ⟨q, rfl, nq, c1.le.back nq, .lst upd_same hvs⟩ st1 p1
  · exact p1.elim
def fAtt (ok : Nat → Str → Bool) (f : Str) : D → Option (D × Bool)
  | .ins c fs => if ok c f = true then (fs.lookup f).map (·, false) else none
  | _ => none
theorem so_att {ok : Nat → Str → Bool} {e : Expr} {f : Str} {o : Opd} (hok : ∀ c f, ok c f = true → Cls X.K (cl c) ∧ NoAttr X.K (cl c) f) (h : SP X cl W e o) (hb : attributeBase e f X.env (eval e X.env) = eval e X.env) :
    SO X cl W (.Attribute e f pos) (una (fAtt ok f) o) := pe_weak (pe_fld h hb) fun σ H Q q => una_ok (r := fun x H Q => ∃ a C dx fs v, x = .ref a ∧ H a = some (.ins C dx fs) ∧ Cls X.K C ∧ NoAttr X.K C f ∧ fs.lookup f = some v ∧ Q v H) (fun F H x a c o Q le va e q => by
  unfold fAtt at e
  split at e
  · split at e
    · rename_i fs hc
      obtain ⟨a, dx, fv, rfl, h1, t⟩ := va.ins le
      cases hl : fs.lookup f with
      | none => rw [hl] at e; cases e
      | some d =>
        rw [hl] at e; cases e
        obtain ⟨v, hv, hd⟩ := t.look hl
        exact ⟨a, _, dx, fv, v, rfl, h1, (hok _ _ hc).1, (hok _ _ hc).2, hv, q F H v (Grow.refl le) hd⟩
    · cases e
  · cases e) q
end
def fIx : F2
  | .lst xs, .int i => (atI xs i).map (·, false)
  | .rdl xs, .int i => (atI xs i).map (·, false)
  | .tup xs, .int i => (atI xs i).map (·, false)
  | _, _ => none
section
variable {X : Cx} {cl : Cl} {W : WX} {a b : Expr} {pos : Pos} {oa ob : Opd}
theorem atI_den {K : PySem.W.Frag} {F : Hp} {vs : List V} {ds : List D} {i : Int} {d : D} (t : DenL K cl F vs ds) (h : atI ds i = some d) : ∃ v, atI vs i = some v ∧ Den K cl F v d := by
  unfold atI at h ⊢
  rw [t.length]
  cases hx : ixN ds.length i with
  | none => rw [hx] at h; cases h
  | some j =>
    rw [hx] at h
    exact t.get h
theorem so_ix (ha : SP X cl W a oa) (hb : SP X cl W b ob) (hs : PlainIx b) : SO X cl W (.Subscript a b pos) (bin fIx oa ob) :=
  pe_weak (pe_ix (ix_list.or ix_tup) ha hb hs) fun σ H Q q => bin_ok (fun F H x y a b c o Q le va vb e q => by
    unfold fIx at e
    split at e
    · rename_i xs i
      cases hx : atI xs i with
      | none => rw [hx] at e; cases e
      | some d =>
        rw [hx] at e; cases e
        obtain ⟨p, vs, rfl, h1, t⟩ := va.lst le
        obtain ⟨v, h2, h3⟩ := atI_den t hx
        exact .inl ⟨p, vs, i, v, rfl, vb.int, SqL.val h1, h2, q F H v (Grow.refl le) h3⟩
    · rename_i xs i
      cases hx : atI xs i with
      | none => rw [hx] at e; cases e
      | some d =>
        rw [hx] at e; cases e
        obtain ⟨p, vs, rfl, h1, t⟩ := va.rdl le
        obtain ⟨v, h2, h3⟩ := atI_den t hx
        exact .inl ⟨p, vs, i, v, rfl, vb.int, h1, h2, q F H v (Grow.refl le) h3⟩
    · rename_i xs i
      cases hx : atI xs i with
      | none => rw [hx] at e; cases e
      | some d =>
        rw [hx] at e; cases e
        obtain ⟨p, vs, rfl, _, h1, t⟩ := va.tup le
        obtain ⟨v, h2, h3⟩ := atI_den t hx
        exact .inr ⟨p, vs, i, v, rfl, vb.int, h1, h2, q F H v (Grow.refl le) h3⟩
    · cases e) q
end
end PF

namespace PF
open PySem PySem.Spec L2
structure ItOk (K : PySem.W.Frag) (cl : Cl) (J : It) (F : Hp) (ds : List D) : Prop where
  go : ∀ (i : Nat) H, Le F H → i < ds.length → J.go i H
  stop : ∀ H, Le F H → J.stop ds.length H
  yld : ∀ (i : Nat) F2 H x H' d, Le F F2 → Le F2 H → ds[i]? = some d → J.yld i H x H' → ∃ F3, Grow F2 H F3 H' ∧ Den K cl F3 x d
section
variable {K : PySem.W.Frag} {cl : Cl} {F : Hp}
theorem itOk_list {a : Addr} {vs : List V} {ds : List D} (h : SqL K F a vs) (t : DenL K cl F vs ds) : ItOk K cl (Itl K a) F ds where
  go i H le hi := by
    obtain ⟨v, hv, _⟩ := t.get (i := i) (List.getElem?_eq_getElem hi)
    exact ⟨vs, v, le.sqL h, hv⟩
  stop H le := ⟨vs, le.sqL h, by rw [t.length]; exact Nat.le_refl _⟩
  yld i F2 H x H' d le le2 hd hy := by
    obtain ⟨rfl, hx⟩ := hy
    obtain ⟨v, hv, hden⟩ := t.get hd
    have := hx vs (le2.sqL (le.sqL h))
    rw [hv] at this; cases this
    exact ⟨F2, Grow.refl le2, hden.le le⟩
theorem itOk_tup {a : Addr} {vs : List V} {ds : List D} (h : SqT K F a vs) (t : DenL K cl F vs ds) : ItOk K cl (Itt K a) F ds where
  go i H le hi := by
    obtain ⟨v, hv, _⟩ := t.get (i := i) (List.getElem?_eq_getElem hi)
    exact ⟨vs, v, le.sqT h, hv⟩
  stop H le := ⟨vs, le.sqT h, by rw [t.length]; exact Nat.le_refl _⟩
  yld i F2 H x H' d le le2 hd hy := by
    obtain ⟨rfl, hx⟩ := hy
    obtain ⟨v, hv, hden⟩ := t.get hd
    have := hx vs (le2.sqT (le.sqT h))
    rw [hv] at this; cases this
    exact ⟨F2, Grow.refl le2, hden.le le⟩
/-- lo, lo + 1, .. -/
def upTo (lo : Int) (n : Nat) : List D := (List.range n).map fun k => D.int (lo + (k : Nat))
theorem itOk_range {lo : Int} {n : Nat} : ItOk K cl (Itr lo n) F (upTo lo n) where
  go i H le hi := by show i < n; simpa [upTo] using hi
  stop H le := by simp [upTo, Itr]
  yld i F2 H x H' d le le2 hd hy := by
    obtain ⟨rfl, rfl⟩ := hy
    unfold upTo at hd
    rw [List.getElem?_map] at hd
    cases hr : (List.range n)[i]? with
    | none => rw [hr] at hd; cases hd
    | some k =>
      rw [hr] at hd; cases hd
      obtain ⟨h1, h2⟩ := List.getElem?_eq_some_iff.mp hr
      simp at h2
      subst h2
      exact ⟨F2, Grow.refl le2, .int _⟩
/-- (0, x), (1, y), .. -/
def numd (ds : List D) : List D := ds.zipIdx.map fun p => D.tup [.int (p.2 : Nat), p.1]
theorem itOk_enum {a : Addr} {vs : List V} {ds : List D} (h : SqL K F a vs) (t : DenL K cl F vs ds) : ItOk K cl (Ite K a) F (numd ds) where
  go i H le hi := by
    have hi : i < ds.length := by simpa [numd] using hi
    obtain ⟨v, hv, _⟩ := t.get (i := i) (List.getElem?_eq_getElem hi)
    exact ⟨vs, v, le.sqL h, hv⟩
  stop H le := ⟨vs, le.sqL h, by rw [t.length]; simp [numd]⟩
  yld i F2 H x H' d le le2 hd hy := by
    obtain ⟨T, z, rfl, nT, rfl, hx⟩ := hy
    unfold numd at hd
    rw [List.getElem?_map, List.getElem?_zipIdx] at hd
    cases hr : ds[i]? with
    | none => rw [hr] at hd; cases hd
    | some e =>
      rw [hr] at hd; simp at hd; subst hd
      obtain ⟨v, hv, hden⟩ := t.get hr
      have := hx vs (le2.sqL (le.sqL h))
      rw [hv] at this; cases this
      have g := Grow.new le2 nT (.tup [.int (i : Nat), z])
      exact ⟨_, g, .tup (SqT.val upd_same) (.cons (.int _) (.one ((hden.le le).le g.le)))⟩
def zipd (ds es : List D) : List D := List.zipWith (fun x y => D.tup [x, y]) ds es
theorem itOk_zip {a b : Addr} {vs ws : List V} {ds es : List D} (h : SqL K F a vs) (t : DenL K cl F vs ds) (h2 : SqL K F b ws) (t2 : DenL K cl F ws es) : ItOk K cl (Itz K a b) F (zipd ds es) where
  go i H le hi := by
    have hi : i < ds.length ∧ i < es.length := by simp [zipd] at hi; omega
    obtain ⟨v, hv, _⟩ := t.get (i := i) (List.getElem?_eq_getElem hi.1)
    obtain ⟨w, hw, _⟩ := t2.get (i := i) (List.getElem?_eq_getElem hi.2)
    exact ⟨vs, ws, v, w, le.sqL h, le.sqL h2, hv, hw⟩
  stop H le := ⟨vs, ws, le.sqL h, le.sqL h2, by rw [t.length, t2.length]; simp [zipd]; omega⟩
  yld i F2 H x H' d le le2 hd hy := by
    obtain ⟨T, y, z, rfl, nT, rfl, hx, hz⟩ := hy
    unfold zipd at hd
    rw [List.getElem?_zipWith] at hd
    cases hr : ds[i]? with
    | none => rw [hr] at hd; cases hd
    | some e =>
      cases hs : es[i]? with
      | none => rw [hr, hs] at hd; cases hd
      | some e2 =>
        rw [hr, hs] at hd; cases hd
        obtain ⟨v, hv, hden⟩ := t.get hr
        obtain ⟨w, hw, hden2⟩ := t2.get hs
        have q := hx vs (le2.sqL (le.sqL h))
        have q2 := hz ws (le2.sqL (le.sqL h2))
        rw [hv] at q; cases q
        rw [hw] at q2; cases q2
        have g := Grow.new le2 nT (.tup [y, z])
        exact ⟨_, g, .tup (SqT.val upd_same) (.cons ((hden.le le).le g.le) (.one ((hden2.le le).le g.le)))⟩
theorem itOk_zipT {a b : Addr} {vs ws : List V} {ds es : List D} (h : SqT K F a vs) (t : DenL K cl F vs ds) (h2 : SqT K F b ws) (t2 : DenL K cl F ws es) : ItOk K cl (RZ.ItzT K a b) F (zipd ds es) where
  go i H le hi := by
    have hi : i < ds.length ∧ i < es.length := by simp [zipd] at hi; omega
    obtain ⟨v, hv, _⟩ := t.get (i := i) (List.getElem?_eq_getElem hi.1)
    obtain ⟨w, hw, _⟩ := t2.get (i := i) (List.getElem?_eq_getElem hi.2)
    exact ⟨vs, ws, v, w, le.sqT h, le.sqT h2, hv, hw⟩
  stop H le := ⟨vs, ws, le.sqT h, le.sqT h2, by rw [t.length, t2.length]; simp [zipd]; omega⟩
  yld i F2 H x H' d le le2 hd hy := by
    obtain ⟨T, y, z, rfl, nT, rfl, hx, hz⟩ := hy
    unfold zipd at hd
    rw [List.getElem?_zipWith] at hd
    cases hr : ds[i]? with
    | none => rw [hr] at hd; cases hd
    | some e =>
      cases hs : es[i]? with
      | none => rw [hr, hs] at hd; cases hd
      | some e2 =>
        rw [hr, hs] at hd; cases hd
        obtain ⟨v, hv, hden⟩ := t.get hr
        obtain ⟨w, hw, hden2⟩ := t2.get hs
        have q := hx vs (le2.sqT (le.sqT h))
        have q2 := hz ws (le2.sqT (le.sqT h2))
        rw [hv] at q; cases q
        rw [hw] at q2; cases q2
        have g := Grow.new le2 nT (.tup [y, z])
        exact ⟨_, g, .tup (SqT.val upd_same) (.cons ((hden.le le).le g.le) (.one ((hden2.le le).le g.le)))⟩
end
def tI (K : PySem.W.Frag) (cl : Cl) (W : WX) (it : En → R (List D)) : TI := fun σ H R => ∃ F ρ, Corr K cl F ρ σ H ∧ Post K cl W (it ρ) F ρ σ H fun ds ρ' F' H' => ∀ J, ItOk K cl J F' ds → R J H'
abbrev SI (X : Cx) (cl : Cl) (W : WX) (tg e : Expr) (it : En → R (List D)) : Prop := PI X tg e (tI X.K cl W it)
/-- the items of a list or a tuple that has come -/
def itV (den : En → R (D × Bool)) : En → R (List D) := fun ρ => (fz den ρ).bind fun d ρ' => match d with
  | .lst ds => .ok ds ρ'
  | .tup ds => .ok ds ρ'
  | .rdl ds => .ok ds ρ'
  | _ => .bad
def toInt : D → Option Int
  | .int i => some i
  | _ => none
/-- what the arguments' values give -/
def itC (f : List D → Option (List D)) (as : List (En → R (D × Bool))) : En → R (List D) := fun ρ => (evE as ρ).bind fun ds ρ' => match f ds with
  | some r => .ok r ρ'
  | none => .bad
def bnd62 (i : Int) : Bool := decide (-(2 ^ 62) ≤ i) && decide (i < 2 ^ 62)
def fRange1 : List D → Option (List D)
  | [.int j] => if bnd62 j = true then some (upTo 0 j.toNat) else none
  | _ => none
def fRange2 : List D → Option (List D)
  | [.int i, .int j] => if (bnd62 i && bnd62 j) = true then some (upTo i (j - i).toNat) else none
  | _ => none
def fEnum : List D → Option (List D)
  | [.lst ds] => some (numd ds)
  | _ => none
def fZip : List D → Option (List D)
  | [.lst ds, .lst es] => some (zipd ds es)
  | [.tup ds, .tup es] => some (zipd ds es)
  | _ => none
section
variable {X : Cx} {cl : Cl} {W : WX} {tg e : Expr}
theorem pi_weak {tg e : Expr} {t t' : TI} (h : PI X tg e t) (w : ∀ σ H Q, t' σ H Q → t σ H Q) : PI X tg e t' := ⟨fun pins s σ H Q I q => h.run pins s σ H Q I (w _ _ _ q)⟩
theorem si_val {den : En → R (D × Bool)} (h : SO X cl W e den) : SI X cl W tg e (itV den) := ⟨fun pins s σ H Rr I q => by
  obtain ⟨F, ρ, c, p⟩ := q
  unfold itV at p
  cases hd : PF.fz den ρ with
  | bad => rw [hd] at p; exact p.elim
  | ex x ρ' =>
    refine (pi_list (tg := tg) h.fz).run pins s σ H Rr I ⟨F, ρ, c, ?_⟩
    rw [hd] at p ⊢
    exact p
  | ok d ρ' =>
    rw [hd] at p
    simp only [R.bind] at p
    cases d with
    | lst ds =>
      refine (pi_list (tg := tg) h.fz).run pins s σ H Rr I ⟨F, ρ, c, ?_⟩
      rw [hd]
      intro F' H' st co v hv
      obtain ⟨a, vs, rfl, h1, t⟩ : ∃ a vs, v = .ref a ∧ F' a = some (.lst vs) ∧ DenL X.K cl F' vs ds := by cases hv; exact ⟨_, _, rfl, by assumption, by assumption⟩
      exact ⟨a, rfl, ⟨vs, SqL.val (co.le _ _ h1)⟩, p F' H' st co _ (itOk_list (SqL.val h1) t)⟩
    | rdl ds =>
      refine (pi_list (tg := tg) h.fz).run pins s σ H Rr I ⟨F, ρ, c, ?_⟩
      rw [hd]
      intro F' H' st co v hv
      obtain ⟨a, vs, rfl, h1, t⟩ : ∃ a vs, v = .ref a ∧ SqL X.K F' a vs ∧ DenL X.K cl F' vs ds := by cases hv; exact ⟨_, _, rfl, by assumption, by assumption⟩
      exact ⟨a, rfl, ⟨vs, co.le.sqL h1⟩, p F' H' st co _ (itOk_list h1 t)⟩
    | tup ds =>
      refine (pi_tup (tg := tg) h.fz).run pins s σ H Rr I ⟨F, ρ, c, ?_⟩
      rw [hd]
      intro F' H' st co v hv
      obtain ⟨a, vs, rfl, h1, t⟩ : ∃ a vs, v = .ref a ∧ SqT X.K F' a vs ∧ DenL X.K cl F' vs ds := by cases hv; exact ⟨_, _, rfl, by assumption, by assumption⟩
      exact ⟨a, rfl, ⟨vs, co.le.sqT h1⟩, p F' H' st co _ (itOk_tup h1 t)⟩
    | _ => exact p.elim⟩
theorem bnd62_iff {i : Int} (h : bnd62 i = true) : -(2 ^ 62) ≤ i ∧ i < 2 ^ 62 := by
  unfold bnd62 at h
  simpa using h
theorem den_int {K : PySem.W.Frag} {F : Hp} {v : V} {i : Int} (h : Den K cl F v (.int i)) : v = .int i := by cases h; rfl
theorem fRange1_some {ds r : List D} (h : fRange1 ds = some r) : ∃ j, ds = [.int j] ∧ bnd62 j = true ∧ r = upTo 0 j.toNat := by
  unfold fRange1 at h
  split at h
  · split at h
    · cases h; exact ⟨_, rfl, by assumption, rfl⟩
    · cases h
  · cases h
theorem fRange2_some {ds r : List D} (h : fRange2 ds = some r) : ∃ i j, ds = [.int i, .int j] ∧ bnd62 i = true ∧ bnd62 j = true ∧ r = upTo i (j - i).toNat := by
  unfold fRange2 at h
  split at h
  · split at h
    · rename_i hb
      rw [Bool.and_eq_true] at hb
      cases h; exact ⟨_, _, rfl, hb.1, hb.2, rfl⟩
    · cases h
  · cases h
theorem fEnum_some {ds r : List D} (h : fEnum ds = some r) : ∃ l, ds = [.lst l] ∧ r = numd l := by
  unfold fEnum at h
  split at h
  · cases h; exact ⟨_, rfl, rfl⟩
  · cases h
theorem fZip_some {ds r : List D} (h : fZip ds = some r) : ∃ l m, (ds = [.lst l, .lst m] ∨ ds = [.tup l, .tup m]) ∧ r = zipd l m := by
  unfold fZip at h
  split at h
  · cases h; exact ⟨_, _, .inl rfl, rfl⟩
  · cases h; exact ⟨_, _, .inr rfl, rfl⟩
  · cases h
theorem itC_ok {K : PySem.W.Frag} {f : List D → Option (List D)} {as : List (En → R (D × Bool))} {σ : L2.St} {H : Hp} {Rr : It → Hp → Prop} {G : List V → Hp → Prop} (q : tI K cl W (itC f as) σ H Rr)
    (h : ∀ F H1 ds vs r, Le F H1 → DenL K cl F vs ds → f ds = some r → (∀ J, ItOk K cl J F r → Rr J H1) → G vs H1) : tA K cl W (evE as) σ H G := by
  obtain ⟨F, ρ, c, q⟩ := q
  refine ⟨F, ρ, c, (Post.bind q).mono fun ds ρ1 F1 H1 st1 c1 p1 vs hvs => ?_⟩
  cases hf : f ds with
  | none => rw [hf] at p1; exact p1.elim
  | some r => rw [hf] at p1; exact h F1 H1 ds vs r c1.le hvs hf (p1 F1 H1 (Step.refl _ _ _ _) c1)
theorem si_range1 {a : Expr} {as : List (En → R (D × Bool))} {p pos : Pos} (hg : Gl X "range") (hm : X.mg "range" = none) (ha : SA X cl W [a] as) (hs : starEach [a] X.env = [(false, eval a X.env)]) :
    SI X cl W tg (.Call (.Name "range" p) [a] [] pos) (itC fRange1 as) := pi_weak (pi_range1 hg hm ha hs) fun σ H Q q => itC_ok q fun F H1 ds vs r le hv hf k => by
  obtain ⟨j, rfl, hb, rfl⟩ := fRange1_some hf
  obtain ⟨b1, b2⟩ := bnd62_iff hb
  cases hv with
  | cons h1 t =>
    cases t
    exact ⟨j, by rw [den_int h1], b1, b2, k _ itOk_range⟩
theorem si_range2 {a b : Expr} {as : List (En → R (D × Bool))} {p pos : Pos} (hg : Gl X "range") (hm : X.mg "range" = none) (ha : SA X cl W [a, b] as) (hs : starEach [a, b] X.env = [(false, eval a X.env), (false, eval b X.env)]) (hs2 : starEach [b] X.env = [(false, eval b X.env)]) :
    SI X cl W tg (.Call (.Name "range" p) [a, b] [] pos) (itC fRange2 as) := pi_weak (pi_range2 hg hm ha hs hs2) fun σ H Q q => itC_ok q fun F H1 ds vs r le hv hf k => by
  obtain ⟨i, j, rfl, hb, hb2, rfl⟩ := fRange2_some hf
  obtain ⟨b1, b2⟩ := bnd62_iff hb
  obtain ⟨b3, b4⟩ := bnd62_iff hb2
  cases hv with
  | cons h1 t =>
    cases t with
    | cons h2 t =>
      cases t
      exact ⟨i, j, by rw [den_int h1, den_int h2], ⟨b1, b2, b3, b4⟩, k _ itOk_range⟩
theorem den_lst {K : PySem.W.Frag} {F : Hp} {v : V} {ds : List D} (h : Den K cl F v (.lst ds)) : ∃ a vs, v = .ref a ∧ SqL K F a vs ∧ DenL K cl F vs ds := by
  cases h with
  | lst h t => exact ⟨_, _, rfl, SqL.val h, t⟩
theorem den_tup {K : PySem.W.Frag} {F : Hp} {v : V} {ds : List D} (h : Den K cl F v (.tup ds)) : ∃ a vs, v = .ref a ∧ SqT K F a vs ∧ DenL K cl F vs ds := by
  cases h with
  | tup h t => exact ⟨_, _, rfl, h, t⟩
theorem si_enum {a : Expr} {as : List (En → R (D × Bool))} {elts : List Expr} {kk : Nat} {p pos tpos : Pos} (hg : Gl X "enumerate") (hm : X.mg "enumerate" = none) (ha : SA X cl W [a] as) (hs : starEach [a] X.env = [(false, eval a X.env)]) :
    SI X cl W (.Tuple elts kk tpos) (.Call (.Name "enumerate" p) [a] [] pos) (itC fEnum as) := pi_weak (pi_enum hg hm ha hs) fun σ H Q q => itC_ok q fun F H1 ds vs r le hv hf k => by
  obtain ⟨l, rfl, rfl⟩ := fEnum_some hf
  cases hv with
  | cons h1 t =>
    cases t
    obtain ⟨a, vs, rfl, h2, t⟩ := den_lst h1
    exact ⟨a, vs, rfl, le.sqL h2, k _ (itOk_enum h2 t)⟩
theorem si_zip {a b : Expr} {as : List (En → R (D × Bool))} {elts : List Expr} {kk : Nat} {p pos tpos : Pos} (hg : Gl X "zip") (hm : X.mg "zip" = none) (ha : SA X cl W [a, b] as) (hs : starEach [a, b] X.env = (false, eval a X.env) :: starEach [b] X.env)
    (hpl : (backTo pos (starEach [b] X.env)).any (·.1) = false) : SI X cl W (.Tuple elts kk tpos) (.Call (.Name "zip" p) [a, b] [] pos) (itC fZip as) := pi_weak (RZ.pi_zipA hg hm ha hs hpl) fun σ H Q q => itC_ok q fun F H1 ds vs r le hv hf k => by
  obtain ⟨l, m, rfl | rfl, rfl⟩ := fZip_some hf
  · cases hv with
    | cons h1 t =>
      cases t with
      | cons h2 t =>
        cases t
        obtain ⟨a, vs, rfl, q1, t1⟩ := den_lst h1
        obtain ⟨b, ws, rfl, q2, t2⟩ := den_lst h2
        exact ⟨a, b, vs, ws, rfl, .inl ⟨le.sqL q1, le.sqL q2, k _ (itOk_zip q1 t1 q2 t2)⟩⟩
  · cases hv with
    | cons h1 t =>
      cases t with
      | cons h2 t =>
        cases t
        obtain ⟨a, vs, rfl, q1, t1⟩ := den_tup h1
        obtain ⟨b, ws, rfl, q2, t2⟩ := den_tup h2
        exact ⟨a, b, vs, ws, rfl, .inr ⟨le.sqT q1, le.sqT q2, k _ (itOk_zipT q1 t1 q2 t2)⟩⟩
end
abbrev Bn := D → En → Option En
def BG (X : Cx) (cl : Cl) (b : Bn) (g : TG) : Prop := ∀ (F : Hp) (ρ : En) (σ : L2.St) (H : Hp) (v : V) (d : D) (ρ' : En) (Q : L2.St → Hp → Prop), Corr X.K cl F ρ σ H → Den X.K cl F v d → b d ρ = some ρ' →
  (∀ F' σ' H', Step F ρ σ H F' ρ' σ' H' → Corr X.K cl F' ρ' σ' H' → Q σ' H') → g v σ H Q
def bName (i : Nat) : Bn := fun d ρ => putS i (.fr d) ρ
def bAll : List Bn → List D → En → Option En
  | [], [], ρ => some ρ
  | b :: bs, d :: ds, ρ => (b d ρ).bind fun ρ1 => bAll bs ds ρ1
  | _, _, _ => none
def bTup (bs : List Bn) : Bn := fun d ρ => match d with
  | .tup ds => bAll bs ds ρ
  | _ => none
section
variable {X : Cx} {cl : Cl} {W : WX}
theorem bg_name {i : Nat} : BG X cl (bName i) (gName i) := fun F ρ σ H v d ρ' Q c hd hb k => by
  obtain ⟨s, c2⟩ := put_ok (o := false) (Step.refl F ρ σ H) c hd hb
  exact k _ _ _ s c2
def BGs (X : Cx) (cl : Cl) (bs : List Bn) (g : TGs) : Prop := ∀ (F : Hp) (ρ : En) (σ : L2.St) (H : Hp) (vs : List V) (ds : List D) (ρ' : En) (Q : L2.St → Hp → Prop), Corr X.K cl F ρ σ H → DenL X.K cl F vs ds → bAll bs ds ρ = some ρ' →
  (∀ F' σ' H', Step F ρ σ H F' ρ' σ' H' → Corr X.K cl F' ρ' σ' H' → Q σ' H') → g vs σ H Q
theorem bgs_nil : BGs X cl [] gNil := fun F ρ σ H vs ds ρ' Q c hd hb k => by
  cases hd with
  | nil => cases hb; exact ⟨rfl, k F σ H (Step.refl _ _ _ _) c⟩
  | cons _ _ => cases hb
theorem bgs_cons {b : Bn} {bs : List Bn} {g : TG} {gs : TGs} (h : BG X cl b g) (h2 : BGs X cl bs gs) : BGs X cl (b :: bs) (gCons g gs) := fun F ρ σ H vs ds ρ' Q c hd hb k => by
  cases hd with
  | nil => cases hb
  | @cons v vs d ds hd t =>
    simp only [bAll] at hb
    cases hb1 : b d ρ with
    | none => rw [hb1] at hb; cases hb
    | some ρ1 =>
      rw [hb1] at hb
      refine ⟨v, vs, rfl, h F ρ σ H v d ρ1 _ c hd hb1 fun F1 σ1 H1 s1 c1 => ?_⟩
      exact h2 F1 ρ1 σ1 H1 vs ds ρ' Q c1 (t.le s1.le) hb fun F2 σ2 H2 s2 c2 => k F2 σ2 H2 (s1.trans s2) c2
theorem bAll_len : ∀ {bs : List Bn} {ds : List D} {ρ ρ' : En}, bAll bs ds ρ = some ρ' → ds.length = bs.length
  | [], [], _, _, _ => rfl
  | [], _ :: _, _, _, h => by cases h
  | _ :: _, [], _, _, h => by cases h
  | b :: bs, d :: ds, ρ, ρ', h => by
    simp only [bAll] at h
    cases hb1 : b d ρ with
    | none => rw [hb1] at h; cases h
    | some ρ1 => rw [hb1] at h; simp [bAll_len (bs := bs) h]
theorem bg_tup {bs : List Bn} {gs : TGs} {n : Nat} (h : BGs X cl bs gs) (hn : bs.length = n) : BG X cl (bTup bs) (gTup X.K n gs) := fun F ρ σ H v d ρ' Q c hd hb k => by
  cases d with
  | tup ds =>
    obtain ⟨a, vs, rfl, h1, t⟩ := den_tup hd
    exact ⟨a, vs, rfl, c.le.sqT h1, by rw [t.length, ← hn]; exact bAll_len hb, h F ρ σ H vs ds ρ' Q c t hb k⟩
  | _ => cases hb
end
def forD (b : Bn) (body : Sm) : List D → Sm
  | [], ρ => .ok .nx ρ
  | d :: ds, ρ => match b d ρ with
    | none => .bad
    | some ρ1 => match body ρ1 with
      | .ok .nx ρ2 => forD b body ds ρ2
      | .ok .ct ρ2 => forD b body ds ρ2
      | .ok .bk ρ2 => .ok .nx ρ2
      | .ok (.rt v) ρ2 => .ok (.rt v) ρ2
      | .ex x ρ2 => .ex x ρ2
      | .bad => .bad
def forS (it : En → R (List D)) (b : Bn) (body : Sm) : Sm := fun ρ => bindS (it ρ) fun ds ρ' => forD b body ds ρ'
def whileD (c : En → R Bool) (body : Sm) : Nat → Sm
  | 0, _ => .bad
  | n + 1, ρ => bindS (c ρ) fun t ρ1 => if t = true then (match body ρ1 with
      | .ok .nx ρ2 => whileD c body n ρ2
      | .ok .ct ρ2 => whileD c body n ρ2
      | .ok .bk ρ2 => .ok .nx ρ2
      | .ok (.rt v) ρ2 => .ok (.rt v) ρ2
      | .ex x ρ2 => .ex x ρ2
      | .bad => .bad) else .ok .nx ρ1
section
variable {X : Cx} {cl : Cl} {W : WX}
theorem for_ok {it : En → R (List D)} {b : Bn} {g : TG} {body : Sm} {Dn : Ends} {σ : L2.St} {H : Hp} (hb : BG X cl b g) (h : tS X.K cl W (forS it b body) Dn σ H) : tFor (tI X.K cl W it) g (tS X.K cl W body) Dn σ H := by
  obtain ⟨F, ρ, c, p⟩ := h
  refine ⟨F, ρ, c, (PostS.of p).mono fun ds ρ' F' H' st co q J ok => ?_⟩
  refine ⟨fun i m σ1 H1 => ∃ F1 ρ1, Le F' F1 ∧ Corr X.K cl F1 ρ1 σ1 H1 ∧ i ≤ ds.length ∧ m = ds.length - i ∧ PostS X.K cl W (forD b body (ds.drop i) ρ1) F1 ρ1 σ1 H1 Dn,
    ⟨ds.length, F', ρ', Le.refl _, co, Nat.zero_le _, rfl, q⟩, fun i m σ1 H1 w => ?_⟩
  obtain ⟨F1, ρ1, le1, c1, hi, rfl, p1⟩ := w
  by_cases hlt : i < ds.length
  · obtain ⟨d, hd⟩ : ∃ d, ds[i]? = some d := ⟨_, List.getElem?_eq_getElem hlt⟩
    have hdr : ds.drop i = d :: ds.drop (i + 1) := by
      obtain ⟨h1, h2⟩ := List.getElem?_eq_some_iff.mp hd
      rw [← h2]; exact List.drop_eq_getElem_cons h1
    rw [hdr] at p1
    simp only [forD] at p1
    refine .inr ⟨ok.go i H1 (le1.trans c1.le) hlt, fun σ2 H2 => ∃ F2 ρ2, Le F' F2 ∧ Corr X.K cl F2 ρ2 σ2 H2 ∧ PostS X.K cl W (forD b body (ds.drop (i + 1)) ρ2) F2 ρ2 σ2 H2 Dn, fun σ2 H2 ⟨F2, ρ2, le2, c2, p2⟩ => ?_, fun x H2 hy => ?_⟩
    · exact ⟨ds.length - (i + 1), by omega, F2, ρ2, le2, c2, by omega, rfl, p2⟩
    · obtain ⟨F3, gr, hx⟩ := ok.yld i F1 H1 x H2 d le1 c1.le hd hy
      have c3 := c1.grow gr
      have s3 := gr.step ρ1 σ1
      cases hbd : b d ρ1 with
      | none => rw [hbd] at p1; exact p1.elim
      | some ρ2 =>
        rw [hbd] at p1
        dsimp only at p1
        refine hb F3 ρ1 σ1 H2 x d ρ2 _ c3 hx hbd fun F3 σ2 H2 s4 c4 => ⟨F3, ρ2, c4, ?_⟩
        have st2 := s3.trans s4
        cases hbo : body ρ2 with
        | bad => rw [hbo] at p1; exact p1
        | ex x ρ3 => rw [hbo] at p1; exact fun F' σ' H' c dd t co e => p1 F' σ' H' c dd (st2.trans t) co e
        | ok fl ρ3 =>
          rw [hbo] at p1
          have nx : PostS X.K cl W (forD b body (ds.drop (i + 1)) ρ3) F1 ρ1 σ1 H1 Dn → ∀ F4 σ4 H4, Step F3 ρ2 σ2 H2 F4 ρ3 σ4 H4 → Corr X.K cl F4 ρ3 σ4 H4 → ∃ F2 ρ2, Le F' F2 ∧ Corr X.K cl F2 ρ2 σ4 H4 ∧ PostS X.K cl W (forD b body (ds.drop (i + 1)) ρ2) F2 ρ2 σ4 H4 Dn :=
            fun p F4 σ4 H4 t co => ⟨F4, ρ3, le1.trans ((st2.trans t).le), co, PostS.step (st2.trans t) p⟩
          cases fl with
          | nx => exact fun F4 σ4 H4 t co => nx p1 F4 σ4 H4 t co
          | ct => exact fun F4 σ4 H4 t co => nx p1 F4 σ4 H4 t co
          | bk => exact fun F4 σ4 H4 t co => p1 F4 σ4 H4 (st2.trans t) co
          | rt v => exact (PostS.step st2 p1 : PostS X.K cl W (.ok (.rt v) ρ3) F3 ρ2 σ2 H2 Dn)
  · have e : i = ds.length := by omega
    subst e
    rw [List.drop_length] at p1
    exact .inl ⟨ok.stop H1 (le1.trans c1.le), PostS.nxx (c := c1) p1⟩
theorem while_ok {c : En → R Bool} {body : Sm} {n : Nat} {Dn : Ends} {σ : L2.St} {H : Hp} (h : tS X.K cl W (whileD c body n) Dn σ H) : tWhile (tT X.K cl W c) (tS X.K cl W body) Dn σ H := by
  refine ⟨fun m σ H => tS X.K cl W (whileD c body m) Dn σ H, ⟨n, h⟩, fun m σ H w => ?_⟩
  obtain ⟨F, ρ, co, p⟩ := w
  cases m with
  | zero => exact p.elim
  | succ m =>
    refine ⟨F, ρ, co, (PostS.of p).mono fun t ρ1 F1 H1 st c1 q => ?_⟩
    cases t with
    | false =>
      rw [if_neg Bool.false_ne_true] at q ⊢
      exact PostS.nxx (c := c1) q
    | true =>
      rw [if_pos rfl] at q ⊢
      refine ⟨fun σ2 H2 => tS X.K cl W (whileD c body m) Dn σ2 H2, fun σ2 H2 z => ⟨m, Nat.lt_succ_self _, z⟩, F1, ρ1, c1, ?_⟩
      cases hbo : body ρ1 with
      | bad => rw [hbo] at q; exact q
      | ex x ρ3 => rw [hbo] at q; exact q
      | ok fl ρ3 =>
        rw [hbo] at q
        cases fl with
        | nx => exact fun F4 σ4 H4 t co => ⟨F4, ρ3, co, PostS.step t q⟩
        | ct => exact fun F4 σ4 H4 t co => ⟨F4, ρ3, co, PostS.step t q⟩
        | bk => exact q
        | rt v => exact q
theorem ss_for {tg iter : Expr} {bd : List Stmt} {it : En → R (List D)} {b : Bn} {g : TG} {body : Sm} {pos : Pos} (hp : PassesOwn (model X.prog X.w) X.A X.env X.xe) (hc : X.calm = true) (hi : SI X cl W tg iter it) (hg : PG X tg g) (hb : BG X cl b g) (hB : SB X cl W bd body)
    (hs : ∀ x, foldedSetIterable iter X.env x = pure x) : SS X cl W (.For tg iter bd [] pos) (forS it b body) := ps_weak (ps_for hp hc hi hg hB hs) fun Dn σ H h => for_ok hb h
theorem ss_while {c : Expr} {bd : List Stmt} {t : En → R Bool} {body : Sm} {n : Nat} {pos : Pos} (hp : PassesOwn (model X.prog X.w) X.A X.env X.xe) (hc : ST X cl W c t) (hB : SB X cl W bd body) : SS X cl W (.While c bd [] pos) (whileD t body n) :=
  ps_weak (ps_while hp hc hB) fun Dn σ H h => while_ok h
end
end PF

namespace PF
open PySem PySem.Spec L2
def wipeE (ρ : En) : List Nat → En
  | [] => ρ
  | v :: vs => (wipeE ρ vs).set v .un
/-- behind the block: its own slots as they were -/
def backE (vs : List Nat) (ρ ρb : En) : En := ρb.mapIdx fun i x => if i ∈ vs then (ρ[i]?).getD .un else x
def noex {α : Type} : R α → R α
  | .ok a ρ => .ok a ρ
  | _ => .bad
def lcL (b : Bn) (c : En → R Bool) (e : En → R (D × Bool)) (vs : List Nat) : List D → List D → En → R (List D)
  | [], acc, ρ => .ok acc ρ
  | d :: ds, acc, ρ => match b d ρ with
    | none => .bad
    | some ρ1 => (noex (c ρ1)).bind fun t ρ2 => if t = true then (noex (fz e ρ2)).bind fun y ρ3 => if acc.length < lim then lcL b c e vs ds (acc ++ [y]) (wipeE ρ3 vs) else .bad else lcL b c e vs ds acc (wipeE ρ2 vs)
def lcD (it : En → R (List D)) (b : Bn) (c : En → R Bool) (e : En → R (D × Bool)) (vs : List Nat) : En → R (D × Bool) := fun ρ => (it ρ).bind fun ds ρ1 =>
  (noex (lcL b c e vs ds [] (wipeE ρ1 vs))).bind fun acc ρ2 => .ok (.lst acc, true) (backE vs ρ1 ρ2)

theorem wipeE_len (ρ : En) : ∀ vs : List Nat, (wipeE ρ vs).length = ρ.length
  | [] => rfl
  | v :: vs => by simp [wipeE, wipeE_len ρ vs]
theorem wipeE_get {ρ : En} {i : Nat} : ∀ {vs : List Nat}, (i ∉ vs → (wipeE ρ vs)[i]? = ρ[i]?) ∧ (i ∈ vs → i < ρ.length → (wipeE ρ vs)[i]? = some .un)
  | [] => ⟨fun _ => rfl, fun h => by simp at h⟩
  | v :: vs => by
    obtain ⟨h1, h2⟩ := wipeE_get (ρ := ρ) (i := i) (vs := vs)
    refine ⟨fun h => ?_, fun h hi => ?_⟩
    · simp only [List.mem_cons, not_or] at h
      simp only [wipeE]
      rw [List.getElem?_set_ne (Ne.symm h.1)]
      exact h1 h.2
    · simp only [wipeE]
      by_cases e : v = i
      · subst e
        rw [List.getElem?_set_self (by rw [wipeE_len]; exact hi)]
      · rw [List.getElem?_set_ne e]
        rcases List.mem_cons.mp h with q | q
        · exact absurd q.symm e
        · exact h2 q hi
theorem wipe_get {σ : L2.St} {i : Nat} : ∀ {vs : List Nat}, (i ∉ vs → (wipe σ vs)[i]? = σ[i]?) ∧ (i ∈ vs → i < σ.length → (wipe σ vs)[i]? = some none)
  | [] => ⟨fun _ => rfl, fun h => by simp at h⟩
  | v :: vs => by
    obtain ⟨h1, h2⟩ := wipe_get (σ := σ) (i := i) (vs := vs)
    refine ⟨fun h => ?_, fun h hi => ?_⟩
    · simp only [List.mem_cons, not_or] at h
      simp only [wipe]
      rw [List.getElem?_set_ne (Ne.symm h.1)]
      exact h1 h.2
    · simp only [wipe]
      by_cases e : v = i
      · subst e
        rw [List.getElem?_set_self (by rw [wipe_length]; exact hi)]
      · rw [List.getElem?_set_ne e]
        rcases List.mem_cons.mp h with q | q
        · exact absurd q.symm e
        · exact h2 q hi

section
variable {K : PySem.W.Frag} {cl : Cl} {W : WX} {F F0 F1 : Hp} {ρ ρ0 ρ1 : En} {σ σ0 σ1 : L2.St} {H H0 H1 : Hp} {vs : List Nat}
/-- a slot of the wiped ones is none of vs -/
theorem wipeE_some {i : Nat} {x : Sl} (h : (wipeE ρ vs)[i]? = some x) (hx : x ≠ .un) : i ∉ vs ∧ ρ[i]? = some x := by
  have hi : i < ρ.length := by rw [← wipeE_len ρ vs]; exact (List.getElem?_eq_some_iff.mp h).1
  by_cases hm : i ∈ vs
  · rw [wipeE_get.2 hm hi] at h; cases h; exact absurd rfl hx
  · exact ⟨hm, by rw [← wipeE_get.1 hm]; exact h⟩
theorem own_ne {x : Sl} {d : D} (h : x.own? = some d) : x ≠ .un := by rintro rfl; cases h
theorem wipe_owned {a : Addr} (h : Owned (wipe σ vs) (wipeE ρ vs) a) : ∃ (i : Nat) (x : Sl) (d : D), i ∉ vs ∧ ρ[i]? = some x ∧ x.own? = some d ∧ σ[i]? = some (some (.ref a)) := by
  obtain ⟨i, x, d, h1, h2, h3⟩ := h
  obtain ⟨g1, g2⟩ := wipeE_some h1 (own_ne h2)
  rw [wipe_get.1 g1] at h3
  exact ⟨i, x, d, g1, g2, h2, h3⟩
theorem Corr.wiped (c : Corr K cl F ρ σ H) : Corr K cl F (wipeE ρ vs) (wipe σ vs) H where
  len := by rw [wipeE_len, wipe_length]; exact c.len
  le := c.le
  slot i x o h1 h2 := by
    by_cases hx : x = .un
    · subst hx; trivial
    · obtain ⟨g1, g2⟩ := wipeE_some h1 hx
      rw [wipe_get.1 g1] at h2
      exact c.slot i x o g2 h2
  inj i j x y d e a h1 h2 h3 h4 h5 h6 := by
    obtain ⟨g1, g2⟩ := wipeE_some h1 (own_ne h3)
    obtain ⟨k1, k2⟩ := wipeE_some h2 (own_ne h4)
    rw [wipe_get.1 g1] at h5
    rw [wipe_get.1 k1] at h6
    exact c.inj i j x y d e a g2 k2 h3 h4 h5 h6
  tab := c.tab
/-- the block's names are let go at a turn's end -/
theorem Corr.rewiped {σ2 : L2.St} (c : Corr K cl F ρ σ2 H) (e : wipe σ2 vs = wipe σ vs) : Corr K cl F (wipeE ρ vs) (wipe σ vs) H := e ▸ c.wiped
theorem Step.rewiped {σ2 : L2.St} (s : Step F0 ρ0 (wipe σ vs) H0 F ρ σ2 H) (h0 : ∀ i ∈ vs, ∀ d : D, ρ0[i]? ≠ some (.ln d) ∧ ρ0[i]? ≠ some (.lf d)) (e : wipe σ2 vs = wipe σ vs) : Step F0 ρ0 (wipe σ vs) H0 F (wipeE ρ vs) (wipe σ vs) H where
  le := s.le
  keep := s.keep
  tbl := s.tbl
  thaw := s.thaw
  own a h := s.own a (by
    rw [← e] at h
    obtain ⟨i, x, d, _, h2, h3, h4⟩ := wipe_owned h
    exact ⟨i, x, d, h2, h3, h4⟩)
  live := s.live
  ln i d h := by
    have hi : i ∉ vs := fun z => (h0 i z d).1 h
    obtain ⟨e1, h1⟩ := s.ln i d h
    refine ⟨rfl, ?_⟩
    rw [wipeE_get.1 hi]; exact h1
  lf i d h := by
    have hi : i ∉ vs := fun z => (h0 i z d).2 h
    obtain ⟨e1, h1⟩ := s.lf i d h
    exact ⟨rfl, by rw [wipeE_get.1 hi]; exact h1⟩
theorem wipeE_nol : ∀ i ∈ vs, ∀ d : D, (wipeE ρ vs)[i]? ≠ some (.ln d) ∧ (wipeE ρ vs)[i]? ≠ some (.lf d) := fun i hi d => by
  by_cases hl : i < ρ.length
  · rw [wipeE_get.2 hi hl]; exact ⟨by simp, by simp⟩
  · rw [List.getElem?_eq_none (by rw [wipeE_len]; omega)]; exact ⟨by simp, by simp⟩

theorem backE_get {ρb : En} (hl : ρb.length = ρ.length) {i : Nat} {x : Sl} (h : (backE vs ρ ρb)[i]? = some x) : (i ∈ vs ∧ ρ[i]? = some x) ∨ (i ∉ vs ∧ ρb[i]? = some x) := by
  unfold backE at h
  rw [List.getElem?_mapIdx] at h
  cases hb : ρb[i]? with
  | none => rw [hb] at h; cases h
  | some y =>
    have hi : i < ρ.length := by rw [← hl]; exact (List.getElem?_eq_some_iff.mp hb).1
    rw [hb] at h
    simp only [Option.map_some, Option.some.injEq] at h
    by_cases hm : i ∈ vs
    · rw [if_pos hm] at h
      rw [List.getElem?_eq_getElem hi] at h ⊢
      exact .inl ⟨hm, by rw [← h]; rfl⟩
    · rw [if_neg hm] at h
      subst h
      exact .inr ⟨hm, rfl⟩
theorem backE_len {ρb : En} : (backE vs ρ ρb).length = ρb.length := by simp [backE]
theorem get_backE {ρb : En} (hl : ρb.length = ρ.length) {i : Nat} : (i ∈ vs → (backE vs ρ ρb)[i]? = ρ[i]?) ∧ (i ∉ vs → (backE vs ρ ρb)[i]? = ρb[i]?) := by
  unfold backE
  rw [List.getElem?_mapIdx]
  refine ⟨fun hm => ?_, fun hm => ?_⟩
  · by_cases hi : i < ρ.length
    · obtain ⟨y, hy⟩ : ∃ y, ρb[i]? = some y := ⟨_, List.getElem?_eq_getElem (by omega)⟩
      rw [hy, List.getElem?_eq_getElem hi]; simp [hm]
    · rw [List.getElem?_eq_none (by omega), List.getElem?_eq_none (by omega)]; rfl
  · cases ρb[i]? with
    | none => rfl
    | some y => simp [hm]

/-- behind the block, in the def's own slots -/
theorem block_back {ρb : En} (c : Corr K cl F ρ σ H) (s : Step F (wipeE ρ vs) (wipe σ vs) H F1 ρb (wipe σ vs) H1) (cb : Corr K cl F1 ρb (wipe σ vs) H1) (hl : ρb.length = ρ.length) (hw : wipeE ρb vs = ρb) :
    Step F ρ σ H F1 (backE vs ρ ρb) σ H1 ∧ Corr K cl F1 (backE vs ρ ρb) σ H1 ∧ ∀ a, Owned σ (backE vs ρ ρb) a → Owned σ ρ a ∨ Owned (wipe σ vs) ρb a := by
  have sub : ∀ a, Owned (wipe σ vs) (wipeE ρ vs) a → Owned σ ρ a := fun a h => by
    obtain ⟨i, x, d, _, h2, h3, h4⟩ := wipe_owned h
    exact ⟨i, x, d, h2, h3, h4⟩
  have own : ∀ a, Owned σ (backE vs ρ ρb) a → (∃ (i : Nat) (x : Sl) (d : D), i ∈ vs ∧ ρ[i]? = some x ∧ x.own? = some d ∧ σ[i]? = some (some (.ref a))) ∨ Owned (wipe σ vs) ρb a := fun a ⟨i, x, d, h1, h2, h3⟩ => by
    rcases backE_get hl h1 with ⟨m, g⟩ | ⟨m, g⟩
    · exact .inl ⟨i, x, d, m, g, h2, h3⟩
    · exact .inr ⟨i, x, d, g, h2, by rw [wipe_get.1 m]; exact h3⟩
  -- what a slot of vs owns is no affair of the block
  have alone : ∀ (i : Nat) (x : Sl) (d : D) (a : Addr), i ∈ vs → ρ[i]? = some x → x.own? = some d → σ[i]? = some (some (.ref a)) → ¬ Owned (wipe σ vs) (wipeE ρ vs) a := fun i x d a m h1 h2 h3 z => by
    obtain ⟨j, y, e, n, g1, g2, g3⟩ := wipe_owned z
    have := c.inj i j x y d e a h1 g1 h2 g2 h3 g3
    subst this
    exact n m
  refine ⟨⟨s.le, fun a o h w n => s.keep a o h w fun z => n (sub a z), fun a o h w n e => s.thaw a o h w (fun z => n (sub a z)) e, s.tbl, fun a h => ?_, s.live, fun i d h => ⟨rfl, ?_⟩, fun i d h => ⟨rfl, ?_⟩⟩,
    ⟨by rw [backE_len, hl]; exact c.len, cb.le, fun i x o h1 h2 => ?_, fun i j x y d e a h1 h2 h3 h4 h5 h6 => ?_, cb.tab⟩, fun a h => ?_⟩
  · rcases own a h with ⟨i, x, d, _, h1, h2, h3⟩ | h
    · exact .inl ⟨i, x, d, h1, h2, h3⟩
    · exact (s.own a h).imp (sub a) id
  · by_cases m : i ∈ vs
    · rw [(get_backE hl).1 m]; exact .inl ⟨d, h⟩
    · rw [(get_backE hl).2 m]
      exact (s.ln i d (by rw [wipeE_get.1 m]; exact h)).2
  · by_cases m : i ∈ vs
    · rw [(get_backE hl).1 m]; exact h
    · rw [(get_backE hl).2 m]
      exact (s.lf i d (by rw [wipeE_get.1 m]; exact h)).2
  · rcases backE_get hl h1 with ⟨m, g⟩ | ⟨m, g⟩
    · have z := c.slot i x o g h2
      have ownc : ∀ d, x.own? = some d → ∃ a, o = some (.ref a) ∧ F1 a = none ∧ Own K cl F1 H1 a d := fun d hd => by
        obtain ⟨a, e1, e2, e3⟩ := own_slot z hd
        have na := alone i x d a m g hd (by rw [h2, e1])
        obtain ⟨u, hu, nu⟩ := e3.not_own
        refine ⟨a, e1, s.thaw a u hu nu na e2, e3.keep' s.le (fun o h w => s.keep _ _ h w na) fun b h => s.keep _ _ h (fun ps e => by cases e) fun w => ?_⟩
        obtain ⟨j, y, e, n, g1, g2, g3⟩ := wipe_owned w
        obtain ⟨b', f1, _, f3⟩ := own_slot (c.slot j y _ g1 g3) g2
        cases f1
        obtain ⟨u2, hu2, nu2⟩ := f3.not_own
        rw [h] at hu2; cases hu2
        exact nu2 a rfl
      cases x with
      | un => trivial
      | fr d => obtain ⟨v, e, w⟩ := z; exact ⟨v, e, w.le s.le⟩
      | lf d => obtain ⟨b, e, n, w⟩ := z; exact ⟨b, e, s.le.some n, w.le s.le⟩
      | ow d => exact ownc d rfl
      | ln d => exact ownc d rfl
    · exact cb.slot i x o g (by rw [wipe_get.1 m]; exact h2)
  · have both : ∀ (i j : Nat) (x y : Sl) (d e : D), i ∈ vs → ρ[i]? = some x → x.own? = some d → σ[i]? = some (some (.ref a)) → j ∉ vs → ρb[j]? = some y → y.own? = some e → σ[j]? = some (some (.ref a)) → False := fun i j x y d e m g1 g2 g3 n k1 k2 k3 => by
      rcases s.own a ⟨j, y, e, k1, k2, by rw [wipe_get.1 n]; exact k3⟩ with z | z
      · exact alone i x d a m g1 g2 g3 z
      · obtain ⟨b', f1, _, f3⟩ := own_slot (c.slot i x _ g1 g3) g2
        cases f1
        obtain ⟨u, hu⟩ := f3.there
        rw [z] at hu; cases hu
    rcases backE_get hl h1 with ⟨m, g⟩ | ⟨m, g⟩
    · rcases backE_get hl h2 with ⟨m2, g2⟩ | ⟨m2, g2⟩
      · exact c.inj i j x y d e a g g2 h3 h4 h5 h6
      · exact (both i j x y d e m g h3 h5 m2 g2 h4 h6).elim
    · rcases backE_get hl h2 with ⟨m2, g2⟩ | ⟨m2, g2⟩
      · exact (both j i y x e d m2 g2 h4 h6 m g h3 h5).elim
      · exact cb.inj i j x y d e a g g2 h3 h4 (by rw [wipe_get.1 m]; exact h5) (by rw [wipe_get.1 m2]; exact h6)
  · rcases own a h with ⟨i, x, d, _, h1, h2, h3⟩ | h
    · exact .inl ⟨i, x, d, h1, h2, h3⟩
    · exact .inr h

/-- the list under way is written: seen from a start at which it was not there -/
theorem Step.new {Dl : Addr} {o : HO} (s : Step F0 ρ0 σ0 H0 F ρ σ H) (h0 : H0 Dl = none) : Step F0 ρ0 σ0 H0 F ρ σ (upd H Dl o) where
  le := s.le
  keep a u h w n := by rw [upd_ne (ne_of_none h h0)]; exact s.keep a u h w n
  tbl a ps h := by rw [upd_ne (ne_of_none h h0)]; exact s.tbl a ps h
  thaw := s.thaw
  own := s.own
  live a u h := by
    obtain ⟨o', e⟩ := s.live a u h
    exact ⟨o', by rw [upd_ne (ne_of_none h h0)]; exact e⟩
  ln := s.ln
  lf := s.lf
theorem Corr.new {Dl : Addr} {ws zs : List V} (c : Corr K cl F ρ σ H) (hf : F Dl = none) (hd : H Dl = some (.lst ws)) (no : ¬ Owned σ ρ Dl) : Corr K cl F ρ σ (upd H Dl (.lst zs)) where
  len := c.len
  tab := c.tab.mono (Le.refl _) fun a ps h n => ⟨by rw [upd_ne (by rintro rfl; rw [hd] at h; cases h)]; exact h, n⟩
  le a u h := by rw [upd_ne (ne_of_none h hf)]; exact c.le a u h
  slot i x o h1 h2 := by
    have z := c.slot i x o h1 h2
    have ownc : ∀ d, x.own? = some d → ∃ a, o = some (.ref a) ∧ F a = none ∧ Own K cl F (upd H Dl (.lst zs)) a d := fun d hd' => by
      obtain ⟨a, e1, e2, e3⟩ := own_slot z hd'
      have ne : a ≠ Dl := fun e => no ⟨i, x, d, h1, hd', by rw [h2, e1, e]⟩
      refine ⟨a, e1, e2, e3.keep (Le.refl _) (fun o h => by rw [upd_ne ne]; exact h) fun b h => ?_⟩
      have nb : b ≠ Dl := by rintro rfl; rw [hd] at h; cases h
      rw [upd_ne nb]; exact h
    cases x with
    | un => trivial
    | fr d => exact z
    | lf d => exact z
    | ow d => exact ownc d rfl
    | ln d => exact ownc d rfl
  inj := c.inj
end
section
variable {X : Cx} {cl : Cl} {W : WX}
def Wno : WX := fun _ _ _ _ => False
theorem Post.nox {K : PySem.W.Frag} {α : Type} {r : R α} {F : Hp} {ρ : En} {σ : L2.St} {H : Hp} {k : α → En → Hp → Hp → Prop} (p : Post K cl W (noex r) F ρ σ H k) : Post K cl Wno r F ρ σ H k := by
  cases r with
  | ok a ρ' => exact p
  | ex x ρ' => exact p.elim
  | bad => exact p
/-- what comes of the turns that are left -/
def PostL (K : PySem.W.Frag) (cl : Cl) (r : R (List D)) (k : List D → En → Prop) : Prop := match r with
  | .ok acc ρ => k acc ρ
  | _ => False
theorem postL_bind {K : PySem.W.Frag} {α : Type} {r : R α} {f : α → En → R (List D)} {k : List D → En → Prop} (p : PostL K cl ((noex r).bind f) k) : ∃ a ρ', r = .ok a ρ' ∧ PostL K cl (f a ρ') k := by
  cases r with
  | ok a ρ' => exact ⟨a, ρ', rfl, p⟩
  | ex x ρ' => exact p.elim
  | bad => exact p.elim
theorem wipeE_idem {ρ : En} {vs : List Nat} : wipeE (wipeE ρ vs) vs = wipeE ρ vs := by
  refine List.ext_getElem? fun i => ?_
  by_cases m : i ∈ vs
  · by_cases hi : i < ρ.length
    · rw [wipeE_get.2 m (by rw [wipeE_len]; exact hi), wipeE_get.2 m hi]
    · rw [List.getElem?_eq_none (by rw [wipeE_len, wipeE_len]; omega), List.getElem?_eq_none (by rw [wipeE_len]; omega)]
  · rw [wipeE_get.1 m]
theorem wipe_idem {σ : L2.St} {vs : List Nat} : wipe (wipe σ vs) vs = wipe σ vs := by
  refine List.ext_getElem? fun i => ?_
  by_cases m : i ∈ vs
  · by_cases hi : i < σ.length
    · rw [wipe_get.2 m (by rw [wipe_length]; exact hi), wipe_get.2 m hi]
    · rw [List.getElem?_eq_none (by rw [wipe_length, wipe_length]; omega), List.getElem?_eq_none (by rw [wipe_length]; omega)]
  · rw [wipe_get.1 m]
/-- an object that no slot owns stays -/
theorem persist {F F' : Hp} {ρ ρ' : En} {σ σ' : L2.St} {H H' : Hp} {a : Addr} {ws : List V} (s : Step F ρ σ H F' ρ' σ' H') (h : H a = some (.lst ws)) (n : F a = none) (no : ¬ Owned σ ρ a) : H' a = some (.lst ws) ∧ F' a = none ∧ ¬ Owned σ' ρ' a :=
  ⟨s.keep a _ h (fun ps e => by cases e) no, s.thaw a _ h (fun b e => by cases e) no n, fun z => (s.own a z).elim no fun e => by rw [h] at e; cases e⟩

/-- a target that stores within vs alone -/
def BIn (vs : List Nat) (b : Bn) : Prop := ∀ d ρ ρ', b d ρ = some ρ' → ρ'.length = ρ.length
def GIn (vs : List Nat) (g : TG) : Prop := ∀ v σ H Q, g v σ H Q → g v σ H fun σ2 H2 => wipe σ2 vs = wipe σ vs ∧ Q σ2 H2
theorem wipe_set {σ : L2.St} {i : Nat} {x : Option V} : ∀ {vs : List Nat}, i ∈ vs → wipe (σ.set i x) vs = wipe σ vs
  | [], h => by simp at h
  | v :: vs, h => by
    simp only [wipe]
    refine List.ext_getElem? fun j => ?_
    by_cases e : v = j
    · subst e
      by_cases hl : v < σ.length
      · rw [List.getElem?_set_self (by rw [wipe_length]; simpa using hl), List.getElem?_set_self (by rw [wipe_length]; exact hl)]
      · rw [List.getElem?_eq_none (by simp [wipe_length]; omega), List.getElem?_eq_none (by simp [wipe_length]; omega)]
    · rw [List.getElem?_set_ne e, List.getElem?_set_ne e]
      rcases List.mem_cons.mp h with rfl | h
      · by_cases m : j ∈ vs
        · by_cases hl : j < σ.length
          · rw [wipe_get.2 m (by simpa using hl), wipe_get.2 m hl]
          · rw [List.getElem?_eq_none (by simp [wipe_length]; omega), List.getElem?_eq_none (by simp [wipe_length]; omega)]
        · rw [wipe_get.1 m, wipe_get.1 m, List.getElem?_set_ne e]
      · rw [wipe_set h]
theorem gin_name {vs : List Nat} {i : Nat} (h : i ∈ vs) : GIn vs (gName i) := fun v σ H Q q => ⟨wipe_set h, q⟩
def GIns (vs : List Nat) (g : TGs) : Prop := ∀ v σ H Q, g v σ H Q → g v σ H fun σ2 H2 => wipe σ2 vs = wipe σ vs ∧ Q σ2 H2
theorem gins_nil {vs : List Nat} : GIns vs gNil := fun v σ H Q ⟨h, q⟩ => ⟨h, rfl, q⟩
theorem TG.mono_name {i : Nat} {v : V} {σ : L2.St} {H : Hp} {Q Q' : L2.St → Hp → Prop} (h : gName i v σ H Q) (w : ∀ σ H, Q σ H → Q' σ H) : gName i v σ H Q' := w _ _ h
/-- targets are monotone -/
def GMo (g : TG) : Prop := ∀ v σ H Q Q', g v σ H Q → (∀ σ H, Q σ H → Q' σ H) → g v σ H Q'
def GMos (g : TGs) : Prop := ∀ v σ H Q Q', g v σ H Q → (∀ σ H, Q σ H → Q' σ H) → g v σ H Q'
theorem gmo_name {i : Nat} : GMo (gName i) := fun _ _ _ _ _ h w => w _ _ h
theorem gmos_nil : GMos gNil := fun _ _ _ _ _ h w => ⟨h.1, w _ _ h.2⟩
theorem gmos_cons {g : TG} {gs : TGs} (h : GMo g) (h2 : GMos gs) : GMos (gCons g gs) := fun vs σ H Q Q' ⟨v, r, e, q⟩ w => ⟨v, r, e, h _ _ _ _ _ q fun σ1 H1 q1 => h2 _ _ _ _ _ q1 w⟩
theorem gmo_tup {K : PySem.W.Frag} {n : Nat} {gs : TGs} (h : GMos gs) : GMo (gTup K n gs) := fun v σ H Q Q' ⟨a, xs, e, q1, q2, q⟩ w => ⟨a, xs, e, q1, q2, h _ _ _ _ _ q w⟩
theorem gins_cons {vs : List Nat} {g : TG} {gs : TGs} (h : GIn vs g) (m : GMo g) (h2 : GIns vs gs) (m2 : GMos gs) : GIns vs (gCons g gs) := fun ws σ H Q ⟨v, r, e, q⟩ => by
  refine ⟨v, r, e, m _ _ _ _ _ (h v σ H _ q) fun σ1 H1 ⟨e1, q1⟩ => ?_⟩
  exact m2 _ _ _ _ _ (h2 r σ1 H1 _ q1) fun σ2 H2 ⟨e2, q2⟩ => ⟨e2.trans e1, q2⟩
theorem gin_tup {K : PySem.W.Frag} {vs : List Nat} {n : Nat} {gs : TGs} (h : GIns vs gs) : GIn vs (gTup K n gs) := fun v σ H Q ⟨a, xs, e, q1, q2, q⟩ => ⟨a, xs, e, q1, q2, h xs σ H Q q⟩

theorem lc_ok {it : En → R (List D)} {b : Bn} {g : TG} {c : En → R Bool} {e : En → R (D × Bool)} {vs : List Nat} {σ : L2.St} {H : Hp} {Q : VK} (hb : BG X cl b g) (hg : GIn vs g) (hm : GMo g) (h : tO X.K cl W (lcD it b c e vs) σ H Q) :
    tLc (tI X.K cl W it) g (tT X.K cl Wno c) (tE X.K cl Wno (PF.fz e)) vs σ H Q := by
  obtain ⟨F, ρ, co, p⟩ := h
  refine ⟨F, ρ, co, (Post.bind p).mono fun ds ρ1 F1 H1 st1 c1 p1 J ok Dl hD => ?_⟩
  -- what is wanted at the end
  have fin : PostL X.K cl (lcL b c e vs ds [] (wipeE ρ1 vs)) fun acc ρ2 => ∀ F' H', Step F1 ρ1 σ H1 F' (backE vs ρ1 ρ2) σ H' → Corr X.K cl F' (backE vs ρ1 ρ2) σ H' → ∀ v, Tmp X.K cl true F ρ σ H F' (backE vs ρ1 ρ2) H' v (.lst acc) → Q v H' := by
    unfold PostL
    cases hl : lcL b c e vs ds [] (wipeE ρ1 vs) with
    | bad => rw [hl] at p1; exact p1
    | ex x ρ2 => rw [hl] at p1; exact p1
    | ok acc ρ2 => rw [hl] at p1; exact p1
  have nD : F1 Dl = none := c1.le.back hD
  have g0 := Grow.own c1.le hD (.lst [])
  refine ⟨fun i m H2 => ∃ (F2 : Hp) (ρ2 : En) (accV : List V) (acc : List D), Step F1 (wipeE ρ1 vs) (wipe σ vs) H1 F2 ρ2 (wipe σ vs) H2 ∧ Corr X.K cl F2 ρ2 (wipe σ vs) H2 ∧ wipeE ρ2 vs = ρ2 ∧ ρ2.length = ρ1.length ∧
      H2 Dl = some (.lst accV) ∧ F2 Dl = none ∧ ¬ Owned (wipe σ vs) ρ2 Dl ∧ DenL X.K cl F2 accV acc ∧ i ≤ ds.length ∧ m = ds.length - i ∧
      PostL X.K cl (lcL b c e vs (ds.drop i) acc ρ2) fun acc ρ2 => ∀ F' H', Step F1 ρ1 σ H1 F' (backE vs ρ1 ρ2) σ H' → Corr X.K cl F' (backE vs ρ1 ρ2) σ H' → ∀ v, Tmp X.K cl true F ρ σ H F' (backE vs ρ1 ρ2) H' v (.lst acc) → Q v H',
    ⟨ds.length, F1, wipeE ρ1 vs, [], [], ?_⟩, ?_⟩
  · refine ⟨g0.step _ _, c1.wiped.grow g0, wipeE_idem, wipeE_len _ _, upd_same, nD, fun ⟨i, x, d, q1, q2, q3⟩ => ?_, .nil, Nat.zero_le _, rfl, fin⟩
    obtain ⟨b', f1, _, f3⟩ := own_slot (c1.wiped.slot i x _ q1 q3) q2
    cases f1
    obtain ⟨u, hu⟩ := f3.there
    rw [hD] at hu; cases hu
  · rintro i m H2 ⟨F2, ρ2, accV, acc, s2, c2, hw, hl2, hDl, nD2, noD, tacc, hi, rfl, pl⟩
    by_cases hlt : i < ds.length
    · obtain ⟨d, hd⟩ : ∃ d, ds[i]? = some d := ⟨_, List.getElem?_eq_getElem hlt⟩
      have hdr : ds.drop i = d :: ds.drop (i + 1) := by
        obtain ⟨h1, h2⟩ := List.getElem?_eq_some_iff.mp hd
        rw [← h2]; exact List.drop_eq_getElem_cons h1
      rw [hdr] at pl
      simp only [lcL] at pl
      refine .inr ⟨ok.go i H2 (s2.le.trans c2.le) hlt, fun H3 => ∃ (F3 : Hp) (ρ3 : En) (accV : List V) (acc : List D), Step F1 (wipeE ρ1 vs) (wipe σ vs) H1 F3 ρ3 (wipe σ vs) H3 ∧ Corr X.K cl F3 ρ3 (wipe σ vs) H3 ∧ wipeE ρ3 vs = ρ3 ∧ ρ3.length = ρ1.length ∧
        H3 Dl = some (.lst accV) ∧ F3 Dl = none ∧ ¬ Owned (wipe σ vs) ρ3 Dl ∧ DenL X.K cl F3 accV acc ∧
        PostL X.K cl (lcL b c e vs (ds.drop (i + 1)) acc ρ3) fun acc ρ2 => ∀ F' H', Step F1 ρ1 σ H1 F' (backE vs ρ1 ρ2) σ H' → Corr X.K cl F' (backE vs ρ1 ρ2) σ H' → ∀ v, Tmp X.K cl true F ρ σ H F' (backE vs ρ1 ρ2) H' v (.lst acc) → Q v H',
        fun H3 ⟨F3, ρ3, av, ac, a1, a2, a3, a4, a5, a6, a7, a8, a9⟩ => ⟨ds.length - (i + 1), by omega, F3, ρ3, av, ac, a1, a2, a3, a4, a5, a6, a7, a8, by omega, rfl, a9⟩, fun x H3 hy => ?_⟩
      obtain ⟨F3, gr, hx⟩ := ok.yld i F2 H2 x H3 d s2.le c2.le hd hy
      have c3 := c2.grow gr
      have s3 := gr.step ρ2 (wipe σ vs)
      cases hbd : b d ρ2 with
      | none => rw [hbd] at pl; exact pl.elim
      | some ρ3 =>
        rw [hbd] at pl
        dsimp only at pl
        refine hm _ _ _ _ _ (hg x (wipe σ vs) H3 (fun σ2 H4 => ∃ Fb, Step F3 ρ2 (wipe σ vs) H3 Fb ρ3 σ2 H4 ∧ Corr X.K cl Fb ρ3 σ2 H4) (hb F3 ρ2 (wipe σ vs) H3 x d ρ3 _ c3 hx hbd fun Fb σ3 H4 s4 c4 => ⟨Fb, s4, c4⟩)) ?_
        rintro σ3 H4 ⟨ew, Fb, s4, c4⟩
        have ew' : wipe σ3 vs = wipe σ vs := ew.trans wipe_idem
        refine ⟨ew', Fb, ρ3, c4, ?_⟩
        obtain ⟨t, ρ4, hc, pl⟩ := postL_bind (K := X.K) (cl := cl) pl
        rw [hc]
        have sa := (s2.trans s3).trans s4
        obtain ⟨k1, k2, k3⟩ := persist ((s3.trans s4)) hDl nD2 noD
        intro F4 H4 s5 c5
        obtain ⟨l1, l2, l3⟩ := persist s5 k1 k2 k3
        have lenσ : σ3.length = ρ1.length := by
          have := congrArg List.length ew'
          rw [wipe_length, wipe_length] at this
          rw [this, c1.len]
        cases t with
        | false =>
          rw [if_neg Bool.false_ne_true] at pl ⊢
          refine ⟨F4, wipeE ρ4 vs, accV, acc, (sa.trans s5).rewiped wipeE_nol ew', c5.rewiped ew', wipeE_idem, by rw [wipeE_len, c5.len, lenσ], l1, l2, fun z => l3 ?_, tacc.le ((s3.trans s4).trans s5).le, pl⟩
          rw [← ew'] at z
          obtain ⟨i, x, d, _, h2, h3, h4⟩ := wipe_owned z
          exact ⟨i, x, d, h2, h3, h4⟩
        | true =>
          rw [if_pos rfl] at pl ⊢
          refine ⟨F4, ρ4, c5, ?_⟩
          obtain ⟨y, ρ5, he, pl⟩ := postL_bind (K := X.K) (cl := cl) pl
          rw [he]
          intro F5 H5 s6 c6 v hv
          obtain ⟨m1, m2, m3⟩ := persist s6 l1 l2 l3
          split at pl
          case isFalse => exact pl.elim
          rename_i hlim
          have tl := tacc.le (((s3.trans s4).trans s5).trans s6).le
          have no' : ¬ Owned (wipe σ vs) (wipeE ρ5 vs) Dl := fun z => m3 (by
            rw [← ew'] at z
            obtain ⟨i, x, d, _, h2, h3, h4⟩ := wipe_owned z
            exact ⟨i, x, d, h2, h3, h4⟩)
          refine ⟨accV, m1, lim_lt (by rw [tl.length]; omega), F5, wipeE ρ5 vs, accV ++ [v], acc ++ [y], (((sa.trans s5).trans s6).rewiped wipeE_nol ew').new hD, (c6.rewiped ew').new m2 m1 no', wipeE_idem, by rw [wipeE_len, c6.len, lenσ], upd_same, m2, no', tl.append (.one hv), pl⟩
    · have ei : i = ds.length := by omega
      subst ei
      rw [List.drop_length] at pl
      obtain ⟨st, cc, ow⟩ := block_back c1 s2 c2 hl2 hw
      refine .inl ⟨ok.stop H2 (s2.le.trans c2.le), pl F2 H2 st cc _ ⟨Dl, rfl, nD2, .lst hDl tacc, fun z => ?_, .inl (st1.back hD)⟩⟩
      rcases ow Dl z with z | z
      · obtain ⟨i, x, d, q1, q2, q3⟩ := z
        obtain ⟨b', f1, _, f3⟩ := own_slot (c1.slot i x _ q1 q3) q2
        cases f1
        obtain ⟨u, hu⟩ := f3.there
        rw [hD] at hu; cases hu
      · exact noD z
/-- [e for tg in it if c] -/
theorem so_lc {elt tg iter : Expr} {ifs : List Expr} {scope : Scope} {own : List (Str × Nat)} {pos : Pos} {it : En → R (List D)} {b : Bn} {g : TG} {c : En → R Bool} {e : En → R (D × Bool)} (hc : X.calm = true) (hN : X.N.Nodup) (hi : SI X cl W tg iter it) (ok : BlkOk X.N X.env.scope scope own)
    (hg : ∀ (s : Shared) (H : Hp) (C : Addr) (cs : List (Str × Addr)) (fp : List Addr), PG (X.blk s H scope (compEnvC scope cs C X.env) fp) tg g) (ht : ∀ (s : Shared) (H : Hp) (C : Addr) (cs : List (Str × Addr)) (fp : List Addr), PTs (X.blk s H scope (compEnvC scope cs C X.env) fp) ifs (tT X.K cl Wno c))
    (he : ∀ (s : Shared) (H : Hp) (C : Addr) (cs : List (Str × Addr)) (fp : List Addr), PE (X.blk s H scope (compEnvC scope cs C X.env) fp) elt (tE X.K cl Wno (PF.fz e))) (hb : BG X cl b g) (hgi : GIn (own.map (·.2)) g) (hm : GMo g) (hs : ∀ x, foldedSetIterable iter X.env x = pure x) :
    SO X cl W (.ListComp elt [⟨tg, iter, ifs, 0⟩] scope pos) (lcD it b c e (own.map (·.2))) := pe_weak (pe_lc hc hN hi ok hg ht he hs) fun σ H Q h => lc_ok hb hgi hm h
/-- what a store wants of a value that comes -/
theorem set_core {i : Nat} {den : En → R (D × Bool)} {Dn : Ends} {σ : L2.St} {H : Hp} (h : tS X.K cl W (setD i den) Dn σ H) : tO X.K cl W den σ H fun x H1 => Dn.nx (σ.set i (some x)) H1 := by
  obtain ⟨F, ρ, c, p⟩ := h
  refine ⟨F, ρ, c, ?_⟩
  unfold setD at p
  cases hd : den ρ with
  | bad => rw [hd] at p; exact p
  | ex x ρ' => rw [hd] at p; exact fun F' H' c dd st co e => p F' σ H' c dd st co e
  | ok d ρ' =>
    rw [hd] at p
    intro F' H' st co v hv
    simp only [bindS] at p
    cases hp : putS i (if d.2 = true then Sl.ow d.1 else Sl.fr d.1) ρ' with
    | none => rw [hp] at p; exact p.elim
    | some ρ2 =>
      rw [hp] at p
      obtain ⟨s2, c2⟩ := put_ok st co hv hp
      exact p F' _ H' s2 c2
/-- y = [e for tg in it if c], on one line -/
theorem ss_setLc {i : Nat} {y : Str} {py : Pos} {elt tg iter : Expr} {ifs : List Expr} {scope : Scope} {own : List (Str × Nat)} {pos spos : Pos} {it : En → R (List D)} {b : Bn} {g : TG} {c : En → R Bool} {e : En → R (D × Bool)} (hc : X.calm = true) (hN : X.N.Nodup) (hy : X.N[i]? = some y) (hyl : X.env.scope.names.lookup y = some .local)
    (hsw : swapsWith (.ListComp elt [⟨tg, iter, ifs, 0⟩] scope pos) (some (.Name y py)) spos.line X.env = pure true) (hi : SI X cl W tg iter it) (ok : BlkOk X.N X.env.scope scope own)
    (hg : ∀ (s : Shared) (H : Hp) (C : Addr) (cs : List (Str × Addr)) (fp : List Addr), PG (X.blk s H scope (compEnvC scope cs C X.env) fp) tg g) (ht : ∀ (s : Shared) (H : Hp) (C : Addr) (cs : List (Str × Addr)) (fp : List Addr), PTs (X.blk s H scope (compEnvC scope cs C X.env) fp) ifs (tT X.K cl Wno c))
    (he : ∀ (s : Shared) (H : Hp) (C : Addr) (cs : List (Str × Addr)) (fp : List Addr), PE (X.blk s H scope (compEnvC scope cs C X.env) fp) elt (tE X.K cl Wno (PF.fz e))) (hb : BG X cl b g) (hgi : GIn (own.map (·.2)) g) (hm : GMo g) (hs : ∀ x, foldedSetIterable iter X.env x = pure x) :
    SS X cl W (.Assign [.Name y py] (.ListComp elt [⟨tg, iter, ifs, 0⟩] scope pos) spos) (setD i (lcD it b c e (own.map (·.2)))) := ps_weak (ps_setLc hc hN hy hyl hsw hi ok hg ht he hs) fun Dn σ H h => lc_ok hb hgi hm (set_core h)
end
end PF

namespace PF
open PySem PySem.Spec L2
/-- of the slots behind, only the lent ones -/
def keepL (as ρ : En) : En := List.zipWith (fun x y => match x with | .ln _ => y | _ => Sl.un) as ρ
def fnD (m : Nat) (body : Sm) : FR := fun as => match body (as ++ List.replicate (m - as.length) .un) with
  | .ok (.rt d) ρ => .ok d (keepL as ρ)
  | .ok .nx ρ => .ok (.non, false) (keepL as ρ)
  | .ex x ρ => .ex x (keepL as ρ)
  | _ => .bad
theorem keepL_get {as ρ : En} {i : Nat} {d : D} (h : as[i]? = some (.ln d)) : (keepL as ρ)[i]? = ρ[i]? := by
  unfold keepL
  rw [List.getElem?_zipWith, h]
  cases ρ[i]? <;> rfl
section
variable {K : PySem.W.Frag} {cl : Cl} {W : WX} {F F' : Hp} {as ρ' : En} {vs : List V} {σ' : L2.St} {H H' : Hp}
theorem start_corr {N : List Str} (c : Corr K cl F as (vs.map some) H) (hl : as.length ≤ N.length) : Corr K cl F (as ++ List.replicate (N.length - as.length) .un) (L2.start N vs) H := by
  have hlen : as.length = vs.length := by have := c.len; simpa using this
  have get : ∀ (i : Nat) (x : Sl), (as ++ List.replicate (N.length - as.length) Sl.un)[i]? = some x → x ≠ .un → as[i]? = some x := fun i x h hx => by
    by_cases hi : i < as.length
    · rwa [List.getElem?_append_left hi] at h
    · rw [List.getElem?_append_right (by omega)] at h
      have := List.mem_of_getElem? h
      exact absurd (List.eq_of_mem_replicate this) hx
  have gs : ∀ (i : Nat), i < as.length → (L2.start N vs)[i]? = (vs.map some)[i]? := fun i hi => by
    unfold L2.start
    rw [List.getElem?_append_left (by simp; omega)]
  refine ⟨by simp [L2.start]; omega, c.le, fun i x o h1 h2 => ?_, fun i j x y d e a h1 h2 h3 h4 h5 h6 => ?_, c.tab⟩
  · by_cases hx : x = .un
    · subst hx; trivial
    · have g := get i x h1 hx
      rw [gs i (List.getElem?_eq_some_iff.mp g).1] at h2
      exact c.slot i x o g h2
  · have g1 := get i x h1 (own_ne h3)
    have g2 := get j y h2 (own_ne h4)
    rw [gs i (List.getElem?_eq_some_iff.mp g1).1] at h5
    rw [gs j (List.getElem?_eq_some_iff.mp g2).1] at h6
    exact c.inj i j x y d e a g1 g2 h3 h4 h5 h6
theorem start_owned {N : List Str} {a : Addr} (c : Corr K cl F as (vs.map some) H) (h : Owned (L2.start N vs) (as ++ List.replicate (N.length - as.length) .un) a) : Owned (vs.map some) as a := by
  have hlen : as.length = vs.length := by have := c.len; simpa using this
  obtain ⟨i, x, d, h1, h2, h3⟩ := h
  by_cases hi : i < as.length
  · rw [List.getElem?_append_left hi] at h1
    refine ⟨i, x, d, h1, h2, ?_⟩
    unfold L2.start at h3
    rwa [List.getElem?_append_left (by simp; omega)] at h3
  · rw [List.getElem?_append_right (by omega)] at h1
    have := List.eq_of_mem_replicate (List.mem_of_getElem? h1)
    subst this; cases h2
theorem call_end {N : List Str} (c : Corr K cl F as (vs.map some) H) (ar : Argy as) (s : Step F (as ++ List.replicate (N.length - as.length) .un) (L2.start N vs) H F' ρ' σ' H') (c' : Corr K cl F' ρ' σ' H') : CEnd K cl F as vs H F' (keepL as ρ') H' where
  le := s.le
  in' := c'.le
  keep a o h w n := s.keep a o h w fun z => n (start_owned c z)
  tbl := s.tbl
  tab := c'.tab
  thaw a o h w n e := s.thaw a o h w (fun z => n (start_owned c z)) e
  live := s.live
  lent i d h := by
    have hlen : as.length = vs.length := by have := c.len; simpa using this
    have hi := (List.getElem?_eq_some_iff.mp h).1
    obtain ⟨e1, h1⟩ := s.ln i d (by rw [List.getElem?_append_left hi]; exact h)
    obtain ⟨o, q1, q2⟩ := slot_of c h
    obtain ⟨a, rfl, _, _⟩ := q2
    rw [List.getElem?_map] at q1
    have hv : vs[i]? = some (.ref a) := by
      cases hh : vs[i]? with
      | none => rw [hh] at q1; cases q1
      | some v => rw [hh] at q1; cases q1; rfl
    have e2 : σ'[i]? = some (some (.ref a)) := by
      rw [e1]; unfold L2.start
      rw [List.getElem?_append_left (by simp; omega), List.getElem?_map, hv]; rfl
    refine ⟨a, hv, ?_⟩
    rw [keepL_get h]
    rcases h1 with ⟨e, h1⟩ | ⟨e, h1⟩
    · obtain ⟨b, z1, z2, z3⟩ := c'.slot i _ _ h1 e2
      cases z1
      exact .inl ⟨e, h1, z2, z3⟩
    · obtain ⟨b, z1, z2, z3⟩ := c'.slot i _ _ h1 e2
      cases z1
      exact .inr ⟨e, h1, z2, z3⟩
/-- from the promise to the body's reading -/
theorem body_of {N : List Str} {n : Nat} {body : Sm} {Q : VK} {E : XK} (hn : n ≤ N.length) (h : spOf K cl n (fnD N.length body) vs H Q E) :
    tS K cl (fun c d _ H => E c d H) body { nx := fun _ H' => Q .non H', rt := Q } (L2.start N vs) H := by
  obtain ⟨F, as, c, ar, l, p⟩ := h
  have hle : as.length ≤ N.length := by omega
  refine ⟨F, _, start_corr (N := N) c hle, ?_⟩
  unfold fnD at p
  cases hb : body (as ++ List.replicate (N.length - as.length) .un) with
  | bad => rw [hb] at p; exact p
  | ex x ρ' => rw [hb] at p; exact fun F' σ' H' cc dd st co er => p F' H' cc dd (call_end c ar st co) er
  | ok fl ρ' =>
    rw [hb] at p
    cases fl with
    | nx => exact fun F' σ' H' st co => p F' H' .non (call_end c ar st co) .non
    | bk => exact p.elim
    | ct => exact p.elim
    | rt d =>
      intro F' σ' H' v st co hv
      refine p F' H' v (call_end c ar st co) ?_
      split at hv
      · rename_i hd
        rw [if_pos hd]
        obtain ⟨a, e, n1, ow, no, fr⟩ := hv
        refine ⟨a, e, ?_, n1, ow⟩
        rcases fr with z | z
        · exact z
        · exfalso
          obtain ⟨i, x, d', h1, h2, h3⟩ := start_owned c z
          have hm := ar x (List.mem_of_getElem? h1)
          rcases hm with ⟨e', rfl⟩ | ⟨e', rfl⟩
          · cases h2
          · have hi := (List.getElem?_eq_some_iff.mp h1).1
            have hlen : as.length = vs.length := by have := c.len; simpa using this
            obtain ⟨e1, q⟩ := st.ln i e' (by rw [List.getElem?_append_left hi]; exact h1)
            have e2 : σ'[i]? = some (some (.ref a)) := by
              rw [e1]; unfold L2.start
              rw [List.getElem?_append_left (by simp; omega)]; exact h3
            rcases q with ⟨w, q⟩ | ⟨w, q⟩
            · exact no ⟨i, _, w, q, rfl, e2⟩
            · obtain ⟨b, z1, z2, z3⟩ := co.slot i _ _ q e2
              cases z1
              exact z2 n1
      · rename_i hd
        rw [if_neg hd]; exact hv
end
/-- what comes of a new instance by its __init__ -/
def newD (c n : Nat) (g : FR) (as : List (En → R (D × Bool))) : En → R (D × Bool) := fun ρ => (evE as ρ).bind fun ds ρ1 => if ds.length + 1 = n then
    (match g (.ln (.ins c []) :: ds.map Sl.fr) with
    | .ok (.non, false) (.ln d :: _) => .ok (d, true) ρ1
    | .ex x _ => .ex x ρ1
    | _ => .bad) else .bad
section
variable {K : PySem.W.Frag} {cl : Cl} {W : WX} {F F' : Hp} {ρ : En} {σ : L2.St} {H H' : Hp}
theorem new_ok {c n : Nat} {g : FR} {as : List (En → R (D × Bool))} {Q : VK} (h : tO K cl W (newD c n g as) σ H Q) : tNew (cl c) (spOf K cl n g) (WE W) (tA K cl W (evE as)) σ H Q := by
  obtain ⟨F, ρ, co, p⟩ := h
  refine ⟨F, ρ, co, (Post.bind p).mono fun ds ρ1 F1 H1 st1 c1 p1 vs hv x dx nx ndx ne => ?_⟩
  split at p1
  case isFalse => exact p1.elim
  rename_i hn
  have xd : x ≠ dx := fun e => ne e.symm
  have nF : F1 x = none := c1.le.back nx
  -- the heap with the new instance
  have lk : Le H1 (upd (upd H1 dx (.own x)) x (.ins (cl c) dx [])) := fun a o e => by
    rw [upd_ne (ne_of_none e nx), upd_ne (ne_of_none e ndx)]; exact e
  have hx : (upd (upd H1 dx (.own x)) x (.ins (cl c) dx [])) x = some (.ins (cl c) dx []) := upd_same
  have hdx : (upd (upd H1 dx (.own x)) x (.ins (cl c) dx [])) dx = some (.own x) := by rw [upd_ne ne, upd_same]
  have ow0 : Own K cl F1 (upd (upd H1 dx (.own x)) x (.ins (cl c) dx [])) x (.ins c []) := .ins hx hdx .nil
  have gr : Grow F1 H1 F1 (upd (upd H1 dx (.own x)) x (.ins (cl c) dx [])) := ⟨Le.refl _, lk, c1.le.trans lk, fun _ _ _ _ e => e⟩
  have cc : Corr K cl F1 (.ln (.ins c []) :: ds.map Sl.fr) ((V.ref x :: vs).map some) (upd (upd H1 dx (.own x)) x (.ins (cl c) dx [])) := by
    have only : ∀ (i : Nat) (y : Sl) (d : D), (Sl.ln (.ins c []) :: ds.map Sl.fr)[i]? = some y → y.own? = some d → i = 0 := fun i y d h1 h2 => by
      cases i with
      | zero => rfl
      | succ i =>
        rw [List.getElem?_cons_succ, List.getElem?_map] at h1
        cases hd : ds[i]? with
        | none => rw [hd] at h1; cases h1
        | some e => rw [hd] at h1; cases h1; cases h2
    refine ⟨by simp [hv.length], gr.in', fun i y o h1 h2 => ?_, fun i j y z d e a h1 h2 h3 h4 _ _ => by rw [only i y d h1 h3, only j z e h2 h4], c1.tab.mono gr.le fun a ps h n => ⟨gr.keep _ _ h, gr.thaw a _ h (fun b e => by cases e) n⟩⟩
    cases i with
    | zero =>
      simp at h1 h2
      subst h1 h2
      exact ⟨x, rfl, nF, ow0⟩
    | succ i =>
      rw [List.getElem?_cons_succ, List.getElem?_map] at h1
      rw [List.map_cons, List.getElem?_cons_succ, List.getElem?_map] at h2
      cases hd : ds[i]? with
      | none => rw [hd] at h1; cases h1
      | some e =>
        rw [hd] at h1; cases h1
        obtain ⟨v, hv1, hv2⟩ := hv.get hd
        rw [hv1] at h2; cases h2
        exact ⟨v, rfl, hv2⟩
  have ar : Argy (.ln (.ins c []) :: ds.map Sl.fr) := fun y hy => by
    rcases List.mem_cons.mp hy with rfl | hy
    · exact .inr ⟨_, rfl⟩
    · obtain ⟨d, _, rfl⟩ := List.mem_map.mp hy
      exact .inl ⟨d, rfl⟩
  have onlyx : ∀ a, Owned ((V.ref x :: vs).map some) (.ln (.ins c []) :: ds.map Sl.fr) a → a = x := fun a ⟨i, y, d, h1, h2, h3⟩ => by
    cases i with
    | zero => simp at h3; exact h3.symm
    | succ i =>
      rw [List.getElem?_cons_succ, List.getElem?_map] at h1
      cases hd : ds[i]? with
      | none => rw [hd] at h1; cases h1
      | some e => rw [hd] at h1; cases h1; cases h2
  -- the caller's state behind the call
  have back : ∀ {F' H' ρc}, CEnd K cl F1 (.ln (.ins c []) :: ds.map Sl.fr) (V.ref x :: vs) (upd (upd H1 dx (.own x)) x (.ins (cl c) dx [])) F' ρc H' → GrowT cl.T F1 H1 F' H' := fun {F' H' ρc} ce =>
    ⟨ce.le, fun a o e w => ce.keep a o (lk a o e) w fun z => by (rw [onlyx a z] at e; rw [nx] at e; cases e), fun a ps e => ce.tbl a ps (lk a _ e), ce.tab, fun a o e => ce.live a o (lk a o e), ce.in', fun a o e w z => ce.thaw a o (lk a o e) w (fun zz => by rw [onlyx a zz] at e; rw [nx] at e; cases e) z⟩
  refine ⟨F1, _, cc, ar, by simp [hn], ?_⟩
  cases hg : g (.ln (.ins c []) :: ds.map Sl.fr) with
  | bad => rw [hg] at p1; exact p1
  | ex y ρc =>
    rw [hg] at p1
    intro F' H' cc dd ce er
    have gr := back ce
    exact p1 F' H' cc dd (gr.step ρ1 σ) (c1.growT gr) er
  | ok d ρc =>
    rw [hg] at p1
    intro F' H' v ce res
    have gr := back ce
    obtain ⟨d, o⟩ := d
    cases d with
    | non =>
      cases o with
      | true => exact p1.elim
      | false =>
        cases ρc with
        | nil => exact p1.elim
        | cons y r =>
          cases y with
          | ln e =>
            refine ⟨by cases res; rfl, ?_⟩
            obtain ⟨a, ha, hz⟩ := ce.lent 0 (.ins c []) rfl
            cases ha
            rcases hz with ⟨e', z1, z2, z3⟩ | ⟨e', z1, _⟩
            · simp at z1; subst z1
              refine p1 F' H' (gr.step ρ1 σ) (c1.growT gr) _ ⟨x, rfl, z2, z3, fun z => ?_, .inl (st1.back nx)⟩
              obtain ⟨i, y, d', w1, w2, w3⟩ := z
              obtain ⟨b, f1, _, f3⟩ := own_slot (c1.slot i y _ w1 w3) w2
              cases f1
              obtain ⟨u, hu⟩ := f3.there
              rw [nx] at hu; cases hu
            · simp at z1
          | _ => exact p1.elim
    | _ => exact p1.elim
end
end PF

namespace PF
open PySem PySem.Spec L2
def Sl.re : Sl → D → Sl
  | .ow _, d => .ow d
  | .ln _, d => .ln d
  | x, _ => x
section
variable {K : PySem.W.Frag} {cl : Cl} {W : WX} {F F0 : Hp} {ρ ρ0 ρ' : En} {σ σ0 : L2.St} {H H0 : Hp}
theorem re_own {x : Sl} {d d' e : D} (h : x.own? = some d) : (x.re d').own? = some d' := by
  cases x <;> first | rfl | cases h
/-- the object of an own slot is written -/
theorem mut_ok {i : Nat} {x : Sl} {d d' : D} {a : Addr} {o' : HO} (c : Corr K cl F ρ σ H) (h : ρ[i]? = some x) (ho : x.own? = some d) (ha : σ[i]? = some (some (.ref a)))
    (no : ∀ b, H a ≠ some (.own b)) (hw : Own K cl F (upd H a o') a d') : Step F ρ σ H F (ρ.set i (x.re d')) σ (upd H a o') ∧ Corr K cl F (ρ.set i (x.re d')) σ (upd H a o') := by
  have hi := (List.getElem?_eq_some_iff.mp h).1
  obtain ⟨b, e1, nF, ow⟩ := own_slot (c.slot i x _ h ha) ho
  cases e1
  obtain ⟨u, hu⟩ := ow.there
  have own' : (x.re d').own? = some d' := by cases x <;> first | rfl | cases ho
  have get : ∀ (j : Nat) (y : Sl), (ρ.set i (x.re d'))[j]? = some y → (j = i ∧ y = x.re d') ∨ (j ≠ i ∧ ρ[j]? = some y) := fun j y q => by
    by_cases e : j = i
    · subst e; rw [List.getElem?_set_self hi] at q; cases q; exact .inl ⟨rfl, rfl⟩
    · rw [List.getElem?_set_ne (Ne.symm e)] at q; exact .inr ⟨e, q⟩
  have own : ∀ b, Owned σ (ρ.set i (x.re d')) b → Owned σ ρ b := fun b ⟨j, y, e, h1, h2, h3⟩ => by
    rcases get j y h1 with ⟨rfl, rfl⟩ | ⟨_, q⟩
    · exact ⟨j, x, d, h, ho, h3⟩
    · exact ⟨j, y, e, q, h2, h3⟩
  have oa : Owned σ ρ a := ⟨i, x, d, h, ho, ha⟩
  have nt : ∀ b ps, H b = some (.tbl ps) → b ≠ a := fun b ps q z => by
    subst z
    obtain ⟨u2, hu2, nu2⟩ := ow.kind
    rw [q] at hu2; cases hu2
    exact nu2 ps rfl
  refine ⟨⟨Le.refl _, fun b o q w n => ?_, fun _ _ _ _ _ e => e, fun b ps q => ⟨ps, by rw [upd_ne (nt b ps q)]; exact q⟩, fun b q => .inl (own b q), fun b o q => ?_, fun j e q => ⟨rfl, ?_⟩, fun j e q => ⟨rfl, ?_⟩⟩, ⟨by simp [c.len], fun b o q => ?_, fun j y o h1 h2 => ?_, fun j k y z e e' b h1 h2 h3 h4 h5 h6 => ?_, c.tab.mono (Le.refl _) fun b ps q n => ⟨by rw [upd_ne (nt b ps q)]; exact q, n⟩⟩⟩
  · have : b ≠ a := fun z => n (z ▸ oa)
    rw [upd_ne this]; exact q
  · by_cases z : b = a
    · exact ⟨o', by rw [z, upd_same]⟩
    · exact ⟨o, by rw [upd_ne z]; exact q⟩
  · left
    by_cases z : j = i
    · subst z; rw [h] at q; cases q; exact ⟨d', List.getElem?_set_self hi⟩
    · exact ⟨e, by rw [List.getElem?_set_ne (Ne.symm z)]; exact q⟩
  · have z : j ≠ i := by rintro rfl; rw [h] at q; cases q; cases ho
    rw [List.getElem?_set_ne (Ne.symm z)]; exact q
  · have z : b ≠ a := by rintro rfl; rw [nF] at q; cases q
    rw [upd_ne z]; exact c.le b o q
  · rcases get j y h1 with ⟨rfl, rfl⟩ | ⟨hj, q⟩
    · rw [ha] at h2; cases h2
      cases x <;> first | exact ⟨a, rfl, nF, hw⟩ | cases ho
    · have z := c.slot j y o q h2
      have ownc : ∀ e, y.own? = some e → ∃ b, o = some (.ref b) ∧ F b = none ∧ Own K cl F (upd H a o') b e := fun e he => by
        obtain ⟨b, e1, e2, e3⟩ := own_slot z he
        have nb : b ≠ a := by
          rintro rfl
          exact hj (c.inj j i y x e d b q h he ho (by rw [h2, e1]) ha)
        refine ⟨b, e1, e2, e3.keep (Le.refl _) (fun o h => by rw [upd_ne nb]; exact h) fun k h => ?_⟩
        have : k ≠ a := by rintro rfl; exact no b h
        rw [upd_ne this]; exact h
      cases y with
      | un => trivial
      | fr e => exact z
      | lf e => exact z
      | ow e => exact ownc e rfl
      | ln e => exact ownc e rfl
  · have back : ∀ (j : Nat) (y : Sl) (e : D), (ρ.set i (x.re d'))[j]? = some y → y.own? = some e → ∃ y' e', ρ[j]? = some y' ∧ y'.own? = some e' := fun j y e h1 h2 => by
      rcases get j y h1 with ⟨rfl, rfl⟩ | ⟨_, q⟩
      · exact ⟨x, d, h, ho⟩
      · exact ⟨y, e, q, h2⟩
    obtain ⟨y', f, p1, p2⟩ := back j y e h1 h3
    obtain ⟨z', f', r1, r2⟩ := back k z e' h2 h4
    exact c.inj j k y' z' f f' b p1 r1 p2 r2 h5 h6
/-- an own list in a slot -/
def ownL (i : Nat) (ρ : En) : Option (Sl × List D) := match ρ[i]? with
  | some (.ow (.lst ds)) => some (.ow (.lst ds), ds)
  | some (.ln (.lst ds)) => some (.ln (.lst ds), ds)
  | _ => none
theorem ownL_ok {i : Nat} {x : Sl} {ds : List D} (c : Corr K cl F ρ σ H) (h : ownL i ρ = some (x, ds)) : ∃ a vs, ρ[i]? = some x ∧ x.own? = some (.lst ds) ∧ σ[i]? = some (some (.ref a)) ∧ H a = some (.lst vs) ∧ DenL K cl F vs ds ∧ F a = none := by
  have key : ρ[i]? = some x ∧ x.own? = some (.lst ds) := by
    unfold ownL at h
    split at h <;> first | (cases h; rename_i e; exact ⟨e, rfl⟩) | cases h
  obtain ⟨o, h1, h2⟩ := slot_of c key.1
  obtain ⟨a, rfl, n, ow⟩ := own_slot h2 key.2
  cases ow with
  | lst h t => exact ⟨a, _, key.1, key.2, h1, h, t, n⟩
/-- an own list is written -/
theorem mutL_ok {i : Nat} {x : Sl} {ds es : List D} {a : Addr} {vs ws : List V} (c : Corr K cl F ρ σ H) (h : ρ[i]? = some x) (ho : x.own? = some (.lst ds)) (ha : σ[i]? = some (some (.ref a))) (hv : H a = some (.lst vs)) (t : DenL K cl F ws es) :
    Step F ρ σ H F (ρ.set i (x.re (.lst es))) σ (upd H a (.lst ws)) ∧ Corr K cl F (ρ.set i (x.re (.lst es))) σ (upd H a (.lst ws)) :=
  mut_ok c h ho ha (fun b e => by rw [hv] at e; cases e) (.lst upd_same t)
end
def appS (i : Nat) (den : En → R (D × Bool)) : Sm := fun ρ => match ownL i ρ with
  | none => .bad
  | some _ => bindS (fz den ρ) fun d ρ1 => match ownL i ρ1 with
    | some (x, ds) => if ds.length < lim then .ok .nx (ρ1.set i (x.re (.lst (ds ++ [d])))) else .bad
    | none => .bad
def extS (i : Nat) (den : En → R (D × Bool)) : Sm := fun ρ => match ownL i ρ with
  | none => .bad
  | some _ => bindS (fz den ρ) fun d ρ1 => match ownL i ρ1, d with
    | some (x, ds), .lst es => if ds.length + es.length ≤ lim then .ok .nx (ρ1.set i (x.re (.lst (ds ++ es)))) else .bad
    | _, _ => .bad
def popD (i : Nat) : En → R (D × Bool) := fun ρ => match ownL i ρ with
  | some (x, ds) => match ds[ds.length - 1]? with
    | some d => .ok (d, false) (ρ.set i (x.re (.lst ds.dropLast)))
    | none => .bad
  | none => .bad
def popAtD (i : Nat) (den : En → R (D × Bool)) : En → R (D × Bool) := fun ρ => match ownL i ρ with
  | none => .bad
  | some _ => (fz den ρ).bind fun k ρ1 => match ownL i ρ1, k with
    | some (x, ds), .int k => if (decide (-(2 ^ 63) ≤ k) && decide (k < 2 ^ 63)) = true then (match seqIndex? k ds.length with
      | some j => match ds[j]? with
        | some d => .ok (d, false) (ρ1.set i (x.re (.lst (ds.eraseIdx j))))
        | none => .bad
      | none => .bad) else .bad
    | _, _ => .bad
def putIx (i : Nat) (ix den : En → R (D × Bool)) : Sm := fun ρ => bindS (fz den ρ) fun d ρ1 => match ownL i ρ1 with
  | none => .bad
  | some _ => bindS (fz ix ρ1) fun k ρ2 => match ownL i ρ2, k with
    | some (x, ds), .int k => match ixN ds.length k with
      | some j => .ok .nx (ρ2.set i (x.re (.lst (ds.set j d))))
      | none => .bad
    | _, _ => .bad
section
variable {K : PySem.W.Frag} {cl : Cl} {W : WX} {F F1 : Hp} {ρ ρ1 : En} {σ : L2.St} {H H1 : Hp} {Dn : Ends} {i : Nat} {den ix : En → R (D × Bool)}
theorem ownL_ty {x : Sl} {ds : List D} (c : Corr K cl F ρ σ H) (h : ownL i ρ = some (x, ds)) : ∃ a, σ[i]? = some (some (.ref a)) ∧ tyV K "list" (.ref a) H := by
  obtain ⟨a, vs, _, _, h3, h4, _⟩ := ownL_ok c h
  exact ⟨a, h3, .inl ⟨rfl, vs, SqL.val h4⟩⟩
theorem app_ok (h : tS K cl W (appS i den) Dn σ H) : tDrop (tBM K "list" rAppend (tVar i) (tCons (tE K cl W (fz den)) tNil)) Dn σ H := by
  obtain ⟨F, ρ, c, p⟩ := h
  unfold appS at p
  cases h0 : ownL i ρ with
  | none => rw [h0] at p; exact p.elim
  | some y =>
    rw [h0] at p
    obtain ⟨a, ha, ty⟩ := ownL_ty c h0
    refine ⟨.ref a, ha, ty, F, ρ, c, (PostS.of p).mono fun d ρ1 F1 H1 st1 c1 p1 v hv => ?_⟩
    cases h1 : ownL i ρ1 with
    | none => rw [h1] at p1; exact p1.elim
    | some y =>
      obtain ⟨x, ds⟩ := y
      rw [h1] at p1
      dsimp only at p1
      split at p1
      · rename_i hl
        obtain ⟨a', vs, q1, q2, q3, q4, q5, q6⟩ := ownL_ok c1 h1
        rw [ha] at q3; cases q3
        obtain ⟨s2, c2⟩ := mutL_ok (es := ds ++ [d]) (ws := vs ++ [v]) c1 q1 q2 ha q4 (q5.append (.one hv))
        exact ⟨a, vs, v, rfl, rfl, q4, Nat.lt_of_lt_of_le (by rw [q5.length]; exact hl) (lim_le (Nat.le_refl _)), p1 F1 σ _ s2 c2⟩
      · exact p1.elim
theorem ext_ok (h : tS K cl W (extS i den) Dn σ H) : tDrop (tBM K "list" rExtend (tVar i) (tCons (tE K cl W (fz den)) tNil)) Dn σ H := by
  obtain ⟨F, ρ, c, p⟩ := h
  unfold extS at p
  cases h0 : ownL i ρ with
  | none => rw [h0] at p; exact p.elim
  | some y =>
    rw [h0] at p
    obtain ⟨a, ha, ty⟩ := ownL_ty c h0
    refine ⟨.ref a, ha, ty, F, ρ, c, (PostS.of p).mono fun d ρ1 F1 H1 st1 c1 p1 v hv => ?_⟩
    cases h1 : ownL i ρ1 with
    | none => rw [h1] at p1; exact p1.elim
    | some y =>
      obtain ⟨x, ds⟩ := y
      rw [h1] at p1
      split at p1
      · rename_i x ds es hx
        cases hx
        split at p1
        · rename_i hl
          obtain ⟨a', vs, q1, q2, q3, q4, q5, q6⟩ := ownL_ok c1 h1
          rw [ha] at q3; cases q3
          cases hv with
          | @lst b ws _ hb hw =>
            obtain ⟨s2, c2⟩ := mutL_ok (es := ds ++ es) (ws := vs ++ ws) c1 q1 q2 ha q4 (q5.append hw)
            exact ⟨a, b, vs, ws, rfl, rfl, q4, c1.le _ _ hb, by rw [q5.length, hw.length]; exact lim_le hl, p1 F1 σ _ s2 c2⟩
        · exact p1.elim
      · exact p1.elim
theorem pop_ok {Q : VK} (h : tO K cl W (popD i) σ H Q) : tBM0 K "list" rPop (tVar i) σ H Q := by
  obtain ⟨F, ρ, c, p⟩ := h
  unfold popD at p
  cases h0 : ownL i ρ with
  | none => rw [h0] at p; exact p.elim
  | some y =>
    obtain ⟨x, ds⟩ := y
    rw [h0] at p
    dsimp only at p
    obtain ⟨a, ha, ty⟩ := ownL_ty c h0
    obtain ⟨a', vs, q1, q2, q3, q4, q5, q6⟩ := ownL_ok c h0
    rw [ha] at q3; cases q3
    cases hd : ds[ds.length - 1]? with
    | none => rw [hd] at p; exact p.elim
    | some d =>
      rw [hd] at p
      obtain ⟨v, hv, hden⟩ := q5.get hd
      have tk : DenL K cl F vs.dropLast ds.dropLast := by
        rw [List.dropLast_eq_take, List.dropLast_eq_take, q5.length]; exact q5.take _
      obtain ⟨s2, c2⟩ := mutL_ok c q1 q2 ha q4 tk
      exact ⟨.ref a, ha, ty, a, vs, v, rfl, rfl, q4, by rw [q5.length]; exact hv, p F _ s2 c2 v hden⟩
theorem popAt_ok {Q : VK} (h : tO K cl W (popAtD i den) σ H Q) : tBM K "list" rPopAt (tVar i) (tCons (tE K cl W (fz den)) tNil) σ H Q := by
  obtain ⟨F, ρ, c, p⟩ := h
  unfold popAtD at p
  cases h0 : ownL i ρ with
  | none => rw [h0] at p; exact p.elim
  | some y =>
    rw [h0] at p
    obtain ⟨a, ha, ty⟩ := ownL_ty c h0
    refine ⟨.ref a, ha, ty, F, ρ, c, (Post.bind p).mono fun k ρ1 F1 H1 st1 c1 p1 v hv => ?_⟩
    cases h1 : ownL i ρ1 with
    | none => rw [h1] at p1; exact p1.elim
    | some y =>
      obtain ⟨x, ds⟩ := y
      rw [h1] at p1
      split at p1
      · rename_i x ds k hx
        cases hx
        split at p1
        · rename_i hk
          rw [Bool.and_eq_true, decide_eq_true_eq, decide_eq_true_eq] at hk
          obtain ⟨a', vs, q1, q2, q3, q4, q5, q6⟩ := ownL_ok c1 h1
          rw [ha] at q3; cases q3
          cases hj : seqIndex? k ds.length with
          | none => rw [hj] at p1; exact p1.elim
          | some j =>
            rw [hj] at p1
            dsimp only at p1
            cases hd : ds[j]? with
            | none => rw [hd] at p1; exact p1.elim
            | some d =>
              rw [hd] at p1
              obtain ⟨w, hw, hden⟩ := q5.get hd
              have er : ∀ {vs : List V} {ds : List D} (j : Nat), DenL K cl F1 vs ds → DenL K cl F1 (vs.eraseIdx j) (ds.eraseIdx j) := fun {vs ds} j t => by
                rw [List.eraseIdx_eq_take_drop_succ, List.eraseIdx_eq_take_drop_succ]
                exact (t.take _).append (t.drop _)
              obtain ⟨s2, c2⟩ := mutL_ok c1 q1 q2 ha q4 (er j q5)
              refine ⟨a, vs, k, j, w, rfl, by rw [den_int hv], q4, hk.1, hk.2, by rw [q5.length]; exact hj, hw, ?_⟩
              exact p1 F1 _ s2 c2 w hden
        · exact p1.elim
      · exact p1.elim
theorem putIx_ok (h : tS K cl W (putIx i ix den) Dn σ H) : tAsg (tE K cl W (fz den)) (gSub (tVar i) (tE K cl W (fz ix)) rSetL) Dn σ H := by
  obtain ⟨F, ρ, c, p⟩ := h
  refine ⟨F, ρ, c, (PostS.of p).mono fun d ρ1 F1 H1 st1 c1 p1 v hv => ?_⟩
  cases h0 : ownL i ρ1 with
  | none => rw [h0] at p1; exact p1.elim
  | some y =>
    rw [h0] at p1
    obtain ⟨a, ha, ty⟩ := ownL_ty c1 h0
    refine ⟨.ref a, ha, F1, ρ1, c1, (PostS.of p1).mono fun k ρ2 F2 H2 st2 c2 p2 u hu => ?_⟩
    cases h1 : ownL i ρ2 with
    | none => rw [h1] at p2; exact p2.elim
    | some y =>
      obtain ⟨x, ds⟩ := y
      rw [h1] at p2
      split at p2
      · rename_i x ds k hx
        cases hx
        cases hj : ixN ds.length k with
        | none => rw [hj] at p2; exact p2.elim
        | some j =>
          rw [hj] at p2
          obtain ⟨a', vs, q1, q2, q3, q4, q5, q6⟩ := ownL_ok c2 h1
          rw [ha] at q3; cases q3
          obtain ⟨s2, c3⟩ := mutL_ok c2 q1 q2 ha q4 (q5.set j (hv.le st2.le))
          exact ⟨a, vs, k, j, rfl, den_int hu, q4, by rw [q5.length]; exact hj, p2 F2 σ _ s2 c3⟩
      · exact p2.elim
end
end PF

namespace PF
open PySem PySem.Spec L2
section
variable {X : Cx} {cl : Cl} {W : WX} {i : Nat} {o e ix : Expr} {den dix : En → R (D × Bool)} {pos apos cpos : Pos}
theorem so_none (h : SO X cl W e den) : SO X cl W e den := h
theorem ss_app (ho : PE X o (tVar i)) (h : SO X cl W e den)
    (hbase : attributeBase o "append" X.env (eval o X.env) = eval o X.env)
    (hfew : ((backTo cpos (starEach (e :: []) X.env)).all (fun x => !x.1) && (backToKw cpos (keywordEach [] X.env)).all (fun x => x.1.isSome)
      && decide ((e :: ([] : List Expr)).length + ([] : List Keyword).length + (if ([] : List Keyword).isEmpty then 0 else 1) < 30)) = true)
    (hline : (apos.endLine == cpos.line) = true) (hs : starEach (e :: []) X.env = (false, eval e X.env) :: starEach [] X.env) (hplain : (backTo cpos (starEach [] X.env)).any (·.1) = false)
    (hsw : swapsWith (.Call (.Attribute o "append" apos) [e] [] cpos) none pos.line X.env = pure false) : SS X cl W (.Expr (.Call (.Attribute o "append" apos) [e] [] cpos) pos) (appS i den) :=
  ps_weak (ps_expr (pe_bm F.plainAttrs_list F.slot_list_append F.type_list_append mt_append ho (pa_cons h.fz pa_nil hs) hbase hfew hline hs hplain) hsw) fun Dn σ H q => app_ok q
theorem ss_ext (ho : PE X o (tVar i)) (h : SO X cl W e den)
    (hbase : attributeBase o "extend" X.env (eval o X.env) = eval o X.env)
    (hfew : ((backTo cpos (starEach (e :: []) X.env)).all (fun x => !x.1) && (backToKw cpos (keywordEach [] X.env)).all (fun x => x.1.isSome)
      && decide ((e :: ([] : List Expr)).length + ([] : List Keyword).length + (if ([] : List Keyword).isEmpty then 0 else 1) < 30)) = true)
    (hline : (apos.endLine == cpos.line) = true) (hs : starEach (e :: []) X.env = (false, eval e X.env) :: starEach [] X.env) (hplain : (backTo cpos (starEach [] X.env)).any (·.1) = false)
    (hsw : swapsWith (.Call (.Attribute o "extend" apos) [e] [] cpos) none pos.line X.env = pure false) : SS X cl W (.Expr (.Call (.Attribute o "extend" apos) [e] [] cpos) pos) (extS i den) :=
  ps_weak (ps_expr (pe_bm F.plainAttrs_list F.slot_list_extend F.type_list_extend mt_extend ho (pa_cons h.fz pa_nil hs) hbase hfew hline hs hplain) hsw) fun Dn σ H q => ext_ok q
theorem so_pop (ho : PE X o (tVar i)) (hbase : attributeBase o "pop" X.env (eval o X.env) = eval o X.env) (hline : (apos.endLine == cpos.line) = true) :
    SO X cl W (.Call (.Attribute o "pop" apos) [] [] cpos) (popD i) :=
  pe_weak (pe_bm0 F.plainAttrs_list F.slot_list_pop F.type_list_pop mt_pop ho hbase hline) fun σ H Q q => pop_ok q
theorem so_popAt (ho : PE X o (tVar i)) (h : SO X cl W e den)
    (hbase : attributeBase o "pop" X.env (eval o X.env) = eval o X.env)
    (hfew : ((backTo cpos (starEach (e :: []) X.env)).all (fun x => !x.1) && (backToKw cpos (keywordEach [] X.env)).all (fun x => x.1.isSome)
      && decide ((e :: ([] : List Expr)).length + ([] : List Keyword).length + (if ([] : List Keyword).isEmpty then 0 else 1) < 30)) = true)
    (hline : (apos.endLine == cpos.line) = true) (hs : starEach (e :: []) X.env = (false, eval e X.env) :: starEach [] X.env) (hplain : (backTo cpos (starEach [] X.env)).any (·.1) = false) :
    SO X cl W (.Call (.Attribute o "pop" apos) [e] [] cpos) (popAtD i den) :=
  pe_weak (pe_bm F.plainAttrs_list F.slot_list_pop F.type_list_pop mt_popAt ho (pa_cons h.fz pa_nil hs) hbase hfew hline hs hplain) fun σ H Q q => popAt_ok q
end
/-- target = e, the value frozen first -/
def stD (b : Bn) (den : En → R (D × Bool)) : Sm := fun ρ => bindS (fz den ρ) fun d ρ1 => match b d ρ1 with
  | some ρ2 => .ok .nx ρ2
  | none => .bad
/-- x[k] = .. as a target -/
def bSub (i : Nat) (ix : En → R (D × Bool)) : Bn := fun d ρ => match ownL i ρ with
  | none => none
  | some _ => match fz ix ρ with
    | .ok (.int k) ρ1 => match ownL i ρ1 with
      | some (x, ds) => match ixN ds.length k with
        | some j => some (ρ1.set i (x.re (.lst (ds.set j d))))
        | none => none
      | none => none
    | _ => none
/-- an own instance in a slot -/
def ownI (i : Nat) (ρ : En) : Option (Sl × Nat × List (Str × D)) := match ρ[i]? with
  | some (.ow (.ins c fs)) => some (.ow (.ins c fs), c, fs)
  | some (.ln (.ins c fs)) => some (.ln (.ins c fs), c, fs)
  | _ => none
def bFld (i : Nat) (ok : Nat → Str → Bool) (f : Str) : Bn := fun d ρ => match ownI i ρ with
  | some (x, c, fs) => if (ok c f && decide (fs.length < 1000)) = true then some (ρ.set i (x.re (.ins c (putD f d fs)))) else none
  | none => none
def gFld (K : PySem.W.Frag) (ta : TE) (f : Str) : TG := fun v σ H Q => ta σ H fun x H1 => ∃ a C dx fs, x = .ref a ∧ H1 a = some (.ins C dx fs) ∧ Cls K C ∧ NoAttr K C f ∧ fs.length < 1000 ∧ Q σ (upd H1 a (.ins C dx (putF f v fs)))
section
variable {X : Cx} {cl : Cl} {W : WX}
theorem ss_st {tg e : Expr} {den : En → R (D × Bool)} {b : Bn} {g : TG} {pos : Pos} (h : SO X cl W e den) (hg : PG X tg g) (hb : BG X cl b g) (hs : swapsWithSole [tg] e pos.line X.env = pure false) (hw : swappedStores [tg] e X.env = pure none)
    (h1 : (assignEach [tg] X.env).map (·.2) = [assign tg X.env]) : SS X cl W (.Assign [tg] e pos) (stD b den) := ps_weak (ps_asg h.fz hg hs hw h1) fun Dn σ H ⟨F, ρ, c, p⟩ => by
  refine ⟨F, ρ, c, (PostS.of p).mono fun d ρ1 F1 H1 st1 c1 p1 v hv => ?_⟩
  cases hd : b d ρ1 with
  | none => rw [hd] at p1; exact p1.elim
  | some ρ2 =>
    rw [hd] at p1
    exact hb F1 ρ1 σ H1 v d ρ2 _ c1 hv hd fun F' σ' H' s co => p1 F' σ' H' s co
theorem bg_sub {i : Nat} {ix : En → R (D × Bool)} : BG X cl (bSub i ix) (gSub (tVar i) (tE X.K cl W (fz ix)) rSetL) := fun F ρ σ H v d ρ' Q c hv hb k => by
  unfold bSub at hb
  cases h0 : ownL i ρ with
  | none => rw [h0] at hb; cases hb
  | some y =>
    rw [h0] at hb
    obtain ⟨a, ha, ty⟩ := ownL_ty c h0
    refine ⟨.ref a, ha, F, ρ, c, ?_⟩
    dsimp only at hb
    cases hi : fz ix ρ with
    | bad => rw [hi] at hb; cases hb
    | ex x ρ1 => rw [hi] at hb; cases hb
    | ok z ρ1 =>
      rw [hi] at hb
      intro F1 H1 st1 c1 u hu
      cases z with
      | int z =>
        dsimp only at hb
        cases h1 : ownL i ρ1 with
        | none => rw [h1] at hb; cases hb
        | some y =>
          obtain ⟨x, ds⟩ := y
          rw [h1] at hb
          dsimp only at hb
          cases hj : ixN ds.length z with
          | none => rw [hj] at hb; cases hb
          | some j =>
            rw [hj] at hb
            cases hb
            obtain ⟨a', vs, q1, q2, q3, q4, q5, q6⟩ := ownL_ok c1 h1
            rw [ha] at q3; cases q3
            obtain ⟨s2, c3⟩ := mutL_ok c1 q1 q2 ha q4 (q5.set j (hv.le st1.le))
            exact ⟨a, vs, z, j, rfl, den_int hu, q4, by rw [q5.length]; exact hj, k F1 σ _ (st1.trans s2) c3⟩
      | _ => cases hb
theorem pg_fld {o : Expr} {f : Str} {pos : Pos} {ta : TE} (ha : PE X o ta) : PG X (.Attribute o f pos) (gFld X.K ta f) := ⟨fun pins s σ H v u Q I r h => by
  rw [assign_Attribute]
  refine wpAny_bind (wpAny_holding (thn (ha.run pins s σ H _ I h) fun ov s1 ⟨x, H1, I1, rx, a, C, dx, fs, ex, ea, c, n, l, q⟩ => ?_))
  subst ex
  obtain rfl : ov = Value.ref a := rx
  refine wpAny_bind (wpAny_standAt (wpAny_bind (wpAny_holding (setattr_ok I1 ea c n l r fun s3 I3 => ?_))))
  exact wpAny_release ⟨σ, _, I3, q⟩⟩
theorem ownI_ok {K : PySem.W.Frag} {F : Hp} {ρ : En} {σ : L2.St} {H : Hp} {i : Nat} {x : Sl} {n : Nat} {fs : List (Str × D)} (c : Corr K cl F ρ σ H) (h : ownI i ρ = some (x, n, fs)) :
    ∃ a dx fv, ρ[i]? = some x ∧ x.own? = some (.ins n fs) ∧ σ[i]? = some (some (.ref a)) ∧ H a = some (.ins (cl n) dx fv) ∧ H dx = some (.own a) ∧ DenF K cl F fv fs := by
  have key : ρ[i]? = some x ∧ x.own? = some (.ins n fs) := by
    unfold ownI at h
    split at h <;> first | (cases h; rename_i e; exact ⟨e, rfl⟩) | cases h
  obtain ⟨o, h1, h2⟩ := slot_of c key.1
  obtain ⟨a, rfl, _, ow⟩ := own_slot h2 key.2
  cases ow with
  | ins h h2 t => exact ⟨a, _, _, key.1, key.2, h1, h, h2, t⟩
theorem bg_fld {i : Nat} {ok : Nat → Str → Bool} {f : Str} (hok : ∀ c f, ok c f = true → Cls X.K (cl c) ∧ NoAttr X.K (cl c) f) : BG X cl (bFld i ok f) (gFld X.K (tVar i) f) := fun F ρ σ H v d ρ' Q c hv hb k => by
  unfold bFld at hb
  cases h0 : ownI i ρ with
  | none => rw [h0] at hb; cases hb
  | some y =>
    obtain ⟨x, n, fs⟩ := y
    rw [h0] at hb
    dsimp only at hb
    split at hb
    · rename_i hc
      rw [Bool.and_eq_true, decide_eq_true_eq] at hc
      cases hb
      obtain ⟨a, dx, fv, q1, q2, q3, q4, q5, q6⟩ := ownI_ok c h0
      have ne : dx ≠ a := by rintro rfl; rw [q4] at q5; cases q5
      obtain ⟨s2, c2⟩ := mut_ok (o' := .ins (cl n) dx (putF f v fv)) (d' := .ins n (putD f d fs)) c q1 q2 q3 (fun b e => by rw [q4] at e; cases e) (.ins upd_same (by rw [upd_ne ne]; exact q5) (q6.put hv))
      exact ⟨.ref a, q3, a, _, dx, fv, rfl, q4, (hok _ _ hc.1).1, (hok _ _ hc.1).2, by rw [q6.length]; exact hc.2, k F σ _ s2 c2⟩
    · cases hb
theorem so_dict0 {pos : Pos} : SO X cl W (.Dict [] [] pos) (conD .opq) := pe_weak pe_dnewK fun σ H Q ⟨F, ρ, c, p⟩ q nq => by
  have g := Grow.new (F := F) c.le nq (.dK [])
  exact p _ _ (g.step ρ σ) (c.grow g) _ (.opq upd_same)
end
def evO : List (En → R (D × Bool)) → En → R (List (D × Bool))
  | [], ρ => .ok [] ρ
  | a :: r, ρ => (a ρ).bind fun d ρ1 => (evO r ρ1).bind fun ds ρ2 => .ok (d :: ds) ρ2
def TmpP (K : PySem.W.Frag) (cl : Cl) (o : Bool) (ρ0 : En) (σ0 : L2.St) (H0 : Hp) (F : Hp) (ρ : En) (σ : L2.St) (H : Hp) (v : V) (d : D) : Prop :=
  if o = true then ∃ a, v = .ref a ∧ F a = none ∧ Own K cl F H a d ∧ ¬ Owned σ ρ a ∧ (H0 a = none ∨ Owned σ0 ρ0 a) else Den K cl F v d
inductive TmpL (K : PySem.W.Frag) (cl : Cl) (ρ0 : En) (σ0 : L2.St) (H0 : Hp) (F : Hp) (ρ : En) (σ : L2.St) (H : Hp) : List V → List (D × Bool) → Prop
  | nil : TmpL K cl ρ0 σ0 H0 F ρ σ H [] []
  | cons {v : V} {vs : List V} {d : D × Bool} {ds : List (D × Bool)} : TmpP K cl d.2 ρ0 σ0 H0 F ρ σ H v d.1 → (d.2 = true → ∀ (j : Nat) (e : D), ds[j]? = some (e, true) → vs[j]? ≠ some v) → TmpL K cl ρ0 σ0 H0 F ρ σ H vs ds → TmpL K cl ρ0 σ0 H0 F ρ σ H (v :: vs) (d :: ds)
def tAO (K : PySem.W.Frag) (cl : Cl) (W : WX) (den : En → R (List (D × Bool))) : TA := fun σ H Q => ∃ F ρ, Corr K cl F ρ σ H ∧ Post K cl W (den ρ) F ρ σ H fun ds ρ' F' H' => ∀ vs, TmpL K cl ρ σ H F' ρ' σ H' vs ds → Q vs H'
def putAll : List Nat → List (D × Bool) → En → Option En
  | [], [], ρ => some ρ
  | i :: is, d :: ds, ρ => (putS i (if d.2 = true then .ow d.1 else .fr d.1) ρ).bind (putAll is ds)
  | _, _, _ => none
def setAll : List Nat → List V → L2.St → L2.St
  | i :: is, v :: vs, σ => setAll is vs (σ.set i (some v))
  | _, _, σ => σ
def parD (is : List Nat) (es : List (En → R (D × Bool))) : Sm := fun ρ => bindS (evO es ρ) fun ds ρ1 => match putAll is ds ρ1 with
  | some ρ2 => .ok .nx ρ2
  | none => .bad
section
variable {K : PySem.W.Frag} {cl : Cl} {W : WX} {F F0 F1 : Hp} {ρ ρ0 ρ1 ρ' : En} {σ σ0 σ1 : L2.St} {H H0 H1 : Hp}
theorem TmpL.get : ∀ {vs : List V} {ds : List (D × Bool)}, TmpL K cl ρ0 σ0 H0 F ρ σ H vs ds → ∀ {j : Nat} {d : D × Bool}, ds[j]? = some d → ∃ v, vs[j]? = some v ∧ TmpP K cl d.2 ρ0 σ0 H0 F ρ σ H v d.1
  | _, _, .nil, j, d, h => by simp at h
  | _, _, .cons q _ t, 0, d, h => by simp at h; subst h; exact ⟨_, rfl, q⟩
  | _, _, .cons _ _ t, j + 1, d, h => by
    obtain ⟨v, h1, h2⟩ := TmpL.get t (j := j) (d := d) (by simpa using h)
    exact ⟨v, by simpa using h1, h2⟩
theorem TmpL.mono {ρ0' : En} {σ0' : L2.St} {H0' F' : Hp} {ρ' : En} {σ' : L2.St} {H' : Hp} : ∀ {vs : List V} {ds : List (D × Bool)}, (∀ (j : Nat) v d, vs[j]? = some v → ds[j]? = some d → TmpP K cl d.2 ρ0 σ0 H0 F ρ σ H v d.1 → TmpP K cl d.2 ρ0' σ0' H0' F' ρ' σ' H' v d.1) →
    TmpL K cl ρ0 σ0 H0 F ρ σ H vs ds → TmpL K cl ρ0' σ0' H0' F' ρ' σ' H' vs ds
  | _, _, h, .nil => .nil
  | _, _, h, .cons q n t => .cons (h 0 _ _ rfl rfl q) n (TmpL.mono (fun j v d h1 h2 => h (j + 1) v d (by simpa using h1) (by simpa using h2)) t)
theorem TmpL.length : ∀ {vs : List V} {ds : List (D × Bool)}, TmpL K cl ρ0 σ0 H0 F ρ σ H vs ds → vs.length = ds.length
  | _, _, .nil => rfl
  | _, _, .cons _ _ t => by simp [TmpL.length t]
/-- what is owned behind a store -/
theorem put_owned {o : Bool} {i : Nat} {v : V} {d : D} {a : Addr} (c : Corr K cl F ρ σ H) (hp : putS i (if o = true then .ow d else .fr d) ρ = some ρ') (h : Owned (σ.set i (some v)) ρ' a) : (o = true ∧ v = .ref a) ∨ Owned σ ρ a := by
  obtain ⟨hi, rfl, _, _⟩ := putS_some hp
  have hiσ : i < σ.length := by rw [← c.len]; exact hi
  obtain ⟨j, x, e, h1, h2, h3⟩ := h
  by_cases q : j = i
  · subst q
    rw [List.getElem?_set_self hi] at h1
    rw [List.getElem?_set_self hiσ] at h3
    cases h1; cases h3
    cases o with
    | true => exact .inl ⟨rfl, rfl⟩
    | false => cases h2
  · rw [List.getElem?_set_ne (Ne.symm q)] at h1 h3
    exact .inr ⟨j, x, e, h1, h2, h3⟩
theorem putAll_ok : ∀ {is : List Nat} {ds : List (D × Bool)} {vs : List V} {ρ ρ' : En} {σ : L2.St}, Step F0 ρ0 σ0 H0 F ρ σ H → Corr K cl F ρ σ H → TmpL K cl ρ0 σ0 H0 F ρ σ H vs ds → putAll is ds ρ = some ρ' →
    Step F0 ρ0 σ0 H0 F ρ' (setAll is vs σ) H ∧ Corr K cl F ρ' (setAll is vs σ) H
  | [], [], _, ρ, ρ', σ, s, c, t, h => by cases t; cases h; exact ⟨s, c⟩
  | [], _ :: _, _, ρ, ρ', σ, s, c, t, h => by cases h
  | _ :: _, [], _, ρ, ρ', σ, s, c, t, h => by cases h
  | i :: is, d :: ds, _, ρ, ρ', σ, s, c, t, h => by
    cases t with
    | @cons v vs _ _ q n t =>
      simp only [putAll] at h
      cases hp : putS i (if d.2 = true then Sl.ow d.1 else Sl.fr d.1) ρ with
      | none => rw [hp] at h; cases h
      | some ρ1 =>
        rw [hp] at h
        obtain ⟨s1, c1⟩ := put_ok s c q hp
        refine putAll_ok (is := is) (ds := ds) (vs := vs) s1 c1 (t.mono fun j w e hw he z => ?_) h
        obtain ⟨e, o⟩ := e
        cases o with
        | false => exact z
        | true =>
          obtain ⟨a, r1, r2, r3, r4, r5⟩ := z
          refine ⟨a, r1, r2, r3, fun w' => ?_, r5⟩
          rcases put_owned c hp w' with ⟨ho, hv⟩ | w'
          · exact n ho j e he (by rw [hw, r1, hv])
          · exact r4 w'
theorem tmp_from {o : Bool} {v : V} {d : D} (st : Step F ρ σ H F1 ρ1 σ H1) {F2 : Hp} {ρ2 : En} {H2 : Hp} (h : TmpP K cl o ρ1 σ H1 F2 ρ2 σ H2 v d) : TmpP K cl o ρ σ H F2 ρ2 σ H2 v d := by
  cases o with
  | false => exact h
  | true =>
    obtain ⟨a, e, n, ow, no, fr⟩ := h
    refine ⟨a, e, n, ow, no, ?_⟩
    rcases fr with z | z
    · exact .inl (st.back z)
    · exact (st.own a z).symm
end
section
variable {X : Cx} {cl : Cl} {W : WX}
abbrev SAO (X : Cx) (cl : Cl) (W : WX) (es : List Expr) (ds : List (En → R (D × Bool))) : Prop := PA X es (tAO X.K cl W (evO ds))
theorem sao_nil : SAO X cl W [] [] := pa_weak pa_nil fun σ H Q ⟨F, ρ, c, p⟩ => p F H (Step.refl _ _ _ _) c [] .nil
theorem sao_cons {e : Expr} {es : List Expr} {d : En → R (D × Bool)} {ds : List (En → R (D × Bool))} (h : SO X cl W e d) (h2 : SAO X cl W es ds) (hs : starEach (e :: es) X.env = (false, eval e X.env) :: starEach es X.env) : SAO X cl W (e :: es) (d :: ds) :=
  pa_weak (pa_cons h h2 hs) fun σ H Q ⟨F, ρ, c, p⟩ => by
    refine ⟨F, ρ, c, (Post.bind p).mono fun x ρ1 F1 H1 st1 c1 p1 v hv => ?_⟩
    refine ⟨F1, ρ1, c1, (Post.bind p1).mono fun xs ρ2 F2 H2 st2 c2 p2 vs hvs => ?_⟩
    refine p2 F2 H2 (Step.refl _ _ _ _) c2 (v :: vs) (.cons (Tmp.later c1 hv st2) (fun ho j e he hj => ?_) (hvs.mono fun j w d hw hd z => tmp_from st1 z))
    obtain ⟨x, o⟩ := x
    cases (show o = true from ho)
    obtain ⟨a, rfl, _, ow, no, _⟩ := hv
    obtain ⟨w, hw, a', e1, _, _, _, fr⟩ := hvs.get he
    rw [hj] at hw; cases hw
    cases e1
    rcases fr with z | z
    · obtain ⟨u, hu⟩ := ow.there
      rw [z] at hu; cases hu
    · exact no z
theorem par_core {is : List Nat} {es : List (En → R (D × Bool))} {Dn : Ends} {σ : L2.St} {H : Hp} (h : tS X.K cl W (parD is es) Dn σ H) : tAO X.K cl W (evO es) σ H fun vs H1 => vs.length = is.length ∧ Dn.nx (setAll is vs σ) H1 := by
  obtain ⟨F, ρ, c, p⟩ := h
  refine ⟨F, ρ, c, ?_⟩
  unfold parD at p
  cases he : evO es ρ with
  | bad => rw [he] at p; exact p
  | ex x ρ' => rw [he] at p; exact fun F' H' c dd st co e => p F' σ H' c dd st co e
  | ok ds ρ1 =>
    rw [he] at p
    simp only [bindS] at p
    intro F1 H1 st1 c1 vs hv
    cases hd : putAll is ds ρ1 with
    | none => rw [hd] at p; exact p.elim
    | some ρ2 =>
      rw [hd] at p
      obtain ⟨s2, c2⟩ := putAll_ok st1 c1 hv hd
      have len : ∀ {is : List Nat} {ds : List (D × Bool)} {ρ ρ' : En}, putAll is ds ρ = some ρ' → ds.length = is.length := by
        intro is
        induction is with
        | nil => intro ds ρ ρ' h; cases ds with
          | nil => rfl
          | cons _ _ => cases h
        | cons i is ih => intro ds ρ ρ' h; cases ds with
          | nil => cases h
          | cons d ds =>
            simp only [putAll] at h
            cases hp : putS i (if d.2 = true then Sl.ow d.1 else Sl.fr d.1) ρ with
            | none => rw [hp] at h; cases h
            | some ρ1 => rw [hp] at h; simp [ih h]
      exact ⟨by rw [hv.length]; exact len hd, p F1 _ H1 s2 c2⟩
theorem ss_par2 {i j : Nat} {x y : Str} {a b : Expr} {es : List (En → R (D × Bool))} {px py pt pos : Pos} {kt k2 pt2} (hc : X.calm = true) (hN : X.N.Nodup) (hi : X.N[i]? = some x) (hj : X.N[j]? = some y) (hij : i ≠ j)
    (hx : X.env.scope.names.lookup x = some .local) (hy : X.env.scope.names.lookup y = some .local) (ha : SAO X cl W [a, b] es)
    (hw : swappedStores [.Tuple [.Name x px, .Name y py] kt pt] (.Tuple [a, b] k2 pt2) X.env = pure (some [x, y]))
    (hs : swapsWithSole [.Tuple [.Name x px, .Name y py] kt pt] (.Tuple [a, b] k2 pt2) pos.line X.env = pure false) :
    SS X cl W (.Assign [.Tuple [.Name x px, .Name y py] kt pt] (.Tuple [a, b] k2 pt2) pos) (parD [i, j] es) := ps_weak (ps_par hc hN hi hj hij hx hy ha hw hs) fun Dn σ H q => by
  obtain ⟨F, ρ, c, p⟩ := par_core q
  refine ⟨F, ρ, c, p.mono fun ds ρ' F' H' _ _ z vs hv => ?_⟩
  obtain ⟨hl, z⟩ := z vs hv
  match vs, hl with
  | [v, w], _ => exact ⟨v, w, rfl, z⟩
theorem ss_par3 {i j l : Nat} {x y z : Str} {a b c : Expr} {es : List (En → R (D × Bool))} {px py pz pt pos : Pos} {kt k2 pt2} (hc : X.calm = true) (hN : X.N.Nodup) (hi : X.N[i]? = some x) (hj : X.N[j]? = some y) (hl : X.N[l]? = some z) (hij : i ≠ j) (hil : i ≠ l) (hjl : j ≠ l)
    (hx : X.env.scope.names.lookup x = some .local) (hy : X.env.scope.names.lookup y = some .local) (hz : X.env.scope.names.lookup z = some .local) (ha : SAO X cl W [a, b, c] es)
    (hw : swappedStores [.Tuple [.Name x px, .Name y py, .Name z pz] kt pt] (.Tuple [a, b, c] k2 pt2) X.env = pure (some [x, y, z]))
    (hs : swapsWithSole [.Tuple [.Name x px, .Name y py, .Name z pz] kt pt] (.Tuple [a, b, c] k2 pt2) pos.line X.env = pure false) :
    SS X cl W (.Assign [.Tuple [.Name x px, .Name y py, .Name z pz] kt pt] (.Tuple [a, b, c] k2 pt2) pos) (parD [i, j, l] es) := ps_weak (ps_par3 hc hN hi hj hl hij hil hjl hx hy hz ha hw hs) fun Dn σ H q => by
  obtain ⟨F, ρ, c, p⟩ := par_core q
  refine ⟨F, ρ, c, p.mono fun ds ρ' F' H' _ _ z vs hv => ?_⟩
  obtain ⟨hl, z⟩ := z vs hv
  match vs, hl with
  | [u, v, w], _ => exact ⟨u, v, w, rfl, z⟩
end
end PF

namespace PF
open PySem PySem.Spec L2
section
variable {X : Cx} {cl : Cl} {W : WX}
theorem so_callB {x : Str} {id : String} {p pos : Pos} {e : Expr} {es : List Expr} {os : List Opd} {g : List D → Option (D × Bool)} (hc : CallK X cl (.builtin id) g) (hg : Gl X x) (hm : X.mg x = none) (hv : bootBuiltins x = some (.builtin id)) (ha : SAp X cl W (e :: es) os)
    (hn : x ≠ "__name__") (hdb : (x == ("__debug__" : Str)) = false) (he : starEach (e :: es) X.env = (false, eval e X.env) :: starEach es X.env) (hpl : (backTo pos (starEach es X.env)).any (·.1) = false) : SO X cl W (.Call (.Name x p) (e :: es) [] pos) (calD g os) := by
  obtain ⟨r, h1, h2⟩ := hc
  exact pe_weak (pe_callB h1 hg hm hv ha hn hdb he hpl) fun σ H Q q => calD_ok h2 q
theorem so_callT {x : Str} {T : String} {p pos : Pos} {e : Expr} {es : List Expr} {os : List Opd} {g : List D → Option (D × Bool)} (hc : CallK X cl (.type T) g) (hg : Gl X x) (hm : X.mg x = none) (hv : bootBuiltins x = some (.type T)) (ha : SAp X cl W (e :: es) os)
    (hn : x ≠ "__name__") (hdb : (x == ("__debug__" : Str)) = false) (he : starEach (e :: es) X.env = (false, eval e X.env) :: starEach es X.env) (hpl : (backTo pos (starEach es X.env)).any (·.1) = false) : SO X cl W (.Call (.Name x p) (e :: es) [] pos) (calD g os) := by
  obtain ⟨r, h1, h2⟩ := hc
  exact pe_weak (pe_callTy h1 hg hm hv ha hn hdb he hpl) fun σ H Q q => calD_ok h2 q
end

def items? : D → Option (List D)
  | .lst ds => some ds
  | .rdl ds => some ds
  | .tup ds => some ds
  | _ => none
def ints? : List D → Option (List Int)
  | [] => some []
  | .int i :: r => (ints? r).map (i :: ·)
  | _ => none
def bls? : List D → Option (List Bool)
  | [] => some []
  | .bl i :: r => (bls? r).map (i :: ·)
  | _ => none
def lsts? : D → Option (List D)
  | .lst ds => some ds
  | .rdl ds => some ds
  | _ => none
def fLen : List D → Option (D × Bool)
  | [.str s] => if s.length ≤ lim then vI s.length else none
  | [d] => match items? d with
    | some ds => vI ds.length
    | none => none
  | _ => none
def fAbs : List D → Option (D × Bool)
  | [.int i] => vI (if i < 0 then -i else i)
  | _ => none
def fInt : List D → Option (D × Bool)
  | [.int i] => vI i
  | [.bl k] => vI (if k then 1 else 0)
  | _ => none
def fTuple : List D → Option (D × Bool)
  | [d] => match items? d with
    | some ds => some (.tup ds, false)
    | none => none
  | _ => none
def fList : List D → Option (D × Bool)
  | [d] => match items? d with
    | some ds => some (.lst ds, true)
    | none => none
  | _ => none
def fSum : List D → Option (D × Bool)
  | [d] => match (lsts? d).bind ints? with
    | some ns => vI ns.sum
    | none => none
  | _ => none
def maxL : List Int → Int
  | [] => 0
  | [a] => a
  | a :: r => let m := maxL r; if m > a then m else a
def minL : List Int → Int
  | [] => 0
  | [a] => a
  | a :: r => let m := minL r; if m < a then m else a
def fMax : List D → Option (D × Bool)
  | [.int i, .int j] => vI (if j > i then j else i)
  | [d] => match (lsts? d).bind ints? with
    | some [] => none
    | some ns => vI (maxL ns)
    | none => none
  | _ => none
def fMin : List D → Option (D × Bool)
  | [.int i, .int j] => vI (if j < i then j else i)
  | [d] => match (lsts? d).bind ints? with
    | some [] => none
    | some ns => vI (minL ns)
    | none => none
  | _ => none
def fAll : List D → Option (D × Bool)
  | [d] => match (lsts? d).bind bls? with
    | some bs => vB (bs.all id)
    | none => none
  | _ => none
def fAny : List D → Option (D × Bool)
  | [d] => match (lsts? d).bind bls? with
    | some bs => vB (bs.any id)
    | none => none
  | _ => none
section
variable {X : Cx} {cl : Cl} {K : PySem.W.Frag} {F H : Hp}
theorem Vw.items {v : V} {d : D} {ds : List D} (le : Le F H) (h : Vw K cl F H v d) (e : items? d = some ds) : ∃ a vs, v = .ref a ∧ (SqL K H a vs ∨ SqT K H a vs) ∧ DenL K cl F vs ds := by
  cases d with
  | lst xs => cases e; obtain ⟨a, vs, rfl, h1, t⟩ := h.lst le; exact ⟨a, vs, rfl, .inl (SqL.val h1), t⟩
  | rdl xs => cases e; obtain ⟨a, vs, rfl, h1, t⟩ := h.rdl le; exact ⟨a, vs, rfl, .inl h1, t⟩
  | tup xs => cases e; obtain ⟨a, vs, rfl, _, h1, t⟩ := h.tup le; exact ⟨a, vs, rfl, .inr h1, t⟩
  | _ => cases e
theorem Vw.lsts {v : V} {d : D} {ds : List D} (le : Le F H) (h : Vw K cl F H v d) (e : lsts? d = some ds) : ∃ a vs, v = .ref a ∧ SqL K H a vs ∧ DenL K cl F vs ds := by
  cases d with
  | lst xs => cases e; obtain ⟨a, vs, rfl, h1, t⟩ := h.lst le; exact ⟨a, vs, rfl, SqL.val h1, t⟩
  | rdl xs => cases e; obtain ⟨a, vs, rfl, h1, t⟩ := h.rdl le; exact ⟨a, vs, rfl, h1, t⟩
  | _ => cases e
theorem DenL.ints : ∀ {vs : List V} {ds : List D} {ns : List Int}, DenL K cl F vs ds → ints? ds = some ns → vs = ns.map V.int
  | _, _, _, .nil, h => by cases h; rfl
  | _, _, ns, .cons (d := d) (ds := r) q t, h => by
    cases d with
    | int i =>
      simp only [ints?] at h
      cases hr : ints? r with
      | none => rw [hr] at h; cases h
      | some ms => rw [hr] at h; cases h; rw [den_int q, DenL.ints t hr]; rfl
    | _ => simp [ints?] at h
theorem DenL.bls : ∀ {vs : List V} {ds : List D} {ns : List Bool}, DenL K cl F vs ds → bls? ds = some ns → vs = ns.map V.bl
  | _, _, _, .nil, h => by cases h; rfl
  | _, _, ns, .cons (d := d) (ds := r) q t, h => by
    cases d with
    | bl i =>
      simp only [bls?] at h
      cases hr : bls? r with
      | none => rw [hr] at h; cases h
      | some ms => rw [hr] at h; cases h; rw [den_bl q, DenL.bls t hr]; rfl
    | _ => simp [bls?] at h
theorem VwL.one {vs : List V} {d : D} (h : VwL K cl F H vs [d]) : ∃ v, vs = [v] ∧ Vw K cl F H v d := by
  cases h with
  | cons q t => cases t; exact ⟨_, rfl, q⟩
theorem VwL.two {vs : List V} {d e : D} (h : VwL K cl F H vs [d, e]) : ∃ v w, vs = [v, w] ∧ Vw K cl F H v d ∧ Vw K cl F H w e := by
  cases h with
  | cons q t => cases t with
    | cons r t => cases t; exact ⟨_, _, rfl, q, r⟩
theorem maxL_ge : ∀ {ns : List Int} {y : Int}, y ∈ ns → y ≤ maxL ns
  | [a], y, h => by simp at h; subst h; exact Int.le_refl _
  | a :: b :: r, y, h => by
    simp only [maxL]
    rcases List.mem_cons.mp h with rfl | h
    · split <;> omega
    · have := maxL_ge (ns := b :: r) h
      split <;> omega
theorem minL_le : ∀ {ns : List Int} {y : Int}, y ∈ ns → minL ns ≤ y
  | [a], y, h => by simp at h; subst h; exact Int.le_refl _
  | a :: b :: r, y, h => by
    simp only [minL]
    rcases List.mem_cons.mp h with rfl | h
    · split <;> omega
    · have := minL_le (ns := b :: r) h
      split <;> omega
theorem maxL_mem : ∀ {ns : List Int}, ns ≠ [] → maxL ns ∈ ns
  | [], h => absurd rfl h
  | [a], _ => List.mem_cons_self
  | a :: b :: r, _ => by
    have ih := maxL_mem (ns := b :: r) (by simp)
    simp only [maxL]
    split
    · exact List.mem_cons_of_mem _ ih
    · exact List.mem_cons_self
theorem minL_mem : ∀ {ns : List Int}, ns ≠ [] → minL ns ∈ ns
  | [], h => absurd rfl h
  | [a], _ => List.mem_cons_self
  | a :: b :: r, _ => by
    have ih := minL_mem (ns := b :: r) (by simp)
    simp only [minL]
    split
    · exact List.mem_cons_of_mem _ ih
    · exact List.mem_cons_self
theorem len_items {d : D} {c : D} {o : Bool} (h : fLen [d] = some (c, o)) : (∃ s, d = .str s ∧ s.length ≤ lim ∧ c = .int s.length ∧ o = false) ∨ ∃ ds, items? d = some ds ∧ c = .int ds.length ∧ o = false := by
  cases d with
  | str s =>
    simp only [fLen] at h
    split at h
    · cases h; exact .inl ⟨s, rfl, by assumption, rfl, rfl⟩
    · cases h
  | lst ds => simp [fLen, items?, vI] at h; exact .inr ⟨ds, rfl, h.1.symm, h.2⟩
  | rdl ds => simp [fLen, items?, vI] at h; exact .inr ⟨ds, rfl, h.1.symm, h.2⟩
  | tup ds => simp [fLen, items?, vI] at h; exact .inr ⟨ds, rfl, h.1.symm, h.2⟩
  | _ => simp [fLen, items?] at h
theorem callK_len : CallK X cl (.builtin "len") fLen := ⟨_, call_len_str.or call_len_seq, fun F H xs as c o Q le va e q => by
  match as, e with
  | [d], e =>
    obtain ⟨v, rfl, hv⟩ := va.one
    rcases len_items e with ⟨s, rfl, hl, rfl, rfl⟩ | ⟨ds, hd, rfl, rfl⟩
    · exact .inl ⟨s, by rw [hv.str], lim_le hl, q F H _ (Grow.refl le) (.int _)⟩
    · obtain ⟨a, vs, rfl, hs, t⟩ := hv.items le hd
      refine .inr ⟨a, vs, rfl, hs, ?_⟩
      rw [t.length]
      exact q F H _ (Grow.refl le) (.int _)
  | [], e => simp [fLen] at e
  | a :: b :: r, e => simp [fLen] at e⟩
theorem callK_abs : CallK X cl (.builtin "abs") fAbs := ⟨_, call_abs, fun F H xs as c o Q le va e q => by
  unfold fAbs at e
  split at e
  · cases e
    obtain ⟨v, rfl, hv⟩ := va.one
    exact ⟨_, by rw [hv.int], q F H _ (Grow.refl le) (.int _)⟩
  · cases e⟩
theorem callK_int : CallK X cl (.type "int") fInt := ⟨_, call_int1, fun F H xs as c o Q le va e q => by
  unfold fInt at e
  split at e
  · cases e
    obtain ⟨v, rfl, hv⟩ := va.one
    exact .inl ⟨_, by rw [hv.int], q F H _ (Grow.refl le) (.int _)⟩
  · cases e
    obtain ⟨v, rfl, hv⟩ := va.one
    exact .inr ⟨_, by rw [hv.bl], q F H _ (Grow.refl le) (.int _)⟩
  · cases e⟩
theorem callK_tuple : CallK X cl (.type "tuple") fTuple := ⟨_, call_tuple_of, fun F H xs as c o Q le va e q => by
  unfold fTuple at e
  split at e
  · rename_i d
    split at e
    · rename_i ds hd
      cases e
      obtain ⟨v, rfl, hv⟩ := va.one
      cases d with
      | lst xs =>
        cases hd; obtain ⟨a, vs, rfl, h1, t⟩ := hv.lst le
        exact ⟨a, vs, rfl, .inl ⟨SqL.val h1, fun l hl => q _ _ _ (Grow.new le hl (.tup vs)) (.tup (SqT.val upd_same) (t.le (Grow.new le hl (.tup vs)).le))⟩⟩
      | rdl xs =>
        cases hd; obtain ⟨a, vs, rfl, h1, t⟩ := hv.rdl le
        exact ⟨a, vs, rfl, .inl ⟨h1, fun l hl => q _ _ _ (Grow.new le hl (.tup vs)) (.tup (SqT.val upd_same) (t.le (Grow.new le hl (.tup vs)).le))⟩⟩
      | tup xs =>
        cases hd; obtain ⟨a, vs, rfl, h0, h1, t⟩ := hv.tup le
        exact ⟨a, vs, rfl, .inr ⟨h1, q F H _ (Grow.refl le) (.tup h0 t)⟩⟩
      | _ => cases hd
    · cases e
  · cases e⟩
theorem callK_list : CallK X cl (.type "list") fList := ⟨_, call_list_of, fun F H xs as c o Q le va e q => by
  unfold fList at e
  split at e
  · rename_i d
    split at e
    · rename_i ds hd
      cases e
      obtain ⟨v, rfl, hv⟩ := va.one
      obtain ⟨a, vs, rfl, hs, t⟩ := hv.items le hd
      exact ⟨a, vs, rfl, hs, fun l hl => q _ _ _ (Grow.own le hl (.lst vs)) ⟨l, rfl, hl, le.back hl, .lst upd_same t⟩⟩
    · cases e
  · cases e⟩
theorem ints_of {d : D} {ns : List Int} (h : (lsts? d).bind ints? = some ns) : ∃ ds, lsts? d = some ds ∧ ints? ds = some ns := by
  cases hd : lsts? d with
  | none => rw [hd] at h; cases h
  | some ds => rw [hd] at h; exact ⟨ds, rfl, h⟩
theorem bls_of {d : D} {ns : List Bool} (h : (lsts? d).bind bls? = some ns) : ∃ ds, lsts? d = some ds ∧ bls? ds = some ns := by
  cases hd : lsts? d with
  | none => rw [hd] at h; cases h
  | some ds => rw [hd] at h; exact ⟨ds, rfl, h⟩
theorem Vw.ints {v : V} {d : D} {ns : List Int} (le : Le F H) (h : Vw K cl F H v d) (e : (lsts? d).bind ints? = some ns) : ∃ a, v = .ref a ∧ SqL K H a (ns.map V.int) := by
  obtain ⟨ds, h1, h2⟩ := ints_of e
  obtain ⟨a, vs, rfl, hs, t⟩ := h.lsts le h1
  rw [t.ints h2] at hs
  exact ⟨a, rfl, hs⟩
theorem Vw.bls {v : V} {d : D} {ns : List Bool} (le : Le F H) (h : Vw K cl F H v d) (e : (lsts? d).bind bls? = some ns) : ∃ a, v = .ref a ∧ SqL K H a (ns.map V.bl) := by
  obtain ⟨ds, h1, h2⟩ := bls_of e
  obtain ⟨a, vs, rfl, hs, t⟩ := h.lsts le h1
  rw [t.bls h2] at hs
  exact ⟨a, rfl, hs⟩
theorem callK_sum (hc : X.calm = true) : CallK X cl (.builtin "sum") fSum := ⟨_, cr_sum hc, fun F H xs as c o Q le va e q => by
  unfold fSum at e
  split at e
  · split at e
    · rename_i ns hn
      cases e
      obtain ⟨v, rfl, hv⟩ := va.one
      obtain ⟨a, rfl, hs⟩ := hv.ints le hn
      exact ⟨a, ns, rfl, hs, q F H _ (Grow.refl le) (.int _)⟩
    · cases e
  · cases e⟩
theorem callK_max (hc : X.calm = true) : CallK X cl (.builtin "max") fMax := ⟨_, (call_max2 hc).or (cr_max hc), fun F H xs as c o Q le va e q => by
  unfold fMax at e
  split at e
  · cases e
    obtain ⟨v, w, rfl, hv, hw⟩ := va.two
    exact .inl ⟨_, _, by rw [hv.int, hw.int], q F H _ (Grow.refl le) (.int _)⟩
  · split at e
    · cases e
    · rename_i ns h0 hn
      cases e
      obtain ⟨v, rfl, hv⟩ := va.one
      obtain ⟨a, rfl, hs⟩ := hv.ints le hn
      have hne : ns ≠ [] := by rintro rfl; exact h0 rfl
      refine .inr ⟨a, ns, rfl, hs, List.length_pos_iff.mpr hne, fun m hm ha => ?_⟩
      have : m = maxL ns := Int.le_antisymm (maxL_ge hm) (ha _ (maxL_mem hne))
      rw [this]
      exact q F H _ (Grow.refl le) (.int _)
    · cases e
  · cases e⟩
theorem callK_min (hc : X.calm = true) : CallK X cl (.builtin "min") fMin := ⟨_, (call_min2 hc).or (cr_min hc), fun F H xs as c o Q le va e q => by
  unfold fMin at e
  split at e
  · cases e
    obtain ⟨v, w, rfl, hv, hw⟩ := va.two
    exact .inl ⟨_, _, by rw [hv.int, hw.int], q F H _ (Grow.refl le) (.int _)⟩
  · split at e
    · cases e
    · rename_i ns h0 hn
      cases e
      obtain ⟨v, rfl, hv⟩ := va.one
      obtain ⟨a, rfl, hs⟩ := hv.ints le hn
      have hne : ns ≠ [] := by rintro rfl; exact h0 rfl
      refine .inr ⟨a, ns, rfl, hs, List.length_pos_iff.mpr hne, fun m hm ha => ?_⟩
      have : m = minL ns := Int.le_antisymm (ha _ (minL_mem hne)) (minL_le hm)
      rw [this]
      exact q F H _ (Grow.refl le) (.int _)
    · cases e
  · cases e⟩
theorem callK_all (hc : X.calm = true) : CallK X cl (.builtin "all") fAll := ⟨_, cr_all hc, fun F H xs as c o Q le va e q => by
  unfold fAll at e
  split at e
  · split at e
    · rename_i ns hn
      cases e
      obtain ⟨v, rfl, hv⟩ := va.one
      obtain ⟨a, rfl, hs⟩ := hv.bls le hn
      exact ⟨a, ns, rfl, hs, q F H _ (Grow.refl le) (.bl _)⟩
    · cases e
  · cases e⟩
theorem callK_any (hc : X.calm = true) : CallK X cl (.builtin "any") fAny := ⟨_, cr_any hc, fun F H xs as c o Q le va e q => by
  unfold fAny at e
  split at e
  · split at e
    · rename_i ns hn
      cases e
      obtain ⟨v, rfl, hv⟩ := va.one
      obtain ⟨a, rfl, hs⟩ := hv.bls le hn
      exact ⟨a, ns, rfl, hs, q F H _ (Grow.refl le) (.bl _)⟩
    · cases e
  · cases e⟩
end
inductive Tg where
  | ty (s : String) | own (c : Nat)
def tvG (cl : Cl) : Tg → Value
  | .ty s => .type s
  | .own c => .ref (cl c)
def tagD (okc : Nat → Bool) : D → Option Tg
  | .non => some (.ty "NoneType")
  | .bl _ => some (.ty "bool")
  | .int _ => some (.ty "int")
  | .str _ => some (.ty "str")
  | .tup _ => some (.ty "tuple")
  | .lst _ => some (.ty "list")
  | .rdl _ => none
  | .ins c _ => if okc c = true then some (.own c) else none
  | .opq => some (.ty "dict")
  | .fnv => none
structure ClsI (K : PySem.W.Frag) (C : Addr) : Prop where
  cl : Cls K C
  ha : PySem.W.findIn K (.ref C) "__class__" = some (some (.builtin "object.__class__"))
  hn : PySem.W.specialIn K (.builtin "object.__class__") "__get__" = some (some (.builtin "getset_descriptor.__get__"))
  htk : PySem.W.takesIn K (.builtin "object.__class__") = some true
  hm : PySem.W.mroIn K C (.type "object") = some true
def fIsi (okc : Nat → Bool) (isi : Tg → Tg → Option Bool) (c : Tg) : D → Option (D × Bool) := fun d => match tagD okc d with
  | some t => (isi t c).map fun b => (.bl b, false)
  | none => none
section
variable {X : Cx} {cl : Cl} {W : WX} {K : PySem.W.Frag} {F H : Hp}
theorem sqT_ty {a : Addr} {vs : List V} (h : SqT K H a vs) : TyX K H (.ref a) (.type "tuple") := by
  rcases h with (h | ⟨o, h⟩) | ⟨o, us, n, h1, h2, _⟩
  · exact .base (.tup h)
  · exact .fTuple h
  · exact .kTuple h1 h2
theorem tag_ok {okc : Nat → Bool} {v : V} {d : D} {t : Tg} (hok : ∀ c, okc c = true → ClsI K (cl c)) (le : Le F H) (h : Vw K cl F H v d) (e : tagD okc d = some t) : TyX K H v (tvG cl t) := by
  cases d with
  | non => cases e; rw [h.non]; exact .base .non
  | bl b => cases e; rw [h.bl]; exact .base (.bl _)
  | int b => cases e; rw [h.int]; exact .base (.int _)
  | str b => cases e; rw [h.str]; exact .base (.str _)
  | tup ds => cases e; obtain ⟨a, vs, rfl, _, h1, _⟩ := h.tup le; exact sqT_ty h1
  | lst ds => cases e; obtain ⟨a, vs, rfl, h1, _⟩ := h.lst le; exact .base (.lst h1)
  | rdl ds => cases e
  | opq => cases e; obtain ⟨a, rfl, h1⟩ := h.opq le; exact .base (.dK h1)
  | fnv => cases e
  | ins c fs =>
    simp only [tagD] at e
    split at e
    · rename_i hc
      cases e
      obtain ⟨a, dx, fv, rfl, h1, _⟩ := h.ins le
      have z := hok c hc
      exact .base (.ins h1 z.cl z.ha z.hn z.htk z.hm)
    · cases e
theorem so_isi {okc : Nat → Bool} {isi : Tg → Tg → Option Bool} {c : Tg} {p pos : Pos} {e eT : Expr} {o : Opd} {vT : V} (hok : ∀ c, okc c = true → ClsI X.K (cl c)) (hi : ∀ t b, isi t c = some b → PySem.W.kitOne X.K (tvG cl t) (tvG cl c) = some b)
    (hg : Gl X "isinstance") (hm : X.mg "isinstance" = none) (hv : bootBuiltins "isinstance" = some (.builtin "isinstance")) (h : SP X cl W e o) (hT : PE X eT (tC vT)) (hk : ClsV vT (tvG cl c))
    (hs : starEach [e, eT] X.env = (false, eval e X.env) :: starEach [eT] X.env) (hs2 : starEach [eT] X.env = (false, eval eT X.env) :: starEach [] X.env) (hpl : (backTo pos (starEach [eT] X.env)).any (·.1) = false) :
    SO X cl W (.Call (.Name "isinstance" p) [e, eT] [] pos) (una (fIsi okc isi c) o) :=
  pe_weak (pe_callB call_isi hg hm hv (pa_cons h (pa_cons hT pa_nil hs2) hs) (by decide) (by decide) hs hpl) fun σ H Q q =>
    una_ok (r := fun x H Q => rIsi X.K [x, vT] H Q) (fun F H x a d o Q le va e q => by
      unfold fIsi at e
      split at e
      · rename_i t ht
        cases hb : isi t c with
        | none => rw [hb] at e; cases e
        | some b =>
          rw [hb] at e; cases e
          exact ⟨x, vT, _, _, b, rfl, hk, tag_ok hok le va ht, hi t b hb, q F H _ (Grow.refl le) (.bl _)⟩
      · cases e) q
end
def cutD (xs : List D) (lo hi : Option Int) : List D := (xs.drop (HT.sIx xs.length 0 lo)).take (HT.sIx xs.length xs.length hi - HT.sIx xs.length 0 lo)
def part? : Option D → Option (Option Int)
  | none => some none
  | some (.int i) => some (some i)
  | _ => none
def evP : Option (En → R (D × Bool)) → En → R (Option Int)
  | none, ρ => .ok none ρ
  | some d, ρ => (fz d ρ).bind fun x ρ1 => match x with
    | .int i => .ok (some i) ρ1
    | _ => .bad
def fCut (lo hi : Option Int) : D → Option (D × Bool)
  | .lst ds => some (.lst (cutD ds lo hi), true)
  | .rdl ds => some (.lst (cutD ds lo hi), true)
  | .tup ds => some (.tup (cutD ds lo hi), false)
  | _ => none
def slD (o : Opd) (lo hi : Option (En → R (D × Bool))) : En → R (D × Bool) := fun ρ => (o.ev ρ).bind fun x ρ1 => (evP lo ρ1).bind fun l ρ2 => (evP hi ρ2).bind fun u ρ3 => match late ρ3 x with
  | some d => ret? (fCut l u d) ρ3
  | none => .bad
section
variable {X : Cx} {cl : Cl} {W : WX}
def tOP (K : PySem.W.Frag) (cl : Cl) (W : WX) (den : En → R (Option Int)) : TO := fun σ H Q => ∃ F ρ, Corr K cl F ρ σ H ∧ Post K cl W (den ρ) F ρ σ H fun d ρ' F' H' => Q d H'
abbrev SPo (X : Cx) (cl : Cl) (W : WX) (e : Option Expr) (d : Option (En → R (D × Bool))) : Prop := PO X e (tOP X.K cl W (evP d))
theorem po_weak {e : Option Expr} {t t' : TO} (h : PO X e t) (w : ∀ σ H Q, t' σ H Q → t σ H Q) : PO X e t' := ⟨fun pins s σ H Q I q => h.run pins s σ H Q I (w _ _ _ q)⟩
theorem spo_none : SPo X cl W none none := po_weak po_none fun σ H Q ⟨F, ρ, c, p⟩ => p F H (Step.refl _ _ _ _) c
theorem spo_some {e : Expr} {d : En → R (D × Bool)} (h : SO X cl W e d) : SPo X cl W (some e) (some d) := po_weak (po_some h.fz) fun σ H Q ⟨F, ρ, c, p⟩ => by
  refine ⟨F, ρ, c, (Post.bind p).mono fun x ρ1 F1 H1 st1 c1 p1 v hv => ?_⟩
  cases x with
  | int i => exact ⟨i, den_int hv, p1 F1 H1 (Step.refl _ _ _ _) c1⟩
  | _ => exact p1.elim
theorem cut_den {K : PySem.W.Frag} {F : Hp} {vs : List V} {ds : List D} {lo hi : Option Int} (t : DenL K cl F vs ds) : DenL K cl F (cutV vs lo hi) (cutD ds lo hi) := by
  unfold cutV cutD
  rw [t.length]
  exact (t.drop _).take _
theorem cut_whole {xs : List D} {lo hi : Option Int} (h : HT.sIx xs.length 0 lo = 0 ∧ HT.sIx xs.length xs.length hi = xs.length) : cutD xs lo hi = xs := by
  unfold cutD
  rw [h.1, h.2]; simp
theorem so_sl {e : Expr} {lo hi : Option Expr} {o : Opd} {dl du : Option (En → R (D × Bool))} {p2 pos : Pos} (h : SP X cl W e o) (hl : SPo X cl W lo dl) (hu : SPo X cl W hi du) : SO X cl W (.Subscript e (.Slice lo hi none p2) pos) (slD o dl du) :=
  pe_weak (pe_slice (sl_list.or sl_tupA) h hl hu) fun σ H Q ⟨F, ρ, c, p⟩ => by
    refine opd_ok c (Post.bind p) fun x ρ1 F1 H1 v st1 c1 h1 p1 => ?_
    refine ⟨F1, ρ1, c1, (Post.bind p1).mono fun l ρ2 F2 H2 st2 c2 p2 => ?_⟩
    refine ⟨F2, ρ2, c2, (Post.bind p2).mono fun u ρ3 F3 H3 st3 c3 p3 => ?_⟩
    cases ha : late ρ3 x with
    | none => rw [ha] at p3; exact p3.elim
    | some d =>
      rw [ha] at p3
      dsimp only at p3
      have va := late_ok c3 (h1.le (st2.trans st3).le) ha
      have stt := (st1.trans st2).trans st3
      cases d with
      | lst ds =>
        obtain ⟨a, vs, rfl, q1, t⟩ := va.lst c3.le
        refine .inl ⟨a, vs, rfl, SqL.val q1, fun q nq => ?_⟩
        exact Post.done (o := true) c3 (Grow.own c3.le nq _) ⟨q, rfl, nq, c3.le.back nq, .lst upd_same (cut_den t)⟩ stt p3
      | rdl ds =>
        obtain ⟨a, vs, rfl, q1, t⟩ := va.rdl c3.le
        refine .inl ⟨a, vs, rfl, q1, fun q nq => ?_⟩
        exact Post.done (o := true) c3 (Grow.own c3.le nq _) ⟨q, rfl, nq, c3.le.back nq, .lst upd_same (cut_den t)⟩ stt p3
      | tup ds =>
        obtain ⟨a, vs, rfl, q0, q1, t⟩ := va.tup c3.le
        refine .inr ⟨a, vs, rfl, q1, fun hw => ?_, fun hw q nq => ?_⟩
        · rw [t.length] at hw
          exact Post.done (o := false) c3 (Grow.refl c3.le) (show Den X.K cl F3 (.ref a) (.tup (cutD ds l u)) by rw [cut_whole hw]; exact .tup q0 t) stt p3
        · have g := Grow.new c3.le nq (.tup (cutV vs l u))
          exact Post.done (o := false) c3 g (.tup (SqT.val upd_same) ((cut_den t).le g.le)) stt p3
      | _ => exact p3.elim
end
end PF

namespace PF
open PySem PySem.Spec L2
section
variable {prog : Program} {w : World} {A : Around} {E : Value → Shared → Prop} {s : Shared} {K : PySem.W.Frag} {x C L f : Addr} {h₀ : Heap} {m : Str → Option Value} {ox : Obj} {od : Option Obj} {b tb : Value}
theorem ne_entry (X : K.In s.heap) (I : PySem.W.InstAt s.heap x ox C od) (hs : PySem.W.findIn K (.ref C) "__eq__" = some (some (.ref f))) (hf : PySem.W.isFn K (.ref f) = true) (hu : A.units < cLine) {Q : PySem.Fin → Shared → Prop}
    (hcall : wpAny (model prog w) A (call (.ref f) [.ref x, b]) (fun v s' => ∃ k, v = .bool k ∧ Q (.done (.ret (.bool (!k)))) s') E s) : wpAny (model prog w) A (Builtin.«object.__ne__» ⟨[.ref x, b], []⟩) Q E s := by
  unfold Builtin.«object.__ne__»
  repeat (first
    | with_reducible refine wpAny_cRoomFor hu ?_
    | (refine wpAny_bind (m := callSpecialIfBound? (.ref x) (Str.ofString "__eq__") [b]) (PySem.W.ifBound_K X I hs hf (wpAny_mono hcall (fun v s' hv => by
        obtain ⟨k, rfl, hq⟩ := hv
        repeat (first | exact hq | exact wpAny_pure hq | exact wpAny_truthy_bool hq | (refine wpAny_bind (m := truthy (.bool _)) (wpAny_truthy_bool ?_)) | wp_step)) fun _ _ e => e)))
    | wp_step)
theorem ne_bound {M : Model} {args : List Value} {Q : Option Value → Shared → Prop} (X : K.In s.heap) (I : PySem.W.InstAt s.heap x ox C od) (hs : PySem.W.findIn K (.ref C) "__ne__" = some (some (.builtin "object.__ne__")))
    (h : wpAny M A (call (.builtin "object.__ne__") (.ref x :: args)) (fun v => Q (some v)) E s) : wpAny M A (callSpecialIfBound? (.ref x) "__ne__" args) Q E s := by
  simp only [callSpecialIfBound?, bindSpecialIfBound?]
  refine wpAny_holding (wpAny_bind (wpAny_bind (wpAny_bind (I.type.here ((PySem.W.looks_findIn X hs).here ?_)))))
  refine wpAny_bind (wpAny_askSetting (wpAny_ite ?_))
  have last : wpAny M A (call (.builtin "object.__ne__") ([.ref x] ++ args) >>= fun v => pure (some v)) Q E s := wpAny_bind (wpAny_mono h (fun v s' z => wpAny_pure z) fun _ _ z => z)
  split
  · exact wpAny_bind (wpAny_of_eq (F.cmp_object.ne.bind _) (wpAny_pure (by exact last)))
  · exact wpAny_tryCatch (wpAny_bind (wpAny_of_eq (F.cmp_object.ne.bind _) (wpAny_pure (by exact last))))
theorem ne_rich {Q : Value → Shared → Prop} (hu : A.units + 1 < cLine) (X : K.In s.heap) (I : PySem.W.InstAt s.heap x ox C od) (hb : PySem.W.Looks (model prog w) s.heap (typeOf b) (.ref C)) (he : PySem.W.findIn K (.ref C) "__eq__" = some (some (.ref f))) (hf : PySem.W.isFn K (.ref f) = true)
    (hn : PySem.W.findIn K (.ref C) "__ne__" = some (some (.builtin "object.__ne__"))) (hm : PySem.W.mroIn K C (.type "object") = some true)
    (h : wpAny (model prog w) A.in1 (call (.ref f) [.ref x, b]) (fun v s' => ∃ k, v = .bool k ∧ Q (.bool (!k)) s') E s) : wpAny (model prog w) A (richCompare .NotEq (.ref x) b) Q E s := by
  have one : wpAny (model prog w) A (tryCompare (.ref x) "__ne__" b) (fun r s' => ∃ k, r = some (.bool (!k)) ∧ Q (.bool (!k)) s') E s := by
    simp only [tryCompare]
    refine wpAny_bind (ne_bound X I hn (wpAny_call (codeAny_call_builtin F.cmp_object.ne.plain F.cmpEntry_ne
      (PySem.W.check_slot F.cmpKind_ne F.cmpSplit_ne (I.type.andThen (PySem.W.looks_mroIn X hm)) (F.cmpArgs_ne _ _) (ne_entry (A := A.in1) X I he hf hu (wpAny_mono h (fun v s' hv => ?_) fun _ _ e => e))))))
    obtain ⟨k, rfl, hq⟩ := hv
    first | exact ⟨k, rfl, wpAny_pure ⟨k, rfl, hq⟩⟩ | exact ⟨k, rfl, wpAny_pure (wpAny_pure ⟨k, rfl, hq⟩)⟩ | exact ⟨k, rfl, k, rfl, hq⟩
  unfold richCompare
  simp only [oneThing_ref]
  refine wpAny_holding (wpAny_bind (wpAny_cRoomFor (Nat.lt_of_succ_lt hu) ?_))
  rw [cmpInfo_NotEq]
  dsimp only
  refine wpAny_bind (I.type.here (wpAny_bind (hb.here ?_)))
  rw [show (Value.ref C != Value.ref C) = false from by simp]
  simp only [Bool.false_eq_true, if_false]
  refine wpAny_bind (wpAny_pure ?_)
  simp only [Bool.false_eq_true, if_false]
  refine wpAny_bind (wpAny_mono one (fun r s' z => ?_) fun _ _ e => e)
  obtain ⟨k, rfl, hq⟩ := z
  first | exact wpAny_pure hq | exact wpAny_pure (wpAny_pure hq)
end

theorem takesN {X : Cx} : Takes X Wno := fun _ _ z => by
  obtain ⟨_, _, _, _, _, _, _, _, _, _, _, _, _, _, _, _, w⟩ := z
  exact w.elim

/-- the class has its own ==, which g tells, and object's != -/
structure EqC (X : Cx) (cl : Cl) (k : Nat) (C : Addr) (g : FR) : Prop where
  go : ∃ f fd ps, FnG X.prog X.w X.K X.mg X.base k f fd ps (spOf X.K cl 2 g) ∧ PySem.W.findIn X.K (.ref C) "__eq__" = some (some (.ref f)) ∧ PySem.W.isFn X.K (.ref f) = true ∧ Binds X.K fd ps []
  ne : PySem.W.findIn X.K (.ref C) "__ne__" = some (some (.builtin "object.__ne__"))
  mro : PySem.W.mroIn X.K C (.type "object") = some true
def rOwn (K : PySem.W.Frag) (cl : Cl) (C : Addr) (g : FR) (t : Bool → Bool) : R2 := fun x y H Q => ∃ a b dx dy fs gs, x = .ref a ∧ y = .ref b ∧ H a = some (.ins C dx fs) ∧ H b = some (.ins C dy gs) ∧ spOf K cl 2 g [x, y] H (fun v H' => ∃ k, v = .bl k ∧ Q (.bl (t k)) H') (fun _ _ _ => False)
section
variable {X : Cx} {cl : Cl} {W : WX} {k : Nat} {C : Addr} {g : FR}
theorem here_at {A : Around} {f : Addr} {fd : FuncData} {ps : List Str} {sp : Sp} {pins : List (Addr × Obj)} {σ : L2.St} {H : Hp} {s : Shared} {Q : VK} {us : List Value} {vs : List V} (F : FnG X.prog X.w X.K X.mg X.base k f fd ps sp) (room : Room k A) (gd : A.guards = some []) (fr : A.frames = X.A.frames) (bs : Binds X.K fd ps [])
    (I : Inv X pins σ H s) (rv : Vals vs us) (h : sp vs H Q (fun _ _ _ => False)) : wpAny (model X.prog X.w) A (call (.ref f) us) (EP X pins σ Q) X.xe s := by
  have b := bs s us I.kIn (by simpa using rv.length.symm.trans (F.arity _ _ _ _ h))
  simp only [List.append_nil] at b
  have e0 : Env0 X.prog X.w X.K X.mg X.base A X.stack s H := by
    have e := I.env0
    exact ⟨by rw [fr]; exact e.frames, e.mod, e.bs, e.bsz, e.funs, e.frf, e.hok, e.bare⟩
  refine wpAny_call (codeAny_mono (F.go A X.stack s H ⟨us, []⟩ us vs Q (WE Wno σ) room gd e0 b rv h) fun r s' z => ?_)
  rcases back_here (W := Wno) (H' := H) takesN I z with ⟨e, rfl, q⟩ | ⟨u, rfl, q⟩
  · exact q
  · exact q
theorem op_own (e : EqC X cl k C g) (room : Room (k + 1) X.A) (gd : X.A.guards = some []) : OpR X (compareOp .Eq) (rOwn X.K cl C g id) := by
  intro pins s σ H x y u v Q I rx ry h
  obtain ⟨a, b, dx, dy, fs, gs, rfl, rfl, ha, hb, hsp⟩ := h
  obtain ⟨f, fd, ps, F, hs, hf, bs⟩ := e.go
  cases rx
  cases ry
  obtain ⟨mA, J, _⟩ := ins_get I.hok ha
  obtain ⟨mB, J', _⟩ := ins_get I.hok hb
  obtain ⟨od, J, _⟩ := J.look
  obtain ⟨od', J', _⟩ := J'.look
  obtain ⟨m, hF⟩ := I.fr
  show wpAny (model X.prog X.w) X.A (richCompare .Eq (.ref a) (.ref b)) (EP X pins σ Q) X.xe s
  refine PySem.W.cmp_K (op := .Eq) (tb := .ref C) room.units0 hF I.ok.mod.kin J J'.type (by simp [PySem.W.notFirst]) hs hf ?_
  refine wpAny_mono (here_at F (room.mono (Nat.le_succ k)) gd rfl bs I (show Vals [V.ref a, V.ref b] [Value.ref a, Value.ref b] from .cons rfl (.cons rfl .nil)) hsp) (fun r s' q => ?_) fun _ _ z => z
  obtain ⟨v, H', I', rv, z, rfl, q⟩ := q
  cases rv
  exact ⟨.bl z, H', I', rfl, q⟩
theorem op_ownN (e : EqC X cl k C g) (room : Room (k + 1) X.A) (gd : X.A.guards = some []) : OpR X (compareOp .NotEq) (rOwn X.K cl C g not) := by
  intro pins s σ H x y u v Q I rx ry h
  obtain ⟨a, b, dx, dy, fs, gs, rfl, rfl, ha, hb, hsp⟩ := h
  obtain ⟨f, fd, ps, F, hs, hf, bs⟩ := e.go
  cases rx
  cases ry
  obtain ⟨mA, J, _⟩ := ins_get I.hok ha
  obtain ⟨mB, J', _⟩ := ins_get I.hok hb
  obtain ⟨od, J, _⟩ := J.look
  obtain ⟨od', J', _⟩ := J'.look
  show wpAny (model X.prog X.w) X.A (richCompare .NotEq (.ref a) (.ref b)) (EP X pins σ Q) X.xe s
  refine ne_rich (by have := room.un; omega) I.kIn J J'.type hs hf e.ne e.mro ?_
  refine wpAny_mono (here_at F room.in1 gd rfl bs I (show Vals [V.ref a, V.ref b] [Value.ref a, Value.ref b] from .cons rfl (.cons rfl .nil)) hsp) (fun r s' q => ?_) fun _ _ z => z
  obtain ⟨v, H', I', rv, z, rfl, q⟩ := q
  cases rv
  exact ⟨z, rfl, .bl (!z), H', I', rfl, q⟩
end

/-- a comparison: instances by their own ==, all else by value -/
def cmpI (op : CmpOp) (t : Bool → Bool) (ge : Nat → Option FR) (a b : Opd) : En → R (D × Bool) := fun ρ => (a.ev ρ).bind fun x ρ1 => (b.ev ρ1).bind fun y ρ2 => match late ρ2 x, late ρ2 y with
  | some dx, some dy => match dx, dy with
    | .ins c _, .ins c' _ => if c = c' then (match ge c with
      | some g => (noex (handR 2 g [x, y] ρ2)).bind fun d ρ3 => match d with
        | (.bl k, false) => .ok (.bl (t k), false) ρ3
        | _ => .bad
      | none => .bad) else .bad
    | dx, dy => ret? (fCmp op dx dy) ρ2
  | _, _ => .bad
section
variable {K : PySem.W.Frag} {cl : Cl} {W : WX} {σ : L2.St} {H : Hp}
theorem cmpI_ok {op : CmpOp} {t : Bool → Bool} {ge : Nat → Option FR} {r : R2} {a b : Opd} {Q : VK} (hs : OpS K cl r (fCmp op)) (h : tO K cl W (cmpI op t ge a b) σ H Q) :
    tOp (fun x y H Q => r x y H Q ∨ ∃ c g, ge c = some g ∧ rOwn K cl (cl c) g t x y H Q) (tOpd K cl W a) (tOpd K cl W b) σ H Q := by
  obtain ⟨F, ρ, c, p⟩ := h
  refine opd_ok c (Post.bind p) fun x ρ1 F1 H1 v st1 c1 h1 p1 => ?_
  refine opd_ok c1 (Post.bind p1) fun y ρ2 F2 H2 u st2 c2 h2 p2 => ?_
  cases ha : late ρ2 x with
  | none => rw [ha] at p2; exact p2.elim
  | some da =>
    cases hb : late ρ2 y with
    | none => rw [ha, hb] at p2; exact p2.elim
    | some db =>
      rw [ha, hb] at p2
      dsimp only at p2
      have va := late_ok c2 (h1.le st2.le) ha
      have vb := late_ok c2 h2 hb
      split at p2
      · split at p2
        · rename_i n fs n' gs hn
          subst hn
          split at p2
          · rename_i g hg
            obtain ⟨pa, dx, fa, rfl, q1, _⟩ := va.ins c2.le
            obtain ⟨pb, dy, fb, rfl, q2, _⟩ := vb.ins c2.le
            refine .inr ⟨n, g, hg, pa, pb, dx, dy, fa, fb, rfl, rfl, q1, q2, ?_⟩
            refine handR_ok (W := Wno) (xs := [x, y]) (st1.trans st2) c2 ⟨h1.le st2.le, h2, trivial⟩ (Post.nox ((Post.bind p2).mono fun d ρ3 F3 H3 s3 c3 p3 v hv => ?_))
            obtain ⟨d, o⟩ := d
            cases d with
            | bl k =>
              cases o with
              | true => exact p3.elim
              | false => exact ⟨k, den_bl hv, p3 F3 H3 (Step.refl _ _ _ _) c3 _ (.bl _)⟩
            | _ => exact p3.elim
          · exact p2.elim
        · exact p2.elim
      · cases hf : fCmp op da db with
        | none => rw [hf] at p2; exact p2.elim
        | some z =>
          rw [hf] at p2
          obtain ⟨z, o⟩ := z
          exact .inl (hs F2 H2 v u da db z o Q c2.le va vb hf fun F' H' w g rs => Post.done c2 g rs (st1.trans st2) p2)
end
section
variable {X : Cx} {cl : Cl} {W : WX} {a b : Expr} {pos : Pos} {oa ob : Opd} {k : Nat} {ge : Nat → Option FR}
theorem opR_cls {op : CmpOp} {r : R2} {t : Bool → Bool} (h : OpR X (compareOp op) r) (h2 : ∀ c g, ge c = some g → OpR X (compareOp op) (rOwn X.K cl (cl c) g t)) : OpR X (compareOp op) (fun x y H Q => r x y H Q ∨ ∃ c g, ge c = some g ∧ rOwn X.K cl (cl c) g t x y H Q) := by
  intro pins s σ H x y u v Q I rx ry q
  rcases q with q | ⟨c, g, hg, q⟩
  · exact h pins s σ H x y u v Q I rx ry q
  · exact h2 c g hg pins s σ H x y u v Q I rx ry q
theorem so_eqI (hu : X.A.units + 65 < cLine) (room : Room (k + 1) X.A) (gd : X.A.guards = some []) (he : ∀ c g, ge c = some g → EqC X cl k (cl c) g) (ha : SP X cl W a oa) (hb : SP X cl W b ob) (hm : behindInMarks .Eq b = false) : SO X cl W (.Compare a [.Eq] [b] pos) (cmpI .Eq id ge oa ob) := by
  obtain ⟨r, h1, h2⟩ := opK_cmp (X := X) (cl := cl) (op := .Eq) hu
  exact pe_weak (pe_cmpR (opR_cls h1 fun c g hg => op_own (he c g hg) room gd) ha hb hm) fun σ H Q h => cmpI_ok h2 h
theorem so_neI (hu : X.A.units + 65 < cLine) (room : Room (k + 1) X.A) (gd : X.A.guards = some []) (he : ∀ c g, ge c = some g → EqC X cl k (cl c) g) (ha : SP X cl W a oa) (hb : SP X cl W b ob) (hm : behindInMarks .NotEq b = false) : SO X cl W (.Compare a [.NotEq] [b] pos) (cmpI .NotEq not ge oa ob) := by
  obtain ⟨r, h1, h2⟩ := opK_cmp (X := X) (cl := cl) (op := .NotEq) hu
  exact pe_weak (pe_cmpR (opR_cls h1 fun c g hg => op_ownN (he c g hg) room gd) ha hb hm) fun σ H Q h => cmpI_ok h2 h
theorem st_eqI (hu : X.A.units + 65 < cLine) (room : Room (k + 1) X.A) (gd : X.A.guards = some []) (he : ∀ c g, ge c = some g → EqC X cl k (cl c) g) (ha : SP X cl W a oa) (hb : SP X cl W b ob) (hm : behindInMarks .Eq b = false) : ST X cl W (.Compare a [.Eq] [b] pos) (isB (cmpI .Eq id ge oa ob)) := by
  obtain ⟨r, h1, h2⟩ := opK_cmp (X := X) (cl := cl) (op := .Eq) hu
  exact pt_weak (pt_cmpR (opR_cls h1 fun c g hg => op_own (he c g hg) room gd) ha hb hm) fun σ H Q h => cmpI_ok h2 (isB_ok h)
theorem st_neI (hu : X.A.units + 65 < cLine) (room : Room (k + 1) X.A) (gd : X.A.guards = some []) (he : ∀ c g, ge c = some g → EqC X cl k (cl c) g) (ha : SP X cl W a oa) (hb : SP X cl W b ob) (hm : behindInMarks .NotEq b = false) : ST X cl W (.Compare a [.NotEq] [b] pos) (isB (cmpI .NotEq not ge oa ob)) := by
  obtain ⟨r, h1, h2⟩ := opK_cmp (X := X) (cl := cl) (op := .NotEq) hu
  exact pt_weak (pt_cmpR (opR_cls h1 fun c g hg => op_ownN (he c g hg) room gd) ha hb hm) fun σ H Q h => cmpI_ok h2 (isB_ok h)
end
end PF

namespace PF
open PySem PySem.Spec L2
section
open PyProof.Rows
/-- the abstract heap at the law's call: the script alone, as it stands, where it is no object of the module -/
theorem script_at {P : Program} {w : World} {K : PySem.W.Frag} {a : Addr} {s : Shared} {vs : List Value} {ns : List Int} (kin : K.In s.heap) (ha : s.heap.get? a = some { cls := .type "list", data := .seq vs.toArray }) (hi : IntsAre vs ns) (hl : ns.length ≤ sizeLine) :
    ∃ H : Hp, Only H ∧ SqL K H a (ns.map V.int) ∧ HOk P w H s.heap ∧ ∀ b u, H b = some u → b = a ∧ K.lookup a = none := by
  have rv := vals_ints hi
  have hlen := hi.length
  cases hk : K.lookup a with
  | some o =>
    have e := kin a o hk
    rw [ha] at e
    cases e
    exact ⟨fun _ => none, fun _ => .inl rfl, .inr ⟨_, vs.toArray, _, hk, rfl, rfl, rfl, by rw [List.size_toArray, hlen]; exact hl, by simpa using rv⟩, fun b u z => (nomatch z), fun b u z => (nomatch z)⟩
  | none =>
    have at_ : ∀ {b u}, (fun b => if b = a then some (HO.frz { cls := .type "list", data := .seq vs.toArray } (.lst (ns.map V.int))) else none) b = some u → b = a ∧ u = HO.frz { cls := .type "list", data := .seq vs.toArray } (.lst (ns.map V.int)) := fun {b u} z => by
      by_cases hb : b = a
      · exact ⟨hb, by simpa [hb] using z.symm⟩
      · simp [hb] at z
    refine ⟨fun b => if b = a then some (HO.frz { cls := .type "list", data := .seq vs.toArray } (.lst (ns.map V.int))) else none, fun b => ?_, .inl (.inr ⟨_, if_pos rfl⟩), fun b u z => ?_, fun b u z => ⟨(at_ z).1, rfl⟩⟩
    · by_cases hb : b = a
      · exact .inr ⟨_, _, if_pos hb⟩
      · exact .inl (if_neg hb)
    · obtain ⟨rfl, rfl⟩ := at_ z
      exact ⟨ha, by rw [List.length_map]; exact hl, vs, _, rv, ha⟩
theorem call_law {P : Program} {w : World} {K : PySem.W.Frag} {mg mb : Str → Option Value} {k : Nat} {fa a : Addr} {fd : FuncData} {x : Str} {s : Shared} {vs : List Value} {ns : List Int} {G : Prop}
    (kin : K.In s.heap) (nsM : s.heap.Ns mainGlobals mg) (nsB : s.heap.Ns builtinsNs mb) (boot : ∀ x : Str, x ≠ "__name__" → mb x = bootBuiltins x) (nl : s.heap.NoLimit) (gens : s.gens = #[])
    (ha : s.heap.get? a = some { cls := .type "list", data := .seq vs.toArray }) (hi : IntsAre vs ns) (hl : ns.length ≤ sizeLine) (room : Room k callerA) (bind : ∀ (s : Shared) (u : Value), BindsTo s fd ⟨[u], []⟩ [(x, u)])
    (F : ∀ base : Heap, K.In base → base.Ns mainGlobals mg → ∃ sp : Sp, FnG P w K mg base k fa fd [x] sp ∧ ∀ H : Hp, SqL K H a (ns.map V.int) → sp [.ref a] H (fun v _ => v = .bl true) fun _ _ _ => False) :
    codeAny (model P w) callerA (.call (.ref fa) ⟨[.ref a], []⟩) (fun r s' => r = .ok (.ret (.bool true)) ∧ OldK s.heap s'.heap ∧ s'.os = s.os ∧ AllBare s'.gens) s := by
  obtain ⟨H, only, seq, hok, at_⟩ := script_at (P := P) (w := w) kin ha hi hl
  -- what is no list stays in the base
  have hid : ∀ {b : Addr} {o : Obj}, s.heap.get? b = some o → H b = none → (hidT s.heap H).get? b = some o := fun e n => hidT_get e n
  have free : ∀ {b : Addr} {o : Obj}, s.heap.get? b = some o → (∀ ws n, o.data ≠ .seq ws n) → H b = none := fun {b o} e d => by
    cases q : H b with
    | none => rfl
    | some u =>
      obtain ⟨rfl, _⟩ := at_ b u q
      rw [ha] at e
      cases e
      exact absurd rfl (d _ _)
  have ns' : ∀ {b : Addr} {m : Str → Option Value}, s.heap.Ns b m → (hidT s.heap H).Ns b m := fun {b m} ⟨o, es, ep, e, d, r⟩ => ⟨o, es, ep, hid e (free e fun ws n z => by rw [d] at z; cases z), d, r⟩
  have kin' : K.In (hidT s.heap H) := fun b o e => hid (kin b o e) (by
    cases q : H b with
    | none => rfl
    | some u =>
      obtain ⟨rfl, z⟩ := at_ b u q
      rw [z] at e; cases e)
  obtain ⟨mc, c1, c2⟩ := nl
  have env : Env0 P w K mg (hidT s.heap H) callerA [] s H :=
    { frames := rfl, mod := ⟨kin', ns' nsM, ⟨mb, ns' nsB, boot⟩, ⟨mc, ns' c1, c2⟩⟩, bs := fun b o e => of_hidT e, bsz := Nat.le_of_eq (hidT_size _ _), funs := trivial, frf := fun b hb => (by cases (show b ∈ ([] : List Addr) from hb)), hok := hok, bare := .of_eq gens }
  obtain ⟨sp, Fn, law⟩ := F _ kin' (ns' nsM)
  refine codeAny_mono (Fn.go callerA [] s H ⟨[.ref a], []⟩ [.ref a] [.ref a] (fun v _ => v = .bl true) (fun _ _ _ => False) room rfl env (bind s (.ref a)) (.cons rfl .nil) (law H seq)) fun r s' h => ?_
  cases r with
  | error e =>
    obtain ⟨_, _, _, _, _, _, _, _, _, _, _, _, z⟩ := h
    exact z.elim
  | ok fl =>
    cases fl with
    | ret u =>
      obtain ⟨v, H', os, bare, un, hok', ru, rfl⟩ := h
      obtain rfl : u = Value.bool true := ru
      refine ⟨rfl, OldK.of_keep fun b o e => ?_, os, bare⟩
      cases q : H b with
      | none => exact un.keep b o e q (fun z => by cases (show b ∈ ([] : List Addr) from z)) (by simp)
      | some u =>
        rcases only b with z | ⟨ob, xs, z⟩
        · rw [q] at z; cases z
        · obtain ⟨e1, _⟩ := hok b _ z
          obtain ⟨e2, _⟩ := hok' b _ (un.frzs b ob _ z)
          rw [e] at e1; cases e1
          exact e2
    | next => exact (h : False).elim
    | brk => exact (h : False).elim
    | cont => exact (h : False).elim
/-- the goal that the head leaves, from the law's function of data -/
theorem walk_G {l : PySem.W.OpenLaw} {n k : Nat} {q : Program} {loose : List Str} {XP : (Str → Option Value) → Heap → Prop} {YP : World → Heap → Prop} {d : DefRec} {K : Params → PySem.W.Frag} {x : Str} {g : FR}
    (hn : l.most = some n) (hn2 : n ≤ sizeLine) (hdf : d.params.defaults = []) (room : Room k callerA) (hY : ∀ (w : World) (h : Heap), YP w h → (K w.params).In h)
    (F : ∀ (w : World) (mg : Str → Option Value) (fa : Addr) (h : Heap), (K w.params).In h → h.Ns mainGlobals mg → mg d.name = some (.ref fa) →
      ∃ (fd : FuncData) (cl : Cl), cl.T = [] ∧ (∀ (s : Shared) (u : Value), BindsTo s fd ⟨[u], []⟩ [(x, u)]) ∧ ∀ base : Heap, (K w.params).In base → base.Ns mainGlobals mg → FnG l.prog w (K w.params) mg base k fa fd [x] (spOf (K w.params) cl 1 g))
    (law : ∀ ns : List Int, ns.length ≤ n → ∃ ρ, g [.fr (.rdl (ns.map D.int))] = .ok (.bl true, false) ρ) : PySem.W.WalkO q loose XP YP l.row.toRowW d [] (fun f vs => PySem.call f vs) := by
  refine Att.attach_call hn hdf fun w s₀ s₁ mg mb fa o pm cd doc a vs ns G Y ho hd hcd hmg hobj hints hlen hg => ?_
  have kin := hY w _ Y
  obtain ⟨fd, cl, hT, bind, hF⟩ := F w mg fa _ kin G.T.g hmg
  refine call_law (G := True) kin G.T.g G.T.b G.T.builtins G.T.nolimit hg hobj hints (Nat.le_trans hlen hn2) room bind fun base kb nb => ⟨_, hF base kb nb, fun H seq => ?_⟩
  obtain ⟨ρ, hρ⟩ := law ns hlen
  have den : DenL (K w.params) cl H (ns.map V.int) (ns.map D.int) := by
    clear hlen hints hρ seq law
    induction ns with
    | nil => exact .nil
    | cons i r ih => exact .cons (.int i) ih
  refine ⟨H, [.fr (.rdl (ns.map D.int))], ⟨rfl, Le.refl _, fun i y o h1 h2 => ?_, fun i j y z d e b h1 h2 h3 h4 h5 h6 => ?_, by rw [hT]; intro p hp; simp at hp⟩, fun y hy => ?_, rfl, ?_⟩
  · cases i with
    | zero => simp at h1 h2; subst h1 h2; exact ⟨.ref a, rfl, .rdl seq den⟩
    | succ i => simp at h1
  · cases i with
    | zero => simp at h1; subst h1; cases h3
    | succ i => simp at h1
  · simp at hy; exact .inl ⟨_, hy⟩
  · rw [hρ]
    intro F' H' v ce hv
    exact den_bl hv
end
end PF

namespace PF
open PySem PySem.Spec L2
section
variable (P : Program) (w : World) (K : PySem.W.Frag) (mg : Str → Option Value) (base : Heap) (cl : Cl)
/-- the def called x does at level k what g tells -/
def CallOk (k : Nat) (x : Str) (n : Nat) (g : FR) : Prop := ∃ f fd ps, FnG P w K mg base k f fd ps (spOf K cl n g) ∧ mg x = some (.ref f) ∧ PySem.W.keepIn K (.ref f) = true ∧ Binds K fd ps []
/-- the class c is called x, its __init__ does at level k what g tells -/
def NewOk (k : Nat) (x : Str) (c n : Nat) (g : FR) : Prop := ∃ f fd ps, FnG P w K mg base k f fd ps (spOf K cl n g) ∧ mg x = some (.ref (cl c)) ∧ Mk K (cl c) f ∧ Binds K fd ps []
/-- a module's constant -/
def GlobOk (x : Str) (d : D) : Prop := ∃ v u, mg x = some u ∧ RelV v u ∧ ∀ F, Den K cl F v d
/-- a module's dict of texts -/
def DictOk (x : Str) (tbl : List (Str × D)) : Prop := ∃ d es n, mg x = some (.ref d) ∧ KDict K w d es n ∧ ∀ z e, tbl.lookup z = some e → ∃ u v, PySem.W.nsIn K d z = some (some u) ∧ RelV v u ∧ ∀ F, Den K cl F v e
end
/-- bad, at the lowest levels -/
def noF : FR := fun _ => .bad
section
variable {P : Program} {w : World} {K : PySem.W.Frag} {mg : Str → Option Value} {base : Heap} {cl : Cl}
theorem fnG_bad {k : Nat} {f : Addr} {fd : FuncData} {ps : List Str} {n : Nat} : FnG P w K mg base k f fd ps (spOf K cl n noF) where
  arity vs H Q E h := by obtain ⟨_, _, _, _, _, z⟩ := h; exact z.elim
  go A outer s H args us vs Q E _ _ _ _ _ h := by obtain ⟨_, _, _, _, _, z⟩ := h; exact z.elim
/-- a def by its body -/
theorem fn_body {x qual : Str} {st : Stmt} {f : Addr} {fd : FuncData} {N ps : List Str} {k : Nat} {body : Sm} (Fu : Fun K x qual st f fd) (S : FnScope N ps (defScope st)) (hl : ps.length ≤ N.length)
    (B : ∀ (cdv : Value) (A : Around) (outer : List Env) (s : Shared) (H : Hp) (E : XK), Room k (A.deeper (PyProof.Rows.envOfC qual (defScope st) s.heap.objs.size f cdv)) → A.guards = some [] →
      SB (cxOf (L2.CX P w) P w K mg base N qual (defScope st) f cdv A outer s H E) cl (fun c d _ H => E c d H) (defBody st) body) : FnG P w K mg base (k + 1) f fd ps (spOf K cl ps.length (fnD N.length body)) := by
  obtain ⟨oc, od, kV, doc, pm, an, cdv, ct, osl, rfl, lk, hcd⟩ := Fu.ex
  exact fnG lk hcd S (fun vs H Q E h => spOf_len h) fun A outer s H vs Q E room gd h => ⟨_, B cdv A outer s H E room gd, body_of hl h⟩
theorem takes_cx {N : List Str} {qual : Str} {scope : Scope} {f : Addr} {cdv : Value} {A : Around} {outer : List Env} {s : Shared} {H : Hp} {E : XK} : Takes (cxOf (L2.CX P w) P w K mg base N qual scope f cdv A outer s H E) (fun c d _ H => E c d H) := takes_of rfl rfl rfl rfl
end
section
variable {X : Cx} {cl : Cl} {W : WX} {k : Nat} {x : Str} {p pos : Pos} {e : Expr} {es : List Expr} {os : List Opd} {ds : List (En → R (D × Bool))} {n c : Nat} {g : FR}
theorem so_call (h : CallOk X.prog X.w X.K X.mg X.base cl k x n g) (room : Room k X.A) (gd : X.A.guards = some []) (tk : Takes X W) (hg : Gl X x) (nd : (x == ("__debug__" : Str)) = false) (ha : SAp X cl W (e :: es) os)
    (st : starEach (e :: es) X.env = (false, eval e X.env) :: starEach es X.env) (pl : (backTo pos (starEach es X.env)).any (·.1) = false) : SO X cl W (.Call (.Name x p) (e :: es) [] pos) (usr n g os) := by
  obtain ⟨f, fd, ps, F, hm, kp, bs⟩ := h
  exact pe_weak (call_G F room gd hg hm kp bs tk ha nd st pl) fun σ H Q q => usr_ok q
theorem so_call0 (h : CallOk X.prog X.w X.K X.mg X.base cl k x 0 g) (room : Room k X.A) (gd : X.A.guards = some []) (tk : Takes X W) (hg : Gl X x) (nd : (x == ("__debug__" : Str)) = false) : SO X cl W (.Call (.Name x p) [] [] pos) (usr 0 g []) := by
  obtain ⟨f, fd, ps, F, hm, kp, bs⟩ := h
  exact pe_weak (call_G0 F room gd hg hm kp bs tk nd) fun σ H Q q => usr_ok q
theorem so_new (h : NewOk X.prog X.w X.K X.mg X.base cl k x c n g) (room : Room (k + 1) X.A) (gd : X.A.guards = some []) (tk : Takes X W) (hg : Gl X x) (nd : (x == ("__debug__" : Str)) = false) (ha : SA X cl W (e :: es) ds)
    (st : starEach (e :: es) X.env = (false, eval e X.env) :: starEach es X.env) (pl : (backTo pos (starEach es X.env)).any (·.1) = false) : SO X cl W (.Call (.Name x p) (e :: es) [] pos) (newD c n g ds) := by
  obtain ⟨f, fd, ps, F, hm, M, bs⟩ := h
  exact pe_weak (new_G M F room gd hg hm bs tk ha nd st pl) fun σ H Q q => new_ok q
theorem so_glob {d : D} (h : GlobOk X.K X.mg cl x d) (hg : Gl X x) (nd : (x == ("__debug__" : Str)) = false) : SO X cl W (.Name x pos) (conD d) := by
  obtain ⟨v, u, hm, r, hd⟩ := h
  exact so_con (pe_glob hg hm r nd) hd
def fTbl (tbl : List (Str × D)) : D → Option (D × Bool)
  | .str z => (tbl.lookup z).map (·, false)
  | _ => none
def fTblIn (t : Bool) (tbl : List (Str × D)) : D → Option (D × Bool)
  | .str z => match tbl.lookup z with
    | some _ => vB t
    | none => none
  | _ => none
theorem so_dIx {tbl : List (Str × D)} {b : Expr} {ob : Opd} (h : DictOk X.w X.K X.mg cl x tbl) (hg : Gl X x) (nd : (x == ("__debug__" : Str)) = false) (hb : SP X cl W b ob) (hs : PlainIx b) : SO X cl W (.Subscript (.Name x p) b pos) (una (fTbl tbl) ob) := by
  obtain ⟨d, es, m, hm, kd, at_⟩ := h
  exact pe_weak (pe_ix ix_kdict (pe_glob (v := .ref d) hg hm rfl nd) hb hs) fun σ H Q q => una_ok (r := fun y H Q => rIxD X.K X.w (.ref d) y H Q) (fun F H y a c o Q le va e q => by
    unfold fTbl at e
    split at e
    · rename_i z
      cases hz : tbl.lookup z with
      | none => rw [hz] at e; cases e
      | some r =>
        rw [hz] at e; cases e
        obtain ⟨u, v, h1, h2, h3⟩ := at_ z _ hz
        exact ⟨d, z, v, rfl, va.str, ⟨es, m, u, kd.at_, kd.lit, h1, h2⟩, q F H v (Grow.refl le) (h3 F)⟩
    · cases e) q
theorem so_dIn {tbl : List (Str × D)} {a : Expr} {oa : Opd} (h : DictOk X.w X.K X.mg cl x tbl) (hg : Gl X x) (nd : (x == ("__debug__" : Str)) = false) (ha : SP X cl W a oa) (hm2 : behindInMarks .In (.Name x p) = false) : SO X cl W (.Compare a [.In] [.Name x p] pos) (una (fTblIn true tbl) oa) := by
  obtain ⟨d, es, m, hm, kd, at_⟩ := h
  refine pe_weak (pe_cmpR (op_in_kd kd) ha (pe_glob (v := .ref d) hg hm rfl nd) hm2) fun σ H Q q => ?_
  exact una_ok (r := fun y H Q => ∃ (z : Str) (r : Option Value), y = .str z ∧ V.ref d = .ref d ∧ PySem.W.nsIn X.K d z = some r ∧ Q (.bl r.isSome) H) (fun F H y a c o Q le va e q => by
    unfold fTblIn at e
    split at e
    · rename_i z
      cases hz : tbl.lookup z with
      | none => rw [hz] at e; cases e
      | some r =>
        rw [hz] at e; cases e
        obtain ⟨u, v, h1, h2, h3⟩ := at_ z _ hz
        exact ⟨z, some u, va.str, rfl, h1, q F H _ (Grow.refl le) (.bl _)⟩
    · cases e) q
theorem so_dNotIn {tbl : List (Str × D)} {a : Expr} {oa : Opd} (h : DictOk X.w X.K X.mg cl x tbl) (hg : Gl X x) (nd : (x == ("__debug__" : Str)) = false) (ha : SP X cl W a oa) (hm2 : behindInMarks .NotIn (.Name x p) = false) : SO X cl W (.Compare a [.NotIn] [.Name x p] pos) (una (fTblIn false tbl) oa) := by
  obtain ⟨d, es, m, hm, kd, at_⟩ := h
  refine pe_weak (pe_cmpR (op_notIn_kd kd) ha (pe_glob (v := .ref d) hg hm rfl nd) hm2) fun σ H Q q => ?_
  exact una_ok (r := fun y H Q => ∃ (z : Str) (r : Option Value), y = .str z ∧ V.ref d = .ref d ∧ PySem.W.nsIn X.K d z = some r ∧ Q (.bl (!r.isSome)) H) (fun F H y a c o Q le va e q => by
    unfold fTblIn at e
    split at e
    · rename_i z
      cases hz : tbl.lookup z with
      | none => rw [hz] at e; cases e
      | some r =>
        rw [hz] at e; cases e
        obtain ⟨u, v, h1, h2, h3⟩ := at_ z _ hz
        exact ⟨z, some u, va.str, rfl, h1, q F H _ (Grow.refl le) (.bl _)⟩
    · cases e) q
theorem st_dIn {tbl : List (Str × D)} {a : Expr} {oa : Opd} (h : DictOk X.w X.K X.mg cl x tbl) (hg : Gl X x) (nd : (x == ("__debug__" : Str)) = false) (ha : SP X cl W a oa) (hm2 : behindInMarks .In (.Name x p) = false) : ST X cl W (.Compare a [.In] [.Name x p] pos) (isB (una (fTblIn true tbl) oa)) := by
  obtain ⟨d, es, m, hm, kd, at_⟩ := h
  refine pt_weak (pt_cmpR (op_in_kd kd) ha (pe_glob (v := .ref d) hg hm rfl nd) hm2) fun σ H Q q => ?_
  exact una_ok (r := fun y H Q => ∃ (z : Str) (r : Option Value), y = .str z ∧ V.ref d = .ref d ∧ PySem.W.nsIn X.K d z = some r ∧ Q (.bl r.isSome) H) (fun F H y a c o Q le va e q => by
    unfold fTblIn at e
    split at e
    · rename_i z
      cases hz : tbl.lookup z with
      | none => rw [hz] at e; cases e
      | some r =>
        rw [hz] at e; cases e
        obtain ⟨u, v, h1, h2, h3⟩ := at_ z _ hz
        exact ⟨z, some u, va.str, rfl, h1, q F H _ (Grow.refl le) (.bl _)⟩
    · cases e) (isB_ok q)
theorem st_dNotIn {tbl : List (Str × D)} {a : Expr} {oa : Opd} (h : DictOk X.w X.K X.mg cl x tbl) (hg : Gl X x) (nd : (x == ("__debug__" : Str)) = false) (ha : SP X cl W a oa) (hm2 : behindInMarks .NotIn (.Name x p) = false) : ST X cl W (.Compare a [.NotIn] [.Name x p] pos) (isB (una (fTblIn false tbl) oa)) := by
  obtain ⟨d, es, m, hm, kd, at_⟩ := h
  refine pt_weak (pt_cmpR (op_notIn_kd kd) ha (pe_glob (v := .ref d) hg hm rfl nd) hm2) fun σ H Q q => ?_
  exact una_ok (r := fun y H Q => ∃ (z : Str) (r : Option Value), y = .str z ∧ V.ref d = .ref d ∧ PySem.W.nsIn X.K d z = some r ∧ Q (.bl (!r.isSome)) H) (fun F H y a c o Q le va e q => by
    unfold fTblIn at e
    split at e
    · rename_i z
      cases hz : tbl.lookup z with
      | none => rw [hz] at e; cases e
      | some r =>
        rw [hz] at e; cases e
        obtain ⟨u, v, h1, h2, h3⟩ := at_ z _ hz
        exact ⟨z, some u, va.str, rfl, h1, q F H _ (Grow.refl le) (.bl _)⟩
    · cases e) (isB_ok q)
/-- the test of an operation that gives a bool -/
theorem st_val {e : Expr} {d : En → R (D × Bool)} (h : SO X cl W e d) (he : ∀ whole, isTrue e X.env whole = (do let v ← whole; standAt e.pos; holding [v] (truthy v))) : ST X cl W e (tru (.exp d)) := st_tru (sp_exp h) he
end

/-- the class c has its own ==, which g tells at level k -/
def EqOk (P : Program) (w : World) (K : PySem.W.Frag) (mg : Str → Option Value) (base : Heap) (cl : Cl) (k c : Nat) (g : FR) : Prop := (∃ f fd ps, FnG P w K mg base k f fd ps (spOf K cl 2 g) ∧ PySem.W.findIn K (.ref (cl c)) "__eq__" = some (some (.ref f)) ∧ PySem.W.isFn K (.ref f) = true ∧ Binds K fd ps []) ∧
  PySem.W.findIn K (.ref (cl c)) "__ne__" = some (some (.builtin "object.__ne__")) ∧ PySem.W.mroIn K (cl c) (.type "object") = some true
section
variable {X : Cx} {cl : Cl} {W : WX} {k : Nat}
theorem EqOk.eqC {c : Nat} {g : FR} (h : EqOk X.prog X.w X.K X.mg X.base cl k c g) : EqC X cl k (cl c) g := ⟨h.1, h.2.1, h.2.2⟩
/-- which classes have their own == -/
def geT (l : List (Nat × FR)) (c : Nat) : Option FR := l.lookup c
theorem geT_nil {c : Nat} {g : FR} (h : geT [] c = some g) : EqC X cl k (cl c) g := by cases h
theorem geT_one {c0 : Nat} {g0 : FR} (h0 : EqOk X.prog X.w X.K X.mg X.base cl k c0 g0) : ∀ c g, geT [(c0, g0)] c = some g → EqC X cl k (cl c) g := fun c g h => by
  unfold geT at h
  rw [List.lookup_cons] at h
  by_cases e : c = c0
  · subst e
    rw [beq_self_eq_true] at h
    cases h
    exact h0.eqC
  · rw [show (c == c0) = false by simpa using e] at h
    cases h
theorem geT_cons {c0 : Nat} {g0 : FR} {l : List (Nat × FR)} (h0 : EqOk X.prog X.w X.K X.mg X.base cl k c0 g0) (h1 : ∀ c g, geT l c = some g → EqC X cl k (cl c) g) : ∀ c g, geT ((c0, g0) :: l) c = some g → EqC X cl k (cl c) g := fun c g h => by
  unfold geT at h
  rw [List.lookup_cons] at h
  by_cases e : c = c0
  · subst e
    rw [beq_self_eq_true] at h
    cases h
    exact h0.eqC
  · rw [show (c == c0) = false by simpa using e] at h
    exact h1 c g h
/-- a name of the body -/
structure VarOk (X : Cx) (i : Nat) (x : Str) : Prop where
  at_ : X.N[i]? = some x
  vis : Vis X.env.scope x
  nd : (x == ("__debug__" : Str)) = false
  nc : (x == ("__classdict__" : Str)) = false
/-- a global name -/
structure GloOk (X : Cx) (x : Str) : Prop where
  gl : Gl X x
  nd : (x == ("__debug__" : Str)) = false
theorem so_v {i : Nat} {x : Str} {pos : Pos} (v : VarOk X i x) : SO X cl W (.Name x pos) (varD i) := so_var v.at_ v.vis v.nd v.nc
theorem sp_v {i : Nat} {x : Str} {pos : Pos} (v : VarOk X i x) : SP X cl W (.Name x pos) (.var i) := sp_var v.at_ v.vis v.nd v.nc
theorem pe_v {i : Nat} {x : Str} {pos : Pos} (v : VarOk X i x) : PE X (.Name x pos) (tVar i) := pe_var v.at_ v.vis v.nd v.nc
theorem so_int {i : Int} {j : Nat} {pos : Pos} : SO X cl W (.Constant (.int i) j pos) (conD (.int i)) := so_con pe_int fun _ => .int i
theorem so_bl {i : Bool} {j : Nat} {pos : Pos} : SO X cl W (.Constant (.bool i) j pos) (conD (.bl i)) := so_con pe_bl fun _ => .bl i
theorem so_non {j : Nat} {pos : Pos} : SO X cl W (.Constant .none j pos) (conD .non) := so_con pe_non fun _ => .non
theorem so_str {i : Str} {j : Nat} {pos : Pos} : SO X cl W (.Constant (.str i) j pos) (conD (.str i)) := so_con pe_str fun _ => .str i
theorem ss_retV' {i : Nat} {x : Str} {pos pos' : Pos} (v : VarOk X i x) : SS X cl W (.Return (some (.Name x pos')) pos) (retV i) := ss_retV v.at_ v.vis v.nd v.nc
end
end PF

namespace PF
open PySem PySem.Spec L2

def yesT : En → R Bool := fun ρ => .ok true ρ
/-- turns of a while, at most -/
def fuel : Nat := 4096
section
variable {X : Cx} {cl : Cl} {W : WX}
theorem pts_yes : PTs X [] (tT X.K cl W yesT) := ⟨fun pins s σ H Q I ⟨F, ρ, c, p⟩ => pts_nil.run pins s σ H Q I (p F H (Step.refl _ _ _ _) c)⟩
theorem st_bad {e : Expr} : ST X cl W e (fun _ => .bad) := ⟨fun _ _ _ _ _ _ ⟨_, _, _, p⟩ => p.elim⟩
theorem room_hu {k : Nat} {A : Around} (r : Room k A) : A.units + 65 < cLine := by have := r.un; omega
theorem room_hu66 {k : Nat} {A : Around} (r : Room k A) : A.units + 66 < cLine := by have := r.un; omega
end
def tagL : List String := ["NoneType", "bool", "int", "str", "tuple", "list", "dict"]
def tyL : List String := ["int", "bool", "str", "tuple", "list", "dict", "set"]
def isiTy (a b : String) : Option Bool := if (tagL.contains a && tyL.contains b) = true then some (a == b || (a == "bool" && b == "int")) else none
theorem isi_all : ∀ a ∈ tagL, ∀ b ∈ tyL, kitB a b = some (a == b || (a == "bool" && b == "int")) := by decide +kernel
theorem isiTy_ok {K : PySem.W.Frag} {a b : String} {r : Bool} (h : isiTy a b = some r) : PySem.W.kitOne K (.type a) (.type b) = some r := by
  unfold isiTy at h
  split at h
  · rename_i hc
    rw [Bool.and_eq_true, List.contains_iff_mem, List.contains_iff_mem] at hc
    cases h
    exact kit_ty (isi_all a hc.1 b hc.2)
  · cases h
/-- tys: the built-in types that the program asks of its own instances -/
def isiT (okc : Nat → Bool) (tys : List String) : Tg → Tg → Option Bool
  | .ty a, .ty b => isiTy a b
  | .own c, .own c' => if c = c' then some true else none
  | .own c, .ty b => if (okc c && tys.contains b) = true then some false else none
  | .ty a, .own c => if (okc c && tagL.contains a) = true then some false else none
theorem isiT_ok {K : PySem.W.Frag} {cl : Cl} {okc : Nat → Bool} {tys : List String} (h1 : ∀ c, okc c = true → ∀ b ∈ tys, PySem.W.kitOne K (.ref (cl c)) (.type b) = some false) (h2 : ∀ c, okc c = true → ∀ a ∈ tagL, PySem.W.kitOne K (.type a) (.ref (cl c)) = some false)
    (t c : Tg) (b : Bool) (h : isiT okc tys t c = some b) : PySem.W.kitOne K (tvG cl t) (tvG cl c) = some b := by
  cases t with
  | ty a =>
    cases c with
    | ty b' => exact isiTy_ok h
    | own c =>
      simp only [isiT] at h
      split at h
      · rename_i hc
        rw [Bool.and_eq_true, List.contains_iff_mem] at hc
        cases h
        exact h2 c hc.1 a hc.2
      · cases h
  | own c0 =>
    cases c with
    | ty b' =>
      simp only [isiT] at h
      split at h
      · rename_i hc
        rw [Bool.and_eq_true, List.contains_iff_mem] at hc
        cases h
        exact h1 c0 hc.1 b' hc.2
      · cases h
    | own c =>
      simp only [isiT] at h
      split at h
      · rename_i hc
        subst hc
        cases h
        unfold PySem.W.kitOne
        rw [if_pos (by simp)]
      · cases h
section
variable {K : PySem.W.Frag} {cl : Cl} {d : Addr}
theorem tbl_nil : ∀ z e, ([] : List (Str × D)).lookup z = some e → ∃ u v, PySem.W.nsIn K d z = some (some u) ∧ RelV v u ∧ ∀ F, Den K cl F v e := fun z e h => by cases h
theorem tbl_cons {x : Str} {e0 : D} {tbl : List (Str × D)} (h0 : ∃ u v, PySem.W.nsIn K d x = some (some u) ∧ RelV v u ∧ ∀ F, Den K cl F v e0) (h1 : ∀ z e, tbl.lookup z = some e → ∃ u v, PySem.W.nsIn K d z = some (some u) ∧ RelV v u ∧ ∀ F, Den K cl F v e) :
    ∀ z e, ((x, e0) :: tbl).lookup z = some e → ∃ u v, PySem.W.nsIn K d z = some (some u) ∧ RelV v u ∧ ∀ F, Den K cl F v e := fun z e h => by
  rw [List.lookup_cons] at h
  cases hz : z == x with
  | true =>
    rw [hz] at h
    cases h
    have : z = x := by simpa using hz
    subst this
    exact h0
  | false => rw [hz] at h; exact h1 z e h
end
theorem rel_int {i : Int} {t : Tok} : RelV (.int i) (.int i t) := ⟨t, rfl⟩
theorem rel_str {i : Str} {t : Tok} : RelV (.str i) (.str i t) := ⟨t, rfl⟩
theorem rel_bl {b : Bool} : RelV (.bl b) (.bool b) := rfl
theorem rel_non : RelV .non .none := rfl
theorem rel_ref {a : Addr} : RelV (.ref a) (.ref a) := rfl
theorem kit_rt {K : PySem.W.Frag} {C : Addr} {b : String} (hm : PySem.W.kitMeta b = true) (h : PySem.W.subIn K (.ref C) (.type b) = some false) : PySem.W.kitOne K (.ref C) (.type b) = some false := by
  unfold PySem.W.kitOne
  rw [if_neg (by simp)]
  show (if PySem.W.kitMeta b = true then _ else _) = _
  rw [if_pos hm]
  exact h
theorem kit_tr {K : PySem.W.Frag} {C : Addr} {a : String} (h1 : PySem.W.isClsIn K C = true) (h2 : PySem.W.typeIn K (.ref C) = some (.type "type")) (h : PySem.W.subIn K (.type a) (.ref C) = some false) : PySem.W.kitOne K (.type a) (.ref C) = some false := by
  unfold PySem.W.kitOne
  rw [if_neg (by simp)]
  have e : ((PySem.W.clsIn K C).isSome && PySem.W.typeIn K (.ref C) == some (.type "type")) = true := by
    rw [show (PySem.W.clsIn K C).isSome = true from h1, h2]
    rfl
  show (if ((PySem.W.clsIn K C).isSome && PySem.W.typeIn K (.ref C) == some (.type "type")) = true then _ else _) = _
  rw [if_pos e]
  exact h
end PF

namespace PF
open PySem PySem.Spec L2
def SqK (k : Bool) (h : Heap) (l : Addr) (xs : Array Value) : Prop := if k = true then h.IsTuple l xs else h.IsList l xs
def ItK (k : Bool) (h : Heap) (it l : Addr) (i : Nat) : Prop := if k = true then h.IsTupleIter it l i else h.IsListIter it l i
def itO (k : Bool) (l : Addr) : Obj := { cls := .type (if k = true then "tuple_iterator" else "list_iterator"), data := .fields #[.ref l, .int 0 0] }
/-- by the abstract heap -/
def SqV (K : PySem.W.Frag) (k : Bool) (H : Hp) (a : Addr) (xs : List V) : Prop := if k = true then SqT K H a xs else SqL K H a xs
theorem sqV_at {X : Cx} {pins : List (Addr × Obj)} {σ : L2.St} {H : Hp} {s : Shared} {k : Bool} {a : Addr} {xs : List V} (I : Inv X pins σ H s) (q : SqV X.K k H a xs) : ∃ its : List Value, Vals xs its ∧ SqK k s.heap a its.toArray := by
  cases k with
  | true => obtain ⟨its, r, p, _⟩ := I.tuple q; exact ⟨its, r, p⟩
  | false => obtain ⟨its, r, p, _⟩ := I.list q; exact ⟨its, r, p.isList⟩
theorem sqV_inj {X : Cx} {pins : List (Addr × Obj)} {σ : L2.St} {H : Hp} {s : Shared} {k : Bool} {a : Addr} {xs ys : List V} (I : Inv X pins σ H s) (q : SqV X.K k H a xs) (q2 : SqV X.K k H a ys) : xs = ys := by
  cases k with
  | true => exact I.tuple_inj q q2
  | false => exact I.list_inj q q2
theorem refs2 {a b : Addr} {us : List Value} (r : Vals [V.ref a, V.ref b] us) : us = [.ref a, .ref b] := by
  obtain ⟨u, v, rfl, r1, r2⟩ := Vals.two r
  cases r1; cases r2; rfl
theorem refs3 {a b c : Addr} {us : List Value} (r : Vals [V.ref a, V.ref b, V.ref c] us) : us = [.ref a, .ref b, .ref c] := by
  cases r with
  | cons r1 r => cases r with
    | cons r2 r => cases r with
      | cons r3 r => cases r; cases r1; cases r2; cases r3; rfl
theorem tc_zip2 (a b : Value) : checkTypeCall "zip" ⟨[a, b], []⟩ = pure () := F.typeCall_zip_2 a b
theorem nc_zip2 (a b : Value) : checkBuiltinCall "zip.__new__" ⟨[.type "zip", a, b], []⟩ = pure () := F.newCall_zip_2 a b
theorem ai_zip2 (o a b : Value) : argsOk "object.__init__" ⟨[o, a, b], []⟩ := F.args_object_init_3 o a b
theorem tc_zip3 (a b c : Value) : checkTypeCall "zip" ⟨[a, b, c], []⟩ = pure () := by kernel_rfl
theorem nc_zip3 (a b c : Value) : checkBuiltinCall "zip.__new__" ⟨[.type "zip", a, b, c], []⟩ = pure () := by kernel_rfl
theorem ai_zip3 (o a b c : Value) : argsOk "object.__init__" ⟨[o, a, b, c], []⟩ := by
  unfold argsOk
  rw [signature?_of (id := "object.__init__") (n := ['_', '_', 't', 'i', 'n', 'i', '_', '_']) (o := ['t', 'c', 'e', 'j', 'b', 'o']) (by kernel_rfl) F.owner_object]
  kernel_rfl
theorem neA {a b : Nat} (h : a < b ∨ b < a) : a ≠ b := by omega
theorem SqK.at {k : Bool} {h h' : Heap} {l : Addr} {xs : Array Value} (q : SqK k h l xs) (e : ∀ o, h.get? l = some o → h'.get? l = some o) : SqK k h' l xs := by
  cases k with
  | true => exact Heap.IsTuple.at q e
  | false => exact Heap.IsList.at q e
theorem ItK.at {k : Bool} {h h' : Heap} {it l : Addr} {i : Nat} (q : ItK k h it l i) (e : ∀ o, h.get? it = some o → h'.get? it = some o) : ItK k h' it l i := by
  cases k with
  | true => exact Heap.IsTupleIter.at q e
  | false => exact Heap.IsListIter.at q e
section
variable {prog : Program} {w : World} {A : Around} {E : Value → Shared → Prop} {s : Shared} {k : Bool} {it l : Addr} {i : Nat} {xs : Array Value}
theorem iterK {Q : Value → Shared → Prop} (hl : SqK k s.heap l xs) (hQ : Q (.ref s.heap.objs.size) { s with heap := s.heap.push (itO k l) }) : wpAny (model prog w) A (pyIter (.ref l)) Q E s := by
  cases k with
  | true => exact wpAny_pyIter_tuple hl hQ
  | false => exact wpAny_pyIter_list hl hQ
theorem itK_new {h : Heap} {a : Addr} (e : h.get? a = some (itO k l)) : ItK k h a l 0 := by
  cases k with
  | true => exact ⟨_, e, rfl, rfl⟩
  | false => exact ⟨_, e, rfl, rfl⟩
theorem itK_obj {h : Heap} {a : Addr} (q : ItK k h a l i) : ∃ o, h.get? a = some o ∧ ∀ v, o.data ≠ .cell v := by
  cases k with
  | true => obtain ⟨o, e, _, d⟩ := q; exact ⟨o, e, fun v z => by rw [d] at z; cases z⟩
  | false => obtain ⟨o, e, _, d⟩ := q; exact ⟨o, e, fun v z => by rw [d] at z; cases z⟩
theorem itK_lt {h : Heap} {a : Addr} (q : ItK k h a l i) : a < h.objs.size := by
  cases k with
  | true => obtain ⟨o, e, _⟩ := q; exact Heap.lt_size e
  | false => obtain ⟨o, e, _⟩ := q; exact Heap.lt_size e
theorem sqK_lt {h : Heap} (q : SqK k h l xs) : l < h.objs.size := by
  cases k with
  | true => obtain ⟨o, e, _⟩ := q; exact Heap.lt_size e
  | false => obtain ⟨o, e, _⟩ := q; exact Heap.lt_size e
theorem nextK_item {x : Value} {Q : Value → Shared → Prop} (h1 : ItK k s.heap it l i) (h2 : SqK k s.heap l xs) (hx : xs[i]? = some x)
    (hQ : ∀ h', ItK k h' it l (i + 1) → Heap.SameBut it s.heap h' → Q x { s with heap := h' }) : wpAny (model prog w) A (Builtin.SmallTypes.nextOf (.ref it)) Q E s := by
  cases k with
  | true => exact RZ.nextOf_tuple_item h1 h2 hx hQ
  | false => exact wpAny_nextOf_list_item h1 h2 hx hQ
theorem nextK_end {Q : Value → Shared → Prop} (hh : A.handled = none) (h1 : ItK k s.heap it l i) (h2 : SqK k s.heap l xs) (hx : xs[i]? = none)
    (hE : ∀ h' e, Heap.ExtBut it s.heap h' → (∃ o, h'.get? e = some o ∧ o.cls = .type "StopIteration") → E (.ref e) { s with heap := h' }) : wpAny (model prog w) A (Builtin.SmallTypes.nextOf (.ref it)) Q E s := by
  cases k with
  | true => exact RZ.nextOf_tuple_end hh h1 h2 hx hE
  | false => exact wpAny_nextOf_list_end hh h1 h2 hx hE
end
/-- the tuple at T holds these -/
abbrev IsT2 (h : Heap) (T : Addr) (a1 a2 : Value) : Prop := h.get? T = some { cls := .type "tuple", data := .seq #[a1, a2] }
structure Ap2 (z TI TO i1 i2 l1 l2 : Addr) : Prop where
  n_TI_z : TI ≠ z
  n_TO_z : TO ≠ z
  n_TO_TI : TO ≠ TI
  n_i1_z : i1 ≠ z
  n_i1_TI : i1 ≠ TI
  n_i1_TO : i1 ≠ TO
  n_i2_z : i2 ≠ z
  n_i2_TI : i2 ≠ TI
  n_i2_TO : i2 ≠ TO
  n_i2_i1 : i2 ≠ i1
  n_l1_z : l1 ≠ z
  n_l1_TO : l1 ≠ TO
  n_l1_i1 : l1 ≠ i1
  n_l1_i2 : l1 ≠ i2
  n_l2_z : l2 ≠ z
  n_l2_TO : l2 ≠ TO
  n_l2_i1 : l2 ≠ i1
  n_l2_i2 : l2 ≠ i2
theorem upd_t2 {prog : Program} {w : World} {A : Around} {E : Value → Shared → Prop} {s : Shared} {T : Addr} {a1 a2 x : Value} {k : Nat} {Q : Unit → Shared → Prop} (hT : IsT2 s.heap T a1 a2)
    (h : ∀ h', h'.get? T = some { cls := .type "tuple", data := .seq ((#[a1, a2] : Array Value).setIfInBounds k x) } → Heap.SameBut T s.heap h' → Q () { s with heap := h' }) : wpAny (model prog w) A (updateSeq T (·.setIfInBounds k x)) Q E s := by
  refine wpAny_updateSeq hT rfl (h _ ?_ (Heap.SameBut.update ..))
  rw [Heap.get?_update_self _ hT rfl]
  simp [Obj.mapSeq]
section
variable {prog : Program} {w : World} {A : Around} {E : Value → Shared → Prop} {s : Shared}

theorem z2_item {z TI TO i1 i2 l1 l2 : Addr} {m : Nat} {k1 k2 : Bool} {xs1 xs2 : Array Value} {a1 a2 : Value} {x1 x2 : Value} {Q : Value → Shared → Prop} (D : Ap2 z TI TO i1 i2 l1 l2)
    (hz : IsZip s.heap z TI TO .none) (hTI : IsT2 s.heap TI (.ref i1) (.ref i2)) (hTO : IsT2 s.heap TO a1 a2)
    (h1 : ItK k1 s.heap i1 l1 m) (h2 : ItK k2 s.heap i2 l2 m) (q1 : SqK k1 s.heap l1 xs1) (q2 : SqK k2 s.heap l2 xs2) (e1 : xs1[m]? = some x1) (e2 : xs2[m]? = some x2)
    (hQ : ∀ h', IsZip h' z TI TO (rawInt s.heap.objs.size) → IsT2 h' TO x1 x2 → ItK k1 h' i1 l1 (m + 1) → ItK k2 h' i2 l2 (m + 1) → IsT2 h' s.heap.objs.size x1 x2 → h'.objs.size = s.heap.objs.size + 1 →
      (∀ c o, c ≠ z → c ≠ TO → c ≠ i1 → c ≠ i2 → s.heap.get? c = some o → h'.get? c = some o) → Q (.ref s.heap.objs.size) { s with heap := h' }) :
    wpAny (model prog w) A (Builtin.«zip.__next__» ⟨[.ref z], []⟩) (fun fin s' => ∃ v, fin = .done (.ret v) ∧ Q v s') E s := by
  show wpAny _ _ (field (.ref z) 2 >>= _) _ _ _
  refine wpAny_bind (wpAny_field hz rfl (x := .bool false) rfl ?_)
  show wpAny _ _ (field (.ref z) 3 >>= _) _ _ _
  refine wpAny_bind (wpAny_field hz rfl (x := .ref TI) rfl ?_)
  refine wpAny_bind (wpAny_seqItems hTI rfl ?_)
  show wpAny _ _ (Builtin.SmallTypes.ownedTupleIsFree (.ref z) >>= _) _ _ _
  refine wpAny_bind ?_
  unfold Builtin.SmallTypes.ownedTupleIsFree
  refine wpAny_bind (wpAny_field hz rfl (x := .none) rfl (wpAny_pure ?_))
  simp only [if_true]
  refine wpAny_bind (wpAny_rule ?_)
  refine wpAny_bind (wpAny_field hz rfl (x := .ref TO) rfl ?_)
  refine wpAny_bind (wpAny_setField_rec hz (by simp) fun g0 y0 t0 => ?_)
  replace y0 : IsZip g0 z TI TO .ellipsis := y0
  refine wpAny_bind ?_
  simp only [List.zipIdx_cons, List.zipIdx_nil, List.forIn_cons, List.forIn_nil]
  have up0 : ∀ c o, c ≠ z → s.heap.get? c = some o → g0.get? c = some o := fun c o r e => t0.extBut c o r e
  have T0 : IsT2 g0 TO a1 a2 := up0 _ _ D.n_TO_z hTO
  refine wpAny_bind (wpAny_bind (wpAny_onRaise ?_))
  show wpAny _ _ (Builtin.SmallTypes.nextOf (.ref i1) >>= _) _ _ _
  refine wpAny_bind (nextK_item (h1.at fun o e => up0 _ o D.n_i1_z e) (q1.at fun o e => up0 _ o D.n_l1_z e) e1 fun p1 h1a s1a => wpAny_pure ?_)
  have T1a : IsT2 p1 TO a1 a2 := s1a.extBut _ _ D.n_i1_TO.symm T0
  refine wpAny_bind (wpAny_seqItems T1a rfl ?_)
  refine wpAny_bind (upd_t2 T1a fun g1 T1 s1b => ?_)
  replace T1 : IsT2 g1 TO x1 a2 := T1
  refine wpAny_bind (wpAny_letGo (wpAny_pure ?_))
  have up1 : ∀ c o, c ≠ z → c ≠ i1 → c ≠ TO → s.heap.get? c = some o → g1.get? c = some o := fun c o r_z r_i1 r_TO e => s1b.extBut c o r_TO (s1a.extBut c o r_i1 (up0 c o r_z e))
  have z1 : IsZip g1 z TI TO .ellipsis := s1b.extBut _ _ D.n_TO_z.symm (s1a.extBut _ _ D.n_i1_z.symm y0)
  have sz1 : g1.objs.size = s.heap.objs.size := by rw [s1b.1, s1a.1, t0.1]
  have v1_1 : ItK k1 g1 i1 l1 (m + 1) := h1a.at fun o e => s1b.extBut _ o D.n_i1_TO e
  refine wpAny_bind (wpAny_bind (wpAny_onRaise ?_))
  show wpAny _ _ (Builtin.SmallTypes.nextOf (.ref i2) >>= _) _ _ _
  refine wpAny_bind (nextK_item (h2.at fun o e => up1 _ o D.n_i2_z D.n_i2_i1 D.n_i2_TO e) (q2.at fun o e => up1 _ o D.n_l2_z D.n_l2_i1 D.n_l2_TO e) e2 fun p2 h2a s2a => wpAny_pure ?_)
  have T2a : IsT2 p2 TO x1 a2 := s2a.extBut _ _ D.n_i2_TO.symm T1
  refine wpAny_bind (wpAny_seqItems T2a rfl ?_)
  refine wpAny_bind (upd_t2 T2a fun g2 T2 s2b => ?_)
  replace T2 : IsT2 g2 TO x1 x2 := T2
  refine wpAny_bind (wpAny_letGo (wpAny_pure (wpAny_pure ?_)))
  have up2 : ∀ c o, c ≠ z → c ≠ i1 → c ≠ TO → c ≠ i2 → s.heap.get? c = some o → g2.get? c = some o := fun c o r_z r_i1 r_TO r_i2 e => s2b.extBut c o r_TO (s2a.extBut c o r_i2 (up1 c o r_z r_i1 r_TO e))
  have z2 : IsZip g2 z TI TO .ellipsis := s2b.extBut _ _ D.n_TO_z.symm (s2a.extBut _ _ D.n_i2_z.symm z1)
  have sz2 : g2.objs.size = s.heap.objs.size := by rw [s2b.1, s2a.1, sz1]
  have v1_2 : ItK k1 g2 i1 l1 (m + 1) := v1_1.at fun o e => s2b.extBut _ o D.n_i1_TO (s2a.extBut _ o D.n_i2_i1.symm e)
  have v2_2 : ItK k2 g2 i2 l2 (m + 1) := h2a.at fun o e => s2b.extBut _ o D.n_i2_TO e
  refine wpAny_bind (wpAny_seqItems T2 rfl ?_)
  refine wpAny_bind (wpAny_newTuple ?_)
  have zl : z < g2.objs.size := Heap.lt_size z2
  have tl : TO < g2.objs.size := Heap.lt_size T2
  show wpAny _ _ (Builtin.SmallTypes.ownedTupleHandOut (.ref z) (.ref g2.objs.size) >>= _) _ _ _
  refine wpAny_bind ?_
  unfold Builtin.SmallTypes.ownedTupleHandOut
  have zp : IsZip (g2.push { cls := .type "tuple", data := .seq #[x1, x2] }) z TI TO .ellipsis := Heap.get?_push_of_some _ z2
  refine wpAny_bind (wpAny_setField_rec zp (by simp) fun ga za sa => ?_)
  replace za : IsZip ga z TI TO (rawInt g2.objs.size) := za
  refine wpAny_setField_rec za (by simp) fun gb zb sb => ?_
  replace zb : IsZip gb z TI TO (rawInt g2.objs.size) := zb
  have up : ∀ c o, c ≠ z → g2.get? c = some o → gb.get? c = some o := fun c o r e => sb.extBut c o r (sa.extBut c o r (Heap.get?_push_of_some _ e))
  have new : IsT2 gb g2.objs.size x1 x2 := sb.extBut _ _ (Nat.ne_of_gt zl) (sa.extBut _ _ (Nat.ne_of_gt zl) (Heap.get?_push_size _ rfl))
  have size : gb.objs.size = g2.objs.size + 1 := by rw [sb.1, sa.1, Heap.size_push]
  rw [sz2] at zb new size
  refine wpAny_pure ⟨_, rfl, ?_⟩
  show Q (.ref g2.objs.size) _
  rw [sz2]
  exact hQ gb zb (up _ _ D.n_TO_z T2) (v1_2.at fun o e => up _ o D.n_i1_z e) (v2_2.at fun o e => up _ o D.n_i2_z e) new size fun c o r_z r_TO r_i1 r_i2 e => up c o r_z (up2 c o r_z r_i1 r_TO r_i2 e)
theorem z2_end {z TI TO i1 i2 l1 l2 : Addr} {m : Nat} {k1 k2 : Bool} {xs1 xs2 : Array Value} {a1 a2 : Value} {Q : PySem.Fin → Shared → Prop} (hh : A.handled = none) (D : Ap2 z TI TO i1 i2 l1 l2)
    (hz : IsZip s.heap z TI TO .none) (hTI : IsT2 s.heap TI (.ref i1) (.ref i2)) (hTO : IsT2 s.heap TO a1 a2)
    (h1 : ItK k1 s.heap i1 l1 m) (h2 : ItK k2 s.heap i2 l2 m) (q1 : SqK k1 s.heap l1 xs1) (q2 : SqK k2 s.heap l2 xs2) (stop : xs1[m]? = none ∨ xs2[m]? = none)
    (hE : ∀ h' e, (∀ c o, c ≠ z → c ≠ TO → c ≠ i1 → c ≠ i2 → s.heap.get? c = some o → h'.get? c = some o) → (∃ o, h'.get? e = some o ∧ o.cls = .type "StopIteration") → E (.ref e) { s with heap := h' }) :
    wpAny (model prog w) A (Builtin.«zip.__next__» ⟨[.ref z], []⟩) Q E s := by
  show wpAny _ _ (field (.ref z) 2 >>= _) _ _ _
  refine wpAny_bind (wpAny_field hz rfl (x := .bool false) rfl ?_)
  show wpAny _ _ (field (.ref z) 3 >>= _) _ _ _
  refine wpAny_bind (wpAny_field hz rfl (x := .ref TI) rfl ?_)
  refine wpAny_bind (wpAny_seqItems hTI rfl ?_)
  show wpAny _ _ (Builtin.SmallTypes.ownedTupleIsFree (.ref z) >>= _) _ _ _
  refine wpAny_bind ?_
  unfold Builtin.SmallTypes.ownedTupleIsFree
  refine wpAny_bind (wpAny_field hz rfl (x := .none) rfl (wpAny_pure ?_))
  simp only [if_true]
  refine wpAny_bind (wpAny_rule ?_)
  refine wpAny_bind (wpAny_field hz rfl (x := .ref TO) rfl ?_)
  refine wpAny_bind (wpAny_setField_rec hz (by simp) fun g0 y0 t0 => ?_)
  replace y0 : IsZip g0 z TI TO .ellipsis := y0
  refine wpAny_bind ?_
  simp only [List.zipIdx_cons, List.zipIdx_nil, List.forIn_cons, List.forIn_nil]
  have up0 : ∀ c o, c ≠ z → s.heap.get? c = some o → g0.get? c = some o := fun c o r e => t0.extBut c o r e
  have T0 : IsT2 g0 TO a1 a2 := up0 _ _ D.n_TO_z hTO
  have fin : ∀ (g g1 : Heap) (e : Addr) (k : Addr), IsZip g z TI TO .ellipsis → k ≠ z → (∀ c o, c ≠ z → c ≠ TO → c ≠ i1 → c ≠ i2 → s.heap.get? c = some o → g.get? c = some o) → (∀ c o, c ≠ k → g.get? c = some o → g1.get? c = some o) → k ∈ [i1, i2] →
      (∃ o, g1.get? e = some o ∧ o.cls = .type "StopIteration") → wpAny (model prog w) A (setField (.ref z) 0 .none) (fun _ s' => E (.ref e) s') E { s with heap := g1 } := fun g g1 e k zg kz upg st hk he => by
    obtain ⟨oe, hoe, hce⟩ := he
    have z1 : IsZip g1 z TI TO .ellipsis := st _ _ kz.symm zg
    have ez : e ≠ z := fun r => by subst r; rw [z1] at hoe; cases hoe; simp at hce
    refine wpAny_setField_rec (s := { s with heap := g1 }) z1 (by simp) fun g2 _ s2 => hE g2 e (fun c o r_z r_TO r_i1 r_i2 x => s2.extBut c o r_z (st c o (fun r => ?_) (upg c o r_z r_TO r_i1 r_i2 x))) ⟨oe, s2.extBut _ _ ez hoe, hce⟩
    subst r
    simp at hk
    rcases hk with r | r
    · exact r_i1 r
    · exact r_i2 r
  refine wpAny_bind (wpAny_bind (wpAny_onRaise ?_))
  show wpAny _ _ (Builtin.SmallTypes.nextOf (.ref i1) >>= _) _ _ _
  have it1 : ItK k1 g0 i1 l1 m := h1.at fun o e => up0 _ o D.n_i1_z e
  have sq1 : SqK k1 g0 l1 xs1 := q1.at fun o e => up0 _ o D.n_l1_z e
  cases e1 : xs1[m]? with
  | none => exact wpAny_bind (nextK_end hh it1 sq1 e1 fun g e st he => fin g0 g e i1 y0 D.n_i1_z (fun c o r_z r_TO r_i1 r_i2 e => up0 c o r_z e) (fun c o r x => st c o r x) (by simp) he)
  | some x1 =>
  replace stop : xs2[m]? = none := by
    rcases stop with r | r
    · rw [e1] at r; cases r
    · exact r
  refine wpAny_bind (nextK_item it1 sq1 e1 fun p1 h1a s1a => wpAny_pure ?_)
  have T1a : IsT2 p1 TO a1 a2 := s1a.extBut _ _ D.n_i1_TO.symm T0
  refine wpAny_bind (wpAny_seqItems T1a rfl ?_)
  refine wpAny_bind (upd_t2 T1a fun g1 T1 s1b => ?_)
  replace T1 : IsT2 g1 TO x1 a2 := T1
  refine wpAny_bind (wpAny_letGo (wpAny_pure ?_))
  have up1 : ∀ c o, c ≠ z → c ≠ i1 → c ≠ TO → s.heap.get? c = some o → g1.get? c = some o := fun c o r_z r_i1 r_TO e => s1b.extBut c o r_TO (s1a.extBut c o r_i1 (up0 c o r_z e))
  have z1 : IsZip g1 z TI TO .ellipsis := s1b.extBut _ _ D.n_TO_z.symm (s1a.extBut _ _ D.n_i1_z.symm y0)
  refine wpAny_bind (wpAny_bind (wpAny_onRaise ?_))
  show wpAny _ _ (Builtin.SmallTypes.nextOf (.ref i2) >>= _) _ _ _
  have it2 : ItK k2 g1 i2 l2 m := h2.at fun o e => up1 _ o D.n_i2_z D.n_i2_i1 D.n_i2_TO e
  have sq2 : SqK k2 g1 l2 xs2 := q2.at fun o e => up1 _ o D.n_l2_z D.n_l2_i1 D.n_l2_TO e
  exact wpAny_bind (nextK_end hh it2 sq2 stop fun g e st he => fin g1 g e i2 z1 D.n_i2_z (fun c o r_z r_TO r_i1 r_i2 e => up1 c o r_z r_i1 r_TO e) (fun c o r x => st c o r x) (by simp) he)
theorem z2_next {z TI TO i1 i2 l1 l2 : Addr} {m : Nat} {k1 k2 : Bool} {xs1 xs2 : Array Value} {a1 a2 : Value} {x1 x2 : Value} {Q : Option Value → Shared → Prop} (D : Ap2 z TI TO i1 i2 l1 l2)
    (hz : IsZip s.heap z TI TO .none) (hTI : IsT2 s.heap TI (.ref i1) (.ref i2)) (hTO : IsT2 s.heap TO a1 a2)
    (h1 : ItK k1 s.heap i1 l1 m) (h2 : ItK k2 s.heap i2 l2 m) (q1 : SqK k1 s.heap l1 xs1) (q2 : SqK k2 s.heap l2 xs2) (e1 : xs1[m]? = some x1) (e2 : xs2[m]? = some x2)
    (hQ : ∀ h', IsZip h' z TI TO (rawInt s.heap.objs.size) → IsT2 h' TO x1 x2 → ItK k1 h' i1 l1 (m + 1) → ItK k2 h' i2 l2 (m + 1) → IsT2 h' s.heap.objs.size x1 x2 → h'.objs.size = s.heap.objs.size + 1 →
      (∀ c o, c ≠ z → c ≠ TO → c ≠ i1 → c ≠ i2 → s.heap.get? c = some o → h'.get? c = some o) → Q (some (.ref s.heap.objs.size)) { s with heap := h' }) : wpAny (model prog w) A (pyNext (.ref z)) Q E s := by
  have ty : s.TypeIs (.ref z) "zip" := ⟨_, hz, rfl⟩
  unfold pyNext
  exact wpAny_bind (wpAny_attempt (wpAny_callSpecial?_slot (name := Str.ofString "__next__") ty F.slot_zip_next (wpAny_call_entry F.slot_zip_next ty F.entry_zip_next
    (z2_item D hz hTI hTO h1 h2 q1 q2 e1 e2 fun h' u0 u1 u2 u3 u4 u5 u6 => wpAny_pure (hQ h' u0 u1 u2 u3 u4 u5 u6)) (F.args_zip_next_1 _))))
theorem z2_stop {z TI TO i1 i2 l1 l2 : Addr} {m : Nat} {k1 k2 : Bool} {xs1 xs2 : Array Value} {a1 a2 : Value} {Q : Option Value → Shared → Prop} (hh : A.handled = none) (D : Ap2 z TI TO i1 i2 l1 l2)
    (hz : IsZip s.heap z TI TO .none) (hTI : IsT2 s.heap TI (.ref i1) (.ref i2)) (hTO : IsT2 s.heap TO a1 a2)
    (h1 : ItK k1 s.heap i1 l1 m) (h2 : ItK k2 s.heap i2 l2 m) (q1 : SqK k1 s.heap l1 xs1) (q2 : SqK k2 s.heap l2 xs2) (stop : xs1[m]? = none ∨ xs2[m]? = none)
    (hQ : ∀ h', (∀ c o, c ≠ z → c ≠ TO → c ≠ i1 → c ≠ i2 → s.heap.get? c = some o → h'.get? c = some o) → Q none { s with heap := h' }) : wpAny (model prog w) A (pyNext (.ref z)) Q E s := by
  have ty : s.TypeIs (.ref z) "zip" := ⟨_, hz, rfl⟩
  unfold pyNext
  refine wpAny_bind (wpAny_attempt (wpAny_callSpecial?_slot (name := Str.ofString "__next__") ty F.slot_zip_next (wpAny_call_entry F.slot_zip_next ty F.entry_zip_next (z2_end hh D hz hTI hTO h1 h2 q1 q2 stop fun h' e hk he => ?_) (F.args_zip_next_1 _))))
  obtain ⟨o, ho, hc⟩ := he
  exact wpAny_bind (wpAny_isInstance (T := "StopIteration") (b := true) ⟨o, ho, hc⟩ isSubtype_stop (wpAny_pure (hQ _ hk)))
end
theorem z2_new {k1 k2 : Bool} (l1 l2 : Addr) (xs1 xs2 : Array Value) :
    Meets (Builtin.«zip.__new__» ⟨[.type "zip", .ref l1, .ref l2], []⟩) (fun _ R s => SqK k1 s.heap l1 xs1 ∧ SqK k2 s.heap l2 xs2 ∧
      R (.ok (.ret (.ref ((((s.heap.push (itO k1 l1)).push (itO k2 l2)).push { cls := .type "tuple", data := .seq #[.ref s.heap.objs.size, .ref (s.heap.push (itO k1 l1)).objs.size] }).push { cls := .type "tuple", data := .seq #[.none, .none] }).objs.size))) { s with heap := (((((s.heap.push (itO k1 l1)).push (itO k2 l2)).push { cls := .type "tuple", data := .seq #[.ref s.heap.objs.size, .ref (s.heap.push (itO k1 l1)).objs.size] }).push { cls := .type "tuple", data := .seq #[.none, .none] }).push { cls := .type "zip", data := .fields #[.none, .bool false, .bool false, .ref ((s.heap.push (itO k1 l1)).push (itO k2 l2)).objs.size, .ref (((s.heap.push (itO k1 l1)).push (itO k2 l2)).push { cls := .type "tuple", data := .seq #[.ref s.heap.objs.size, .ref (s.heap.push (itO k1 l1)).objs.size] }).objs.size] }) }) :=
  .of_wp fun prog w A R s h => by
    obtain ⟨hp, g, d, tk, os⟩ := s; obtain ⟨q1, q2, h⟩ := h
    have hsub := sub_zip
    have L1 : SqK k1 (Shared.heap ⟨hp, g, d, tk, os⟩) l1 xs1 := q1
    have L2 : SqK k2 (Shared.heap ⟨(hp.push (itO k1 l1)), g, d, tk, os⟩) l2 xs2 := q2.at fun o e => Heap.get?_push_of_some _ e
    wp_walk using iterK L1, iterK L2
    exact ⟨_, rfl, h⟩
theorem z2_call {prog : Program} {w : World} {A : Around} {E : Value → Shared → Prop} {s : Shared} {k1 k2 : Bool} {l1 l2 : Addr} {xs1 xs2 : Array Value} {Q : Value → Shared → Prop} (q1 : SqK k1 s.heap l1 xs1) (q2 : SqK k2 s.heap l2 xs2)
    (h : ∀ h', IsZip h' (s.heap.objs.size + 4) (s.heap.objs.size + 2) (s.heap.objs.size + 3) .none → IsT2 h' (s.heap.objs.size + 2) (.ref (s.heap.objs.size)) (.ref (s.heap.objs.size + 1)) → IsT2 h' (s.heap.objs.size + 3) .none .none → ItK k1 h' (s.heap.objs.size) l1 0 → ItK k2 h' (s.heap.objs.size + 1) l2 0 →
      (∀ c o, s.heap.get? c = some o → h'.get? c = some o) → Q (.ref (s.heap.objs.size + 4)) { s with heap := h' }) : wpAny (model prog w) A (call (.type "zip") [.ref l1, .ref l2]) Q E s := by
  refine callType_new F.called_zip (by decide) (tc_zip2 _ _) (nc_zip2 _ _) (fun obj => ai_zip2 obj _ _) F.entry_zip_new (z2_new (k1 := k1) l1 l2 xs1 xs2) ⟨q1, q2, ?_⟩
  have y1 : (s.heap.push (itO k1 l1)).objs.size = s.heap.objs.size + 1 := by rw [Heap.size_push]
  have y2 : ((s.heap.push (itO k1 l1)).push (itO k2 l2)).objs.size = s.heap.objs.size + 2 := by rw [Heap.size_push, y1]
  have y3 : (((s.heap.push (itO k1 l1)).push (itO k2 l2)).push { cls := .type "tuple", data := .seq #[.ref s.heap.objs.size, .ref (s.heap.push (itO k1 l1)).objs.size] }).objs.size = s.heap.objs.size + 3 := by rw [Heap.size_push, y2]
  have y4 : ((((s.heap.push (itO k1 l1)).push (itO k2 l2)).push { cls := .type "tuple", data := .seq #[.ref s.heap.objs.size, .ref (s.heap.push (itO k1 l1)).objs.size] }).push { cls := .type "tuple", data := .seq #[.none, .none] }).objs.size = s.heap.objs.size + 4 := by rw [Heap.size_push, y3]
  have y5 : (((((s.heap.push (itO k1 l1)).push (itO k2 l2)).push { cls := .type "tuple", data := .seq #[.ref s.heap.objs.size, .ref (s.heap.push (itO k1 l1)).objs.size] }).push { cls := .type "tuple", data := .seq #[.none, .none] }).push { cls := .type "zip", data := .fields #[.none, .bool false, .bool false, .ref ((s.heap.push (itO k1 l1)).push (itO k2 l2)).objs.size, .ref (((s.heap.push (itO k1 l1)).push (itO k2 l2)).push { cls := .type "tuple", data := .seq #[.ref s.heap.objs.size, .ref (s.heap.push (itO k1 l1)).objs.size] }).objs.size] }).objs.size = s.heap.objs.size + 5 := by rw [Heap.size_push, y4]
  obtain ⟨hf, hfd⟩ : ∃ hf, hf = (((((s.heap.push (itO k1 l1)).push (itO k2 l2)).push { cls := .type "tuple", data := .seq #[.ref s.heap.objs.size, .ref (s.heap.push (itO k1 l1)).objs.size] }).push { cls := .type "tuple", data := .seq #[.none, .none] }).push { cls := .type "zip", data := .fields #[.none, .bool false, .bool false, .ref ((s.heap.push (itO k1 l1)).push (itO k2 l2)).objs.size, .ref (((s.heap.push (itO k1 l1)).push (itO k2 l2)).push { cls := .type "tuple", data := .seq #[.ref s.heap.objs.size, .ref (s.heap.push (itO k1 l1)).objs.size] }).objs.size] }) := ⟨_, rfl⟩
  have b1 : hf.get? (s.heap.objs.size) = some (itO k1 l1) := by
    rw [hfd]
    exact Heap.get?_push_of_some _ (Heap.get?_push_of_some _ (Heap.get?_push_of_some _ (Heap.get?_push_of_some _ (Heap.get?_push_size _ rfl))))
  have b2 : hf.get? (s.heap.objs.size + 1) = some (itO k2 l2) := by
    rw [hfd, ← y1]
    exact Heap.get?_push_of_some _ (Heap.get?_push_of_some _ (Heap.get?_push_of_some _ (Heap.get?_push_size _ rfl)))
  have b3 : hf.get? (s.heap.objs.size + 2) = some ({ cls := .type "tuple", data := .seq #[.ref (s.heap.objs.size), .ref (s.heap.objs.size + 1)] }) := by
    rw [hfd, ← y1, ← y2]
    exact Heap.get?_push_of_some _ (Heap.get?_push_of_some _ (Heap.get?_push_size _ rfl))
  have b4 : hf.get? (s.heap.objs.size + 3) = some ({ cls := .type "tuple", data := .seq #[.none, .none] }) := by
    rw [hfd, ← y3]
    exact Heap.get?_push_of_some _ (Heap.get?_push_size _ rfl)
  have b5 : hf.get? (s.heap.objs.size + 4) = some ({ cls := .type "zip", data := .fields #[.none, .bool false, .bool false, .ref (s.heap.objs.size + 2), .ref (s.heap.objs.size + 3)] }) := by
    rw [hfd, ← y2, ← y3, ← y4]
    exact Heap.get?_push_size _ rfl
  subst hfd
  show _ ∧ _
  rw [y4]
  exact ⟨⟨_, b5, rfl⟩, h _ b5 b3 b4 (itK_new b1) (itK_new b2) fun c o x => Heap.get?_push_of_some _ (Heap.get?_push_of_some _ (Heap.get?_push_of_some _ (Heap.get?_push_of_some _ (Heap.get?_push_of_some _ (x)))))⟩
def Iz2 (K : PySem.W.Frag) (k1 k2 : Bool) (l1 l2 : Addr) : It :=
  ⟨fun i H => ∃ (v1 v2 : List V) (w1 w2 : V), SqV K k1 H l1 v1 ∧ SqV K k2 H l2 v2 ∧ v1[i]? = some w1 ∧ v2[i]? = some w2,
    fun i H v H' => ∃ T w1 w2, v = .ref T ∧ H T = none ∧ H' = upd H T (.tup [w1, w2]) ∧ (∀ xs, SqV K k1 H l1 xs → xs[i]? = some w1) ∧ (∀ xs, SqV K k2 H l2 xs → xs[i]? = some w2),
    fun i H => ∃ v1 v2 : List V, SqV K k1 H l1 v1 ∧ SqV K k2 H l2 v2 ∧ (v1.length ≤ i ∨ v2.length ≤ i)⟩
theorem t2_turn {P : Program} {w : World} {K : PySem.W.Frag} {elts : List Expr} {kk : Nat} {tpos : Pos} {k1 k2 : Bool} {z TI TO i1 i2 l1 l2 : Addr} (D : Ap2 z TI TO i1 i2 l1 l2) :
    Turn P w K (.Tuple elts kk tpos) (Iz2 K k1 k2 l1 l2) [z, TI, TO, i1, i2] z (fun i h => IsZip h z TI TO .none ∧ IsT2 h TI (.ref i1) (.ref i2) ∧ (∃ a1 a2, IsT2 h TO a1 a2) ∧ ItK k1 h i1 l1 i ∧ ItK k2 h i2 l2 i) where
  mem := by simp
  obj := fun i h st c hc => by
    obtain ⟨hz, hTI, ⟨a1, a2, hTO⟩, h1, h2⟩ := st
    have hc' : c = z ∨ c = TI ∨ c = TO ∨ c = i1 ∨ c = i2 := by simpa using hc
    rcases hc' with q | q | q | q | q
    · rw [q]; exact ⟨_, hz, fun v q => nomatch q⟩
    · rw [q]; exact ⟨_, hTI, fun v q => nomatch q⟩
    · rw [q]; exact ⟨_, hTO, fun v q => nomatch q⟩
    · rw [q]; exact itK_obj h1
    · rw [q]; exact itK_obj h2
  keep := fun i h h' st k => by
    obtain ⟨hz, hTI, ⟨a1, a2, hTO⟩, h1, h2⟩ := st
    exact ⟨k z (by simp) _ hz, k TI (by simp) _ hTI, ⟨a1, a2, k TO (by simp) _ hTO⟩, h1.at fun o q => k i1 (by simp) o q, h2.at fun o q => k i2 (by simp) o q⟩
  item := by
    intro X hP hw hK hc i pins s σ H E I hf st hg
    subst hP hw hK
    obtain ⟨hz, hTI, ⟨a1, a2, hTO⟩, h1, h2⟩ := st
    obtain ⟨v1, v2, w1, w2, m1, m2, e1, e2⟩ := hg
    obtain ⟨its1, rv1, p1⟩ := sqV_at I m1
    obtain ⟨u1, hu1, ru1⟩ := rv1.get e1
    obtain ⟨its2, rv2, p2⟩ := sqV_at I m2
    obtain ⟨u2, hu2, ru2⟩ := rv2.get e2
    have hzl : z < s.heap.objs.size := Heap.lt_size hz
    refine z2_next D hz hTI hTO h1 h2 p1 p2 (x1 := u1) (x2 := u2) (by simpa using hu1) (by simpa using hu2) fun h' z' TO' n1 n2 hT hsz hk => ?_
    refine ⟨_, rfl, wpAny_letOwnedTupleGo_zip (s := { s with heap := h' }) z' fun h'' z'' sb => ?_⟩
    have hT2 : h''.get? s.heap.objs.size = some { cls := .type "tuple", data := .seq #[u1, u2] } := (sb.2 _ (Nat.ne_of_gt hzl)).trans hT
    have new : ObjOk X.prog X.w (upd H s.heap.objs.size (.tup [w1, w2])) h'' s.heap.objs.size (.tup [w1, w2]) := ⟨by show 2 ≤ sizeLine; decide, [u1, u2], (.cons ru1 (.cons ru2 .nil)), ⟨_, hT2, rfl, _, rfl⟩⟩
    have I1 : Inv X pins σ (upd H s.heap.objs.size (.tup [w1, w2])) { s with heap := h'' } :=
      I.turnedNew (t' := s.toks) (ch := [z, TI, TO, i1, i2]) (fun c o hb q => (sb.2 c (fun q' => hb (by simp [q']))).trans (hk c o (fun q' => hb (by simp [q'])) (fun q' => hb (by simp [q'])) (fun q' => hb (by simp [q'])) (fun q' => hb (by simp [q'])) q)) hf (Nat.le_refl _) new
    refine ⟨.ref s.heap.objs.size, _, I1, rfl, ⟨_, w1, w2, rfl, I.hok.fresh (Nat.le_refl _), rfl, fun l hl => by rw [sqV_inj I hl m1]; exact e1, fun l hl => by rw [sqV_inj I hl m2]; exact e2⟩, ⟨z'', ?_, ⟨u1, u2, ?_⟩, ?_, ?_⟩, fun c hcm => ?_⟩
    · exact (sb.2 _ D.n_TI_z).trans (hk _ _ D.n_TI_z D.n_TO_TI.symm D.n_i1_TI.symm D.n_i2_TI.symm hTI)
    · exact (sb.2 _ D.n_TO_z).trans TO'
    · exact n1.at fun o q => (sb.2 _ D.n_i1_z).trans q
    · exact n2.at fun o q => (sb.2 _ D.n_i2_z).trans q
    · have hlt : c < s.heap.objs.size := by
        have hc' : c = z ∨ c = TI ∨ c = TO ∨ c = i1 ∨ c = i2 := by simpa using hcm
        rcases hc' with q | q | q | q | q
        · rw [q]; exact hzl
        · rw [q]; exact Heap.lt_size hTI
        · rw [q]; exact Heap.lt_size hTO
        · rw [q]; exact itK_lt h1
        · rw [q]; exact itK_lt h2
      rw [upd_ne (Nat.ne_of_lt hlt)]
      exact (hf c hcm).1
  done := by
    intro X hP hw hK hc i pins s σ H E I hf st hg
    subst hP hw hK
    obtain ⟨hz, hTI, ⟨a1, a2, hTO⟩, h1, h2⟩ := st
    obtain ⟨v1, v2, m1, m2, stop⟩ := hg
    obtain ⟨its1, rv1, p1⟩ := sqV_at I m1
    have ln1 := rv1.length
    obtain ⟨its2, rv2, p2⟩ := sqV_at I m2
    have ln2 := rv2.length
    have he : its1.toArray[i]? = none ∨ its2.toArray[i]? = none := by
      rcases stop with q | q
      · exact .inl (by simp; omega)
      · exact .inr (by simp; omega)
    exact z2_stop (I.ok.hd hc) D hz hTI hTO h1 h2 p1 p2 he fun h' hk => ⟨rfl, I.turnedL (t' := s.toks) (ch := [z, TI, TO, i1, i2]) (fun c o hb q => hk c o (fun q' => hb (by simp [q'])) (fun q' => hb (by simp [q'])) (fun q' => hb (by simp [q'])) (fun q' => hb (by simp [q'])) q) hf⟩
  self := fun A i s Q E st h => wpAny_pyIter_zip st.1 h
theorem ap2_at (I l1 l2 : Nat) (h1 : l1 < I) (h2 : l2 < I) : Ap2 (I + 4) (I + 2) (I + 3) I (I + 1) l1 l2 := by constructor <;> (refine neA ?_; omega)
def iZip2 (K : PySem.W.Frag) (ta : TA) : TI := fun σ H R => ta σ H fun vs H1 => ∃ (l1 l2 : Addr) (v1 v2 : List V) (k1 k2 : Bool), vs = [.ref l1, .ref l2] ∧ SqV K k1 H1 l1 v1 ∧ SqV K k2 H1 l2 v2 ∧ R (Iz2 K k1 k2 l1 l2) H1
theorem pi_zipK2 {X : Cx} {ex1 ex2 : Expr} {ta : TA} {p pos tpos : Pos} {elts : List Expr} {kk : Nat} (hg : Gl X "zip") (hm : X.mg "zip" = none) (ha : PA X [ex1, ex2] ta)
    (hs : starEach [ex1, ex2] X.env = (false, eval ex1 X.env) :: starEach [ex2] X.env) (hpl : (backTo pos (starEach [ex2] X.env)).any (·.1) = false) : PI X (.Tuple elts kk tpos) (.Call (.Name "zip" p) [ex1, ex2] [] pos) (iZip2 X.K ta) := by
  refine ⟨fun pins s σ H R I h => ?_⟩
  refine PyProof.Rows.Call_ (ld_blt I hg hm PyProof.Rows.boot_zip (PyProof.Rows.callWith_type1 (thn (ha.run pos pins s σ H _ I h) fun us s1 ⟨vs, H1, I1, r1, q1⟩ => ?_) hs hpl))
  obtain ⟨l1, l2, v1, v2, k1, k2, rfl, m1, m2, q⟩ := q1
  obtain rfl : us = [.ref l1, .ref l2] := refs2 r1
  obtain ⟨its1, rv1, p1⟩ := sqV_at I1 m1
  have lt1 := sqK_lt p1
  obtain ⟨its2, rv2, p2⟩ := sqV_at I1 m2
  have lt2 := sqK_lt p2
  have fresh : ∀ c, c ∈ [s1.heap.objs.size + 4, s1.heap.objs.size + 2, s1.heap.objs.size + 3, s1.heap.objs.size, s1.heap.objs.size + 1] → FpOk X pins H1 c := fun c hcm => by
    have hc' : c = s1.heap.objs.size + 4 ∨ c = s1.heap.objs.size + 2 ∨ c = s1.heap.objs.size + 3 ∨ c = s1.heap.objs.size ∨ c = s1.heap.objs.size + 1 := by simpa using hcm
    have hle : s1.heap.objs.size ≤ c := by omega
    exact I1.fpOk hle (I1.hok.fresh hle)
  refine z2_call p1 p2 fun h' hz hTI hTO h1 h2 hk => wpAny_pyIter_zip hz ?_
  have I2 : Inv X pins σ H1 { s1 with heap := h' } := I1.kept (t' := s1.toks) hk
  exact ⟨s1.heap.objs.size + 4, [s1.heap.objs.size + 4, s1.heap.objs.size + 2, s1.heap.objs.size + 3, s1.heap.objs.size, s1.heap.objs.size + 1], _, _, H1, rfl, I2, t2_turn (ap2_at s1.heap.objs.size l1 l2 lt1 lt2), ⟨hz, hTI, ⟨_, _, hTO⟩, h1, h2⟩, fresh, q⟩
/-- the tuple at T holds these -/
abbrev IsT3 (h : Heap) (T : Addr) (a1 a2 a3 : Value) : Prop := h.get? T = some { cls := .type "tuple", data := .seq #[a1, a2, a3] }
structure Ap3 (z TI TO i1 i2 i3 l1 l2 l3 : Addr) : Prop where
  n_TI_z : TI ≠ z
  n_TO_z : TO ≠ z
  n_TO_TI : TO ≠ TI
  n_i1_z : i1 ≠ z
  n_i1_TI : i1 ≠ TI
  n_i1_TO : i1 ≠ TO
  n_i2_z : i2 ≠ z
  n_i2_TI : i2 ≠ TI
  n_i2_TO : i2 ≠ TO
  n_i2_i1 : i2 ≠ i1
  n_i3_z : i3 ≠ z
  n_i3_TI : i3 ≠ TI
  n_i3_TO : i3 ≠ TO
  n_i3_i1 : i3 ≠ i1
  n_i3_i2 : i3 ≠ i2
  n_l1_z : l1 ≠ z
  n_l1_TO : l1 ≠ TO
  n_l1_i1 : l1 ≠ i1
  n_l1_i2 : l1 ≠ i2
  n_l1_i3 : l1 ≠ i3
  n_l2_z : l2 ≠ z
  n_l2_TO : l2 ≠ TO
  n_l2_i1 : l2 ≠ i1
  n_l2_i2 : l2 ≠ i2
  n_l2_i3 : l2 ≠ i3
  n_l3_z : l3 ≠ z
  n_l3_TO : l3 ≠ TO
  n_l3_i1 : l3 ≠ i1
  n_l3_i2 : l3 ≠ i2
  n_l3_i3 : l3 ≠ i3
theorem upd_t3 {prog : Program} {w : World} {A : Around} {E : Value → Shared → Prop} {s : Shared} {T : Addr} {a1 a2 a3 x : Value} {k : Nat} {Q : Unit → Shared → Prop} (hT : IsT3 s.heap T a1 a2 a3)
    (h : ∀ h', h'.get? T = some { cls := .type "tuple", data := .seq ((#[a1, a2, a3] : Array Value).setIfInBounds k x) } → Heap.SameBut T s.heap h' → Q () { s with heap := h' }) : wpAny (model prog w) A (updateSeq T (·.setIfInBounds k x)) Q E s := by
  refine wpAny_updateSeq hT rfl (h _ ?_ (Heap.SameBut.update ..))
  rw [Heap.get?_update_self _ hT rfl]
  simp [Obj.mapSeq]
section
variable {prog : Program} {w : World} {A : Around} {E : Value → Shared → Prop} {s : Shared}

theorem z3_item {z TI TO i1 i2 i3 l1 l2 l3 : Addr} {m : Nat} {k1 k2 k3 : Bool} {xs1 xs2 xs3 : Array Value} {a1 a2 a3 : Value} {x1 x2 x3 : Value} {Q : Value → Shared → Prop} (D : Ap3 z TI TO i1 i2 i3 l1 l2 l3)
    (hz : IsZip s.heap z TI TO .none) (hTI : IsT3 s.heap TI (.ref i1) (.ref i2) (.ref i3)) (hTO : IsT3 s.heap TO a1 a2 a3)
    (h1 : ItK k1 s.heap i1 l1 m) (h2 : ItK k2 s.heap i2 l2 m) (h3 : ItK k3 s.heap i3 l3 m) (q1 : SqK k1 s.heap l1 xs1) (q2 : SqK k2 s.heap l2 xs2) (q3 : SqK k3 s.heap l3 xs3) (e1 : xs1[m]? = some x1) (e2 : xs2[m]? = some x2) (e3 : xs3[m]? = some x3)
    (hQ : ∀ h', IsZip h' z TI TO (rawInt s.heap.objs.size) → IsT3 h' TO x1 x2 x3 → ItK k1 h' i1 l1 (m + 1) → ItK k2 h' i2 l2 (m + 1) → ItK k3 h' i3 l3 (m + 1) → IsT3 h' s.heap.objs.size x1 x2 x3 → h'.objs.size = s.heap.objs.size + 1 →
      (∀ c o, c ≠ z → c ≠ TO → c ≠ i1 → c ≠ i2 → c ≠ i3 → s.heap.get? c = some o → h'.get? c = some o) → Q (.ref s.heap.objs.size) { s with heap := h' }) :
    wpAny (model prog w) A (Builtin.«zip.__next__» ⟨[.ref z], []⟩) (fun fin s' => ∃ v, fin = .done (.ret v) ∧ Q v s') E s := by
  show wpAny _ _ (field (.ref z) 2 >>= _) _ _ _
  refine wpAny_bind (wpAny_field hz rfl (x := .bool false) rfl ?_)
  show wpAny _ _ (field (.ref z) 3 >>= _) _ _ _
  refine wpAny_bind (wpAny_field hz rfl (x := .ref TI) rfl ?_)
  refine wpAny_bind (wpAny_seqItems hTI rfl ?_)
  show wpAny _ _ (Builtin.SmallTypes.ownedTupleIsFree (.ref z) >>= _) _ _ _
  refine wpAny_bind ?_
  unfold Builtin.SmallTypes.ownedTupleIsFree
  refine wpAny_bind (wpAny_field hz rfl (x := .none) rfl (wpAny_pure ?_))
  simp only [if_true]
  refine wpAny_bind (wpAny_rule ?_)
  refine wpAny_bind (wpAny_field hz rfl (x := .ref TO) rfl ?_)
  refine wpAny_bind (wpAny_setField_rec hz (by simp) fun g0 y0 t0 => ?_)
  replace y0 : IsZip g0 z TI TO .ellipsis := y0
  refine wpAny_bind ?_
  simp only [List.zipIdx_cons, List.zipIdx_nil, List.forIn_cons, List.forIn_nil]
  have up0 : ∀ c o, c ≠ z → s.heap.get? c = some o → g0.get? c = some o := fun c o r e => t0.extBut c o r e
  have T0 : IsT3 g0 TO a1 a2 a3 := up0 _ _ D.n_TO_z hTO
  refine wpAny_bind (wpAny_bind (wpAny_onRaise ?_))
  show wpAny _ _ (Builtin.SmallTypes.nextOf (.ref i1) >>= _) _ _ _
  refine wpAny_bind (nextK_item (h1.at fun o e => up0 _ o D.n_i1_z e) (q1.at fun o e => up0 _ o D.n_l1_z e) e1 fun p1 h1a s1a => wpAny_pure ?_)
  have T1a : IsT3 p1 TO a1 a2 a3 := s1a.extBut _ _ D.n_i1_TO.symm T0
  refine wpAny_bind (wpAny_seqItems T1a rfl ?_)
  refine wpAny_bind (upd_t3 T1a fun g1 T1 s1b => ?_)
  replace T1 : IsT3 g1 TO x1 a2 a3 := T1
  refine wpAny_bind (wpAny_letGo (wpAny_pure ?_))
  have up1 : ∀ c o, c ≠ z → c ≠ i1 → c ≠ TO → s.heap.get? c = some o → g1.get? c = some o := fun c o r_z r_i1 r_TO e => s1b.extBut c o r_TO (s1a.extBut c o r_i1 (up0 c o r_z e))
  have z1 : IsZip g1 z TI TO .ellipsis := s1b.extBut _ _ D.n_TO_z.symm (s1a.extBut _ _ D.n_i1_z.symm y0)
  have sz1 : g1.objs.size = s.heap.objs.size := by rw [s1b.1, s1a.1, t0.1]
  have v1_1 : ItK k1 g1 i1 l1 (m + 1) := h1a.at fun o e => s1b.extBut _ o D.n_i1_TO e
  refine wpAny_bind (wpAny_bind (wpAny_onRaise ?_))
  show wpAny _ _ (Builtin.SmallTypes.nextOf (.ref i2) >>= _) _ _ _
  refine wpAny_bind (nextK_item (h2.at fun o e => up1 _ o D.n_i2_z D.n_i2_i1 D.n_i2_TO e) (q2.at fun o e => up1 _ o D.n_l2_z D.n_l2_i1 D.n_l2_TO e) e2 fun p2 h2a s2a => wpAny_pure ?_)
  have T2a : IsT3 p2 TO x1 a2 a3 := s2a.extBut _ _ D.n_i2_TO.symm T1
  refine wpAny_bind (wpAny_seqItems T2a rfl ?_)
  refine wpAny_bind (upd_t3 T2a fun g2 T2 s2b => ?_)
  replace T2 : IsT3 g2 TO x1 x2 a3 := T2
  refine wpAny_bind (wpAny_letGo (wpAny_pure ?_))
  have up2 : ∀ c o, c ≠ z → c ≠ i1 → c ≠ TO → c ≠ i2 → s.heap.get? c = some o → g2.get? c = some o := fun c o r_z r_i1 r_TO r_i2 e => s2b.extBut c o r_TO (s2a.extBut c o r_i2 (up1 c o r_z r_i1 r_TO e))
  have z2 : IsZip g2 z TI TO .ellipsis := s2b.extBut _ _ D.n_TO_z.symm (s2a.extBut _ _ D.n_i2_z.symm z1)
  have sz2 : g2.objs.size = s.heap.objs.size := by rw [s2b.1, s2a.1, sz1]
  have v1_2 : ItK k1 g2 i1 l1 (m + 1) := v1_1.at fun o e => s2b.extBut _ o D.n_i1_TO (s2a.extBut _ o D.n_i2_i1.symm e)
  have v2_2 : ItK k2 g2 i2 l2 (m + 1) := h2a.at fun o e => s2b.extBut _ o D.n_i2_TO e
  refine wpAny_bind (wpAny_bind (wpAny_onRaise ?_))
  show wpAny _ _ (Builtin.SmallTypes.nextOf (.ref i3) >>= _) _ _ _
  refine wpAny_bind (nextK_item (h3.at fun o e => up2 _ o D.n_i3_z D.n_i3_i1 D.n_i3_TO D.n_i3_i2 e) (q3.at fun o e => up2 _ o D.n_l3_z D.n_l3_i1 D.n_l3_TO D.n_l3_i2 e) e3 fun p3 h3a s3a => wpAny_pure ?_)
  have T3a : IsT3 p3 TO x1 x2 a3 := s3a.extBut _ _ D.n_i3_TO.symm T2
  refine wpAny_bind (wpAny_seqItems T3a rfl ?_)
  refine wpAny_bind (upd_t3 T3a fun g3 T3 s3b => ?_)
  replace T3 : IsT3 g3 TO x1 x2 x3 := T3
  refine wpAny_bind (wpAny_letGo (wpAny_pure (wpAny_pure ?_)))
  have up3 : ∀ c o, c ≠ z → c ≠ i1 → c ≠ TO → c ≠ i2 → c ≠ i3 → s.heap.get? c = some o → g3.get? c = some o := fun c o r_z r_i1 r_TO r_i2 r_i3 e => s3b.extBut c o r_TO (s3a.extBut c o r_i3 (up2 c o r_z r_i1 r_TO r_i2 e))
  have z3 : IsZip g3 z TI TO .ellipsis := s3b.extBut _ _ D.n_TO_z.symm (s3a.extBut _ _ D.n_i3_z.symm z2)
  have sz3 : g3.objs.size = s.heap.objs.size := by rw [s3b.1, s3a.1, sz2]
  have v1_3 : ItK k1 g3 i1 l1 (m + 1) := v1_2.at fun o e => s3b.extBut _ o D.n_i1_TO (s3a.extBut _ o D.n_i3_i1.symm e)
  have v2_3 : ItK k2 g3 i2 l2 (m + 1) := v2_2.at fun o e => s3b.extBut _ o D.n_i2_TO (s3a.extBut _ o D.n_i3_i2.symm e)
  have v3_3 : ItK k3 g3 i3 l3 (m + 1) := h3a.at fun o e => s3b.extBut _ o D.n_i3_TO e
  refine wpAny_bind (wpAny_seqItems T3 rfl ?_)
  refine wpAny_bind (wpAny_newTuple ?_)
  have zl : z < g3.objs.size := Heap.lt_size z3
  have tl : TO < g3.objs.size := Heap.lt_size T3
  show wpAny _ _ (Builtin.SmallTypes.ownedTupleHandOut (.ref z) (.ref g3.objs.size) >>= _) _ _ _
  refine wpAny_bind ?_
  unfold Builtin.SmallTypes.ownedTupleHandOut
  have zp : IsZip (g3.push { cls := .type "tuple", data := .seq #[x1, x2, x3] }) z TI TO .ellipsis := Heap.get?_push_of_some _ z3
  refine wpAny_bind (wpAny_setField_rec zp (by simp) fun ga za sa => ?_)
  replace za : IsZip ga z TI TO (rawInt g3.objs.size) := za
  refine wpAny_setField_rec za (by simp) fun gb zb sb => ?_
  replace zb : IsZip gb z TI TO (rawInt g3.objs.size) := zb
  have up : ∀ c o, c ≠ z → g3.get? c = some o → gb.get? c = some o := fun c o r e => sb.extBut c o r (sa.extBut c o r (Heap.get?_push_of_some _ e))
  have new : IsT3 gb g3.objs.size x1 x2 x3 := sb.extBut _ _ (Nat.ne_of_gt zl) (sa.extBut _ _ (Nat.ne_of_gt zl) (Heap.get?_push_size _ rfl))
  have size : gb.objs.size = g3.objs.size + 1 := by rw [sb.1, sa.1, Heap.size_push]
  rw [sz3] at zb new size
  refine wpAny_pure ⟨_, rfl, ?_⟩
  show Q (.ref g3.objs.size) _
  rw [sz3]
  exact hQ gb zb (up _ _ D.n_TO_z T3) (v1_3.at fun o e => up _ o D.n_i1_z e) (v2_3.at fun o e => up _ o D.n_i2_z e) (v3_3.at fun o e => up _ o D.n_i3_z e) new size fun c o r_z r_TO r_i1 r_i2 r_i3 e => up c o r_z (up3 c o r_z r_i1 r_TO r_i2 r_i3 e)
theorem z3_end {z TI TO i1 i2 i3 l1 l2 l3 : Addr} {m : Nat} {k1 k2 k3 : Bool} {xs1 xs2 xs3 : Array Value} {a1 a2 a3 : Value} {Q : PySem.Fin → Shared → Prop} (hh : A.handled = none) (D : Ap3 z TI TO i1 i2 i3 l1 l2 l3)
    (hz : IsZip s.heap z TI TO .none) (hTI : IsT3 s.heap TI (.ref i1) (.ref i2) (.ref i3)) (hTO : IsT3 s.heap TO a1 a2 a3)
    (h1 : ItK k1 s.heap i1 l1 m) (h2 : ItK k2 s.heap i2 l2 m) (h3 : ItK k3 s.heap i3 l3 m) (q1 : SqK k1 s.heap l1 xs1) (q2 : SqK k2 s.heap l2 xs2) (q3 : SqK k3 s.heap l3 xs3) (stop : xs1[m]? = none ∨ xs2[m]? = none ∨ xs3[m]? = none)
    (hE : ∀ h' e, (∀ c o, c ≠ z → c ≠ TO → c ≠ i1 → c ≠ i2 → c ≠ i3 → s.heap.get? c = some o → h'.get? c = some o) → (∃ o, h'.get? e = some o ∧ o.cls = .type "StopIteration") → E (.ref e) { s with heap := h' }) :
    wpAny (model prog w) A (Builtin.«zip.__next__» ⟨[.ref z], []⟩) Q E s := by
  show wpAny _ _ (field (.ref z) 2 >>= _) _ _ _
  refine wpAny_bind (wpAny_field hz rfl (x := .bool false) rfl ?_)
  show wpAny _ _ (field (.ref z) 3 >>= _) _ _ _
  refine wpAny_bind (wpAny_field hz rfl (x := .ref TI) rfl ?_)
  refine wpAny_bind (wpAny_seqItems hTI rfl ?_)
  show wpAny _ _ (Builtin.SmallTypes.ownedTupleIsFree (.ref z) >>= _) _ _ _
  refine wpAny_bind ?_
  unfold Builtin.SmallTypes.ownedTupleIsFree
  refine wpAny_bind (wpAny_field hz rfl (x := .none) rfl (wpAny_pure ?_))
  simp only [if_true]
  refine wpAny_bind (wpAny_rule ?_)
  refine wpAny_bind (wpAny_field hz rfl (x := .ref TO) rfl ?_)
  refine wpAny_bind (wpAny_setField_rec hz (by simp) fun g0 y0 t0 => ?_)
  replace y0 : IsZip g0 z TI TO .ellipsis := y0
  refine wpAny_bind ?_
  simp only [List.zipIdx_cons, List.zipIdx_nil, List.forIn_cons, List.forIn_nil]
  have up0 : ∀ c o, c ≠ z → s.heap.get? c = some o → g0.get? c = some o := fun c o r e => t0.extBut c o r e
  have T0 : IsT3 g0 TO a1 a2 a3 := up0 _ _ D.n_TO_z hTO
  have fin : ∀ (g g1 : Heap) (e : Addr) (k : Addr), IsZip g z TI TO .ellipsis → k ≠ z → (∀ c o, c ≠ z → c ≠ TO → c ≠ i1 → c ≠ i2 → c ≠ i3 → s.heap.get? c = some o → g.get? c = some o) → (∀ c o, c ≠ k → g.get? c = some o → g1.get? c = some o) → k ∈ [i1, i2, i3] →
      (∃ o, g1.get? e = some o ∧ o.cls = .type "StopIteration") → wpAny (model prog w) A (setField (.ref z) 0 .none) (fun _ s' => E (.ref e) s') E { s with heap := g1 } := fun g g1 e k zg kz upg st hk he => by
    obtain ⟨oe, hoe, hce⟩ := he
    have z1 : IsZip g1 z TI TO .ellipsis := st _ _ kz.symm zg
    have ez : e ≠ z := fun r => by subst r; rw [z1] at hoe; cases hoe; simp at hce
    refine wpAny_setField_rec (s := { s with heap := g1 }) z1 (by simp) fun g2 _ s2 => hE g2 e (fun c o r_z r_TO r_i1 r_i2 r_i3 x => s2.extBut c o r_z (st c o (fun r => ?_) (upg c o r_z r_TO r_i1 r_i2 r_i3 x))) ⟨oe, s2.extBut _ _ ez hoe, hce⟩
    subst r
    simp at hk
    rcases hk with r | r | r
    · exact r_i1 r
    · exact r_i2 r
    · exact r_i3 r
  refine wpAny_bind (wpAny_bind (wpAny_onRaise ?_))
  show wpAny _ _ (Builtin.SmallTypes.nextOf (.ref i1) >>= _) _ _ _
  have it1 : ItK k1 g0 i1 l1 m := h1.at fun o e => up0 _ o D.n_i1_z e
  have sq1 : SqK k1 g0 l1 xs1 := q1.at fun o e => up0 _ o D.n_l1_z e
  cases e1 : xs1[m]? with
  | none => exact wpAny_bind (nextK_end hh it1 sq1 e1 fun g e st he => fin g0 g e i1 y0 D.n_i1_z (fun c o r_z r_TO r_i1 r_i2 r_i3 e => up0 c o r_z e) (fun c o r x => st c o r x) (by simp) he)
  | some x1 =>
  replace stop : xs2[m]? = none ∨ xs3[m]? = none := by
    rcases stop with r | r
    · rw [e1] at r; cases r
    · exact r
  refine wpAny_bind (nextK_item it1 sq1 e1 fun p1 h1a s1a => wpAny_pure ?_)
  have T1a : IsT3 p1 TO a1 a2 a3 := s1a.extBut _ _ D.n_i1_TO.symm T0
  refine wpAny_bind (wpAny_seqItems T1a rfl ?_)
  refine wpAny_bind (upd_t3 T1a fun g1 T1 s1b => ?_)
  replace T1 : IsT3 g1 TO x1 a2 a3 := T1
  refine wpAny_bind (wpAny_letGo (wpAny_pure ?_))
  have up1 : ∀ c o, c ≠ z → c ≠ i1 → c ≠ TO → s.heap.get? c = some o → g1.get? c = some o := fun c o r_z r_i1 r_TO e => s1b.extBut c o r_TO (s1a.extBut c o r_i1 (up0 c o r_z e))
  have z1 : IsZip g1 z TI TO .ellipsis := s1b.extBut _ _ D.n_TO_z.symm (s1a.extBut _ _ D.n_i1_z.symm y0)
  refine wpAny_bind (wpAny_bind (wpAny_onRaise ?_))
  show wpAny _ _ (Builtin.SmallTypes.nextOf (.ref i2) >>= _) _ _ _
  have it2 : ItK k2 g1 i2 l2 m := h2.at fun o e => up1 _ o D.n_i2_z D.n_i2_i1 D.n_i2_TO e
  have sq2 : SqK k2 g1 l2 xs2 := q2.at fun o e => up1 _ o D.n_l2_z D.n_l2_i1 D.n_l2_TO e
  cases e2 : xs2[m]? with
  | none => exact wpAny_bind (nextK_end hh it2 sq2 e2 fun g e st he => fin g1 g e i2 z1 D.n_i2_z (fun c o r_z r_TO r_i1 r_i2 r_i3 e => up1 c o r_z r_i1 r_TO e) (fun c o r x => st c o r x) (by simp) he)
  | some x2 =>
  replace stop : xs3[m]? = none := by
    rcases stop with r | r
    · rw [e2] at r; cases r
    · exact r
  refine wpAny_bind (nextK_item it2 sq2 e2 fun p2 h2a s2a => wpAny_pure ?_)
  have T2a : IsT3 p2 TO x1 a2 a3 := s2a.extBut _ _ D.n_i2_TO.symm T1
  refine wpAny_bind (wpAny_seqItems T2a rfl ?_)
  refine wpAny_bind (upd_t3 T2a fun g2 T2 s2b => ?_)
  replace T2 : IsT3 g2 TO x1 x2 a3 := T2
  refine wpAny_bind (wpAny_letGo (wpAny_pure ?_))
  have up2 : ∀ c o, c ≠ z → c ≠ i1 → c ≠ TO → c ≠ i2 → s.heap.get? c = some o → g2.get? c = some o := fun c o r_z r_i1 r_TO r_i2 e => s2b.extBut c o r_TO (s2a.extBut c o r_i2 (up1 c o r_z r_i1 r_TO e))
  have z2 : IsZip g2 z TI TO .ellipsis := s2b.extBut _ _ D.n_TO_z.symm (s2a.extBut _ _ D.n_i2_z.symm z1)
  refine wpAny_bind (wpAny_bind (wpAny_onRaise ?_))
  show wpAny _ _ (Builtin.SmallTypes.nextOf (.ref i3) >>= _) _ _ _
  have it3 : ItK k3 g2 i3 l3 m := h3.at fun o e => up2 _ o D.n_i3_z D.n_i3_i1 D.n_i3_TO D.n_i3_i2 e
  have sq3 : SqK k3 g2 l3 xs3 := q3.at fun o e => up2 _ o D.n_l3_z D.n_l3_i1 D.n_l3_TO D.n_l3_i2 e
  exact wpAny_bind (nextK_end hh it3 sq3 stop fun g e st he => fin g2 g e i3 z2 D.n_i3_z (fun c o r_z r_TO r_i1 r_i2 r_i3 e => up2 c o r_z r_i1 r_TO r_i2 e) (fun c o r x => st c o r x) (by simp) he)
theorem z3_next {z TI TO i1 i2 i3 l1 l2 l3 : Addr} {m : Nat} {k1 k2 k3 : Bool} {xs1 xs2 xs3 : Array Value} {a1 a2 a3 : Value} {x1 x2 x3 : Value} {Q : Option Value → Shared → Prop} (D : Ap3 z TI TO i1 i2 i3 l1 l2 l3)
    (hz : IsZip s.heap z TI TO .none) (hTI : IsT3 s.heap TI (.ref i1) (.ref i2) (.ref i3)) (hTO : IsT3 s.heap TO a1 a2 a3)
    (h1 : ItK k1 s.heap i1 l1 m) (h2 : ItK k2 s.heap i2 l2 m) (h3 : ItK k3 s.heap i3 l3 m) (q1 : SqK k1 s.heap l1 xs1) (q2 : SqK k2 s.heap l2 xs2) (q3 : SqK k3 s.heap l3 xs3) (e1 : xs1[m]? = some x1) (e2 : xs2[m]? = some x2) (e3 : xs3[m]? = some x3)
    (hQ : ∀ h', IsZip h' z TI TO (rawInt s.heap.objs.size) → IsT3 h' TO x1 x2 x3 → ItK k1 h' i1 l1 (m + 1) → ItK k2 h' i2 l2 (m + 1) → ItK k3 h' i3 l3 (m + 1) → IsT3 h' s.heap.objs.size x1 x2 x3 → h'.objs.size = s.heap.objs.size + 1 →
      (∀ c o, c ≠ z → c ≠ TO → c ≠ i1 → c ≠ i2 → c ≠ i3 → s.heap.get? c = some o → h'.get? c = some o) → Q (some (.ref s.heap.objs.size)) { s with heap := h' }) : wpAny (model prog w) A (pyNext (.ref z)) Q E s := by
  have ty : s.TypeIs (.ref z) "zip" := ⟨_, hz, rfl⟩
  unfold pyNext
  exact wpAny_bind (wpAny_attempt (wpAny_callSpecial?_slot (name := Str.ofString "__next__") ty F.slot_zip_next (wpAny_call_entry F.slot_zip_next ty F.entry_zip_next
    (z3_item D hz hTI hTO h1 h2 h3 q1 q2 q3 e1 e2 e3 fun h' u0 u1 u2 u3 u4 u5 u6 u7 => wpAny_pure (hQ h' u0 u1 u2 u3 u4 u5 u6 u7)) (F.args_zip_next_1 _))))
theorem z3_stop {z TI TO i1 i2 i3 l1 l2 l3 : Addr} {m : Nat} {k1 k2 k3 : Bool} {xs1 xs2 xs3 : Array Value} {a1 a2 a3 : Value} {Q : Option Value → Shared → Prop} (hh : A.handled = none) (D : Ap3 z TI TO i1 i2 i3 l1 l2 l3)
    (hz : IsZip s.heap z TI TO .none) (hTI : IsT3 s.heap TI (.ref i1) (.ref i2) (.ref i3)) (hTO : IsT3 s.heap TO a1 a2 a3)
    (h1 : ItK k1 s.heap i1 l1 m) (h2 : ItK k2 s.heap i2 l2 m) (h3 : ItK k3 s.heap i3 l3 m) (q1 : SqK k1 s.heap l1 xs1) (q2 : SqK k2 s.heap l2 xs2) (q3 : SqK k3 s.heap l3 xs3) (stop : xs1[m]? = none ∨ xs2[m]? = none ∨ xs3[m]? = none)
    (hQ : ∀ h', (∀ c o, c ≠ z → c ≠ TO → c ≠ i1 → c ≠ i2 → c ≠ i3 → s.heap.get? c = some o → h'.get? c = some o) → Q none { s with heap := h' }) : wpAny (model prog w) A (pyNext (.ref z)) Q E s := by
  have ty : s.TypeIs (.ref z) "zip" := ⟨_, hz, rfl⟩
  unfold pyNext
  refine wpAny_bind (wpAny_attempt (wpAny_callSpecial?_slot (name := Str.ofString "__next__") ty F.slot_zip_next (wpAny_call_entry F.slot_zip_next ty F.entry_zip_next (z3_end hh D hz hTI hTO h1 h2 h3 q1 q2 q3 stop fun h' e hk he => ?_) (F.args_zip_next_1 _))))
  obtain ⟨o, ho, hc⟩ := he
  exact wpAny_bind (wpAny_isInstance (T := "StopIteration") (b := true) ⟨o, ho, hc⟩ isSubtype_stop (wpAny_pure (hQ _ hk)))
end
theorem z3_new {k1 k2 k3 : Bool} (l1 l2 l3 : Addr) (xs1 xs2 xs3 : Array Value) :
    Meets (Builtin.«zip.__new__» ⟨[.type "zip", .ref l1, .ref l2, .ref l3], []⟩) (fun _ R s => SqK k1 s.heap l1 xs1 ∧ SqK k2 s.heap l2 xs2 ∧ SqK k3 s.heap l3 xs3 ∧
      R (.ok (.ret (.ref (((((s.heap.push (itO k1 l1)).push (itO k2 l2)).push (itO k3 l3)).push { cls := .type "tuple", data := .seq #[.ref s.heap.objs.size, .ref (s.heap.push (itO k1 l1)).objs.size, .ref ((s.heap.push (itO k1 l1)).push (itO k2 l2)).objs.size] }).push { cls := .type "tuple", data := .seq #[.none, .none, .none] }).objs.size))) { s with heap := ((((((s.heap.push (itO k1 l1)).push (itO k2 l2)).push (itO k3 l3)).push { cls := .type "tuple", data := .seq #[.ref s.heap.objs.size, .ref (s.heap.push (itO k1 l1)).objs.size, .ref ((s.heap.push (itO k1 l1)).push (itO k2 l2)).objs.size] }).push { cls := .type "tuple", data := .seq #[.none, .none, .none] }).push { cls := .type "zip", data := .fields #[.none, .bool false, .bool false, .ref (((s.heap.push (itO k1 l1)).push (itO k2 l2)).push (itO k3 l3)).objs.size, .ref ((((s.heap.push (itO k1 l1)).push (itO k2 l2)).push (itO k3 l3)).push { cls := .type "tuple", data := .seq #[.ref s.heap.objs.size, .ref (s.heap.push (itO k1 l1)).objs.size, .ref ((s.heap.push (itO k1 l1)).push (itO k2 l2)).objs.size] }).objs.size] }) }) :=
  .of_wp fun prog w A R s h => by
    obtain ⟨hp, g, d, tk, os⟩ := s; obtain ⟨q1, q2, q3, h⟩ := h
    have hsub := sub_zip
    have L1 : SqK k1 (Shared.heap ⟨hp, g, d, tk, os⟩) l1 xs1 := q1
    have L2 : SqK k2 (Shared.heap ⟨(hp.push (itO k1 l1)), g, d, tk, os⟩) l2 xs2 := q2.at fun o e => Heap.get?_push_of_some _ e
    have L3 : SqK k3 (Shared.heap ⟨((hp.push (itO k1 l1)).push (itO k2 l2)), g, d, tk, os⟩) l3 xs3 := q3.at fun o e => Heap.get?_push_of_some _ (Heap.get?_push_of_some _ e)
    wp_walk using iterK L1, iterK L2, iterK L3
    exact ⟨_, rfl, h⟩
theorem z3_call {prog : Program} {w : World} {A : Around} {E : Value → Shared → Prop} {s : Shared} {k1 k2 k3 : Bool} {l1 l2 l3 : Addr} {xs1 xs2 xs3 : Array Value} {Q : Value → Shared → Prop} (q1 : SqK k1 s.heap l1 xs1) (q2 : SqK k2 s.heap l2 xs2) (q3 : SqK k3 s.heap l3 xs3)
    (h : ∀ h', IsZip h' (s.heap.objs.size + 5) (s.heap.objs.size + 3) (s.heap.objs.size + 4) .none → IsT3 h' (s.heap.objs.size + 3) (.ref (s.heap.objs.size)) (.ref (s.heap.objs.size + 1)) (.ref (s.heap.objs.size + 2)) → IsT3 h' (s.heap.objs.size + 4) .none .none .none → ItK k1 h' (s.heap.objs.size) l1 0 → ItK k2 h' (s.heap.objs.size + 1) l2 0 → ItK k3 h' (s.heap.objs.size + 2) l3 0 →
      (∀ c o, s.heap.get? c = some o → h'.get? c = some o) → Q (.ref (s.heap.objs.size + 5)) { s with heap := h' }) : wpAny (model prog w) A (call (.type "zip") [.ref l1, .ref l2, .ref l3]) Q E s := by
  refine callType_new F.called_zip (by decide) (tc_zip3 _ _ _) (nc_zip3 _ _ _) (fun obj => ai_zip3 obj _ _ _) F.entry_zip_new (z3_new (k1 := k1) l1 l2 l3 xs1 xs2 xs3) ⟨q1, q2, q3, ?_⟩
  have y1 : (s.heap.push (itO k1 l1)).objs.size = s.heap.objs.size + 1 := by rw [Heap.size_push]
  have y2 : ((s.heap.push (itO k1 l1)).push (itO k2 l2)).objs.size = s.heap.objs.size + 2 := by rw [Heap.size_push, y1]
  have y3 : (((s.heap.push (itO k1 l1)).push (itO k2 l2)).push (itO k3 l3)).objs.size = s.heap.objs.size + 3 := by rw [Heap.size_push, y2]
  have y4 : ((((s.heap.push (itO k1 l1)).push (itO k2 l2)).push (itO k3 l3)).push { cls := .type "tuple", data := .seq #[.ref s.heap.objs.size, .ref (s.heap.push (itO k1 l1)).objs.size, .ref ((s.heap.push (itO k1 l1)).push (itO k2 l2)).objs.size] }).objs.size = s.heap.objs.size + 4 := by rw [Heap.size_push, y3]
  have y5 : (((((s.heap.push (itO k1 l1)).push (itO k2 l2)).push (itO k3 l3)).push { cls := .type "tuple", data := .seq #[.ref s.heap.objs.size, .ref (s.heap.push (itO k1 l1)).objs.size, .ref ((s.heap.push (itO k1 l1)).push (itO k2 l2)).objs.size] }).push { cls := .type "tuple", data := .seq #[.none, .none, .none] }).objs.size = s.heap.objs.size + 5 := by rw [Heap.size_push, y4]
  have y6 : ((((((s.heap.push (itO k1 l1)).push (itO k2 l2)).push (itO k3 l3)).push { cls := .type "tuple", data := .seq #[.ref s.heap.objs.size, .ref (s.heap.push (itO k1 l1)).objs.size, .ref ((s.heap.push (itO k1 l1)).push (itO k2 l2)).objs.size] }).push { cls := .type "tuple", data := .seq #[.none, .none, .none] }).push { cls := .type "zip", data := .fields #[.none, .bool false, .bool false, .ref (((s.heap.push (itO k1 l1)).push (itO k2 l2)).push (itO k3 l3)).objs.size, .ref ((((s.heap.push (itO k1 l1)).push (itO k2 l2)).push (itO k3 l3)).push { cls := .type "tuple", data := .seq #[.ref s.heap.objs.size, .ref (s.heap.push (itO k1 l1)).objs.size, .ref ((s.heap.push (itO k1 l1)).push (itO k2 l2)).objs.size] }).objs.size] }).objs.size = s.heap.objs.size + 6 := by rw [Heap.size_push, y5]
  obtain ⟨hf, hfd⟩ : ∃ hf, hf = ((((((s.heap.push (itO k1 l1)).push (itO k2 l2)).push (itO k3 l3)).push { cls := .type "tuple", data := .seq #[.ref s.heap.objs.size, .ref (s.heap.push (itO k1 l1)).objs.size, .ref ((s.heap.push (itO k1 l1)).push (itO k2 l2)).objs.size] }).push { cls := .type "tuple", data := .seq #[.none, .none, .none] }).push { cls := .type "zip", data := .fields #[.none, .bool false, .bool false, .ref (((s.heap.push (itO k1 l1)).push (itO k2 l2)).push (itO k3 l3)).objs.size, .ref ((((s.heap.push (itO k1 l1)).push (itO k2 l2)).push (itO k3 l3)).push { cls := .type "tuple", data := .seq #[.ref s.heap.objs.size, .ref (s.heap.push (itO k1 l1)).objs.size, .ref ((s.heap.push (itO k1 l1)).push (itO k2 l2)).objs.size] }).objs.size] }) := ⟨_, rfl⟩
  have b1 : hf.get? (s.heap.objs.size) = some (itO k1 l1) := by
    rw [hfd]
    exact Heap.get?_push_of_some _ (Heap.get?_push_of_some _ (Heap.get?_push_of_some _ (Heap.get?_push_of_some _ (Heap.get?_push_of_some _ (Heap.get?_push_size _ rfl)))))
  have b2 : hf.get? (s.heap.objs.size + 1) = some (itO k2 l2) := by
    rw [hfd, ← y1]
    exact Heap.get?_push_of_some _ (Heap.get?_push_of_some _ (Heap.get?_push_of_some _ (Heap.get?_push_of_some _ (Heap.get?_push_size _ rfl))))
  have b3 : hf.get? (s.heap.objs.size + 2) = some (itO k3 l3) := by
    rw [hfd, ← y2]
    exact Heap.get?_push_of_some _ (Heap.get?_push_of_some _ (Heap.get?_push_of_some _ (Heap.get?_push_size _ rfl)))
  have b4 : hf.get? (s.heap.objs.size + 3) = some ({ cls := .type "tuple", data := .seq #[.ref (s.heap.objs.size), .ref (s.heap.objs.size + 1), .ref (s.heap.objs.size + 2)] }) := by
    rw [hfd, ← y1, ← y2, ← y3]
    exact Heap.get?_push_of_some _ (Heap.get?_push_of_some _ (Heap.get?_push_size _ rfl))
  have b5 : hf.get? (s.heap.objs.size + 4) = some ({ cls := .type "tuple", data := .seq #[.none, .none, .none] }) := by
    rw [hfd, ← y4]
    exact Heap.get?_push_of_some _ (Heap.get?_push_size _ rfl)
  have b6 : hf.get? (s.heap.objs.size + 5) = some ({ cls := .type "zip", data := .fields #[.none, .bool false, .bool false, .ref (s.heap.objs.size + 3), .ref (s.heap.objs.size + 4)] }) := by
    rw [hfd, ← y3, ← y4, ← y5]
    exact Heap.get?_push_size _ rfl
  subst hfd
  show _ ∧ _
  rw [y5]
  exact ⟨⟨_, b6, rfl⟩, h _ b6 b4 b5 (itK_new b1) (itK_new b2) (itK_new b3) fun c o x => Heap.get?_push_of_some _ (Heap.get?_push_of_some _ (Heap.get?_push_of_some _ (Heap.get?_push_of_some _ (Heap.get?_push_of_some _ (Heap.get?_push_of_some _ (x))))))⟩
def Iz3 (K : PySem.W.Frag) (k1 k2 k3 : Bool) (l1 l2 l3 : Addr) : It :=
  ⟨fun i H => ∃ (v1 v2 v3 : List V) (w1 w2 w3 : V), SqV K k1 H l1 v1 ∧ SqV K k2 H l2 v2 ∧ SqV K k3 H l3 v3 ∧ v1[i]? = some w1 ∧ v2[i]? = some w2 ∧ v3[i]? = some w3,
    fun i H v H' => ∃ T w1 w2 w3, v = .ref T ∧ H T = none ∧ H' = upd H T (.tup [w1, w2, w3]) ∧ (∀ xs, SqV K k1 H l1 xs → xs[i]? = some w1) ∧ (∀ xs, SqV K k2 H l2 xs → xs[i]? = some w2) ∧ (∀ xs, SqV K k3 H l3 xs → xs[i]? = some w3),
    fun i H => ∃ v1 v2 v3 : List V, SqV K k1 H l1 v1 ∧ SqV K k2 H l2 v2 ∧ SqV K k3 H l3 v3 ∧ (v1.length ≤ i ∨ v2.length ≤ i ∨ v3.length ≤ i)⟩
theorem t3_turn {P : Program} {w : World} {K : PySem.W.Frag} {elts : List Expr} {kk : Nat} {tpos : Pos} {k1 k2 k3 : Bool} {z TI TO i1 i2 i3 l1 l2 l3 : Addr} (D : Ap3 z TI TO i1 i2 i3 l1 l2 l3) :
    Turn P w K (.Tuple elts kk tpos) (Iz3 K k1 k2 k3 l1 l2 l3) [z, TI, TO, i1, i2, i3] z (fun i h => IsZip h z TI TO .none ∧ IsT3 h TI (.ref i1) (.ref i2) (.ref i3) ∧ (∃ a1 a2 a3, IsT3 h TO a1 a2 a3) ∧ ItK k1 h i1 l1 i ∧ ItK k2 h i2 l2 i ∧ ItK k3 h i3 l3 i) where
  mem := by simp
  obj := fun i h st c hc => by
    obtain ⟨hz, hTI, ⟨a1, a2, a3, hTO⟩, h1, h2, h3⟩ := st
    have hc' : c = z ∨ c = TI ∨ c = TO ∨ c = i1 ∨ c = i2 ∨ c = i3 := by simpa using hc
    rcases hc' with q | q | q | q | q | q
    · rw [q]; exact ⟨_, hz, fun v q => nomatch q⟩
    · rw [q]; exact ⟨_, hTI, fun v q => nomatch q⟩
    · rw [q]; exact ⟨_, hTO, fun v q => nomatch q⟩
    · rw [q]; exact itK_obj h1
    · rw [q]; exact itK_obj h2
    · rw [q]; exact itK_obj h3
  keep := fun i h h' st k => by
    obtain ⟨hz, hTI, ⟨a1, a2, a3, hTO⟩, h1, h2, h3⟩ := st
    exact ⟨k z (by simp) _ hz, k TI (by simp) _ hTI, ⟨a1, a2, a3, k TO (by simp) _ hTO⟩, h1.at fun o q => k i1 (by simp) o q, h2.at fun o q => k i2 (by simp) o q, h3.at fun o q => k i3 (by simp) o q⟩
  item := by
    intro X hP hw hK hc i pins s σ H E I hf st hg
    subst hP hw hK
    obtain ⟨hz, hTI, ⟨a1, a2, a3, hTO⟩, h1, h2, h3⟩ := st
    obtain ⟨v1, v2, v3, w1, w2, w3, m1, m2, m3, e1, e2, e3⟩ := hg
    obtain ⟨its1, rv1, p1⟩ := sqV_at I m1
    obtain ⟨u1, hu1, ru1⟩ := rv1.get e1
    obtain ⟨its2, rv2, p2⟩ := sqV_at I m2
    obtain ⟨u2, hu2, ru2⟩ := rv2.get e2
    obtain ⟨its3, rv3, p3⟩ := sqV_at I m3
    obtain ⟨u3, hu3, ru3⟩ := rv3.get e3
    have hzl : z < s.heap.objs.size := Heap.lt_size hz
    refine z3_next D hz hTI hTO h1 h2 h3 p1 p2 p3 (x1 := u1) (x2 := u2) (x3 := u3) (by simpa using hu1) (by simpa using hu2) (by simpa using hu3) fun h' z' TO' n1 n2 n3 hT hsz hk => ?_
    refine ⟨_, rfl, wpAny_letOwnedTupleGo_zip (s := { s with heap := h' }) z' fun h'' z'' sb => ?_⟩
    have hT2 : h''.get? s.heap.objs.size = some { cls := .type "tuple", data := .seq #[u1, u2, u3] } := (sb.2 _ (Nat.ne_of_gt hzl)).trans hT
    have new : ObjOk X.prog X.w (upd H s.heap.objs.size (.tup [w1, w2, w3])) h'' s.heap.objs.size (.tup [w1, w2, w3]) := ⟨by show 3 ≤ sizeLine; decide, [u1, u2, u3], (.cons ru1 (.cons ru2 (.cons ru3 .nil))), ⟨_, hT2, rfl, _, rfl⟩⟩
    have I1 : Inv X pins σ (upd H s.heap.objs.size (.tup [w1, w2, w3])) { s with heap := h'' } :=
      I.turnedNew (t' := s.toks) (ch := [z, TI, TO, i1, i2, i3]) (fun c o hb q => (sb.2 c (fun q' => hb (by simp [q']))).trans (hk c o (fun q' => hb (by simp [q'])) (fun q' => hb (by simp [q'])) (fun q' => hb (by simp [q'])) (fun q' => hb (by simp [q'])) (fun q' => hb (by simp [q'])) q)) hf (Nat.le_refl _) new
    refine ⟨.ref s.heap.objs.size, _, I1, rfl, ⟨_, w1, w2, w3, rfl, I.hok.fresh (Nat.le_refl _), rfl, fun l hl => by rw [sqV_inj I hl m1]; exact e1, fun l hl => by rw [sqV_inj I hl m2]; exact e2, fun l hl => by rw [sqV_inj I hl m3]; exact e3⟩, ⟨z'', ?_, ⟨u1, u2, u3, ?_⟩, ?_, ?_, ?_⟩, fun c hcm => ?_⟩
    · exact (sb.2 _ D.n_TI_z).trans (hk _ _ D.n_TI_z D.n_TO_TI.symm D.n_i1_TI.symm D.n_i2_TI.symm D.n_i3_TI.symm hTI)
    · exact (sb.2 _ D.n_TO_z).trans TO'
    · exact n1.at fun o q => (sb.2 _ D.n_i1_z).trans q
    · exact n2.at fun o q => (sb.2 _ D.n_i2_z).trans q
    · exact n3.at fun o q => (sb.2 _ D.n_i3_z).trans q
    · have hlt : c < s.heap.objs.size := by
        have hc' : c = z ∨ c = TI ∨ c = TO ∨ c = i1 ∨ c = i2 ∨ c = i3 := by simpa using hcm
        rcases hc' with q | q | q | q | q | q
        · rw [q]; exact hzl
        · rw [q]; exact Heap.lt_size hTI
        · rw [q]; exact Heap.lt_size hTO
        · rw [q]; exact itK_lt h1
        · rw [q]; exact itK_lt h2
        · rw [q]; exact itK_lt h3
      rw [upd_ne (Nat.ne_of_lt hlt)]
      exact (hf c hcm).1
  done := by
    intro X hP hw hK hc i pins s σ H E I hf st hg
    subst hP hw hK
    obtain ⟨hz, hTI, ⟨a1, a2, a3, hTO⟩, h1, h2, h3⟩ := st
    obtain ⟨v1, v2, v3, m1, m2, m3, stop⟩ := hg
    obtain ⟨its1, rv1, p1⟩ := sqV_at I m1
    have ln1 := rv1.length
    obtain ⟨its2, rv2, p2⟩ := sqV_at I m2
    have ln2 := rv2.length
    obtain ⟨its3, rv3, p3⟩ := sqV_at I m3
    have ln3 := rv3.length
    have he : its1.toArray[i]? = none ∨ its2.toArray[i]? = none ∨ its3.toArray[i]? = none := by
      rcases stop with q | q | q
      · exact .inl (by simp; omega)
      · exact .inr (.inl (by simp; omega))
      · exact .inr (.inr (by simp; omega))
    exact z3_stop (I.ok.hd hc) D hz hTI hTO h1 h2 h3 p1 p2 p3 he fun h' hk => ⟨rfl, I.turnedL (t' := s.toks) (ch := [z, TI, TO, i1, i2, i3]) (fun c o hb q => hk c o (fun q' => hb (by simp [q'])) (fun q' => hb (by simp [q'])) (fun q' => hb (by simp [q'])) (fun q' => hb (by simp [q'])) (fun q' => hb (by simp [q'])) q) hf⟩
  self := fun A i s Q E st h => wpAny_pyIter_zip st.1 h
theorem ap3_at (I l1 l2 l3 : Nat) (h1 : l1 < I) (h2 : l2 < I) (h3 : l3 < I) : Ap3 (I + 5) (I + 3) (I + 4) I (I + 1) (I + 2) l1 l2 l3 := by constructor <;> (refine neA ?_; omega)
def iZip3 (K : PySem.W.Frag) (ta : TA) : TI := fun σ H R => ta σ H fun vs H1 => ∃ (l1 l2 l3 : Addr) (v1 v2 v3 : List V) (k1 k2 k3 : Bool), vs = [.ref l1, .ref l2, .ref l3] ∧ SqV K k1 H1 l1 v1 ∧ SqV K k2 H1 l2 v2 ∧ SqV K k3 H1 l3 v3 ∧ R (Iz3 K k1 k2 k3 l1 l2 l3) H1
theorem pi_zipK3 {X : Cx} {ex1 ex2 ex3 : Expr} {ta : TA} {p pos tpos : Pos} {elts : List Expr} {kk : Nat} (hg : Gl X "zip") (hm : X.mg "zip" = none) (ha : PA X [ex1, ex2, ex3] ta)
    (hs : starEach [ex1, ex2, ex3] X.env = (false, eval ex1 X.env) :: starEach [ex2, ex3] X.env) (hpl : (backTo pos (starEach [ex2, ex3] X.env)).any (·.1) = false) : PI X (.Tuple elts kk tpos) (.Call (.Name "zip" p) [ex1, ex2, ex3] [] pos) (iZip3 X.K ta) := by
  refine ⟨fun pins s σ H R I h => ?_⟩
  refine PyProof.Rows.Call_ (ld_blt I hg hm PyProof.Rows.boot_zip (PyProof.Rows.callWith_type1 (thn (ha.run pos pins s σ H _ I h) fun us s1 ⟨vs, H1, I1, r1, q1⟩ => ?_) hs hpl))
  obtain ⟨l1, l2, l3, v1, v2, v3, k1, k2, k3, rfl, m1, m2, m3, q⟩ := q1
  obtain rfl : us = [.ref l1, .ref l2, .ref l3] := refs3 r1
  obtain ⟨its1, rv1, p1⟩ := sqV_at I1 m1
  have lt1 := sqK_lt p1
  obtain ⟨its2, rv2, p2⟩ := sqV_at I1 m2
  have lt2 := sqK_lt p2
  obtain ⟨its3, rv3, p3⟩ := sqV_at I1 m3
  have lt3 := sqK_lt p3
  have fresh : ∀ c, c ∈ [s1.heap.objs.size + 5, s1.heap.objs.size + 3, s1.heap.objs.size + 4, s1.heap.objs.size, s1.heap.objs.size + 1, s1.heap.objs.size + 2] → FpOk X pins H1 c := fun c hcm => by
    have hc' : c = s1.heap.objs.size + 5 ∨ c = s1.heap.objs.size + 3 ∨ c = s1.heap.objs.size + 4 ∨ c = s1.heap.objs.size ∨ c = s1.heap.objs.size + 1 ∨ c = s1.heap.objs.size + 2 := by simpa using hcm
    have hle : s1.heap.objs.size ≤ c := by omega
    exact I1.fpOk hle (I1.hok.fresh hle)
  refine z3_call p1 p2 p3 fun h' hz hTI hTO h1 h2 h3 hk => wpAny_pyIter_zip hz ?_
  have I2 : Inv X pins σ H1 { s1 with heap := h' } := I1.kept (t' := s1.toks) hk
  exact ⟨s1.heap.objs.size + 5, [s1.heap.objs.size + 5, s1.heap.objs.size + 3, s1.heap.objs.size + 4, s1.heap.objs.size, s1.heap.objs.size + 1, s1.heap.objs.size + 2], _, _, H1, rfl, I2, t3_turn (ap3_at s1.heap.objs.size l1 l2 l3 lt1 lt2 lt3), ⟨hz, hTI, ⟨_, _, _, hTO⟩, h1, h2, h3⟩, fresh, q⟩
def zip3d : List D → List D → List D → List D
  | a :: as, b :: bs, c :: cs => .tup [a, b, c] :: zip3d as bs cs
  | _, _, _ => []
theorem zip3d_get : ∀ {as bs cs : List D} {i : Nat} {d : D}, (zip3d as bs cs)[i]? = some d → ∃ a b c, as[i]? = some a ∧ bs[i]? = some b ∧ cs[i]? = some c ∧ d = .tup [a, b, c]
  | [], _, _, _, _, h => by simp [zip3d] at h
  | _ :: _, [], _, _, _, h => by simp [zip3d] at h
  | _ :: _, _ :: _, [], _, _, h => by simp [zip3d] at h
  | a :: as, b :: bs, c :: cs, 0, d, h => by simp [zip3d] at h; exact ⟨a, b, c, rfl, rfl, rfl, h.symm⟩
  | a :: as, b :: bs, c :: cs, i + 1, d, h => by
    obtain ⟨x, y, z, h1, h2, h3, h4⟩ := zip3d_get (as := as) (bs := bs) (cs := cs) (i := i) (d := d) (by simpa [zip3d] using h)
    exact ⟨x, y, z, by simpa using h1, by simpa using h2, by simpa using h3, h4⟩
theorem zip3d_len : ∀ {as bs cs : List D}, as.length ≤ (zip3d as bs cs).length ∨ bs.length ≤ (zip3d as bs cs).length ∨ cs.length ≤ (zip3d as bs cs).length
  | [], _, _ => .inl (by simp)
  | _ :: _, [], _ => .inr (.inl (by simp))
  | _ :: _, _ :: _, [] => .inr (.inr (by simp))
  | a :: as, b :: bs, c :: cs => by
    have := zip3d_len (as := as) (bs := bs) (cs := cs)
    simp only [zip3d, List.length_cons]
    omega
/-- the kind of a list or tuple -/
def seqK : D → Option (Bool × List D)
  | .lst ds => some (false, ds)
  | .rdl ds => some (false, ds)
  | .tup ds => some (true, ds)
  | _ => none
section
variable {K : PySem.W.Frag} {cl : Cl} {F H : Hp}
theorem Le.sqV (e : Le F H) {k : Bool} {a : Addr} {xs : List V} (h : SqV K k F a xs) : SqV K k H a xs := by
  cases k with
  | true => exact e.sqT h
  | false => exact e.sqL h
theorem den_seq {v : V} {d : D} {k : Bool} {ds : List D} (h : Den K cl F v d) (e : seqK d = some (k, ds)) : ∃ a vs, v = .ref a ∧ SqV K k F a vs ∧ DenL K cl F vs ds := by
  cases d with
  | lst xs => cases e; cases h with | lst h t => exact ⟨_, _, rfl, SqL.val h, t⟩
  | rdl xs => cases e; cases h with | rdl h t => exact ⟨_, _, rfl, h, t⟩
  | tup xs => cases e; cases h with | tup h t => exact ⟨_, _, rfl, h, t⟩
  | _ => cases e
theorem itOk_z2 {a b : Addr} {k l : Bool} {vs ws : List V} {ds es : List D} (h : SqV K k F a vs) (t : DenL K cl F vs ds) (h2 : SqV K l F b ws) (t2 : DenL K cl F ws es) : ItOk K cl (Iz2 K k l a b) F (zipd ds es) where
  go i H le hi := by
    have hi : i < ds.length ∧ i < es.length := by simp [zipd] at hi; omega
    obtain ⟨v, hv, _⟩ := t.get (i := i) (List.getElem?_eq_getElem hi.1)
    obtain ⟨w, hw, _⟩ := t2.get (i := i) (List.getElem?_eq_getElem hi.2)
    exact ⟨vs, ws, v, w, le.sqV h, le.sqV h2, hv, hw⟩
  stop H le := ⟨vs, ws, le.sqV h, le.sqV h2, by rw [t.length, t2.length]; simp [zipd]; omega⟩
  yld i F2 H x H' d le le2 hd hy := by
    obtain ⟨T, y, z, rfl, nT, rfl, hx, hz⟩ := hy
    unfold zipd at hd
    rw [List.getElem?_zipWith] at hd
    cases hr : ds[i]? with
    | none => rw [hr] at hd; cases hd
    | some e =>
      cases hs : es[i]? with
      | none => rw [hr, hs] at hd; cases hd
      | some e2 =>
        rw [hr, hs] at hd; cases hd
        obtain ⟨v, hv, hden⟩ := t.get hr
        obtain ⟨w, hw, hden2⟩ := t2.get hs
        have q := hx vs (le2.sqV (le.sqV h))
        have q2 := hz ws (le2.sqV (le.sqV h2))
        rw [hv] at q; cases q
        rw [hw] at q2; cases q2
        have g := Grow.new le2 nT (.tup [y, z])
        exact ⟨_, g, .tup (SqT.val upd_same) (.cons ((hden.le le).le g.le) (.one ((hden2.le le).le g.le)))⟩
theorem itOk_z3 {a b c : Addr} {k l m : Bool} {vs ws us : List V} {ds es fs : List D} (h : SqV K k F a vs) (t : DenL K cl F vs ds) (h2 : SqV K l F b ws) (t2 : DenL K cl F ws es) (h3 : SqV K m F c us) (t3 : DenL K cl F us fs) : ItOk K cl (Iz3 K k l m a b c) F (zip3d ds es fs) where
  go i H le hi := by
    obtain ⟨x, y, z, q1, q2, q3, _⟩ := zip3d_get (List.getElem?_eq_getElem hi)
    obtain ⟨v, hv, _⟩ := t.get q1
    obtain ⟨w, hw, _⟩ := t2.get q2
    obtain ⟨u, hu, _⟩ := t3.get q3
    exact ⟨vs, ws, us, v, w, u, le.sqV h, le.sqV h2, le.sqV h3, hv, hw, hu⟩
  stop H le := ⟨vs, ws, us, le.sqV h, le.sqV h2, le.sqV h3, by rw [t.length, t2.length, t3.length]; exact zip3d_len⟩
  yld i F2 H x H' d le le2 hd hy := by
    obtain ⟨T, y, z, r, rfl, nT, rfl, hx, hz, hr⟩ := hy
    obtain ⟨d1, d2, d3, q1, q2, q3, rfl⟩ := zip3d_get hd
    obtain ⟨v, hv, e1⟩ := t.get q1
    obtain ⟨w, hw, e2⟩ := t2.get q2
    obtain ⟨u, hu, e3⟩ := t3.get q3
    have p1 := hx vs (le2.sqV (le.sqV h))
    have p2 := hz ws (le2.sqV (le.sqV h2))
    have p3 := hr us (le2.sqV (le.sqV h3))
    rw [hv] at p1; cases p1
    rw [hw] at p2; cases p2
    rw [hu] at p3; cases p3
    have g := Grow.new le2 nT (.tup [y, z, r])
    exact ⟨_, g, .tup (SqT.val upd_same) (.cons ((e1.le le).le g.le) (.cons ((e2.le le).le g.le) (.one ((e3.le le).le g.le))))⟩
end
def fZip2 : List D → Option (List D)
  | [a, b] => match seqK a, seqK b with
    | some (_, ds), some (_, es) => some (zipd ds es)
    | _, _ => none
  | _ => none
def fZip3 : List D → Option (List D)
  | [a, b, c] => match seqK a, seqK b, seqK c with
    | some (_, ds), some (_, es), some (_, fs) => some (zip3d ds es fs)
    | _, _, _ => none
  | _ => none
section
variable {X : Cx} {cl : Cl} {W : WX}
theorem si_zip2 {a b : Expr} {as : List (En → R (D × Bool))} {elts : List Expr} {kk : Nat} {p pos tpos : Pos} (hg : Gl X "zip") (hm : X.mg "zip" = none) (ha : SA X cl W [a, b] as) (hs : starEach [a, b] X.env = (false, eval a X.env) :: starEach [b] X.env)
    (hpl : (backTo pos (starEach [b] X.env)).any (·.1) = false) : SI X cl W (.Tuple elts kk tpos) (.Call (.Name "zip" p) [a, b] [] pos) (itC fZip2 as) := pi_weak (pi_zipK2 hg hm ha hs hpl) fun σ H Q q => itC_ok q fun F H1 ds vs r le hv hf k => by
  match ds, hv, hf with
  | [d1, d2], .cons h1 (.cons h2 .nil), hf =>
    simp only [fZip2] at hf
    cases e1 : seqK d1 with
    | none => rw [e1] at hf; cases hf
    | some y1 =>
      cases e2 : seqK d2 with
      | none => rw [e1, e2] at hf; cases hf
      | some y2 =>
        rw [e1, e2] at hf
        cases hf
        obtain ⟨a, vs, rfl, q1, t1⟩ := den_seq h1 e1
        obtain ⟨b, ws, rfl, q2, t2⟩ := den_seq h2 e2
        exact ⟨a, b, vs, ws, _, _, rfl, le.sqV q1, le.sqV q2, k _ (itOk_z2 q1 t1 q2 t2)⟩
  | [], _, hf => simp [fZip2] at hf
  | [_], _, hf => simp [fZip2] at hf
  | _ :: _ :: _ :: _, _, hf => simp [fZip2] at hf
theorem si_zip3 {a b c : Expr} {as : List (En → R (D × Bool))} {elts : List Expr} {kk : Nat} {p pos tpos : Pos} (hg : Gl X "zip") (hm : X.mg "zip" = none) (ha : SA X cl W [a, b, c] as) (hs : starEach [a, b, c] X.env = (false, eval a X.env) :: starEach [b, c] X.env)
    (hpl : (backTo pos (starEach [b, c] X.env)).any (·.1) = false) : SI X cl W (.Tuple elts kk tpos) (.Call (.Name "zip" p) [a, b, c] [] pos) (itC fZip3 as) := pi_weak (pi_zipK3 hg hm ha hs hpl) fun σ H Q q => itC_ok q fun F H1 ds vs r le hv hf k => by
  match ds, hv, hf with
  | [d1, d2, d3], .cons h1 (.cons h2 (.cons h3 .nil)), hf =>
    simp only [fZip3] at hf
    cases e1 : seqK d1 with
    | none => rw [e1] at hf; cases hf
    | some y1 =>
      cases e2 : seqK d2 with
      | none => rw [e1, e2] at hf; cases hf
      | some y2 =>
        cases e3 : seqK d3 with
        | none => rw [e1, e2, e3] at hf; cases hf
        | some y3 =>
          rw [e1, e2, e3] at hf
          cases hf
          obtain ⟨a, vs, rfl, q1, t1⟩ := den_seq h1 e1
          obtain ⟨b, ws, rfl, q2, t2⟩ := den_seq h2 e2
          obtain ⟨c, us, rfl, q3, t3⟩ := den_seq h3 e3
          exact ⟨a, b, c, vs, ws, us, _, _, _, rfl, le.sqV q1, le.sqV q2, le.sqV q3, k _ (itOk_z3 q1 t1 q2 t2 q3 t3)⟩
  | [], _, hf => simp [fZip3] at hf
  | [_], _, hf => simp [fZip3] at hf
  | [_, _], _, hf => simp [fZip3] at hf
  | _ :: _ :: _ :: _ :: _, _, hf => simp [fZip3] at hf
end
end PF

namespace PF
open PySem PySem.Spec L2
def okN (n : Nat) (d : D) : Prop := plain d = true ∧ (toPy d).canLay0 = true ∧ (toPy d).depth ≤ n
theorem okN.mono {n m : Nat} {d : D} (h : okN n d) (hm : n ≤ m) : okN m d := ⟨h.1, h.2.1, Nat.le_trans h.2.2 hm⟩
theorem okN_int {n : Nat} {i : Int} : okN n (.int i) := ⟨by simp [plain], by simp [toPy, PyData.canLay0], by simp [toPy, PyData.depth]⟩
theorem okN_bl {n : Nat} {i : Bool} : okN n (.bl i) := ⟨by simp [plain], by simp [toPy, PyData.canLay0], by simp [toPy, PyData.depth]⟩
theorem okN_non {n : Nat} : okN n .non := ⟨by simp [plain], by simp [toPy, PyData.canLay0], by simp [toPy, PyData.depth]⟩
theorem okN_str {n : Nat} {s : Str} (h : PyData.strOk s = true) : okN n (.str s) := ⟨by simp [plain], by simpa [toPy, PyData.canLay0] using h, by simp [toPy, PyData.depth]⟩
theorem okN_all {n : Nat} : ∀ {xs : List D}, (∀ x ∈ xs, okN n x) → plainL xs = true ∧ PyData.canLayAll0 (toPyL xs) = true ∧ PyData.depthAll (toPyL xs) ≤ n
  | [], _ => ⟨by simp [plainL], by simp [toPyL, PyData.canLayAll0], by simp [toPyL, PyData.depthAll]⟩
  | x :: xs, h => by
    obtain ⟨h1, h2, h3⟩ := okN_all (xs := xs) fun y hy => h y (List.mem_cons_of_mem _ hy)
    obtain ⟨g1, g2, g3⟩ := h x List.mem_cons_self
    exact ⟨by simp [plainL, g1, h1], by simp [toPyL, PyData.canLayAll0, g2, h2], by simp only [toPyL, PyData.depthAll]; omega⟩
theorem okN_tup {n : Nat} {xs : List D} (h : ∀ x ∈ xs, okN n x) : okN (n + 1) (.tup xs) := by
  obtain ⟨h1, h2, h3⟩ := okN_all h
  exact ⟨by simpa [plain] using h1, by simpa [toPy, PyData.canLay0] using h2, by simp only [toPy, PyData.depth]; omega⟩
theorem okN_lst {n : Nat} {xs : List D} (h : ∀ x ∈ xs, okN n x) : okN (n + 1) (.lst xs) := by
  obtain ⟨h1, h2, h3⟩ := okN_all h
  exact ⟨by simpa [plain] using h1, by simpa [toPy, PyData.canLay0] using h2, by simp only [toPy, PyData.depth]; omega⟩
theorem okN.shp {n : Nat} {d : D} (h : okN n d) (hn : n ≤ 64) : shp d = true := by
  unfold PF.shp SeqAt.shaped
  rw [h.1, h.2.1, decide_eq_true (Nat.le_trans h.2.2 hn)]
  rfl
def iL (l : List Int) : List D := l.map D.int
theorem okN_ints {n : Nat} {l : List Int} : okN (n + 1) (.tup (iL l)) := okN_tup fun x hx => by
  obtain ⟨i, _, rfl⟩ := List.mem_map.mp hx
  exact okN_int
@[simp] theorem shp_int {i : Int} : shp (.int i) = true := (okN_int (n := 0)).shp (by decide)
@[simp] theorem shp_bl {i : Bool} : shp (.bl i) = true := (okN_bl (n := 0)).shp (by decide)
@[simp] theorem shp_non : shp .non = true := (okN_non (n := 0)).shp (by decide)
@[simp] theorem shp_ints {l : List Int} : shp (.tup (iL l)) = true := (okN_ints (n := 0)).shp (by decide)
@[simp] theorem eqv_int {i j : Int} : eqvD (.int i) (.int j) = decide (i = j) := by
  simp only [eqvD, toPy, PyData.eqv]
  by_cases h : i = j
  · subst h; simp
  · simp [h]
@[simp] theorem eqv_bl {i j : Bool} : eqvD (.bl i) (.bl j) = decide (i = j) := by
  simp only [eqvD, toPy, PyData.eqv]
  cases i <;> cases j <;> rfl
@[simp] theorem eqv_str {i j : Str} : eqvD (.str i) (.str j) = (i == j) := by simp only [eqvD, toPy, PyData.eqv]
def eqvL : List D → List D → Bool
  | [], [] => true
  | x :: xs, y :: ys => eqvD x y && eqvL xs ys
  | _, _ => false
theorem eqvAll_L : ∀ xs ys : List D, PyData.eqvAll (toPyL xs) (toPyL ys) = eqvL xs ys
  | [], [] => by simp [toPyL, PyData.eqvAll, eqvL]
  | [], _ :: _ => by simp [toPyL, PyData.eqvAll, eqvL]
  | _ :: _, [] => by simp [toPyL, PyData.eqvAll, eqvL]
  | x :: xs, y :: ys => by simp [toPyL, PyData.eqvAll, eqvL, eqvAll_L xs ys, eqvD]
theorem eqv_tup {xs ys : List D} : eqvD (.tup xs) (.tup ys) = eqvL xs ys := by
  simp only [eqvD, toPy, PyData.eqv]
  exact eqvAll_L xs ys
theorem eqv_lst {xs ys : List D} : eqvD (.lst xs) (.lst ys) = eqvL xs ys := by
  simp only [eqvD, toPy, PyData.eqv]
  exact eqvAll_L xs ys
theorem eqvL_ints : ∀ {l m : List Int}, eqvL (iL l) (iL m) = decide (l = m)
  | [], [] => by simp [iL, eqvL]
  | [], _ :: _ => by simp [iL, eqvL]
  | _ :: _, [] => by simp [iL, eqvL]
  | a :: l, b :: m => by
    have ih := eqvL_ints (l := l) (m := m)
    simp only [iL] at ih
    simp only [iL, List.map_cons, eqvL, eqv_int, ih, List.cons.injEq]
    by_cases h : a = b <;> by_cases h2 : l = m <;> simp [h, h2]
@[simp] theorem eqv_ints {l m : List Int} : eqvD (.tup (iL l)) (.tup (iL m)) = decide (l = m) := by rw [eqv_tup, eqvL_ints]
@[simp] theorem ints_len {l : List Int} : (iL l).length = l.length := by simp [iL]
/-- a for over all the items, no return: P says what holds ahead of each -/
theorem forD_run {b : Bn} {body : Sm} {P : Nat → En → Prop} : ∀ {ds : List D} {i : Nat} {ρ : En}, P i ρ →
    (∀ (j : Nat) (d : D) (ρ : En), ds[j]? = some d → P (i + j) ρ → ∃ ρ1, b d ρ = some ρ1 ∧ ∃ ρ2, (body ρ1 = .ok .nx ρ2 ∨ body ρ1 = .ok .ct ρ2) ∧ P (i + j + 1) ρ2) → ∃ ρ', forD b body ds ρ = .ok .nx ρ' ∧ P (i + ds.length) ρ'
  | [], i, ρ, h, _ => ⟨ρ, rfl, h⟩
  | d :: ds, i, ρ, h, st => by
    obtain ⟨ρ1, h1, ρ2, h2, h3⟩ := st 0 d ρ rfl h
    obtain ⟨ρ', q1, q2⟩ := forD_run (b := b) (body := body) (P := P) (ds := ds) (i := i + 1) (ρ := ρ2) h3 fun j d ρ hj hp => by
      have := st (j + 1) d ρ (by simpa using hj) (by rw [show i + (j + 1) = i + 1 + j by omega]; exact hp)
      rw [show i + (j + 1) = i + 1 + j by omega] at this
      exact this
    refine ⟨ρ', ?_, by rw [List.length_cons, show i + (ds.length + 1) = i + 1 + ds.length by omega]; exact q2⟩
    simp only [forD, h1]
    rcases h2 with h2 | h2 <;> rw [h2] <;> exact q1
/-- a comprehension: what each item gives (some: kept), the block's slots behind -/
theorem lcL_run {b : Bn} {c : En → R Bool} {e : En → R (D × Bool)} {vs : List Nat} {P : Nat → En → Prop} {out : Nat → Option D} : ∀ {ds : List D} {i : Nat} {acc : List D} {ρ : En}, P i ρ → acc.length + ds.length ≤ lim →
    (∀ (j : Nat) (d : D) (ρ : En), ds[j]? = some d → P (i + j) ρ → ∃ ρ1, b d ρ = some ρ1 ∧ ∃ t ρ2, c ρ1 = .ok t ρ2 ∧ (if t = true then ∃ y o ρ3, e ρ2 = .ok (y, o) ρ3 ∧ out (i + j) = some y ∧ P (i + j + 1) (wipeE ρ3 vs) else out (i + j) = none ∧ P (i + j + 1) (wipeE ρ2 vs))) →
    ∃ ρ', lcL b c e vs ds acc ρ = .ok (acc ++ (List.range ds.length).filterMap fun j => out (i + j)) ρ' ∧ P (i + ds.length) ρ'
  | [], i, acc, ρ, h, _, _ => ⟨ρ, by simp [lcL], h⟩
  | d :: ds, i, acc, ρ, h, hl, st => by
    obtain ⟨ρ1, h1, t, ρ2, h2, h3⟩ := st 0 d ρ rfl h
    have st' : ∀ (j : Nat) (d : D) (ρ : En), ds[j]? = some d → P (i + 1 + j) ρ → ∃ ρ1, b d ρ = some ρ1 ∧ ∃ t ρ2, c ρ1 = .ok t ρ2 ∧ (if t = true then ∃ y o ρ3, e ρ2 = .ok (y, o) ρ3 ∧ out (i + 1 + j) = some y ∧ P (i + 1 + j + 1) (wipeE ρ3 vs) else out (i + 1 + j) = none ∧ P (i + 1 + j + 1) (wipeE ρ2 vs)) := fun j d ρ hj hp => by
      have := st (j + 1) d ρ (by simpa using hj) (by rw [show i + (j + 1) = i + 1 + j by omega]; exact hp)
      rw [show i + (j + 1) = i + 1 + j by omega] at this
      exact this
    have fin : ∀ j, (fun j => out (i + 1 + j)) j = (fun j => out (i + j)) (j + 1) := fun j => by show out (i + 1 + j) = out (i + (j + 1)); rw [show i + (j + 1) = i + 1 + j by omega]
    have rng : (List.range (d :: ds).length).filterMap (fun j => out (i + j)) = (match out (i + 0) with | some y => [y] | none => []) ++ (List.range ds.length).filterMap fun j => out (i + 1 + j) := by
      rw [List.length_cons, List.range_succ_eq_map, List.filterMap_cons, List.filterMap_map]
      have e2 : ((fun j => out (i + j)) ∘ Nat.succ) = fun j => out (i + 1 + j) := by
        funext j; show out (i + (j + 1)) = out (i + 1 + j); rw [show i + (j + 1) = i + 1 + j by omega]
      rw [e2]
      cases out (i + 0) <;> rfl
    simp only [List.length_cons] at hl
    cases t with
    | true =>
      rw [if_pos rfl] at h3
      obtain ⟨y, o, ρ3, h4, h5, h6⟩ := h3
      obtain ⟨ρ', q1, q2⟩ := lcL_run (b := b) (c := c) (e := e) (vs := vs) (P := P) (out := out) (ds := ds) (i := i + 1) (acc := acc ++ [y]) h6 (by simp; omega) st'
      refine ⟨ρ', ?_, by rw [List.length_cons, show i + (ds.length + 1) = i + 1 + ds.length by omega]; exact q2⟩
      rw [rng, h5]
      simp only [lcL, h1, h2, noex, R.bind, if_true, PF.fz, h4]
      rw [if_pos (by omega), q1]
      simp
    | false =>
      rw [if_neg Bool.false_ne_true] at h3
      obtain ⟨h5, h6⟩ := h3
      obtain ⟨ρ', q1, q2⟩ := lcL_run (b := b) (c := c) (e := e) (vs := vs) (P := P) (out := out) (ds := ds) (i := i + 1) (acc := acc) h6 (by omega) st'
      refine ⟨ρ', ?_, by rw [List.length_cons, show i + (ds.length + 1) = i + 1 + ds.length by omega]; exact q2⟩
      rw [rng, h5]
      simp only [lcL, h1, h2, noex, R.bind, Bool.false_ne_true, if_false]
      rw [q1]
      simp
/-- a comprehension that keeps each item's value, the slots unchanged -/
theorem lcL_map {b : Bn} {e : En → R (D × Bool)} {vs : List Nat} {ρ : En} {f : D → D} : ∀ {ds acc : List D}, acc.length + ds.length ≤ lim → (∀ d ∈ ds, ∃ ρ1 o ρ3, b d ρ = some ρ1 ∧ e ρ1 = .ok (f d, o) ρ3 ∧ wipeE ρ3 vs = ρ) → lcL b yesT e vs ds acc ρ = .ok (acc ++ ds.map f) ρ
  | [], acc, _, _ => by simp [lcL]
  | d :: ds, acc, hl, h => by
    obtain ⟨ρ1, o, ρ3, h1, h2, h3⟩ := h d List.mem_cons_self
    simp only [List.length_cons] at hl
    have ih := lcL_map (b := b) (e := e) (vs := vs) (ρ := ρ) (f := f) (ds := ds) (acc := acc ++ [f d]) (by simp; omega) fun x hx => h x (List.mem_cons_of_mem _ hx)
    simp only [lcL, h1, yesT, noex, R.bind, if_true, PF.fz, h2, h3]
    rw [if_pos (by omega), ih]
    simp
theorem lcL_filter {b : Bn} {c : En → R Bool} {e : En → R (D × Bool)} {vs : List Nat} {ρ : En} {p : D → Bool} {f : D → D} : ∀ {ds acc : List D}, acc.length + ds.length ≤ lim →
    (∀ d ∈ ds, ∃ ρ1 ρ2, b d ρ = some ρ1 ∧ c ρ1 = .ok (p d) ρ2 ∧ (if p d = true then ∃ o ρ3, e ρ2 = .ok (f d, o) ρ3 ∧ wipeE ρ3 vs = ρ else wipeE ρ2 vs = ρ)) → lcL b c e vs ds acc ρ = .ok (acc ++ (ds.filter p).map f) ρ
  | [], acc, _, _ => by simp [lcL]
  | d :: ds, acc, hl, h => by
    obtain ⟨ρ1, ρ2, h1, h2, h3⟩ := h d List.mem_cons_self
    simp only [List.length_cons] at hl
    have tl := fun x hx => h x (List.mem_cons_of_mem d hx)
    cases hp : p d with
    | true =>
      rw [hp, if_pos rfl] at h3
      obtain ⟨o, ρ3, h4, h5⟩ := h3
      have ih := lcL_filter (b := b) (c := c) (e := e) (vs := vs) (ρ := ρ) (p := p) (f := f) (ds := ds) (acc := acc ++ [f d]) (by simp; omega) tl
      simp only [lcL, h1, h2, hp, noex, R.bind, if_true, PF.fz, h4, h5]
      rw [if_pos (by omega), ih]
      simp [hp]
    | false =>
      rw [hp, if_neg Bool.false_ne_true] at h3
      have ih := lcL_filter (b := b) (c := c) (e := e) (vs := vs) (ρ := ρ) (p := p) (f := f) (ds := ds) (acc := acc) (by omega) tl
      simp only [lcL, h1, h2, hp, noex, R.bind, Bool.false_ne_true, if_false, h3]
      rw [ih]
      simp [hp]
end PF

namespace PF
open PySem PySem.Spec L2
section
variable {ρ ρ1 : En} {a b c : Opd} {x y z : En → R (D × Bool)} {s t : Sm} {p q : En → R Bool} {α β : Type}
@[simp] theorem bind_ok {v : α} {f : α → En → R β} : R.bind (R.ok v ρ) f = f v ρ := id rfl
@[simp] theorem bind_ex {v : Exc} {f : α → En → R β} : R.bind (R.ex v ρ) f = R.ex v ρ := id rfl
@[simp] theorem bind_bad {f : α → En → R β} : R.bind R.bad f = R.bad := id rfl
@[simp] theorem bindS_ok {v : α} {f : α → En → R Fl} : bindS (R.ok v ρ) f = f v ρ := id rfl
@[simp] theorem noex_ok {v : α} : noex (R.ok v ρ) = R.ok v ρ := id rfl
@[simp] theorem fz_app : fz x ρ = (x ρ).bind fun d ρ' => .ok d.1 ρ' := id rfl
theorem seqD_app : seqD s t ρ = match s ρ with | .ok .nx ρ1 => t ρ1 | r => r := id rfl
@[simp] theorem nextD_app : nextD ρ = .ok .nx ρ := id rfl
@[simp] theorem dropD_app : dropD x ρ = bindS (x ρ) fun _ ρ' => .ok .nx ρ' := id rfl
@[simp] theorem retD_app : retD x ρ = bindS (x ρ) fun d ρ' => .ok (.rt d) ρ' := id rfl
@[simp] theorem retN_app : retN ρ = .ok (.rt (.non, false)) ρ := id rfl
@[simp] theorem ifS_app : ifS p s t ρ = bindS (p ρ) fun k ρ' => if k = true then s ρ' else t ρ' := id rfl
@[simp] theorem setD_app {i : Nat} : setD i x ρ = bindS (x ρ) fun d ρ' => match putS i (if d.2 = true then .ow d.1 else .fr d.1) ρ' with | some ρ2 => .ok .nx ρ2 | none => .bad := id rfl
@[simp] theorem retV_app {i : Nat} : retV i ρ = match ρ[i]? with | some (.ow d) => .ok (.rt (d, true)) (ρ.set i .un) | some (.fr d) => .ok (.rt (d, false)) ρ | some (.lf d) => .ok (.rt (d, false)) ρ | some (.ln d) => .ok (.rt (d, false)) (ρ.set i (.lf d)) | _ => .bad := id rfl
@[simp] theorem varD_app {i : Nat} : varD i ρ = match ρ[i]? with | some (.fr d) => .ok (d, false) ρ | some (.lf d) => .ok (d, false) ρ | some (.ow d) => .ok (d, false) (ρ.set i (.fr d)) | some (.ln d) => .ok (d, false) (ρ.set i (.lf d)) | _ => .bad := id rfl
@[simp] theorem conD_app {d : D} : conD d ρ = .ok (d, false) ρ := id rfl
/-- a slot that may be stored to -/
def Fre : Sl → Bool
  | .ln _ => false
  | .lf _ => false
  | _ => true
def freeAt (ρ : En) (i : Nat) : Bool := match ρ[i]? with | some x => Fre x | none => false
@[simp] theorem freeAt_def {ρ : En} {i : Nat} : freeAt ρ i = match ρ[i]? with | some x => Fre x | none => false := id rfl
@[simp] theorem fre_un : Fre .un = true := id rfl
@[simp] theorem fre_fr {d : D} : Fre (.fr d) = true := id rfl
@[simp] theorem fre_ow {d : D} : Fre (.ow d) = true := id rfl
@[simp] theorem putS_f {ρ : En} {i : Nat} {v : Sl} (h : freeAt ρ i = true) : putS i v ρ = some (ρ.set i v) := by
  unfold freeAt at h
  unfold putS
  cases hr : ρ[i]? with
  | none => rw [hr] at h; cases h
  | some x => rw [hr] at h; cases x <;> first | rfl | cases h
theorem putS_app {i : Nat} {v : Sl} : putS i v ρ = match ρ[i]? with | some (.ln _) => none | some (.lf _) => none | some _ => some (ρ.set i v) | none => none := id rfl
@[simp] theorem ev_var {i : Nat} : Opd.ev (.var i) ρ = match see ρ i with | some _ => .ok (.inl i) ρ | none => .bad := id rfl
@[simp] theorem ev_exp : Opd.ev (.exp x) ρ = (fz x ρ).bind fun d ρ' => .ok (.inr d) ρ' := id rfl
@[simp] theorem see_app {i : Nat} : see ρ i = (ρ[i]?).bind Sl.see := id rfl
@[simp] theorem see_fr {d : D} : Sl.see (.fr d) = some d := id rfl
@[simp] theorem see_ow {d : D} : Sl.see (.ow d) = some d := id rfl
@[simp] theorem see_ln {d : D} : Sl.see (.ln d) = some d := id rfl
@[simp] theorem see_lf {d : D} : Sl.see (.lf d) = some d := id rfl
@[simp] theorem late_l {i : Nat} : late ρ (.inl i) = see ρ i := id rfl
@[simp] theorem late_r {d : D} : late ρ (.inr d) = some d := id rfl
@[simp] theorem bin_app {f : F2} : bin f a b ρ = (a.ev ρ).bind fun x ρ1 => (b.ev ρ1).bind fun y ρ2 => match late ρ2 x, late ρ2 y with | some x, some y => ret? (f x y) ρ2 | _, _ => .bad := id rfl
@[simp] theorem una_app {f : D → Option (D × Bool)} : una f a ρ = (a.ev ρ).bind fun x ρ1 => match late ρ1 x with | some x => ret? (f x) ρ1 | _ => .bad := id rfl
@[simp] theorem ret_some {d : D × Bool} : ret? (some d) ρ = .ok d ρ := id rfl
@[simp] theorem evs_nil : evs [] ρ = .ok [] ρ := id rfl
@[simp] theorem evs_cons {r : List Opd} : evs (a :: r) ρ = (a.ev ρ).bind fun x ρ1 => (evs r ρ1).bind fun xs ρ2 => .ok (x :: xs) ρ2 := id rfl
@[simp] theorem lates_nil : lates ρ [] = some [] := id rfl
@[simp] theorem lates_cons {u : Sum Nat D} {r : List (Sum Nat D)} : lates ρ (u :: r) = match late ρ u, lates ρ r with | some x, some xs => some (x :: xs) | _, _ => none := id rfl
@[simp] theorem calD_app {f : List D → Option (D × Bool)} {as : List Opd} : calD f as ρ = (evs as ρ).bind fun xs ρ1 => match lates ρ1 xs with | some xs => ret? (f xs) ρ1 | none => .bad := id rfl
@[simp] theorem isB_app : isB x ρ = (x ρ).bind fun d ρ' => match d.1 with | .bl b => .ok b ρ' | _ => .bad := id rfl
@[simp] theorem tru_app : tru a ρ = (a.ev ρ).bind fun x ρ1 => match late ρ1 x with | some d => (match truth d with | some b => .ok b ρ1 | none => .bad) | none => .bad := id rfl
@[simp] theorem truth_bl {k : Bool} : truth (.bl k) = some k := id rfl
@[simp] theorem andT_app : andT p q ρ = (p ρ).bind fun c ρ1 => if c = true then q ρ1 else .ok false ρ1 := id rfl
@[simp] theorem orT_app : orT p q ρ = (p ρ).bind fun c ρ1 => if c = true then .ok true ρ1 else q ρ1 := id rfl
@[simp] theorem notT_app : notT p ρ = (p ρ).bind fun c ρ1 => .ok (!c) ρ1 := id rfl
@[simp] theorem andV_app : andV x y ρ = (fz x ρ).bind fun d ρ1 => match d with | .bl true => y ρ1 | .bl false => .ok (.bl false, false) ρ1 | _ => .bad := id rfl
@[simp] theorem orV_app : orV x y ρ = (fz x ρ).bind fun d ρ1 => match d with | .bl true => .ok (.bl true, false) ρ1 | .bl false => y ρ1 | _ => .bad := id rfl
@[simp] theorem notV_app : notV x ρ = (fz x ρ).bind fun d ρ1 => match d with | .bl b => .ok (.bl (!b), false) ρ1 | _ => .bad := id rfl
@[simp] theorem ifV_app : ifV p x y ρ = (p ρ).bind fun t ρ1 => if t = true then x ρ1 else y ρ1 := id rfl
@[simp] theorem chain_app {f g : F2} : chain f g a b c ρ = (a.ev ρ).bind fun x ρ1 => (b.ev ρ1).bind fun y ρ2 => match late ρ2 x, late ρ2 y with
  | some dx, some dy => match f dx dy with
    | some (.bl true, false) => (c.ev ρ2).bind fun z ρ3 => match late ρ3 y, late ρ3 z with
      | some dy, some dz => ret? (g dy dz) ρ3
      | _, _ => .bad
    | some (.bl false, false) => .ok (.bl false, false) ρ2
    | _ => .bad
  | _, _ => .bad := id rfl
@[simp] theorem evE_nil : evE [] ρ = .ok [] ρ := id rfl
@[simp] theorem evE_cons {r : List (En → R (D × Bool))} : evE (x :: r) ρ = (fz x ρ).bind fun d ρ1 => (evE r ρ1).bind fun ds ρ2 => .ok (d :: ds) ρ2 := id rfl
@[simp] theorem tupD_app {es : List (En → R (D × Bool))} : tupD es ρ = (evE es ρ).bind fun ds ρ' => if ds.length ≤ lim then .ok (.tup ds, false) ρ' else .bad := id rfl
@[simp] theorem lstD_app {es : List (En → R (D × Bool))} : lstD es ρ = (evE es ρ).bind fun ds ρ' => if ds.length ≤ lim then .ok (.lst ds, true) ρ' else .bad := id rfl
@[simp] theorem evO_nil : evO [] ρ = .ok [] ρ := id rfl
@[simp] theorem evO_cons {r : List (En → R (D × Bool))} : evO (x :: r) ρ = (x ρ).bind fun d ρ1 => (evO r ρ1).bind fun ds ρ2 => .ok (d :: ds) ρ2 := id rfl
@[simp] theorem parD_app {is : List Nat} {es : List (En → R (D × Bool))} : parD is es ρ = bindS (evO es ρ) fun ds ρ1 => match putAll is ds ρ1 with | some ρ2 => .ok .nx ρ2 | none => .bad := id rfl
@[simp] theorem putAll_nil : putAll [] [] ρ = some ρ := id rfl
@[simp] theorem putAll_cons {i : Nat} {is : List Nat} {d : D × Bool} {ds : List (D × Bool)} : putAll (i :: is) (d :: ds) ρ = (putS i (if d.2 = true then .ow d.1 else .fr d.1) ρ).bind (putAll is ds) := id rfl
@[simp] theorem stD_app {b : Bn} : stD b x ρ = bindS (fz x ρ) fun d ρ1 => match b d ρ1 with | some ρ2 => .ok .nx ρ2 | none => .bad := id rfl
@[simp] theorem bName_app {i : Nat} {d : D} : bName i d ρ = putS i (.fr d) ρ := id rfl
@[simp] theorem bTup_app {bs : List Bn} {ds : List D} : bTup bs (.tup ds) ρ = bAll bs ds ρ := id rfl
@[simp] theorem bAll_nil : bAll [] [] ρ = some ρ := id rfl
@[simp] theorem bAll_cons {b : Bn} {bs : List Bn} {d : D} {ds : List D} : bAll (b :: bs) (d :: ds) ρ = (b d ρ).bind fun ρ1 => bAll bs ds ρ1 := id rfl
theorem usr_app {n : Nat} {g : FR} {as : List Opd} : usr n g as ρ = (evs as ρ).bind fun xs ρ1 => handR n g xs ρ1 := id rfl
theorem handR_app {n : Nat} {g : FR} {xs : List (Sum Nat D)} : handR n g xs ρ1 = if (apart xs && xs.length == n) = true then (match hand ρ1 xs with
    | some sl => match g sl with
      | .ok d ρc => (match takeB ρc 0 xs ρ1 with
        | some ρ2 => .ok d ρ2
        | none => .bad)
      | .ex x ρc => (match takeB ρc 0 xs ρ1 with
        | some ρ2 => .ex x ρ2
        | none => .bad)
      | .bad => .bad
    | none => .bad) else .bad := id rfl
@[simp] theorem hand_nil : hand ρ [] = some [] := id rfl
@[simp] theorem hand_r {d : D} {r : List (Sum Nat D)} : hand ρ (.inr d :: r) = (hand ρ r).map (Sl.fr d :: ·) := id rfl
@[simp] theorem hand_l {j : Nat} {r : List (Sum Nat D)} : hand ρ (.inl j :: r) = match (ρ[j]?).bind lendS, hand ρ r with | some x, some xs => some (x :: xs) | _, _ => none := id rfl
@[simp] theorem lend_fr {d : D} : lendS (.fr d) = some (.fr d) := id rfl
@[simp] theorem lend_lf {d : D} : lendS (.lf d) = some (.fr d) := id rfl
@[simp] theorem lend_ow {d : D} : lendS (.ow d) = some (.ln d) := id rfl
@[simp] theorem lend_ln {d : D} : lendS (.ln d) = some (.ln d) := id rfl
@[simp] theorem take_nil {ρc : En} {i : Nat} : takeB ρc i [] ρ = some ρ := id rfl
@[simp] theorem take_r {ρc : En} {i : Nat} {d : D} {r : List (Sum Nat D)} : takeB ρc i (.inr d :: r) ρ = takeB ρc (i + 1) r ρ := id rfl
@[simp] theorem take_l {ρc : En} {i j : Nat} {r : List (Sum Nat D)} : takeB ρc i (.inl j :: r) ρ = match ρ[j]? with | some x => (match takeS x (ρc[i]?) with | some y => takeB ρc (i + 1) r (ρ.set j y) | none => none) | none => none := id rfl
@[simp] theorem take_fr {d : D} {o : Option Sl} : takeS (.fr d) o = some (.fr d) := id rfl
@[simp] theorem take_lf {d : D} {o : Option Sl} : takeS (.lf d) o = some (.lf d) := id rfl
@[simp] theorem take_ow {d e : D} : takeS (.ow d) (some (.ln e)) = some (.ow e) := id rfl
@[simp] theorem take_ow2 {d e : D} : takeS (.ow d) (some (.lf e)) = some (.fr e) := id rfl
@[simp] theorem take_ln {d e : D} : takeS (.ln d) (some (.ln e)) = some (.ln e) := id rfl
@[simp] theorem take_ln2 {d e : D} : takeS (.ln d) (some (.lf e)) = some (.lf e) := id rfl
@[simp] theorem apart_nil : apart [] = true := id rfl
@[simp] theorem apart_r {d : D} {r : List (Sum Nat D)} : apart (.inr d :: r) = apart r := id rfl
@[simp] theorem apart_l {j : Nat} {r : List (Sum Nat D)} : apart (.inl j :: r) = (r.all (fun x => match x with | .inl i => i != j | .inr _ => true) && apart r) := id rfl
@[simp] theorem keep_nil {as : En} : keepL as [] = [] := by cases as <;> rfl
@[simp] theorem keep_nil2 {as : En} : keepL [] as = [] := id rfl
@[simp] theorem keep_fr {d : D} {y : Sl} {as bs : En} : keepL (.fr d :: as) (y :: bs) = .un :: keepL as bs := id rfl
@[simp] theorem keep_ln {d : D} {y : Sl} {as bs : En} : keepL (.ln d :: as) (y :: bs) = y :: keepL as bs := id rfl
theorem fnD_app {m : Nat} {body : Sm} {as : En} : fnD m body as = match body (as ++ List.replicate (m - as.length) .un) with | .ok (.rt d) ρ => .ok d (keepL as ρ) | .ok .nx ρ => .ok (.non, false) (keepL as ρ) | .ex x ρ => .ex x (keepL as ρ) | _ => .bad := id rfl
@[simp] theorem itV_app : itV x ρ = (fz x ρ).bind fun d ρ' => match d with | .lst ds => .ok ds ρ' | .tup ds => .ok ds ρ' | .rdl ds => .ok ds ρ' | _ => .bad := id rfl
@[simp] theorem itC_app {f : List D → Option (List D)} {as : List (En → R (D × Bool))} : itC f as ρ = (evE as ρ).bind fun ds ρ' => match f ds with | some r => .ok r ρ' | none => .bad := id rfl
theorem forS_app {it : En → R (List D)} {b : Bn} {body : Sm} : forS it b body ρ = bindS (it ρ) fun ds ρ' => forD b body ds ρ' := id rfl
theorem lcD_app {it : En → R (List D)} {b : Bn} {c : En → R Bool} {e : En → R (D × Bool)} {vs : List Nat} : lcD it b c e vs ρ = (it ρ).bind fun ds ρ1 => (noex (lcL b c e vs ds [] (wipeE ρ1 vs))).bind fun acc ρ2 => .ok (.lst acc, true) (backE vs ρ1 ρ2) := id rfl
@[simp] theorem ownL_app {i : Nat} : ownL i ρ = match ρ[i]? with | some (.ow (.lst ds)) => some (.ow (.lst ds), ds) | some (.ln (.lst ds)) => some (.ln (.lst ds), ds) | _ => none := id rfl
@[simp] theorem ownI_app {i : Nat} : ownI i ρ = match ρ[i]? with | some (.ow (.ins c fs)) => some (.ow (.ins c fs), c, fs) | some (.ln (.ins c fs)) => some (.ln (.ins c fs), c, fs) | _ => none := id rfl
@[simp] theorem bSub_app {i : Nat} {d : D} : bSub i x d ρ = match ownL i ρ with
  | none => none
  | some _ => match fz x ρ with
    | .ok (.int k) ρ1 => match ownL i ρ1 with
      | some (x, ds) => match ixN ds.length k with
        | some j => some (ρ1.set i (x.re (.lst (ds.set j d))))
        | none => none
      | none => none
    | _ => none := id rfl
@[simp] theorem bFld_app {i : Nat} {ok : Nat → Str → Bool} {f : Str} {d : D} : bFld i ok f d ρ = match ownI i ρ with | some (x, c, fs) => if (ok c f && decide (fs.length < 1000)) = true then some (ρ.set i (x.re (.ins c (putD f d fs)))) else none | none => none := id rfl
@[simp] theorem re_ow {d e : D} : Sl.re (.ow d) e = .ow e := id rfl
@[simp] theorem re_ln {d e : D} : Sl.re (.ln d) e = .ln e := id rfl
@[simp] theorem appS_app {i : Nat} : appS i x ρ = match ownL i ρ with | none => .bad | some _ => bindS (fz x ρ) fun d ρ1 => match ownL i ρ1 with | some (x, ds) => if ds.length < lim then .ok .nx (ρ1.set i (x.re (.lst (ds ++ [d])))) else .bad | none => .bad := id rfl
@[simp] theorem extS_app {i : Nat} : extS i x ρ = match ownL i ρ with | none => .bad | some _ => bindS (fz x ρ) fun d ρ1 => match ownL i ρ1, d with | some (x, ds), .lst es => if ds.length + es.length ≤ lim then .ok .nx (ρ1.set i (x.re (.lst (ds ++ es)))) else .bad | _, _ => .bad := id rfl
theorem newD_app {k n : Nat} {g : FR} {as : List (En → R (D × Bool))} : newD k n g as ρ = (evE as ρ).bind fun ds ρ1 => if ds.length + 1 = n then (match g (.ln (.ins k []) :: ds.map Sl.fr) with | .ok (.non, false) (.ln d :: _) => .ok (d, true) ρ1 | .ex x _ => .ex x ρ1 | _ => .bad) else .bad := id rfl
theorem cmpI_app {op : CmpOp} {t : Bool → Bool} {ge : Nat → Option FR} : cmpI op t ge a b ρ = (a.ev ρ).bind fun x ρ1 => (b.ev ρ1).bind fun y ρ2 => match late ρ2 x, late ρ2 y with
  | some dx, some dy => match dx, dy with
    | .ins c _, .ins c' _ => if c = c' then (match ge c with
      | some g => (noex (handR 2 g [x, y] ρ2)).bind fun d ρ3 => match d with
        | (.bl k, false) => .ok (.bl (t k), false) ρ3
        | _ => .bad
      | none => .bad) else .bad
    | dx, dy => ret? (fCmp op dx dy) ρ2
  | _, _ => .bad := id rfl
@[simp] theorem backE_app {vs : List Nat} {ρb : En} : backE vs ρ ρb = ρb.mapIdx fun i x => if i ∈ vs then (ρ[i]?).getD .un else x := id rfl
@[simp] theorem yesT_app : yesT ρ = .ok true ρ := id rfl
@[simp] theorem wipe_nil : wipeE ρ [] = ρ := id rfl
@[simp] theorem wipe_cons {v : Nat} {vs : List Nat} : wipeE ρ (v :: vs) = (wipeE ρ vs).set v .un := id rfl
end
@[simp] theorem lim_eq : lim = 1000000 := id rfl
@[simp] theorem op_add_i {i j : Int} : fOp .Add (.int i) (.int j) = some (.int (i + j), false) := id rfl
@[simp] theorem op_sub_i {i j : Int} : fOp .Sub (.int i) (.int j) = some (.int (i - j), false) := by simp [fOp, fSub, onI, cAll, vI]
theorem op_mul_i {i j : Int} (h : (-(2 ^ 64) < i ∧ i < 2 ^ 64) ∨ (-(2 ^ 64) < j ∧ j < 2 ^ 64)) : fOp .Mult (.int i) (.int j) = some (.int (i * j), false) := by
  show onI cMul _ (.int i) (.int j) = _
  simp only [onI]
  rw [if_pos (show cMul i j from h)]
  rfl
theorem op_mod_i {i j : Int} (h : 0 < j) : fOp .Mod (.int i) (.int j) = some (.int (i % j), false) := by
  show onI cMod _ (.int i) (.int j) = _
  simp only [onI]
  rw [if_pos (show cMod i j from h)]
  rfl
theorem op_div_i {i j : Int} (h : 0 < j) (h2 : j < 1073741824) : fOp .FloorDiv (.int i) (.int j) = some (.int (i / j), false) := by
  show onI cDiv _ (.int i) (.int j) = _
  simp only [onI]
  rw [if_pos (show cDiv i j from ⟨h, h2⟩)]
  rfl
theorem op_shl_i {i j : Int} (h : 0 ≤ j) (h2 : j ≤ 1000000) (h3 : i.natAbs < 2 ^ 64) : fOp .LShift (.int i) (.int j) = some (.int (i * 2 ^ j.toNat), false) := by
  have hc : cPow i j := ⟨h, h2, h3⟩
  simp only [fOp, fShl, onI, if_pos hc, vI]
@[simp] theorem cmp_eq {a b : D} : fCmp .Eq a b = oB (dEq a b) := id rfl
@[simp] theorem cmp_ne {a b : D} : fCmp .NotEq a b = oB ((dEq a b).map not) := id rfl
@[simp] theorem oB_some {k : Bool} : oB (some k) = some (.bl k, false) := id rfl
theorem dEq_ok {a b : D} (h : shp a = true) (h2 : shp b = true) : dEq a b = some (eqvD a b) := by simp [dEq, h, h2]
@[simp] theorem dEq_int {i j : Int} : dEq (.int i) (.int j) = some (decide (i = j)) := by rw [dEq_ok shp_int shp_int, eqv_int]
@[simp] theorem dEq_bl {i j : Bool} : dEq (.bl i) (.bl j) = some (decide (i = j)) := by rw [dEq_ok shp_bl shp_bl, eqv_bl]
@[simp] theorem dEq_iL {l m : List Int} : dEq (.tup (iL l)) (.tup (iL m)) = some (decide (l = m)) := by rw [dEq_ok shp_ints shp_ints, eqv_ints]
@[simp] theorem cmp_lt {i j : Int} : fCmp .Lt (.int i) (.int j) = some (.bl (decide (i < j)), false) := id rfl
@[simp] theorem cmp_gt {i j : Int} : fCmp .Gt (.int i) (.int j) = some (.bl (decide (j < i)), false) := id rfl
@[simp] theorem cmp_le {i j : Int} : fCmp .LtE (.int i) (.int j) = some (.bl (decide (i ≤ j)), false) := id rfl
@[simp] theorem cmp_ge {i j : Int} : fCmp .GtE (.int i) (.int j) = some (.bl (decide (j ≤ i)), false) := id rfl
@[simp] theorem fLen_l {ds : List D} : fLen [.lst ds] = some (.int ds.length, false) := id rfl
@[simp] theorem fLen_t {ds : List D} : fLen [.tup ds] = some (.int ds.length, false) := id rfl
@[simp] theorem fLen_r {ds : List D} : fLen [.rdl ds] = some (.int ds.length, false) := id rfl
@[simp] theorem fInt_i {i : Int} : fInt [.int i] = some (.int i, false) := id rfl
@[simp] theorem fInt_b {k : Bool} : fInt [.bl k] = some (.int (if k then 1 else 0), false) := id rfl
@[simp] theorem fAbs_i {i : Int} : fAbs [.int i] = some (.int (if i < 0 then -i else i), false) := id rfl
@[simp] theorem fTuple_l {ds : List D} : fTuple [.lst ds] = some (.tup ds, false) := id rfl
@[simp] theorem fTuple_t {ds : List D} : fTuple [.tup ds] = some (.tup ds, false) := id rfl
@[simp] theorem fList_l {ds : List D} : fList [.lst ds] = some (.lst ds, true) := id rfl
@[simp] theorem fList_t {ds : List D} : fList [.tup ds] = some (.lst ds, true) := id rfl
theorem ix_lst {ds : List D} {i : Nat} {d : D} (h : ds[i]? = some d) : fIx (.lst ds) (.int i) = some (d, false) := by simp [fIx, atI_nat h]
theorem ix_tup' {ds : List D} {i : Nat} {d : D} (h : ds[i]? = some d) : fIx (.tup ds) (.int i) = some (d, false) := by simp [fIx, atI_nat h]
@[simp] theorem range1 {j : Int} (h : bnd62 j = true) : fRange1 [.int j] = some (upTo 0 j.toNat) := by simp [fRange1, h]
theorem add_tup {xs ys : List D} (h : xs.length + ys.length ≤ lim) : fOp .Add (.tup xs) (.tup ys) = some (.tup (xs ++ ys), false) := by
  show fAdd (.tup xs) (.tup ys) = _
  simp only [fAdd]
  rw [if_pos h]
end PF

namespace PF
open PySem PySem.Spec L2
def Gh (g : En → En) : Prop := ∀ (K : PySem.W.Frag) (cl : Cl) (F : Hp) (ρ : En) (σ : L2.St) (H : Hp), Corr K cl F ρ σ H → ∃ F', Step F ρ σ H F' (g ρ) σ H ∧ Corr K cl F' (g ρ) σ H
theorem gh_id : Gh id := fun K cl F ρ σ H c => ⟨F, Step.refl _ _ _ _, c⟩
theorem gh_comp {g h : En → En} (a : Gh g) (b : Gh h) : Gh fun ρ => g (h ρ) := fun K cl F ρ σ H c => by
  obtain ⟨F1, s1, c1⟩ := b K cl F ρ σ H c
  obtain ⟨F2, s2, c2⟩ := a K cl F1 _ σ H c1
  exact ⟨F2, s1.trans s2, c2⟩
/-- a slot is frozen -/
def frz1 (i : Nat) (ρ : En) : En := match ρ[i]? with
  | some (.ow d) => ρ.set i (.fr d)
  | _ => ρ
theorem gh_frz1 (i : Nat) : Gh (frz1 i) := fun K cl F ρ σ H c => by
  unfold frz1
  cases hr : ρ[i]? with
  | none => exact ⟨F, Step.refl _ _ _ _, c⟩
  | some x =>
    cases x with
    | ow d =>
      obtain ⟨F', v, st, co, _, _⟩ := freeze_slot c hr (.inl ⟨rfl, rfl⟩)
      exact ⟨F', st, co⟩
    | _ => exact ⟨F, Step.refl _ _ _ _, c⟩
def frzE : List Nat → En → En
  | [], ρ => ρ
  | i :: is, ρ => frz1 i (frzE is ρ)
theorem gh_frzE : ∀ is : List Nat, Gh (frzE is)
  | [] => gh_id
  | i :: is => (gh_comp (gh_frz1 i) (gh_frzE is) : Gh fun ρ => frz1 i (frzE is ρ))
/-- a slot is forgotten -/
def fgt1 (i : Nat) (ρ : En) : En := match ρ[i]? with
  | some (.fr _) => ρ.set i .un
  | some (.ow _) => ρ.set i .un
  | _ => ρ
theorem fgt_fr {K : PySem.W.Frag} {cl : Cl} {F : Hp} {ρ : En} {σ : L2.St} {H : Hp} {i : Nat} {d : D} (c : Corr K cl F ρ σ H) (h : ρ[i]? = some (.fr d)) : Step F ρ σ H F (ρ.set i .un) σ H ∧ Corr K cl F (ρ.set i .un) σ H := by
  have hi := (List.getElem?_eq_some_iff.mp h).1
  have get : ∀ (j : Nat) (y : Sl), (ρ.set i .un)[j]? = some y → (j = i ∧ y = .un) ∨ ρ[j]? = some y := fun j y q1 => by
    by_cases q : j = i
    · subst q; rw [List.getElem?_set_self hi] at q1; cases q1; exact .inl ⟨rfl, rfl⟩
    · rw [List.getElem?_set_ne (Ne.symm q)] at q1; exact .inr q1
  have ne : ∀ (j : Nat) (y : Sl), ρ[j]? = some y → (∀ d, y ≠ .fr d) → (ρ.set i .un)[j]? = some y := fun j y q n => by
    have hj : j ≠ i := by rintro rfl; rw [h] at q; cases q; exact n _ rfl
    rw [List.getElem?_set_ne (Ne.symm hj)]; exact q
  refine ⟨⟨Le.refl _, fun _ _ h _ _ => h, fun _ _ _ _ _ h => h, fun _ ps h => ⟨ps, h⟩, fun a ⟨j, y, e, q1, q2, q3⟩ => .inl ?_, fun _ o h => ⟨o, h⟩, fun j e q => ⟨rfl, .inl ⟨e, ne j _ q fun d z => by cases z⟩⟩, fun j e q => ⟨rfl, ne j _ q fun d z => by cases z⟩⟩, ⟨by simp [c.len], c.le, fun j y w q1 q2 => ?_, fun j k y z e e' b q1 q2 q3 q4 q5 q6 => ?_, c.tab⟩⟩
  · rcases get j y q1 with ⟨_, rfl⟩ | g
    · cases q2
    · exact ⟨j, y, e, g, q2, q3⟩
  · rcases get j y q1 with ⟨_, rfl⟩ | g
    · trivial
    · exact c.slot j y w g q2
  · rcases get j y q1 with ⟨_, rfl⟩ | g
    · cases q3
    · rcases get k z q2 with ⟨_, rfl⟩ | g2
      · cases q4
      · exact c.inj j k y z e e' b g g2 q3 q4 q5 q6
theorem gh_fgt1 (i : Nat) : Gh (fgt1 i) := fun K cl F ρ σ H c => by
  unfold fgt1
  cases hr : ρ[i]? with
  | none => exact ⟨F, Step.refl _ _ _ _, c⟩
  | some x =>
    cases x with
    | ow d =>
      obtain ⟨_, _, _, _, c2, _⟩ := c.release hr rfl
      exact ⟨F, Step.release hr, c2⟩
    | fr d => exact ⟨F, fgt_fr c hr⟩
    | _ => exact ⟨F, Step.refl _ _ _ _, c⟩
def fgtE : List Nat → En → En
  | [], ρ => ρ
  | i :: is, ρ => fgt1 i (fgtE is ρ)
theorem gh_fgtE : ∀ is : List Nat, Gh (fgtE is)
  | [] => gh_id
  | i :: is => (gh_comp (gh_fgt1 i) (gh_fgtE is) : Gh fun ρ => fgt1 i (fgtE is ρ))
/-- a statement, then a ghost -/
def postG (g : En → En) (den : Sm) : Sm := fun ρ => match den ρ with
  | .ok .nx ρ' => .ok .nx (g ρ')
  | .ok .ct ρ' => .ok .ct (g ρ')
  | .ok .bk ρ' => .ok .bk (g ρ')
  | r => r
section
variable {X : Cx} {cl : Cl} {W : WX} {s : Stmt} {ss : List Stmt} {den : Sm} {g : En → En}
theorem tS_post {K : PySem.W.Frag} {Dn : Ends} {σ : L2.St} {H : Hp} (hg : Gh g) (h : tS K cl W (postG g den) Dn σ H) : tS K cl W den Dn σ H := by
  obtain ⟨F, ρ, c, p⟩ := h
  refine ⟨F, ρ, c, ?_⟩
  unfold postG at p
  cases hd : den ρ with
  | bad => rw [hd] at p; exact p
  | ex x ρ' => rw [hd] at p; exact p
  | ok fl ρ' =>
    rw [hd] at p
    cases fl with
    | rt d => exact p
    | nx =>
      intro F' σ' H' st co
      obtain ⟨F2, s2, c2⟩ := hg K cl F' ρ' σ' H' co
      exact p F2 σ' H' (st.trans s2) c2
    | bk =>
      intro F' σ' H' st co
      obtain ⟨F2, s2, c2⟩ := hg K cl F' ρ' σ' H' co
      exact p F2 σ' H' (st.trans s2) c2
    | ct =>
      intro F' σ' H' st co
      obtain ⟨F2, s2, c2⟩ := hg K cl F' ρ' σ' H' co
      exact p F2 σ' H' (st.trans s2) c2
theorem ss_post (hg : Gh g) (h : SS X cl W s den) : SS X cl W s (postG g den) := ps_weak h fun Dn σ H q => tS_post hg q
theorem sb_post (hg : Gh g) (h : SB X cl W ss den) : SB X cl W ss (postG g den) := pss_weak h fun Dn σ H q => tS_post hg q
end
/-- a store of a frozen value -/
def setF (i : Nat) (den : En → R (D × Bool)) : Sm := fun ρ => bindS (den ρ) fun d ρ' => match putS i (.fr d.1) ρ' with
  | some ρ2 => .ok .nx ρ2
  | none => .bad
theorem setF_eq {i : Nat} {den : En → R (D × Bool)} : postG (frz1 i) (setD i den) = setF i den := by
  funext ρ
  unfold postG setD setF
  cases hd : den ρ with
  | bad => rfl
  | ex x ρ' => rfl
  | ok d ρ' =>
    obtain ⟨d, o⟩ := d
    simp only [bindS]
    unfold putS
    cases hr : ρ'[i]? with
    | none => rfl
    | some x =>
      have hi := (List.getElem?_eq_some_iff.mp hr).1
      cases x <;> cases o <;> simp [frz1, hi]
theorem ss_setF {X : Cx} {cl : Cl} {W : WX} {s : Stmt} {i : Nat} {den : En → R (D × Bool)} (h : SS X cl W s (setD i den)) : SS X cl W s (setF i den) := by
  rw [← setF_eq]; exact ss_post (gh_frz1 i) h
section
variable {ρ : En} {x : En → R (D × Bool)} {s : Sm}
@[simp] theorem setF_app {i : Nat} : setF i x ρ = bindS (x ρ) fun d ρ' => match putS i (.fr d.1) ρ' with | some ρ2 => .ok .nx ρ2 | none => .bad := id rfl
@[simp] theorem postG_app {g : En → En} : postG g s ρ = match s ρ with
  | .ok .nx ρ' => .ok .nx (g ρ')
  | .ok .ct ρ' => .ok .ct (g ρ')
  | .ok .bk ρ' => .ok .bk (g ρ')
  | r => r := id rfl
@[simp] theorem frz1_app {i : Nat} : frz1 i ρ = match ρ[i]? with | some (.ow d) => ρ.set i (.fr d) | _ => ρ := id rfl
@[simp] theorem frzE_nil : frzE [] ρ = ρ := id rfl
@[simp] theorem frzE_cons {i : Nat} {is : List Nat} : frzE (i :: is) ρ = frz1 i (frzE is ρ) := id rfl
@[simp] theorem fgt1_app {i : Nat} : fgt1 i ρ = match ρ[i]? with | some (.fr _) => ρ.set i .un | some (.ow _) => ρ.set i .un | _ => ρ := id rfl
@[simp] theorem fgtE_nil : fgtE [] ρ = ρ := id rfl
@[simp] theorem fgtE_cons {i : Nat} {is : List Nat} : fgtE (i :: is) ρ = fgt1 i (fgtE is ρ) := id rfl
end
end PF

namespace PF
open PySem PySem.Spec L2
def step (b : Bn) (body : Sm) (d : D) (ρ : En) : R Fl := match b d ρ with
  | none => .bad
  | some ρ1 => body ρ1
def turn (b : Bn) (e : En → R (D × Bool)) (vs : List Nat) (d : D) (ρ : En) : R D := match b d ρ with
  | none => .bad
  | some ρ1 => (fz e ρ1).bind fun y ρ3 => .ok y (wipeE ρ3 vs)
def turnF (b : Bn) (c : En → R Bool) (e : En → R (D × Bool)) (vs : List Nat) (d : D) (ρ : En) : R (Option D) := match b d ρ with
  | none => .bad
  | some ρ1 => (c ρ1).bind fun t ρ2 => if t = true then (fz e ρ2).bind fun y ρ3 => .ok (some y) (wipeE ρ3 vs) else .ok none (wipeE ρ2 vs)
section
variable {b : Bn} {body : Sm} {c : En → R Bool} {e : En → R (D × Bool)} {vs : List Nat} {it : En → R (List D)} {ρ ρ1 : En} {α S : Type} {d : D}
theorem step_app : step b body d ρ = match b d ρ with | none => .bad | some ρ1 => body ρ1 := id rfl
theorem turn_app : turn b e vs d ρ = match b d ρ with | none => .bad | some ρ1 => (fz e ρ1).bind fun y ρ3 => .ok y (wipeE ρ3 vs) := id rfl
theorem turnF_app : turnF b c e vs d ρ = match b d ρ with
  | none => .bad
  | some ρ1 => (c ρ1).bind fun t ρ2 => if t = true then (fz e ρ2).bind fun y ρ3 => .ok (some y) (wipeE ρ3 vs) else .ok none (wipeE ρ2 vs) := id rfl

theorem forD_nx {ds : List D} {ρ2 : En} (h : step b body d ρ = .ok .nx ρ2 ∨ step b body d ρ = .ok .ct ρ2) : forD b body (d :: ds) ρ = forD b body ds ρ2 := by
  unfold step at h
  cases hb : b d ρ with
  | none => rw [hb] at h; rcases h with h | h <;> cases h
  | some ρ1 =>
    rw [hb] at h
    dsimp only at h
    rcases h with h | h <;> simp only [forD, hb, h]
/-- a for that goes through all, the state told by st -/
theorem for_fold (enc : α → D) (st : S → En) (f : S → α → S) (I : S → Prop) : ∀ (l : List α) (s : S), I s → (∀ x ∈ l, ∀ s, I s → I (f s x) ∧ (step b body (enc x) (st s) = .ok .nx (st (f s x)) ∨ step b body (enc x) (st s) = .ok .ct (st (f s x)))) →
    forD b body (l.map enc) (st s) = .ok .nx (st (l.foldl f s)) ∧ I (l.foldl f s)
  | [], s, h, _ => ⟨rfl, h⟩
  | x :: l, s, h, hs => by
    obtain ⟨h1, h2⟩ := hs x List.mem_cons_self s h
    obtain ⟨q1, q2⟩ := for_fold enc st f I l (f s x) h1 fun y hy => hs y (List.mem_cons_of_mem _ hy)
    refine ⟨?_, q2⟩
    rw [List.map_cons, List.foldl_cons]
    unfold step at h2
    cases hb : b (enc x) (st s) with
    | none => rw [hb] at h2; rcases h2 with h2 | h2 <;> cases h2
    | some ρ1 =>
      rw [hb] at h2
      dsimp only at h2
      rcases h2 with h2 | h2 <;> simp only [forD, hb, h2] <;> exact q1
/-- the same without an invariant -/
theorem for_fold' (enc : α → D) (st : S → En) (f : S → α → S) (l : List α) (s : S) (hs : ∀ x ∈ l, ∀ s, step b body (enc x) (st s) = .ok .nx (st (f s x))) :
    forD b body (l.map enc) (st s) = .ok .nx (st (l.foldl f s)) :=
  (for_fold enc st f (fun _ => True) l s trivial fun x hx s _ => ⟨trivial, .inl (hs x hx s)⟩).1
/-- by the place: P says what holds ahead of each -/
theorem for_nth {P : Nat → En → Prop} {ds : List D} {ρ : En} (h0 : P 0 ρ) (hs : ∀ (j : Nat) (d : D) (ρ : En), ds[j]? = some d → P j ρ → ∃ ρ2, (step b body d ρ = .ok .nx ρ2 ∨ step b body d ρ = .ok .ct ρ2) ∧ P (j + 1) ρ2) : ∃ ρ', forD b body ds ρ = .ok .nx ρ' ∧ P ds.length ρ' := by
  obtain ⟨ρ', h1, h2⟩ := forD_run (b := b) (body := body) (P := P) (ds := ds) (i := 0) (ρ := ρ) h0 fun j d ρ hj hp => by
    rw [Nat.zero_add] at hp
    obtain ⟨ρ2, h1, h2⟩ := hs j d ρ hj hp
    unfold step at h1
    cases hb : b d ρ with
    | none => rw [hb] at h1; rcases h1 with h1 | h1 <;> cases h1
    | some ρ1 =>
      rw [hb] at h1
      exact ⟨ρ1, rfl, ρ2, h1, by rw [Nat.zero_add]; exact h2⟩
  exact ⟨ρ', h1, by rwa [Nat.zero_add] at h2⟩
/-- all turns alike: P stays -/
theorem for_inv {P : En → Prop} : ∀ {ds : List D} {ρ : En}, P ρ → (∀ d ∈ ds, ∀ ρ, P ρ → ∃ ρ2, (step b body d ρ = .ok .nx ρ2 ∨ step b body d ρ = .ok .ct ρ2) ∧ P ρ2) → ∃ ρ', forD b body ds ρ = .ok .nx ρ' ∧ P ρ'
  | [], ρ, h, _ => ⟨ρ, rfl, h⟩
  | d :: ds, ρ, h, hs => by
    obtain ⟨ρ2, h2, h3⟩ := hs d List.mem_cons_self ρ h
    obtain ⟨ρ', q1, q2⟩ := for_inv (ds := ds) h3 fun y hy => hs y (List.mem_cons_of_mem _ hy)
    refine ⟨ρ', ?_, q2⟩
    unfold step at h2
    cases hb : b d ρ with
    | none => rw [hb] at h2; rcases h2 with h2 | h2 <;> cases h2
    | some ρ1 =>
      rw [hb] at h2
      dsimp only at h2
      rcases h2 with h2 | h2 <;> simp only [forD, hb, h2] <;> exact q1
/-- a for that hands back at the first item of a kind -/
theorem for_find (enc : α → D) (p : α → Bool) (g : α → D × Bool) (r : α → En) : ∀ (l : List α), (∀ x ∈ l, step b body (enc x) ρ = if p x = true then .ok (.rt (g x)) (r x) else .ok .nx ρ) →
    forD b body (l.map enc) ρ = match l.find? p with | some x => .ok (.rt (g x)) (r x) | none => .ok .nx ρ
  | [], _ => rfl
  | x :: l, hs => by
    have h := hs x List.mem_cons_self
    have ih := for_find enc p g r l fun y hy => hs y (List.mem_cons_of_mem _ hy)
    unfold step at h
    rw [List.map_cons, List.find?_cons]
    cases hb : b (enc x) ρ with
    | none =>
      rw [hb] at h
      dsimp only at h
      cases hp : p x <;> rw [hp] at h <;> simp at h
    | some ρ1 =>
      rw [hb] at h
      dsimp only at h
      cases hp : p x with
      | true => rw [hp, if_pos rfl] at h; simp only [forD, hb, h]
      | false => rw [hp, if_neg Bool.false_ne_true] at h; simp only [forD, hb, h]; exact ih
/-- [e for x in l] -/
theorem lc_map (enc g : α → D) (l : List α) (hit : it ρ = .ok (l.map enc) ρ) (hl : l.length ≤ 1000000) (hw : backE vs ρ (wipeE ρ vs) = ρ) (h : ∀ x ∈ l, turn b e vs (enc x) (wipeE ρ vs) = .ok (g x) (wipeE ρ vs)) :
    lcD it b yesT e vs ρ = .ok (.lst (l.map g), true) ρ := by
  have key : ∀ (l : List α) (acc : List D), acc.length + l.length ≤ 1000000 → (∀ x ∈ l, turn b e vs (enc x) (wipeE ρ vs) = .ok (g x) (wipeE ρ vs)) → lcL b yesT e vs (l.map enc) acc (wipeE ρ vs) = .ok (acc ++ l.map g) (wipeE ρ vs) := by
    intro l
    induction l with
    | nil => intro acc _ _; simp [lcL]
    | cons x l ih =>
      intro acc ha hs
      simp only [List.length_cons] at ha
      have h1 := hs x List.mem_cons_self
      have h2 := ih (acc ++ [g x]) (by simp; omega) fun y hy => hs y (List.mem_cons_of_mem _ hy)
      unfold turn at h1
      cases hb : b (enc x) (wipeE ρ vs) with
      | none => rw [hb] at h1; cases h1
      | some ρ1 =>
        rw [hb] at h1
        dsimp only at h1
        cases he : fz e ρ1 with
        | bad => rw [he] at h1; cases h1
        | ex x ρ' => rw [he] at h1; cases h1
        | ok y ρ3 =>
          rw [he] at h1
          simp only [R.bind, R.ok.injEq] at h1
          obtain ⟨rfl, h3⟩ := h1
          simp only [List.map_cons, lcL, hb, yesT, noex, R.bind, if_true, he]
          rw [if_pos (by show acc.length < 1000000; omega), h3, h2]
          simp
  rw [lcD_app, hit, bind_ok, key l [] (by simpa using hl) h]
  simp only [noex, R.bind, List.nil_append, hw]
/-- [e for x in l if c] -/
theorem lc_filt (enc g : α → D) (p : α → Bool) (l : List α) (hit : it ρ = .ok (l.map enc) ρ) (hl : l.length ≤ 1000000) (hw : backE vs ρ (wipeE ρ vs) = ρ)
    (h : ∀ x ∈ l, turnF b c e vs (enc x) (wipeE ρ vs) = .ok (if p x = true then some (g x) else none) (wipeE ρ vs)) :
    lcD it b c e vs ρ = .ok (.lst ((l.filter p).map g), true) ρ := by
  have key : ∀ (l : List α) (acc : List D), acc.length + l.length ≤ 1000000 → (∀ x ∈ l, turnF b c e vs (enc x) (wipeE ρ vs) = .ok (if p x = true then some (g x) else none) (wipeE ρ vs)) → lcL b c e vs (l.map enc) acc (wipeE ρ vs) = .ok (acc ++ (l.filter p).map g) (wipeE ρ vs) := by
    intro l
    induction l with
    | nil => intro acc _ _; simp [lcL]
    | cons x l ih =>
      intro acc ha hs
      simp only [List.length_cons] at ha
      have h1 := hs x List.mem_cons_self
      have h2 := fun acc h => ih acc h fun y hy => hs y (List.mem_cons_of_mem _ hy)
      unfold turnF at h1
      cases hb : b (enc x) (wipeE ρ vs) with
      | none => rw [hb] at h1; cases h1
      | some ρ1 =>
        rw [hb] at h1
        dsimp only at h1
        cases hc : c ρ1 with
        | bad => rw [hc] at h1; cases h1
        | ex x ρ' => rw [hc] at h1; cases h1
        | ok t ρ2 =>
          rw [hc] at h1
          simp only [R.bind] at h1
          cases t with
          | false =>
            rw [if_neg Bool.false_ne_true] at h1
            cases hp : p x with
            | true => rw [hp, if_pos rfl] at h1; cases h1
            | false =>
              simp only [hp, Bool.false_eq_true, if_false, R.ok.injEq, true_and] at h1
              simp only [List.map_cons, lcL, hb, hc, noex, R.bind, Bool.false_ne_true, if_false]
              rw [h1, h2 acc (by omega)]
              simp [hp]
          | true =>
            rw [if_pos rfl] at h1
            cases he : fz e ρ2 with
            | bad => rw [he] at h1; cases h1
            | ex x ρ' => rw [he] at h1; cases h1
            | ok y ρ3 =>
              rw [he] at h1
              simp only [R.ok.injEq] at h1
              obtain ⟨h3, h4⟩ := h1
              cases hp : p x with
              | false => rw [hp, if_neg Bool.false_ne_true] at h3; cases h3
              | true =>
                rw [hp, if_pos rfl] at h3; cases h3
                simp only [List.map_cons, lcL, hb, hc, noex, R.bind, if_true, he]
                rw [if_pos (by show acc.length < 1000000; omega), h4, h2 _ (by simp; omega)]
                simp [hp]
  rw [lcD_app, hit, bind_ok, key l [] (by simpa using hl) h]
  simp only [noex, R.bind, List.nil_append, hw]
/-- a comprehension whose items' values are not known, but how they are -/
theorem lc_ex {ds : List D} {P : En → Prop} {Q : D → Prop} (hit : it ρ = .ok ds ρ1) (hl : ds.length ≤ 1000000) (h0 : P (wipeE ρ1 vs)) (h : ∀ d ∈ ds, ∀ ρ, P ρ → ∃ y ρ', turn b e vs d ρ = .ok y ρ' ∧ Q y ∧ P ρ') :
    ∃ out ρ', lcD it b yesT e vs ρ = .ok (.lst out, true) (backE vs ρ1 ρ') ∧ out.length = ds.length ∧ (∀ y ∈ out, Q y) ∧ P ρ' := by
  have key : ∀ (l acc : List D) (ρ : En), acc.length + l.length ≤ 1000000 → P ρ → (∀ d ∈ l, ∀ ρ, P ρ → ∃ y ρ', turn b e vs d ρ = .ok y ρ' ∧ Q y ∧ P ρ') → ∃ out ρ', lcL b yesT e vs l acc ρ = .ok (acc ++ out) ρ' ∧ out.length = l.length ∧ (∀ y ∈ out, Q y) ∧ P ρ' := by
    intro l
    induction l with
    | nil => intro acc ρ _ hp _; exact ⟨[], ρ, by simp [lcL], rfl, by simp, hp⟩
    | cons x l ih =>
      intro acc ρ ha hp hs
      simp only [List.length_cons] at ha
      obtain ⟨y, ρ', h1, hq, hp'⟩ := hs x List.mem_cons_self ρ hp
      obtain ⟨out, ρ2, g1, g2, g3, g4⟩ := ih (acc ++ [y]) ρ' (by simp; omega) hp' fun y hy => hs y (List.mem_cons_of_mem _ hy)
      refine ⟨y :: out, ρ2, ?_, by simp [g2], fun z hz => by rcases List.mem_cons.mp hz with rfl | hz; exact hq; exact g3 z hz, g4⟩
      unfold turn at h1
      cases hb : b x ρ with
      | none => rw [hb] at h1; cases h1
      | some ρ1 =>
        rw [hb] at h1
        dsimp only at h1
        cases he : fz e ρ1 with
        | bad => rw [he] at h1; cases h1
        | ex x ρ' => rw [he] at h1; cases h1
        | ok y' ρ3 =>
          rw [he] at h1
          simp only [R.bind, R.ok.injEq] at h1
          obtain ⟨rfl, h3⟩ := h1
          simp only [lcL, hb, yesT, noex, R.bind, if_true, he]
          rw [if_pos (by show acc.length < 1000000; omega), h3, g1]
          simp
  obtain ⟨out, ρ', g1, g2, g3, g4⟩ := key ds [] (wipeE ρ1 vs) (by simpa using hl) h0 h
  refine ⟨out, ρ', ?_, g2, g3, g4⟩
  rw [lcD_app, hit, bind_ok, g1]
  simp only [noex, R.bind, List.nil_append]
end
/-- the ends of a def -/
theorem fn_rt {m : Nat} {body : Sm} {as ρ ks : En} {d : D × Bool} (h : body (as ++ List.replicate (m - as.length) .un) = .ok (.rt d) ρ) (hk : keepL as ρ = ks) : fnD m body as = .ok d ks := by rw [fnD_app, h]; dsimp only; rw [hk]
theorem fn_nx {m : Nat} {body : Sm} {as ρ ks : En} (h : body (as ++ List.replicate (m - as.length) .un) = .ok .nx ρ) (hk : keepL as ρ = ks) : fnD m body as = .ok (.non, false) ks := by rw [fnD_app, h]; dsimp only; rw [hk]
theorem nat_char_inj : ∀ {a b : List Char}, a.map Char.toNat = b.map Char.toNat → a = b
  | [], [], _ => rfl
  | [], _ :: _, h => by simp at h
  | _ :: _, [], h => by simp at h
  | a :: l, b :: m, h => by
    simp only [List.map_cons, List.cons.injEq] at h
    rw [nat_char_inj h.2, Char.ext (UInt32.toNat_inj.mp h.1)]
theorem str_inj {a b : String} : (Str.ofString a = Str.ofString b) ↔ a = b := by
  constructor
  · intro h
    rw [PySem.Str.ofString_eq_toList, PySem.Str.ofString_eq_toList] at h
    injection h with h
    have := nat_char_inj (by simpa using h)
    exact String.ext this
  · rintro rfl; rfl
@[simp] theorem str_eq {a b : String} : (Str.ofString a = Str.ofString b) = (a = b) := propext str_inj
@[simp] theorem str_beq {a b : String} : (Str.ofString a == Str.ofString b) = (a == b) := by
  by_cases h : a = b
  · subst h; simp
  · have : ¬ Str.ofString a = Str.ofString b := fun e => h (str_inj.mp e)
    rw [beq_eq_false_iff_ne.mpr this, beq_eq_false_iff_ne.mpr h]
theorem iL_def (l : List Int) : iL l = l.map D.int := rfl
theorem iL_app {a b : List Int} : iL (a ++ b) = iL a ++ iL b := by simp [iL]
@[simp] theorem iL_nil : iL [] = [] := id rfl
@[simp] theorem iL_cons {a : Int} {l : List Int} : iL (a :: l) = D.int a :: iL l := id rfl
theorem iL_get {l : List Int} {j : Nat} {d : D} (h : (iL l)[j]? = some d) : ∃ i, l[j]? = some i ∧ d = .int i := by
  unfold iL at h
  rw [List.getElem?_map] at h
  cases hr : l[j]? with
  | none => rw [hr] at h; cases h
  | some r => rw [hr] at h; cases h; exact ⟨r, rfl, rfl⟩
theorem get_iL {l : List Int} {j : Nat} {i : Int} (h : l[j]? = some i) : (iL l)[j]? = some (.int i) := by
  unfold iL
  rw [List.getElem?_map, h]; rfl
/-- rows -/
def rD (r : List Int) : D := .tup (iL r)
@[simp] theorem upTo_len {lo : Int} {n : Nat} : (upTo lo n).length = n := by simp [upTo]
theorem upTo_map (lo : Int) (n : Nat) : upTo lo n = (List.range n).map fun (k : Nat) => D.int (lo + k) := rfl
theorem zipd_map {α β : Type} (f : α → D) (g : β → D) : ∀ (l : List α) (m : List β), zipd (l.map f) (m.map g) = (l.zip m).map fun p => .tup [f p.1, g p.2]
  | [], _ => by simp [zipd]
  | _ :: _, [] => by simp [zipd]
  | a :: l, b :: m => by
    have := zipd_map f g l m
    simp only [zipd] at this
    simp [zipd, this]
theorem bnd_small {n : Int} (h0 : -1000000 ≤ n) (hn : n ≤ 1000000) : bnd62 n = true := by
  unfold bnd62
  rw [decide_eq_true (by omega : -(2 ^ 62) ≤ n), decide_eq_true (by omega : n < 2 ^ 62)]
  rfl
/-- all and any of flags, sums -/
theorem bls_map {α : Type} (l : List α) (p : α → Bool) : bls? (l.map fun x => D.bl (p x)) = some (l.map p) := by
  induction l with
  | nil => rfl
  | cons x l ih => simp only [List.map_cons, bls?, ih]; rfl
theorem ints_map {α : Type} (l : List α) (p : α → Int) : ints? (l.map fun x => D.int (p x)) = some (l.map p) := by
  induction l with
  | nil => rfl
  | cons x l ih => simp only [List.map_cons, ints?, ih]; rfl
theorem ints_iL (l : List Int) : ints? (iL l) = some l := by
  have := ints_map l id
  simpa [iL] using this
theorem fAll_map {α : Type} (l : List α) (p : α → Bool) : fAll [.lst (l.map fun x => .bl (p x))] = some (.bl (l.all p), false) := by
  simp only [fAll, lsts?, Option.bind_some, bls_map, vB]
  rw [List.all_map]; rfl
theorem fAny_map {α : Type} (l : List α) (p : α → Bool) : fAny [.lst (l.map fun x => .bl (p x))] = some (.bl (l.any p), false) := by
  simp only [fAny, lsts?, Option.bind_some, bls_map, vB]
  rw [List.any_map]; rfl
theorem fSum_map {α : Type} (l : List α) (p : α → Int) : fSum [.lst (l.map fun x => .int (p x))] = some (.int (l.map p).sum, false) := by
  simp only [fSum, lsts?, Option.bind_some, ints_map, vI]
theorem fSum_iL (l : List Int) : fSum [.lst (iL l)] = some (.int l.sum, false) := by
  simp only [fSum, lsts?, Option.bind_some, ints_iL, vI]
end PF

namespace PF
open PySem PySem.Spec L2
theorem strOk_of (s : String) : PyData.strOk (Str.ofString s) = true := by
  unfold PyData.strOk
  rw [PySem.Str.ofString_eq_toList]
  simp only [Array.all_eq_true_iff_forall_mem, List.mem_toArray, List.mem_map, decide_eq_true_eq]
  rintro x ⟨c, _, rfl⟩
  have := c.valid
  have h : c.toNat < 0x110000 := by
    rcases this with h | h
    · exact Nat.lt_of_lt_of_le h (by decide)
    · exact h.2
  exact h
def Atom (d : D) : Prop := okN 0 d
@[simp] theorem atom_int {i : Int} : Atom (.int i) := okN_int
@[simp] theorem atom_bl {i : Bool} : Atom (.bl i) := okN_bl
@[simp] theorem atom_non : Atom .non := okN_non
@[simp] theorem atom_str {s : String} : Atom (.str (Str.ofString s)) := okN_str (strOk_of s)
theorem shp_atom {d : D} (h : Atom d) : shp d = true := okN.shp h (by decide)
@[simp] theorem shp_str {s : String} : shp (.str (Str.ofString s)) = true := shp_atom atom_str
@[simp] theorem shp_tupA {xs : List D} (h : ∀ x ∈ xs, Atom x) : shp (.tup xs) = true := (okN_tup (n := 0) h).shp (by decide)
@[simp] theorem shp_lstA {xs : List D} (h : ∀ x ∈ xs, Atom x) : shp (.lst xs) = true := (okN_lst (n := 0) h).shp (by decide)
@[simp] theorem dEq_str {a b : String} : dEq (.str (Str.ofString a)) (.str (Str.ofString b)) = some (decide (a = b)) := by
  rw [dEq_ok shp_str shp_str, eqv_str, str_beq]; rfl
@[simp] theorem cmp_in {a b : D} : fCmp .In a b = oB (dIn a b) := id rfl
@[simp] theorem cmp_nin {a b : D} : fCmp .NotIn a b = oB ((dIn a b).map not) := id rfl
theorem dIn_tup {a : D} {xs : List D} (h : shp a = true) (h2 : shp (.tup xs) = true) : dIn a (.tup xs) = some (xs.any fun y => eqvD y a) := by simp [dIn, h, h2]
theorem dIn_lst {a : D} {xs : List D} (h : shp a = true) (h2 : shp (.lst xs) = true) : dIn a (.lst xs) = some (xs.any fun y => eqvD y a) := by simp [dIn, h, h2]
@[simp] theorem fMin_2 {i j : Int} : fMin [.int i, .int j] = some (.int (if j < i then j else i), false) := id rfl
@[simp] theorem fMax_2 {i j : Int} : fMax [.int i, .int j] = some (.int (if j > i then j else i), false) := id rfl

theorem atI_nn {α : Type} {xs : List α} {i : Int} (h : 0 ≤ i) : atI xs i = xs[i.toNat]? := by
  unfold atI ixN
  rw [if_pos h]
  by_cases q : i < (xs.length : Int)
  · rw [if_pos q]; rfl
  · rw [if_neg q, List.getElem?_eq_none (by omega)]; rfl
theorem atI_neg {α : Type} {xs : List α} {i : Int} (h : i < 0) (h2 : -(xs.length : Int) ≤ i) : atI xs i = xs[(i + xs.length).toNat]? := by
  unfold atI ixN
  rw [if_neg (by omega)]
  by_cases q : -(xs.length : Int) ≤ i
  · rw [if_pos q]; rfl
  · omega
@[simp] theorem ix_lst_nn {xs : List D} {i : Int} (h : 0 ≤ i) : fIx (.lst xs) (.int i) = xs[i.toNat]?.map (·, false) := by simp [fIx, atI_nn h]
@[simp] theorem ix_tup_nn {xs : List D} {i : Int} (h : 0 ≤ i) : fIx (.tup xs) (.int i) = xs[i.toNat]?.map (·, false) := by simp [fIx, atI_nn h]
def hnd (cs : List Int) (a l m t : Int) : D := .lst [.lst (iL cs), .int a, .int l, .int m, .int t]
structure HOk (cs : List Int) (a l m t : Int) : Prop where
  cs : ∀ c ∈ cs, 0 ≤ c
  a : 0 ≤ a
  l : 0 ≤ l
  m : 0 ≤ m
  t : 0 ≤ t
/-- a right hand -/
def Hand (d : D) : Prop := ∃ cs a l m t, d = hnd cs a l m t ∧ HOk cs a l m t
section
variable {cs : List Int} {a l m t v many : Int} {ρ : En} {ge : Nat → Option FR}
@[simp] theorem hnd_0 : fIx (hnd cs a l m t) (.int 0) = some (.lst (iL cs), false) := id rfl
@[simp] theorem hnd_1 : fIx (hnd cs a l m t) (.int 1) = some (.int a, false) := id rfl
@[simp] theorem hnd_2 : fIx (hnd cs a l m t) (.int 2) = some (.int l, false) := id rfl
@[simp] theorem hnd_3 : fIx (hnd cs a l m t) (.int 3) = some (.int m, false) := id rfl
@[simp] theorem hnd_4 : fIx (hnd cs a l m t) (.int 4) = some (.int t, false) := id rfl
@[simp] theorem hst_1 : bSub 0 (conD (.int 1)) (.int v) (.ln (hnd cs a l m t) :: ρ) = some (.ln (hnd cs v l m t) :: ρ) := id rfl
@[simp] theorem hst_2 : bSub 0 (conD (.int 2)) (.int v) (.ln (hnd cs a l m t) :: ρ) = some (.ln (hnd cs a v m t) :: ρ) := id rfl
@[simp] theorem hst_3 : bSub 0 (conD (.int 3)) (.int v) (.ln (hnd cs a l m t) :: ρ) = some (.ln (hnd cs a l v t) :: ρ) := id rfl
@[simp] theorem hst_4 : bSub 0 (conD (.int 4)) (.int v) (.ln (hnd cs a l m t) :: ρ) = some (.ln (hnd cs a l m v) :: ρ) := id rfl
theorem op_mul_r {i j : Int} (h : -18446744073709551616 < j) (h2 : j < 18446744073709551616) : fOp .Mult (.int i) (.int j) = some (.int (i * j), false) := op_mul_i (.inr ⟨by omega, by omega⟩)
theorem op_mul_l {i j : Int} (h : -18446744073709551616 < i) (h2 : i < 18446744073709551616) : fOp .Mult (.int i) (.int j) = some (.int (i * j), false) := op_mul_i (.inl ⟨by omega, by omega⟩)
theorem op_pow_i {i j : Int} (h : 0 ≤ j) (h2 : j ≤ 1000000) (h3 : i.natAbs < 2 ^ 64) : fOp .Pow (.int i) (.int j) = some (.int (i ^ j.toNat), false) := by
  have hc : cPow i j := ⟨h, h2, h3⟩
  simp only [fOp, fPow, onI, if_pos hc, vI]
theorem op_pow_c : fOp .Pow (.int 10) (.int 18) = some (.int 1000000000000000000, false) := by
  rw [op_pow_i (by decide) (by decide) (by decide)]
  rfl
@[simp] theorem evP_none : evP none ρ = .ok none ρ := id rfl
@[simp] theorem evP_some {x : En → R (D × Bool)} : evP (some x) ρ = (fz x ρ).bind fun x ρ1 => match x with
    | .int i => .ok (some i) ρ1
    | _ => .bad := id rfl
@[simp] theorem slD_app {o : Opd} {lo hi : Option (En → R (D × Bool))} : slD o lo hi ρ = (o.ev ρ).bind fun x ρ1 => (evP lo ρ1).bind fun l ρ2 => (evP hi ρ2).bind fun u ρ3 => match late ρ3 x with
  | some d => ret? (fCut l u d) ρ3
  | none => .bad := id rfl
@[simp] theorem fCut_l {ds : List D} {l u : Option Int} : fCut l u (.lst ds) = some (.lst (cutD ds l u), true) := id rfl
@[simp] theorem fCut_r {ds : List D} {l u : Option Int} : fCut l u (.rdl ds) = some (.lst (cutD ds l u), true) := id rfl
@[simp] theorem fCut_t {ds : List D} {l u : Option Int} : fCut l u (.tup ds) = some (.tup (cutD ds l u), false) := id rfl
theorem sIx_i {n d : Nat} {i : Int} (h : 0 ≤ i) : HT.sIx n d (some i) = min i.toNat n := by
  have := HT.sIx_nat n d i.toNat
  rw [Int.toNat_of_nonneg h] at this; exact this
theorem cut_to {ds : List D} {i : Int} (h : 0 ≤ i) : cutD ds none (some i) = ds.take i.toNat := by
  simp only [cutD, HT.sIx_none, sIx_i h, List.drop_zero, Nat.sub_zero]
  by_cases q : i.toNat ≤ ds.length
  · rw [Nat.min_eq_left q]
  · rw [Nat.min_eq_right (by omega), List.take_length, List.take_of_length_le (by omega)]
theorem cut_from {ds : List D} {i : Int} (h : 0 ≤ i) : cutD ds (some i) none = ds.drop i.toNat := by
  simp only [cutD, HT.sIx_none, sIx_i h]
  by_cases q : i.toNat ≤ ds.length
  · rw [Nat.min_eq_left q, List.take_of_length_le (by simp)]
  · rw [Nat.min_eq_right (by omega)]; simp; omega
theorem cut_mid {ds : List D} {i j : Int} (h : 0 ≤ i) (h2 : 0 ≤ j) : cutD ds (some i) (some j) = (ds.drop i.toNat).take (j.toNat - i.toNat) := by
  simp only [cutD, sIx_i h, sIx_i h2]
  by_cases q : i.toNat ≤ ds.length
  · rw [Nat.min_eq_left q]
    by_cases q2 : j.toNat ≤ ds.length
    · rw [Nat.min_eq_left q2]
    · rw [Nat.min_eq_right (by omega), List.take_of_length_le (by simp), List.take_of_length_le (by simp; omega)]
  · rw [List.drop_of_length_le (l := ds) (i := min i.toNat ds.length) (by omega), List.drop_of_length_le (l := ds) (i := i.toNat) (by omega)]; simp
/-- numbers of the tail -/
structure TailOk (c1 c2 p1 d1 e1 p2 d2 e2 p3 d3 : Int) : Prop where
  c1 : 0 ≤ c1 ∧ c1 < 18446744073709551616
  c2 : 0 ≤ c2 ∧ c2 < 18446744073709551616
  p1 : 0 < p1 ∧ p1 < 18446744073709551616
  d1 : 0 < d1 ∧ d1 < 1073741824
  e1 : 0 ≤ e1
  p2 : 0 < p2 ∧ p2 < 18446744073709551616
  d2 : 0 < d2 ∧ d2 < 1073741824
  e2 : 0 ≤ e2
  p3 : 0 < p3
  d3 : 0 < d3 ∧ d3 < 1073741824
def drawT (c1 c2 p1 d1 e1 p2 d2 e2 p3 d3 : Int) : Sm := (seqD (stD (bSub 0 (conD (.int 4))) (bin (fOp .Add) (.exp ((bin fIx (.var 0) (.exp ((conD (.int 4))))))) (.exp ((conD (.int 1)))))) (seqD (setF 4 (bin (fOp .Mod) (.exp ((calD fInt [.exp ((bin (fOp .Mult) (.exp ((calD fInt [.exp ((bin (fOp .Add) (.exp ((bin fIx (.var 0) (.exp ((conD (.int 3))))))) (.exp ((bin (fOp .Mult) (.exp ((conD (.int c1)))) (.exp ((bin fIx (.var 0) (.exp ((conD (.int 4))))))))))))]))) (.exp ((conD (.int c2))))))]))) (.exp ((conD (.int p1)))))) (seqD (setF 4 (bin (fOp .Mod) (.exp ((calD fInt [.exp ((bin (fOp .Mult) (.var 4) (.exp ((bin (fOp .Add) (.exp ((bin (fOp .FloorDiv) (.var 4) (.exp ((conD (.int d1))))))) (.exp ((conD (.int e1)))))))))]))) (.exp ((conD (.int p2)))))) (seqD (setF 4 (bin (fOp .Mod) (.exp ((calD fInt [.exp ((bin (fOp .Mult) (.var 4) (.exp ((bin (fOp .Add) (.exp ((bin (fOp .FloorDiv) (.var 4) (.exp ((conD (.int d2))))))) (.exp ((conD (.int e2)))))))))]))) (.exp ((conD (.int p3)))))) (retD (bin (fOp .Mod) (.exp ((calD fInt [.exp ((bin (fOp .FloorDiv) (.var 4) (.exp ((conD (.int d3))))))]))) (.var 1)))))))
theorem drawT_ok {c1 c2 p1 d1 e1 p2 d2 e2 p3 d3 : Int} (hc : TailOk c1 c2 p1 d1 e1 p2 d2 e2 p3 d3) (h : HOk cs a l m t) (hm : 0 < many) : ∃ v y, 0 ≤ v ∧ v < many ∧
    drawT c1 c2 p1 d1 e1 p2 d2 e2 p3 d3 [.ln (hnd cs a l m t), .fr (.int many), .un, .un, .un] = .ok (.rt (.int v, false)) [.ln (hnd cs a l m (t + 1)), .fr (.int many), .un, .un, y] := by
  have n0 := Int.emod_nonneg ((m + c1 * (t + 1)) * c2) (Int.ne_of_gt hc.p1.1)
  have n1 := Int.emod_lt_of_pos ((m + c1 * (t + 1)) * c2) hc.p1.1
  generalize hx : ((m + c1 * (t + 1)) * c2) % p1 = x at n0 n1
  have k0 := Int.emod_nonneg (x * (x / d1 + e1)) (Int.ne_of_gt hc.p2.1)
  have k1 := Int.emod_lt_of_pos (x * (x / d1 + e1)) hc.p2.1
  generalize hy : (x * (x / d1 + e1)) % p2 = y at k0 k1
  generalize hz : (y * (y / d2 + e2)) % p3 = z
  have a1 := op_mul_l (i := c1) (j := t + 1) (by have := hc.c1; omega) (by have := hc.c1; omega)
  have a2 := op_mul_r (i := m + c1 * (t + 1)) (j := c2) (by have := hc.c2; omega) (by have := hc.c2; omega)
  have a3 := op_mod_i (i := (m + c1 * (t + 1)) * c2) hc.p1.1
  rw [hx] at a3
  have b1 := op_div_i (i := x) hc.d1.1 hc.d1.2
  have b2 := op_mul_l (i := x) (j := x / d1 + e1) (by omega) (by have := hc.p1; omega)
  have b3 := op_mod_i (i := x * (x / d1 + e1)) hc.p2.1
  rw [hy] at b3
  have f1 := op_div_i (i := y) hc.d2.1 hc.d2.2
  have f2 := op_mul_l (i := y) (j := y / d2 + e2) (by omega) (by have := hc.p2; omega)
  have f3 := op_mod_i (i := y * (y / d2 + e2)) hc.p3
  rw [hz] at f3
  have g1 := op_div_i (i := z) hc.d3.1 hc.d3.2
  have g2 := op_mod_i (i := z / d3) hm
  refine ⟨z / d3 % many, .fr (.int z), Int.emod_nonneg _ (Int.ne_of_gt hm), Int.emod_lt_of_pos _ hm, ?_⟩
  simp [-bSub_app, drawT, seqD_app, a1, a2, a3, b1, b2, b3, f1, f2, f3, g1, g2]
def drawB : Sm := postG (fgtE [3]) (ifS (isB (bin (fCmp .Gt) (.exp ((bin fIx (.var 0) (.exp ((conD (.int 2))))))) (.exp ((conD (.int 0)))))) (seqD (setF 3 (bin (fOp .Mod) (.exp ((calD fInt [.exp ((bin fIx (.var 0) (.exp ((conD (.int 2))))))]))) (.var 1))) (seqD (stD (bSub 0 (conD (.int 2))) (bin (fOp .FloorDiv) (.exp ((bin fIx (.var 0) (.exp ((conD (.int 2))))))) (.var 1))) (retV 3))) nextD)
theorem drawB_ok (hm : 0 < many) (hm2 : many < 1073741824) : drawB [.ln (hnd cs a l m t), .fr (.int many), .un, .un, .un] =
    if 0 < l then .ok (.rt (.int (l % many), false)) [.ln (hnd cs a (l / many) m t), .fr (.int many), .un, .fr (.int (l % many)), .un] else .ok .nx [.ln (hnd cs a l m t), .fr (.int many), .un, .un, .un] := by
  have g1 := op_div_i (i := l) hm hm2
  have g2 := op_mod_i (i := l) hm
  by_cases h : 0 < l <;> simp [-bSub_app, drawB, seqD_app, h, g1, g2]
def drawA1 (ge : Nat → Option FR) (c1 c2 c3 p : Int) : Sm := postG (fgtE [2]) (ifS (andT (isB (cmpI .Eq id ge (.exp ((bin fIx (.var 0) (.exp ((conD (.int 2))))))) (.exp ((conD (.int 0)))))) (isB (bin (fCmp .Lt) (.exp ((bin fIx (.var 0) (.exp ((conD (.int 1))))))) (.exp ((calD fLen [.exp ((bin fIx (.var 0) (.exp ((conD (.int 0))))))])))))) (seqD (setF 2 (bin fIx (.exp ((bin fIx (.var 0) (.exp ((conD (.int 0))))))) (.exp ((bin fIx (.var 0) (.exp ((conD (.int 1))))))))) (seqD (stD (bSub 0 (conD (.int 1))) (bin (fOp .Add) (.exp ((bin fIx (.var 0) (.exp ((conD (.int 1))))))) (.exp ((conD (.int 1)))))) (seqD (stD (bSub 0 (conD (.int 3))) (bin (fOp .Mod) (.exp ((calD fInt [.exp ((bin (fOp .Add) (.exp ((bin (fOp .Add) (.exp ((bin (fOp .Mult) (.exp ((bin fIx (.var 0) (.exp ((conD (.int 3))))))) (.exp ((conD (.int c1))))))) (.exp ((bin (fOp .Mult) (.var 2) (.exp ((conD (.int c2)))))))))) (.exp ((conD (.int c3))))))]))) (.exp ((conD (.int p)))))) (stD (bSub 0 (conD (.int 2))) (ifV (isB (bin (fCmp .GtE) (.var 2) (.exp ((bin (fOp .Pow) (.exp ((conD (.int 10)))) (.exp ((conD (.int 18))))))))) (varD 2) (conD (.int 0))))))) nextD)
def drawA2 (ge : Nat → Option FR) (c1 c3 p : Int) : Sm := postG (fgtE [2]) (ifS (andT (isB (cmpI .Eq id ge (.exp ((bin fIx (.var 0) (.exp ((conD (.int 2))))))) (.exp ((conD (.int 0)))))) (isB (bin (fCmp .Lt) (.exp ((bin fIx (.var 0) (.exp ((conD (.int 1))))))) (.exp ((calD fLen [.exp ((bin fIx (.var 0) (.exp ((conD (.int 0))))))])))))) (seqD (setF 2 (bin fIx (.exp ((bin fIx (.var 0) (.exp ((conD (.int 0))))))) (.exp ((bin fIx (.var 0) (.exp ((conD (.int 1))))))))) (seqD (stD (bSub 0 (conD (.int 1))) (bin (fOp .Add) (.exp ((bin fIx (.var 0) (.exp ((conD (.int 1))))))) (.exp ((conD (.int 1)))))) (seqD (stD (bSub 0 (conD (.int 3))) (bin (fOp .Mod) (.exp ((calD fInt [.exp ((bin (fOp .Add) (.exp ((bin (fOp .Add) (.exp ((bin (fOp .Mult) (.exp ((bin fIx (.var 0) (.exp ((conD (.int 3))))))) (.exp ((conD (.int c1))))))) (.var 2)))) (.exp ((conD (.int c3))))))]))) (.exp ((conD (.int p)))))) (ifS (isB (bin (fCmp .GtE) (.var 2) (.exp ((bin (fOp .Pow) (.exp ((conD (.int 10)))) (.exp ((conD (.int 18))))))))) (stD (bSub 0 (conD (.int 2))) (varD 2)) nextD)))) nextD)
def drawA3 (ge : Nat → Option FR) (c1 c2 c3 p : Int) : Sm := postG (fgtE [2]) (ifS (andT (isB (cmpI .Eq id ge (.exp ((bin fIx (.var 0) (.exp ((conD (.int 2))))))) (.exp ((conD (.int 0)))))) (isB (bin (fCmp .Lt) (.exp ((bin fIx (.var 0) (.exp ((conD (.int 1))))))) (.exp ((calD fLen [.exp ((bin fIx (.var 0) (.exp ((conD (.int 0))))))])))))) (seqD (setF 2 (bin fIx (.exp ((bin fIx (.var 0) (.exp ((conD (.int 0))))))) (.exp ((bin fIx (.var 0) (.exp ((conD (.int 1))))))))) (seqD (stD (bSub 0 (conD (.int 1))) (bin (fOp .Add) (.exp ((bin fIx (.var 0) (.exp ((conD (.int 1))))))) (.exp ((conD (.int 1)))))) (seqD (stD (bSub 0 (conD (.int 3))) (bin (fOp .Mod) (.exp ((calD fInt [.exp ((bin (fOp .Add) (.exp ((bin (fOp .Add) (.exp ((bin (fOp .Mult) (.exp ((bin fIx (.var 0) (.exp ((conD (.int 3))))))) (.exp ((conD (.int c1))))))) (.exp ((bin (fOp .Mult) (.var 2) (.exp ((conD (.int c2)))))))))) (.exp ((conD (.int c3))))))]))) (.exp ((conD (.int p)))))) (ifS (isB (bin (fCmp .GtE) (.var 2) (.exp ((bin (fOp .Pow) (.exp ((conD (.int 10)))) (.exp ((conD (.int 18))))))))) (stD (bSub 0 (conD (.int 2))) (varD 2)) nextD)))) nextD)
/-- what the head of a draw is to do -/
def HeadOk (A : Sm) : Prop := ∀ (cs : List Int) (a l m t many : Int), HOk cs a l m t → ∃ a' l' m', HOk cs a' l' m' t ∧ A [.ln (hnd cs a l m t), .fr (.int many), .un, .un, .un] = .ok .nx [.ln (hnd cs a' l' m' t), .fr (.int many), .un, .un, .un]
theorem head_cell (h : HOk cs a l m t) (hl : a < cs.length) : ∃ c, 0 ≤ c ∧ fIx (.lst (iL cs)) (.int a) = some (.int c, false) := by
  have e : a = (a.toNat : Int) := by have := h.a; omega
  have hi : a.toNat < cs.length := by omega
  have q := ix_lst (get_iL (List.getElem?_eq_getElem hi))
  rw [← e] at q
  exact ⟨cs[a.toNat], h.cs _ (List.getElem_mem _), q⟩
theorem drawA1_ok (c1 c2 c3 p : Int) (h1 : 0 ≤ c1 ∧ c1 < 18446744073709551616) (h2 : 0 ≤ c2 ∧ c2 < 18446744073709551616) (h3 : 0 ≤ c3) (hp : 0 < p) : HeadOk (drawA1 ge c1 c2 c3 p) := fun cs a l m t many h => by
  by_cases hl : l = 0
  · by_cases ha : a < cs.length
    · obtain ⟨c, c0, hc⟩ := head_cell h ha
      have a1 := op_mul_r (i := m) (j := c1) (by omega) (by omega)
      have a2 := op_mul_r (i := c) (j := c2) (by omega) (by omega)
      have a3 := op_mod_i (i := m * c1 + c * c2 + c3) hp
      refine ⟨a + 1, if 1000000000000000000 ≤ c then c else 0, (m * c1 + c * c2 + c3) % p, ⟨h.cs, by have := h.a; omega, by split <;> omega, Int.emod_nonneg _ (Int.ne_of_gt hp), h.t⟩, ?_⟩
      by_cases hb : 1000000000000000000 ≤ c <;> simp [-bSub_app, drawA1, seqD_app, cmpI_app, hl, ha, hc, a1, a2, a3, op_pow_c, hb]
    · exact ⟨a, l, m, h, by simp [-bSub_app, drawA1, seqD_app, cmpI_app, hl, ha]⟩
  · exact ⟨a, l, m, h, by simp [-bSub_app, drawA1, seqD_app, cmpI_app, hl]⟩
theorem drawA2_ok (c1 c3 p : Int) (h1 : 0 ≤ c1 ∧ c1 < 18446744073709551616) (h3 : 0 ≤ c3) (hp : 0 < p) : HeadOk (drawA2 ge c1 c3 p) := fun cs a l m t many h => by
  by_cases hl : l = 0
  · by_cases ha : a < cs.length
    · obtain ⟨c, c0, hc⟩ := head_cell h ha
      have a1 := op_mul_r (i := m) (j := c1) (by omega) (by omega)
      have a3 := op_mod_i (i := m * c1 + c + c3) hp
      refine ⟨a + 1, if 1000000000000000000 ≤ c then c else 0, (m * c1 + c + c3) % p, ⟨h.cs, by have := h.a; omega, by split <;> omega, Int.emod_nonneg _ (Int.ne_of_gt hp), h.t⟩, ?_⟩
      by_cases hb : 1000000000000000000 ≤ c <;> simp [-bSub_app, drawA2, seqD_app, cmpI_app, hl, ha, hc, a1, a3, op_pow_c, hb]
    · exact ⟨a, l, m, h, by simp [-bSub_app, drawA2, seqD_app, cmpI_app, hl, ha]⟩
  · exact ⟨a, l, m, h, by simp [-bSub_app, drawA2, seqD_app, cmpI_app, hl]⟩
theorem drawA3_ok (c1 c2 c3 p : Int) (h1 : 0 ≤ c1 ∧ c1 < 18446744073709551616) (h2 : 0 ≤ c2 ∧ c2 < 18446744073709551616) (h3 : 0 ≤ c3) (hp : 0 < p) : HeadOk (drawA3 ge c1 c2 c3 p) := fun cs a l m t many h => by
  by_cases hl : l = 0
  · by_cases ha : a < cs.length
    · obtain ⟨c, c0, hc⟩ := head_cell h ha
      have a1 := op_mul_r (i := m) (j := c1) (by omega) (by omega)
      have a2 := op_mul_r (i := c) (j := c2) (by omega) (by omega)
      have a3 := op_mod_i (i := m * c1 + c * c2 + c3) hp
      refine ⟨a + 1, if 1000000000000000000 ≤ c then c else 0, (m * c1 + c * c2 + c3) % p, ⟨h.cs, by have := h.a; omega, by split <;> omega, Int.emod_nonneg _ (Int.ne_of_gt hp), h.t⟩, ?_⟩
      by_cases hb : 1000000000000000000 ≤ c <;> simp [-bSub_app, drawA3, seqD_app, cmpI_app, hl, ha, hc, a1, a2, a3, op_pow_c, hb]
    · exact ⟨a, l, m, h, by simp [-bSub_app, drawA3, seqD_app, cmpI_app, hl, ha]⟩
  · exact ⟨a, l, m, h, by simp [-bSub_app, drawA3, seqD_app, cmpI_app, hl]⟩
/-- a draw: a number below many, a right hand stays behind -/
theorem draw_ok {A : Sm} {c1 c2 p1 d1 e1 p2 d2 e2 p3 d3 : Int} (hA : HeadOk A) (hc : TailOk c1 c2 p1 d1 e1 p2 d2 e2 p3 d3) {d : D} (h : Hand d) (hm : 0 < many) (hm2 : many < 1073741824) :
    ∃ d' v, Hand d' ∧ 0 ≤ v ∧ v < many ∧ fnD 5 (seqD A (seqD drawB (drawT c1 c2 p1 d1 e1 p2 d2 e2 p3 d3))) [.ln d, .fr (.int many)] = .ok (.int v, false) [.ln d', .un] := by
  obtain ⟨cs, a, l, m, t, rfl, h⟩ := h
  obtain ⟨a', l', m', h', e1⟩ := hA cs a l m t many h
  have e2 := drawB_ok (cs := cs) (a := a') (l := l') (m := m') (t := t) hm hm2
  by_cases hl : 0 < l'
  · rw [if_pos hl] at e2
    refine ⟨hnd cs a' (l' / many) m' t, l' % many, ⟨cs, a', l' / many, m', t, rfl, h'.cs, h'.a, Int.ediv_nonneg h'.l (by omega), h'.m, h'.t⟩, Int.emod_nonneg _ (by omega), Int.emod_lt_of_pos _ hm, ?_⟩
    simp [fnD_app, seqD_app, e1, e2]
  · rw [if_neg hl] at e2
    obtain ⟨v, y, v0, v1, e3⟩ := drawT_ok (many := many) hc h' hm
    refine ⟨hnd cs a' l' m' (t + 1), v, ⟨cs, a', l', m', t + 1, rfl, h'.cs, h'.a, h'.l, h'.m, by have := h'.t; omega⟩, v0, v1, ?_⟩
    simp [fnD_app, seqD_app, e1, e2, e3]
/-- the cells -/
theorem cells_ok {e : En → R (D × Bool)} (ns : List Int) (hl : ns.length ≤ 63) (he : ∀ i : Int, ∀ x y, e [x, y, .fr (.int i)] = .ok (.int (if i < 0 then -i else i), false) [x, y, .fr (.int i)]) :
    lcD (itV (slD (.var 0) none (some (conD (.int 63))))) (bName 2) yesT e [2] [.fr (.rdl (iL ns)), .un, .un] = .ok (.lst (iL (ns.map fun i => if i < 0 then -i else i)), true) [.fr (.rdl (iL ns)), .un, .un] := by
  have h := lc_map (it := itV (slD (.var 0) none (some (conD (.int 63))))) (b := bName 2) (e := e) (vs := [2]) (ρ := [.fr (.rdl (iL ns)), .un, .un]) D.int (fun i => .int (if i < 0 then -i else i)) ns ?_ (by omega) (by simp) fun i hi => by
    simp [turn_app, he]
  · rw [h]; simp [iL_def, Function.comp_def]
  · simp [cut_to, iL_def, List.take_of_length_le (show (ns.map D.int).length ≤ 63 by simpa using hl)]
def handD1 (e : En → R (D × Bool)) (c1 c2 : Int) : Sm := (seqD (setF 1 (lcD (itV (slD (.var 0) none (some (conD (.int 63))))) (bName 2) yesT e [2])) (retD (lstD [(varD 1), (conD (.int 0)), (conD (.int 0)), (bin (fOp .Add) (.exp ((conD (.int c1)))) (.exp ((bin (fOp .Mult) (.exp ((conD (.int c2)))) (.exp ((calD fLen [.var 1]))))))), (conD (.int 0))])))
def handD2 (e : En → R (D × Bool)) (c1 : Int) : Sm := (seqD (setF 1 (lcD (itV (slD (.var 0) none (some (conD (.int 63))))) (bName 2) yesT e [2])) (retD (lstD [(varD 1), (conD (.int 0)), (conD (.int 0)), (bin (fOp .Add) (.exp ((conD (.int c1)))) (.exp ((calD fLen [.var 1])))), (conD (.int 0))])))
theorem cells_pos (ns : List Int) : ∀ c ∈ ns.map fun i => if i < 0 then -i else i, 0 ≤ c := fun c hc => by
  obtain ⟨i, _, rfl⟩ := List.mem_map.mp hc
  split <;> omega
theorem hand1_ok {e : En → R (D × Bool)} {c1 c2 : Int} (h1 : 0 ≤ c1) (h2 : 0 ≤ c2 ∧ c2 < 18446744073709551616) (ns : List Int) (hl : ns.length ≤ 63) (he : ∀ i : Int, ∀ x y, e [x, y, .fr (.int i)] = .ok (.int (if i < 0 then -i else i), false) [x, y, .fr (.int i)]) :
    ∃ d, Hand d ∧ fnD 3 (handD1 e c1 c2) [.fr (.rdl (iL ns))] = .ok (d, true) [.un] := by
  have h := cells_ok ns hl he
  have m := op_mul_l (i := c2) (j := ns.length) (by omega) (by omega)
  refine ⟨hnd (ns.map fun i => if i < 0 then -i else i) 0 0 (c1 + c2 * ns.length) 0, ⟨_, _, _, _, _, rfl, cells_pos ns, by omega, by omega, ?_, by omega⟩, by simp [fnD_app, handD1, seqD_app, h, m, hnd]⟩
  have := Int.mul_nonneg h2.1 (Int.natCast_nonneg ns.length)
  omega
theorem hand2_ok {e : En → R (D × Bool)} {c1 : Int} (h1 : 0 ≤ c1) (ns : List Int) (hl : ns.length ≤ 63) (he : ∀ i : Int, ∀ x y, e [x, y, .fr (.int i)] = .ok (.int (if i < 0 then -i else i), false) [x, y, .fr (.int i)]) :
    ∃ d, Hand d ∧ fnD 3 (handD2 e c1) [.fr (.rdl (iL ns))] = .ok (d, true) [.un] := by
  have h := cells_ok ns hl he
  exact ⟨hnd (ns.map fun i => if i < 0 then -i else i) 0 0 (c1 + ns.length) 0, ⟨_, _, _, _, _, rfl, cells_pos ns, by omega, by omega, by omega, by omega⟩, by simp [fnD_app, handD2, seqD_app, h, hnd]⟩
end
end PF

namespace PF
open PySem PySem.Spec L2
theorem strOk_app (a b : Str) : PyData.strOk (a ++ b) = (PyData.strOk a && PyData.strOk b) := by
  show (a.cps ++ b.cps).all _ = _
  rw [Array.all_append]; rfl
theorem strOk_textFrom : ∀ (ts : List Str) (k : Nat) (acc : Str), PyData.strOk acc = true → (∀ t ∈ ts, PyData.strOk t = true) → PyData.strOk (textFrom k acc ts) = true
  | [], _, _, h, _ => h
  | t :: ts, k, acc, h, ht => strOk_textFrom ts (k + 1) _ (by
      rw [strOk_app, strOk_app, h, ht t List.mem_cons_self, strOk_of]; rfl) fun u hu => ht u (List.mem_cons_of_mem _ hu)
theorem strOk_join (sep : Str) (hs : PyData.strOk sep = true) : ∀ (ts : List Str), (∀ t ∈ ts, PyData.strOk t = true) → PyData.strOk (Str.join sep ts) = true
  | [], _ => by simp [Str.join, PyData.strOk, Str.empty]
  | [x], h => h x List.mem_cons_self
  | x :: y :: r, h => by
    show PyData.strOk (x ++ sep ++ Str.join sep (y :: r)) = true
    rw [strOk_app, strOk_app, h x List.mem_cons_self, hs, strOk_join sep hs (y :: r) fun t ht => h t (List.mem_cons_of_mem _ ht)]; rfl
theorem strOk_list (ts : List Str) (h : ∀ t ∈ ts, PyData.strOk t = true) : PyData.strOk (listText ts) = true := by
  unfold listText
  rw [strOk_app, strOk_textFrom ts 0 _ (strOk_of _) h, strOk_of]; rfl
theorem strOk_tuple (ts : List Str) (h : ∀ t ∈ ts, PyData.strOk t = true) : PyData.strOk (tupleText ts) = true := by
  unfold tupleText
  rw [strOk_app, strOk_app, strOk_join _ (strOk_of _) ts h, strOk_of, strOk_of]; rfl
/-- data whose repr may be asked and compared: n deep, of at most w parts -/
structure Rp (n w : Nat) (d : D) : Prop where
  ok : okN n d
  short : (toPy d).leavesShort 13 = true
  show_ : (toPy d).showable = true
  bulk : (toPy d).bulk ≤ w
  text : PyData.strOk (toPy d).shown = true
theorem Rp.mono {n m w v : Nat} {d : D} (h : Rp n w d) (hn : n ≤ m) (hw : w ≤ v) : Rp m v d := ⟨h.ok.mono hn, h.short, h.show_, Nat.le_trans h.bulk hw, h.text⟩
theorem Rp_int {i : Int} (h : -999999999999 ≤ i) (h2 : i ≤ 999999999999) : Rp 0 0 (.int i) where
  ok := okN_int
  short := by simp only [toPy, PyData.leavesShort, decide_eq_true_eq]; exact PyData.shown_int_le2 h h2
  show_ := by
    simp only [toPy, PyData.showable, decide_eq_true_eq]
    by_cases z : i.natAbs = 0
    · rw [z]; decide
    · rw [Nat.log2_lt z]
      exact Nat.lt_of_lt_of_le (show i.natAbs < 2 ^ 40 by omega) (Nat.pow_le_pow_right (by decide) (by decide))
  bulk := Nat.le_refl _
  text := strOk_of _
theorem Rp_bl {b : Bool} : Rp 0 0 (.bl b) := ⟨okN_bl, rfl, rfl, Nat.le_refl _, by cases b <;> exact strOk_of _⟩
theorem Rp_non : Rp 0 0 .non := ⟨okN_non, rfl, rfl, Nat.le_refl _, strOk_of _⟩
theorem Rp_all {n w : Nat} : ∀ {xs : List D}, (∀ x ∈ xs, Rp n w x) → PyData.leavesShortAll 13 (toPyL xs) = true ∧ PyData.showableAll (toPyL xs) = true ∧ PyData.bulkAll (toPyL xs) ≤ xs.length * (w + 1) ∧ ∀ t ∈ PyData.shownAll (toPyL xs), PyData.strOk t = true
  | [], _ => ⟨rfl, rfl, by simp [toPyL, PyData.bulkAll], fun t ht => by simp [toPyL, PyData.shownAll] at ht⟩
  | x :: xs, h => by
    obtain ⟨h1, h2, h3, h4⟩ := Rp_all (xs := xs) fun y hy => h y (List.mem_cons_of_mem _ hy)
    have hx := h x List.mem_cons_self
    refine ⟨by simp [toPyL, PyData.leavesShortAll, hx.short, h1], by simp [toPyL, PyData.showableAll, hx.show_, h2], ?_, fun t ht => ?_⟩
    · simp only [toPyL, PyData.bulkAll, List.length_cons, Nat.add_mul, Nat.one_mul]
      have := hx.bulk
      omega
    · simp only [toPyL, PyData.shownAll, List.mem_cons] at ht
      rcases ht with rfl | ht
      · exact hx.text
      · exact h4 t ht
theorem Rp_tup {n w : Nat} {xs : List D} (h : ∀ x ∈ xs, Rp n w x) : Rp (n + 1) (xs.length * (w + 1)) (.tup xs) := by
  obtain ⟨h1, h2, h3, h4⟩ := Rp_all h
  exact ⟨okN_tup fun x hx => (h x hx).ok, by simpa [toPy, PyData.leavesShort] using h1, by simpa [toPy, PyData.showable] using h2, by simpa [toPy, PyData.bulk] using h3, by simp only [toPy, PyData.shown]; exact strOk_tuple _ h4⟩
theorem Rp_lst {n w : Nat} {xs : List D} (h : ∀ x ∈ xs, Rp n w x) : Rp (n + 1) (xs.length * (w + 1)) (.lst xs) := by
  obtain ⟨h1, h2, h3, h4⟩ := Rp_all h
  exact ⟨okN_lst fun x hx => (h x hx).ok, by simpa [toPy, PyData.leavesShort] using h1, by simpa [toPy, PyData.showable] using h2, by simpa [toPy, PyData.bulk] using h3, by simp only [toPy, PyData.shown]; exact strOk_list _ h4⟩
theorem Rp_ints {l : List Int} (h : ∀ i ∈ l, -999999999999 ≤ i ∧ i ≤ 999999999999) : Rp 1 l.length (.tup (iL l)) := by
  have := Rp_tup (n := 0) (w := 0) (xs := iL l) fun x hx => by
    obtain ⟨i, hi, rfl⟩ := List.mem_map.mp hx
    exact Rp_int (h i hi).1 (h i hi).2
  rw [ints_len] at this
  simpa using this
/-- the text of repr -/
def rep (d : D) : D := .str (toPy d).shown
theorem Rp.repr {n w : Nat} {d : D} (h : Rp n w d) (hn : n ≤ 64) (hw : w ≤ 60000) : fRepr [d] = some (rep d, false) := by
  have hl := PyData.shown_le_bulk 13 (by decide) (toPy d) h.short
  have := h.bulk
  simp only [fRepr, h.ok.shp hn, h.show_, Bool.true_and]
  rw [if_pos (by rw [decide_eq_true_eq]; show _ ≤ 1000000; omega)]
  rfl
theorem Rp.shp {n w : Nat} {d : D} (h : Rp n w d) : shp (rep d) = true := (okN_str (n := 0) h.text).shp (by decide)
/-- texts of repr compared: of like data they are like -/
theorem Rp.dEq {n w : Nat} {d : D} (h : Rp n w d) : dEq (rep d) (rep d) = some true := by
  rw [dEq_ok h.shp h.shp]
  simp [rep]
end PF

namespace PF
open PySem PySem.Spec L2 PySem.W
def rSumT (K : PySem.W.Frag) : List V → Hp → VK → Prop := fun vs H Q => ∃ (a : Addr) (ns : List Int), vs = [V.ref a] ∧ SqT K H a (ns.map V.int) ∧ Q (.int ns.sum) H
section
variable {X : Cx} {cl : Cl}
theorem cr_sumT (hc : X.calm = true) : CallR X (.builtin "sum") (rSumT X.K) := by
  intro pins s σ H vs us Q I r h
  obtain ⟨a, ns, rfl, hs, q⟩ := h
  obtain ⟨its, rv, hl, _⟩ := I.tuple hs
  rw [Vals.ref1 r]
  have hi := rv.ints
  obtain ⟨xs, hx⟩ := hi.allInts.items
  have hn : numsOf its.toArray.toList = ns := by rw [show its.toArray.toList = its from rfl, hi.numsOf]
  rw [hx] at hl hn
  rw [nums_intItems] at hn
  refine ktm_sumG (I.ok.hd hc) hl fun h' tk t' hk => ?_
  rw [preSum_eq, List.take_of_length_le (by simp), hn]
  exact ⟨.int _, H, I.kept hk, ⟨_, rfl⟩, q⟩
def fSumA : List D → Option (D × Bool)
  | [.tup ds] => match ints? ds with
    | some ns => vI ns.sum
    | none => none
  | ds => fSum ds
theorem callK_sumA (hc : X.calm = true) : CallK X cl (.builtin "sum") fSumA := ⟨_, (cr_sumT hc).or (cr_sum hc), fun F H xs as c o Q le va e q => by
  unfold fSumA at e
  split at e
  · split at e
    · rename_i ns hn
      cases e
      obtain ⟨v, rfl, hv⟩ := va.one
      obtain ⟨a, vs, rfl, _, hs, t⟩ := hv.tup le
      rw [t.ints hn] at hs
      exact .inl ⟨a, ns, rfl, hs, q F H _ (Grow.refl le) (.int _)⟩
    · cases e
  · right
    unfold fSum at e
    split at e
    · split at e
      · rename_i ns hn
        cases e
        obtain ⟨v, rfl, hv⟩ := va.one
        obtain ⟨a, rfl, hs⟩ := hv.ints le hn
        exact ⟨a, ns, rfl, hs, q F H _ (Grow.refl le) (.int _)⟩
      · cases e
    · cases e⟩
end
@[simp] theorem fSumA_l {ds : List D} : fSumA [.lst ds] = fSum [.lst ds] := id rfl
theorem fSumA_t {l : List Int} : fSumA [.tup (iL l)] = some (.int l.sum, false) := by simp only [fSumA, ints_iL, vI]
section
variable {prog : Program} {w : World} {A : Around} {s : Shared} {E : Value → Shared → Prop}
open PyProof.Rows SeqAt
theorem call_tuple_lt {Q : Value → Shared → Prop} {l b : Addr} {items items2 : Array Value} {e r : Nat → Bool} (hl : s.heap.IsTuple l items) (hb : s.heap.IsTuple b items2)
    (he : ∀ j (h1 : j < items.size) (h2 : j < items2.size), EqAt A.in1 s items[j] items2[j] (e j)) (hr : ∀ j (h1 : j < items.size) (h2 : j < items2.size), e j = false → RcLt A.in1 s items[j] items2[j] (r j))
    (h : Q (.bool (firstLt e r (decide (items.size < items2.size)) (List.range (min items.size items2.size)))) s) : wpAny (model prog w) A (call (.builtin "tuple.__lt__") [.ref l, .ref b]) Q E s := by
  obtain ⟨⟨cls, dd, data, sl⟩, ho, hc, n, hd⟩ := id hl
  obtain ⟨⟨cls2, dd2, data2, sl2⟩, ho2, hc2, n2, hd2⟩ := id hb
  simp only at hc hd hc2 hd2
  subst hc hd hc2 hd2
  exact call_meets F.slot_tuple_lt ⟨_, ho, rfl⟩ F.entry_tuple_lt (F.args_tuple_lt_2 _ _) (tuple_ltAt l b items items2 n n2 dd dd2 sl sl2 e r) ⟨ho, ho2, he, hr, h⟩
theorem oneLt_tup {f : Bool} {xs : List PyData} {db : PyData} {a b : Value} {as bs : List Addr} {Q : Bool → Shared → Prop} (ra : Reads s.heap a (.tuple xs) as) (rb : Reads s.heap b db bs) (h : alike (.tuple xs) db = true)
    (hu : A.units + min (PyData.tuple xs).depth db.depth < cLine) (hq : Q (dataLt (.tuple xs) db) s) : wpAny (model prog w) A (oneLt' f a b) Q E s := by
  cases f with
  | false => exact oneLt_alike (fun z => by cases z) ra rb h (by simp) hu hq
  | true =>
    cases db with
    | tuple ys =>
      have hal : alikeAll xs ys = true := by simpa [alike] using h
      cases ra with
      | @tuple l o vs n _ as₁ h1 h2 h3 h4 =>
        cases rb with
        | @tuple l' o' vs' n' _ bs₁ k1 k2 k3 k4 =>
          have n1 : vs.size = xs.length := by simpa using SeqAt.ReadsAll.length _ _ _ h4
          have n2 : vs'.size = ys.length := by simpa using SeqAt.ReadsAll.length _ _ _ k4
          rw [dataLt_tuple, ← firstLt_toks xs ys hal, ← n1, ← n2] at hq
          rw [oneLt'_eq]
          simp only [if_true]
          refine wpAny_bind (wpAny_cRoomFor (room_here hu) ?_)
          refine wpAny_bind (wpAny_callSpecialIfBound?_slot (T := "tuple") ⟨_, h1, h2⟩ F.slot_tuple_lt (call_tuple_lt (e := pairEq xs ys) (r := fun j => dataLt (xs.getD j .none) (ys.getD j .none)) ⟨_, h1, h2, _, h3⟩ ⟨_, k1, k2, _, k3⟩ (fun j j1 j2 => ?_) (fun j j1 j2 hj => ?_) ?_))
          · have := eqAt_alikeAll xs ys A.in1 s vs.toList vs'.toList _ _ h4 k4 hal (room_in hu) j (by simpa using j1) (by simpa using j2)
            simpa using this
          · have := rcLt_alikeAll xs ys A.in1 s vs.toList vs'.toList _ _ h4 k4 hal (room_in hu) j (by simpa using j1) (by simpa using j2) hj
            simpa using this
          · exact wpAny_truthy_bool hq
    | _ => exact absurd h (by simp [alike])
/-- tuples, with their first items -/
def KTs (h : Heap) : List Value → List (Option Value) → Prop
  | [], [] => True
  | v :: vs, f :: fs => (∃ a o xs n, v = .ref a ∧ h.get? a = some o ∧ o.cls = .type "tuple" ∧ o.data = .seq xs n ∧ xs[0]? = f) ∧ KTs h vs fs
  | _, _ => False
theorem kts_firsts {M : Model} : ∀ (vs : List Value) (fs : List (Option Value)) {Q : List (Option Value) → Shared → Prop}, KTs s.heap vs fs → Q fs s → wpAny M A (vs.mapM firstOfTuple') Q E s
  | [], [], _, _, h => by rw [List.mapM_nil]; exact wpAny_pure h
  | [], _ :: _, _, t, _ => t.elim
  | _ :: _, [], _, t, _ => t.elim
  | v :: vs, f :: fs, Q, t, h => by
    obtain ⟨⟨a, o, xs, n, rfl, ho, hc, hd, hf⟩, t⟩ := t
    rw [List.mapM_cons]
    refine wpAny_bind ?_
    rw [kas_first_eq]
    refine wpAny_bind (Looks.here (show Looks M s.heap (typeOf (.ref a)) o.cls from (Looks.ld ho).andThen .now) ?_)
    rw [hc, if_neg (by first | decide | simp)]
    refine wpAny_bind (listItems_at ho hd (wpAny_pure ?_))
    rw [hf]
    exact wpAny_bind (kts_firsts vs fs (Q := fun bs s' => wpAny M A (pure (f :: bs)) Q E s') t (wpAny_pure h))
theorem kts_types {h : Heap} : ∀ {vs : List Value} {fs : List (Option Value)}, KTs h vs fs → ∀ v ∈ vs, ∃ a o, v = .ref a ∧ h.get? a = some o ∧ o.cls = .type "tuple"
  | [], [], _, v, hv => absurd hv (by simp)
  | [], _ :: _, t, _, _ => t.elim
  | _ :: _, [], t, _, _ => t.elim
  | v :: vs, f :: fs, t, u, hu => by
    obtain ⟨⟨a, o, xs, n, rfl, ho, hc, hd, hf⟩, t⟩ := t
    rcases List.mem_cons.mp hu with rfl | hu
    · exact ⟨a, o, rfl, ho, hc⟩
    · exact kts_types t u hu
theorem kts_kind {M : Model} {v1 v2 : Value} {vs : List Value} {f1 : Option Value} {fs : List (Option Value)} {Q : SortKind → Shared → Prop} (t : KTs s.heap (v1 :: v2 :: vs) (f1 :: fs)) (hn : none ∈ f1 :: fs) (h : Q (if f1.isSome then general' else oneType') s) :
    wpAny M A (keyKind' (v1 :: v2 :: vs).toArray) Q E s := by
  rw [kat_kind_eq, List.mapM_toArray, map_eq_pure_bind]
  refine wpAny_bind (wpAny_bind (kts_firsts _ _ t (wpAny_pure ?_)))
  have hall : ¬ ((f1 :: fs).toArray.all fun x => x.isSome) = true := by
    intro q
    rw [List.all_toArray, List.all_eq_true] at q
    have := q none hn
    simp at this
  rw [if_neg hall]
  cases f1 with
  | some x =>
    rw [if_pos (by simp)]
    simpa using wpAny_pure h
  | none =>
    rw [if_neg (by simp), oneTypeOnly'_eq, List.mapM_toArray, map_eq_pure_bind]
    refine wpAny_bind (wpAny_bind (wpAny_bind (kas_mapM (r := Value.type "tuple") _ (fun v hv Q' hq => ?_) (wpAny_pure ?_))))
    · obtain ⟨a, o, rfl, ho, hc⟩ := kts_types t v hv
      exact Looks.here (show Looks M s.heap (typeOf (.ref a)) (.type "tuple") from hc ▸ (Looks.ld ho).andThen .now) hq
    · have hall2 : ((List.map (fun _ => Value.type "tuple") (v1 :: v2 :: vs)).toArray.all fun x => x == Value.type "tuple") = true := by
        simp only [List.all_toArray, List.all_map, List.all_eq_true]
        intro _ _
        exact beq_self_eq_true _
      have h0 : (List.map (fun _ => Value.type "tuple") (v1 :: v2 :: vs)).toArray[0]? = some (Value.type "tuple") := by simp
      rw [h0]
      simp only [hall2, if_true]
      exact wpAny_pure (wpAny_pure (by simpa using h))
theorem each_kts {h : Heap} : ∀ {vs : List Value} {ds : List PyData}, EachIs (fun v d => ∃ as, Reads h v d as) vs ds → (∀ d, d ∈ ds → ∃ xs, d = .tuple xs) → ∃ fs, KTs h vs fs ∧ fs.length = vs.length ∧ ((∃ d ∈ ds, d = .tuple []) → none ∈ fs)
  | _, _, .nil, _ => ⟨[], trivial, rfl, fun ⟨_, z, _⟩ => by simp at z⟩
  | _, _, .cons (b := d) ⟨as, r⟩ t, ht => by
    obtain ⟨fs, h1, h2, h3⟩ := each_kts t fun d hd => ht d (List.mem_cons_of_mem _ hd)
    obtain ⟨xs, rfl⟩ := ht d (List.mem_cons_self ..)
    cases r with
    | @tuple a o us n _ _ ho hc hd hr =>
      refine ⟨us[0]? :: fs, ⟨⟨a, o, us, n, rfl, ho, hc, hd, rfl⟩, h1⟩, by simp [h2], ?_⟩
      rintro ⟨d, hd', rfl⟩
      rcases List.mem_cons.mp hd' with e | e
      · injection e with e
        subst e
        have hn : us.toList = [] := by
          cases q : us.toList with
          | nil => rfl
          | cons x r => rw [q] at hr; cases hr
        have : us[0]? = none := by rw [← Array.getElem?_toList, hn]; rfl
        rw [this]
        exact List.mem_cons_self
      · exact List.mem_cons_of_mem _ (h3 ⟨_, e, rfl⟩)
/-- values that read as alike data, none of them None, can be sorted -/
theorem sortsAt_any {vs : List Value} {ds : List PyData} (e : EachIs (fun v d => ∃ as, Reads s.heap v d as) vs ds) (hal : AllAlike ds) (hk : ∀ d ∈ ds, d ≠ .none) (hu : ∀ d, d ∈ ds → A.units + d.depth < cLine) : SortsAt prog w A s (dataKind s.heap ds) vs := by
  have room : ∀ {d d' : PyData}, d ∈ ds → A.units + min d.depth d'.depth < cLine := fun {d d'} hd => Nat.lt_of_le_of_lt (Nat.add_le_add_left (Nat.min_le_left _ _) _) (hu d hd)
  by_cases h1 : ∀ d, d ∈ ds → ∀ xs, d ≠ .tuple xs
  · exact SortsAt.data e hal (.inr fun d hd => ⟨hk d hd, h1 d hd⟩) hu
  have ht : ∀ d, d ∈ ds → ∃ xs, d = .tuple xs := by
    have h1 : ∃ d, d ∈ ds ∧ ∃ xs, d = .tuple xs := Classical.byContradiction fun z => h1 fun d hd xs e => z ⟨d, hd, xs, e⟩
    obtain ⟨d0, m0, x0, rfl⟩ := h1
    intro d hd
    have := hal _ m0 d hd
    cases d <;> first | exact ⟨_, rfl⟩ | exact absurd this (by simp [alike])
  by_cases h2 : ∃ d ∈ ds, d = .tuple []
  · obtain ⟨fs, t1, t2, t3⟩ := each_kts e ht
    have hn := t3 h2
    have lt : ∀ kd : SortKind, kd = general' ∨ kd = oneType' → H.LtAt prog w A s (dataKind s.heap ds) kd := by
      intro kd hkd E x y a b Q ha hb hq
      obtain ⟨d, as, hd, ra, rfl⟩ := dataKind_inv ha
      obtain ⟨d', as', hd', rb, rfl⟩ := dataKind_inv hb
      obtain ⟨xs, rfl⟩ := ht d hd
      rcases hkd with rfl | rfl
      · show wpAny _ _ (oneLt' false x y) _ _ _
        exact oneLt_tup ra rb (hal _ hd d' hd') (room hd) hq
      · show wpAny _ _ (oneLt' true x y) _ _ _
        exact oneLt_tup ra rb (hal _ hd d' hd') (room hd) hq
    refine ⟨fun v hv => ?_, (if (fs.head?.bind id).isSome then general' else oneType'), ?_, fun h2 E Q hq => ?_⟩
    · obtain ⟨d, hd, as, r⟩ := e.left v hv
      exact ⟨_, dataKind_some hal hd r⟩
    · exact lt _ (by split; exact .inl rfl; exact .inr rfl)
    · obtain ⟨v₁, v₂, rest, rfl⟩ : ∃ v₁ v₂ rest, vs = v₁ :: v₂ :: rest := by
        match vs, h2 with
        | [], h2 => simp at h2
        | [_], h2 => simp at h2
        | v₁ :: v₂ :: rest, _ => exact ⟨v₁, v₂, rest, rfl⟩
      cases fs with
      | nil => simp at hn
      | cons f1 fs => exact kts_kind t1 hn (by cases f1 <;> exact hq)
  · refine SortsAt.data e hal (.inl fun d hd => ?_) hu
    obtain ⟨xs, rfl⟩ := ht d hd
    cases xs with
    | nil => exact absurd ⟨_, hd, rfl⟩ h2
    | cons x r => exact ⟨x, r, rfl⟩
/-- the items of a list or a tuple, laid into a new list -/
theorem collect_sq {T : String} {a : Addr} {o : Obj} {vs : List Value} {n : Nat} {Q : List Value → Shared → Prop} (hT : T = "list" ∨ T = "tuple") (ho : s.heap.get? a = some o) (hc : o.cls = .type T) (hd : o.data = .seq vs.toArray n) (hz : vs.length ≤ sizeLine)
    (h : Q vs { s with heap := (s.heap.push (seqObj "list" #[] 0)).update s.heap.objs.size (Obj.mapSeq (· ++ vs.toArray)) }) : wpAny (model prog w) A (collect (.ref a)) Q E s := by
  unfold collect
  refine wpAny_bind (wpAny_runValue (codeAny_builtin entry_proto_collect' ?_))
  show wpAny _ _ (newList [] >>= fun l => again (.builtin "list.__iadd__" ⟨[l, .ref a], []⟩)) _ _ s
  refine wpAny_bind (wpAny_newList (wpAny_pure ⟨Code.quiet_builtin _ (by decide +kernel), codeAny_builtin entry_list_iadd' ?_⟩))
  show wpAny _ _ (Builtin.List.listExtendWith (.ref s.heap.objs.size) (.ref a) (.ref s.heap.objs.size)) _ _ { s with heap := s.heap.push (seqObj "list" #[] 0) }
  have ha := Heap.get?_push_of_some (seqObj "list" #[] 0) ho
  unfold Builtin.List.listExtendWith
  refine wpAny_bind (wpAny_typeOf (T := T) ⟨o, ha, hc⟩ ?_)
  have t1 : (Value.type "list" == Value.type "list") = true := beq_self_eq_true _
  have t2 : (Value.type "tuple" == Value.type "tuple") = true := beq_self_eq_true _
  rw [if_pos (by rcases hT with rfl | rfl; rw [t1]; simp; rw [t2]; simp)]
  refine wpAny_bind (listItems_at ha hd (wpAny_bind (listItems_at (xs := #[]) (n := 0) (Heap.get?_push_size _ rfl) rfl ?_)))
  rw [if_neg (by simp)]
  refine wpAny_bind (listUpdate_at (xs := #[]) (n := 0) (Heap.get?_push_size _ rfl) rfl (wpAny_pure ?_) (Nat.zero_le _) (by simp only [Array.size_append, List.size_toArray]; show 0 + vs.length ≤ sizeLine + 1; omega))
  refine wpAny_bind (wpAny_load (get?_update_seq (Heap.get?_push_size _ rfl) _) ?_)
  show wpAny _ _ (pure ((#[] : Array Value) ++ vs.toArray).toList) Q E _
  rw [show ((#[] : Array Value) ++ vs.toArray).toList = vs by simp]
  exact wpAny_pure h
theorem sorted_sq {κ : PyProof.Rows.KeyKind} {T : String} {a : Addr} {o : Obj} {vs : List Value} {n : Nat} {Q : Value → Shared → Prop} (hT : T = "list" ∨ T = "tuple") (ho : s.heap.get? a = some o) (hc : o.cls = .type T) (hd : o.data = .seq vs.toArray n)
    (S : SortsAt prog w A.in1.in1 { s with heap := sortingHeap (copyHeap s.heap vs) (s.heap.objs.size + 1) vs } κ vs) (hL : vs.length ≤ sizeLine)
    (h : Q (.ref (s.heap.objs.size + 1)) { s with heap := sortedAll s.heap vs (sortVals κ false vs vs).toArray }) : wpAny (model prog w) A (call (.builtin "sorted") [.ref a]) Q E s := by
  refine Calls.call_function_entry kind_sorted plain_sorted entry_sorted (args_sorted1 _) ?_
  unfold Builtin.«sorted»
  refine wpAny_bind (m := checkCount "sorted" 1 1 _) (wpAny_pure (wpAny_bind (collect_sq hT ho hc hd hL (wpAny_bind (wpAny_newList ?_ hL)))))
  have e : ((s.heap.push (seqObj "list" #[] 0)).update s.heap.objs.size (Obj.mapSeq (· ++ vs.toArray))).objs.size = s.heap.objs.size + 1 := by rw [Heap.size_update, size_push']
  show wpAny _ _ _ _ _ { s with heap := copyHeap s.heap vs }
  rw [e]
  refine wpAny_bind (wpAny_holding (wpAny_call_entry slot_list_sort ⟨_, copyHeap_at s.heap vs, rfl⟩ entry_list_sort ?b (args_list_sort _)))
  case b => exact list_sort_vals (s := { s with heap := copyHeap s.heap vs }) (copyHeap_at s.heap vs) S hL ⟨.none, rfl, wpAny_pure ⟨_, rfl, h⟩⟩
end
/-- sorted(xs) of a list or a tuple that reads as alike data -/
def rSortD (K : PySem.W.Frag) : List V → Hp → VK → Prop := fun vs H Q => ∃ (a : Addr) (ps : List (V × D)), vs = [.ref a] ∧ (SqL K H a (ps.map (·.1)) ∨ SqT K H a (ps.map (·.1))) ∧ (∀ p ∈ ps, Dp K H p.1 (toPy p.2)) ∧ AllAlike (ps.map fun p => toPy p.2) ∧ (∀ p ∈ ps, toPy p.2 ≠ .none) ∧ (∀ p ∈ ps, (toPy p.2).depth ≤ 62) ∧
  ∀ q, H q = none → Q (.ref q) (upd H q (.lst ((ps.mergeSort (dataLe false fun p => toPy p.2)).map (·.1))))
section
variable {X : Cx} {cl : Cl}
theorem each_vals {α : Type} {ps : List (V × α)} : ∀ {us : List Value}, Vals (ps.map (·.1)) us → EachIs (fun u p => RelV p.1 u) us ps := by
  induction ps with
  | nil => intro us h; cases h; exact .nil
  | cons p ps ih =>
    intro us h
    cases h with
    | cons r t => exact .cons r (ih t)
theorem vals_each {α : Type} : ∀ {us : List Value} {ps : List (V × α)}, EachIs (fun u p => RelV p.1 u) us ps → Vals (ps.map (·.1)) us
  | _, _, .nil => .nil
  | _, _, .cons r t => .cons r (vals_each t)
theorem cr_sortD (hu : X.A.units + 65 < cLine) : CallR X (.builtin "sorted") (rSortD X.K) := by
  intro pins s σ H vs us Q I r h
  obtain ⟨a, ps, rfl, hs, hp, hal, hn, hd, q⟩ := h
  rw [Vals.ref1 r]
  obtain ⟨its, T, o, n, hT, ho, hc, hdt, rv, hz⟩ : ∃ (its : List Value) (T : String) (o : Obj) (n : Nat), (T = "list" ∨ T = "tuple") ∧ s.heap.get? a = some o ∧ o.cls = .type T ∧ o.data = .seq its.toArray n ∧ Vals (ps.map (·.1)) its ∧ (ps.map (·.1)).length ≤ sizeLine := by
    rcases hs with hs | hs
    · obtain ⟨its, rv, hl, hz⟩ := I.list hs
      obtain ⟨o, ho, hc, n, hdt⟩ := hl.isList
      exact ⟨its, _, o, n, .inl rfl, ho, hc, hdt, rv, hz⟩
    · obtain ⟨its, rv, hl, hz⟩ := I.tuple hs
      obtain ⟨o, ho, hc, n, hdt⟩ := hl
      exact ⟨its, _, o, n, .inr rfl, ho, hc, hdt, rv, hz⟩
  have e := each_vals rv
  have hz' : its.length ≤ sizeLine := by rw [← rv.length]; exact hz
  have er : EachIs (fun u (p : V × D) => ∃ as, Reads (sortingHeap (copyHeap s.heap its) (s.heap.objs.size + 1) its) u (toPy p.2) as) its ps := (each_mem e).mono fun u p ⟨r, m⟩ => by
    obtain ⟨as, rd⟩ := Dp.reads I _ _ u (hp p m) r
    exact ⟨as, PyProof.Rows.Reads.keeps (fun _ _ => sorting_copy_old) rd⟩
  refine sorted_sq hT ho hc hdt (sortsAt_any (s := { s with heap := sortingHeap (copyHeap s.heap its) (s.heap.objs.size + 1) its }) (each_map (R := fun v d => ∃ as, Reads (sortingHeap (copyHeap s.heap its) (s.heap.objs.size + 1) its) v d as) (fun p : V × D => toPy p.2) er) hal (fun d m => ?_) fun d m => ?_) hz' ?_
  · obtain ⟨p, m', rfl⟩ := List.mem_map.mp m; exact hn p m'
  · obtain ⟨p, m', rfl⟩ := List.mem_map.mp m
    have := hd p m'
    show X.A.units + 1 + 1 + _ < cLine
    omega
  · have o2 := sortVals_data (h' := sortingHeap (copyHeap s.heap its) (s.heap.objs.size + 1) its) false e er hal
    generalize ho2 : (sortVals (dataKind (sortingHeap (copyHeap s.heap its) (s.heap.objs.size + 1) its) (ps.map fun p => toPy p.2)) false its its) = out at o2 ⊢
    have v2 := vals_each o2
    obtain ⟨ep, he⟩ := PyProof.Rows.sortedAll_at s.heap its out.toArray
    have hlen : ((ps.mergeSort (dataLe false fun p => toPy p.2)).map (·.1)).length ≤ sizeLine := by
      rw [List.length_map, List.length_mergeSort]; simpa using hz
    exact ⟨.ref _, upd H (s.heap.objs.size + 1) (.lst ((ps.mergeSort (dataLe false fun p => toPy p.2)).map (·.1))), I.laid (t' := s.toks) (fun _ _ => PyProof.Rows.sortedAll_old) (Nat.le_succ _) ⟨hlen, out, ep, v2, he⟩, rfl, q _ (I.hok.fresh (Nat.le_succ _))⟩
end
/-- the order of data -/
def leD (a b : D) : Bool := dataLe false toPy a b
def srtOk (ds : List D) : Bool := ds.all fun a => plain a && decide ((toPy a).depth ≤ 62) && (match a with | .non => false | _ => true) && ds.all fun b => alike (toPy a) (toPy b)
def fSorted : List D → Option (D × Bool)
  | [d] => match items? d with
    | some ds => if srtOk ds = true then some (.lst (ds.mergeSort leD), true) else none
    | none => none
  | _ => none
theorem DenL.pairs {K : PySem.W.Frag} {cl : Cl} {F : Hp} : ∀ {vs : List V} {ds : List D}, DenL K cl F vs ds → ∃ ps : List (V × D), ps.map (·.1) = vs ∧ ps.map (·.2) = ds ∧ ∀ p ∈ ps, Den K cl F p.1 p.2
  | _, _, .nil => ⟨[], rfl, rfl, fun _ h => by simp at h⟩
  | _, _, .cons (v := v) (d := d) h t => by
    obtain ⟨ps, h1, h2, h3⟩ := t.pairs
    exact ⟨(v, d) :: ps, by simp [h1], by simp [h2], fun p hp => by rcases List.mem_cons.mp hp with rfl | hp; exact h; exact h3 p hp⟩
theorem DenL.of_pairs {K : PySem.W.Frag} {cl : Cl} {F : Hp} : ∀ {ps : List (V × D)}, (∀ p ∈ ps, Den K cl F p.1 p.2) → DenL K cl F (ps.map (·.1)) (ps.map (·.2))
  | [], _ => .nil
  | p :: ps, h => .cons (h p List.mem_cons_self) (DenL.of_pairs fun q hq => h q (List.mem_cons_of_mem _ hq))
theorem callK_sorted {X : Cx} {cl : Cl} (hu : X.A.units + 65 < cLine) : CallK X cl (.builtin "sorted") fSorted := ⟨_, cr_sortD hu, fun F H xs as c o Q le va e q => by
  unfold fSorted at e
  split at e
  · rename_i d
    cases hi : items? d with
    | none => rw [hi] at e; cases e
    | some ds =>
      rw [hi] at e
      dsimp only at e
      by_cases hs : srtOk ds = true
      · rw [if_pos hs] at e
        cases e
        obtain ⟨v, rfl, hv⟩ := va.one
        obtain ⟨a, vs, rfl, hsq, t⟩ := hv.items le hi
        obtain ⟨ps, rfl, rfl, hps⟩ := t.pairs
        have ok : ∀ p ∈ ps, plain p.2 = true ∧ (toPy p.2).depth ≤ 62 ∧ p.2 ≠ .non ∧ ∀ p' ∈ ps, alike (toPy p.2) (toPy p'.2) = true := fun p hp => by
          unfold srtOk at hs
          rw [List.all_eq_true] at hs
          have h1 := hs p.2 (List.mem_map.mpr ⟨p, hp, rfl⟩)
          simp only [Bool.and_eq_true, decide_eq_true_eq, List.all_eq_true] at h1
          obtain ⟨⟨⟨h1, h2⟩, h3⟩, h4⟩ := h1
          refine ⟨h1, h2, fun z => ?_, fun p' hp' => h4 p'.2 (List.mem_map.mpr ⟨p', hp', rfl⟩)⟩
          rw [z] at h3; cases h3
        refine ⟨a, ps, rfl, hsq, fun p hp => dp_le le ((hps p hp).dp (ok p hp).1), fun d1 m1 d2 m2 => ?_, fun p hp => ?_, fun p hp => (ok p hp).2.1, fun z nz => ?_⟩
        · obtain ⟨p1, n1, rfl⟩ := List.mem_map.mp m1
          obtain ⟨p2, n2, rfl⟩ := List.mem_map.mp m2
          exact (ok p1 n1).2.2.2 p2 n2
        · have h1 := (ok p hp).1
          have h2 := (ok p hp).2.2.1
          cases hp2 : p.2 with
          | non => exact absurd hp2 h2
          | ins c fs => rw [hp2] at h1; simp [plain] at h1
          | opq => rw [hp2] at h1; simp [plain] at h1
          | fnv => rw [hp2] at h1; simp [plain] at h1
          | _ => simp [toPy]
        · have hm : (ps.map (·.2)).mergeSort leD = (ps.mergeSort (dataLe false fun p => toPy p.2)).map (·.2) := (List.map_mergeSort (r := dataLe false fun p : V × D => toPy p.2) (s := leD) (f := (·.2)) fun a _ b _ => rfl).symm
          rw [hm] at q
          have g := Grow.own le nz (.lst ((ps.mergeSort (dataLe false fun p => toPy p.2)).map (·.1)))
          refine q F _ _ g ⟨z, rfl, nz, le.back nz, .lst upd_same (DenL.of_pairs fun p hp => hps p (List.mem_mergeSort.mp hp))⟩
      · rw [if_neg hs] at e; cases e
  · cases e⟩
end PF

namespace PF
open PySem PySem.Spec L2
theorem while_run {c : En → R Bool} {body : Sm} {st : Nat → En} {n : Nat} : ∀ (m f : Nat), m ≤ n → n - m < f → (∀ j, j < n → c (st j) = .ok true (st j) ∧ body (st j) = .ok .nx (st (j + 1))) → c (st n) = .ok false (st n) → whileD c body f (st m) = .ok .nx (st n)
  | m, 0, _, h, _, _ => by omega
  | m, f + 1, hm, hf, hs, he => by
    simp only [whileD]
    by_cases h : m < n
    · obtain ⟨h1, h2⟩ := hs m h
      rw [h1, bindS_ok, if_pos rfl, h2]
      exact while_run (m + 1) f h (by omega) hs he
    · have : m = n := by omega
      subst this
      rw [he, bindS_ok, if_neg Bool.false_ne_true]
/-- a while by a measure: P stays, the measure falls -/
theorem while_inv {c : En → R Bool} {body : Sm} {P : Nat → En → Prop} : ∀ (f m : Nat) (ρ : En), m < f → P m ρ → (∀ m ρ, P m ρ → ∃ t ρ1, c ρ = .ok t ρ1 ∧ (if t = true then ∃ ρ2 m', body ρ1 = .ok .nx ρ2 ∧ m' < m ∧ P m' ρ2 else P 0 ρ1)) → ∃ ρ', whileD c body f ρ = .ok .nx ρ' ∧ P 0 ρ'
  | 0, m, ρ, hm, _, _ => by omega
  | f + 1, m, ρ, hm, hp, hs => by
    obtain ⟨t, ρ1, h1, h2⟩ := hs m ρ hp
    cases t with
    | false =>
      rw [if_neg Bool.false_ne_true] at h2
      exact ⟨ρ1, by simp only [whileD, h1, bindS_ok, if_neg Bool.false_ne_true], h2⟩
    | true =>
      rw [if_pos rfl] at h2
      obtain ⟨ρ2, m', h3, h4, h5⟩ := h2
      obtain ⟨ρ', q1, q2⟩ := while_inv f m' ρ2 (by omega) h5 hs
      exact ⟨ρ', by simp only [whileD, h1, bindS_ok, if_true, h3]; exact q1, q2⟩

section
variable {b : Bn} {e : En → R (D × Bool)} {c : En → R Bool} {vs : List Nat} {it : En → R (List D)} {ρ : En} {α : Type}
theorem map_iL (l : List α) (f : α → Int) : (l.map fun x => D.int (f x)) = iL (l.map f) := by simp [iL_def, Function.comp_def]
/-- [e for x in l], whole numbers -/
theorem lc_int (enc : α → D) (f : α → Int) (l : List α) (hit : it ρ = .ok (l.map enc) ρ) (hl : l.length ≤ 1000000) (hw : backE vs ρ (wipeE ρ vs) = ρ) (h : ∀ x ∈ l, turn b e vs (enc x) (wipeE ρ vs) = .ok (.int (f x)) (wipeE ρ vs)) :
    lcD it b yesT e vs ρ = .ok (.lst (iL (l.map f)), true) ρ := by
  rw [lc_map enc (fun x => .int (f x)) l hit hl hw h, map_iL]
theorem lc_intF (enc : α → D) (f : α → Int) (p : α → Bool) (l : List α) (hit : it ρ = .ok (l.map enc) ρ) (hl : l.length ≤ 1000000) (hw : backE vs ρ (wipeE ρ vs) = ρ) (h : ∀ x ∈ l, turnF b c e vs (enc x) (wipeE ρ vs) = .ok (if p x = true then some (.int (f x)) else none) (wipeE ρ vs)) :
    lcD it b c e vs ρ = .ok (.lst (iL ((l.filter p).map f)), true) ρ := by
  rw [lc_filt enc (fun x => .int (f x)) p l hit hl hw h, map_iL]
end
theorem ixN_nat {n j : Nat} (h : j < n) : ixN n (j : Int) = some j := by
  unfold ixN
  rw [if_pos (by omega), if_pos (by omega)]; simp
theorem ixN_nn {n : Nat} {i : Int} (h : 0 ≤ i) (h2 : i < n) : ixN n i = some i.toNat := by
  unfold ixN
  rw [if_pos h, if_pos h2]
theorem set_iL {l : List Int} {j : Nat} {v : Int} : (iL l).set j (.int v) = iL (l.set j v) := by simp [iL_def, List.map_set]
def sumL {α : Type} (l : List α) (f : α → Int) : Int := (l.map f).sum
theorem sumL_nil {α : Type} (f : α → Int) : sumL [] f = 0 := rfl
theorem sumL_cons {α : Type} (a : α) (l : List α) (f : α → Int) : sumL (a :: l) f = f a + sumL l f := by simp [sumL]
theorem sumL_app {α : Type} (l m : List α) (f : α → Int) : sumL (l ++ m) f = sumL l f + sumL m f := by simp [sumL]
theorem sumL_map {α β : Type} (g : α → β) (l : List α) (f : β → Int) : sumL (l.map g) f = sumL l fun x => f (g x) := by simp [sumL, Function.comp_def]
theorem sumL_congr {α : Type} {l : List α} {f g : α → Int} (h : ∀ x ∈ l, f x = g x) : sumL l f = sumL l g := by
  unfold sumL; rw [List.map_congr_left h]
theorem sumL_add {α : Type} (l : List α) (f g : α → Int) : (sumL l fun x => f x + g x) = sumL l f + sumL l g := by
  induction l with
  | nil => rfl
  | cons a l ih => simp only [sumL_cons, ih]; omega
theorem sumL_mul {α : Type} (c : Int) (l : List α) (f : α → Int) : (sumL l fun x => c * f x) = c * sumL l f := by
  induction l with
  | nil => simp [sumL_nil]
  | cons a l ih => simp only [sumL_cons, ih, Int.mul_add]
theorem sumL_zero {α : Type} (l : List α) : (sumL l fun _ => (0 : Int)) = 0 := by
  induction l with
  | nil => rfl
  | cons a l ih => simp only [sumL_cons, ih]; rfl
theorem sumL_swap {α β : Type} (l : List α) (m : List β) (f : α → β → Int) : (sumL l fun x => sumL m fun y => f x y) = sumL m fun y => sumL l fun x => f x y := by
  induction l with
  | nil => simp only [sumL_nil, sumL_zero]
  | cons a l ih => simp only [sumL_cons, ih, sumL_add]
/-- a flag as a number -/
def i1 (b : Bool) : Int := if b then 1 else 0
theorem len_filter {α : Type} (l : List α) (p : α → Bool) : ((l.filter p).length : Int) = sumL l fun x => i1 (p x) := by
  induction l with
  | nil => rfl
  | cons a l ih =>
    rw [sumL_cons, ← ih, List.filter_cons]
    cases p a <;> simp [i1] ; omega
theorem foldl_sum {α : Type} (l : List α) (f : α → Int) : ∀ a : Int, l.foldl (fun s x => s + f x) a = a + sumL l f := by
  induction l with
  | nil => intro a; simp [sumL]
  | cons x l ih => intro a; rw [List.foldl_cons, ih, sumL_cons]; omega
theorem sumL_filter {α : Type} (l : List α) (p : α → Bool) (f : α → Int) : sumL (l.filter p) f = sumL l fun x => i1 (p x) * f x := by
  induction l with
  | nil => rfl
  | cons a l ih =>
    rw [List.filter_cons]
    cases h : p a
    · simp only [Bool.false_eq_true, if_false, sumL_cons, h, i1, ih]; simp [i1]
    · simp only [if_true, sumL_cons, h, ih]; simp [i1]
end PF

namespace PF
open PySem PySem.Spec L2 PySem.W PyProof.Rows
def rgOk (i j : Int) : Bool := decide (-(2 ^ 62) ≤ i) && decide (i < 2 ^ 62) && decide (-(2 ^ 62) ≤ j) && decide (j < 2 ^ 62) && decide ((j - i).toNat ≤ 2 ^ 24)
theorem rgOk_iff {i j : Int} (h : rgOk i j = true) : RgOk i j := by
  unfold rgOk at h
  simp only [Bool.and_eq_true, decide_eq_true_eq] at h
  exact ⟨h.1.1.1.1, h.1.1.1.2, h.1.1.2, h.1.2, h.2⟩
def rg2 (a b : En → R (D × Bool)) : En → R (Int × Int) := fun ρ => (fz a ρ).bind fun x ρ1 => (fz b ρ1).bind fun y ρ2 => match x, y with
  | .int i, .int j => if rgOk i j = true then .ok (i, j) ρ2 else .bad
  | _, _ => .bad
def rg1 (a : En → R (D × Bool)) : En → R (Int × Int) := fun ρ => (fz a ρ).bind fun y ρ2 => match y with
  | .int j => if rgOk 0 j = true then .ok (0, j) ρ2 else .bad
  | _ => .bad
def lstRg (r : En → R (Int × Int)) : En → R (D × Bool) := fun ρ => (r ρ).bind fun p ρ1 => .ok (.lst (upTo p.1 (p.2 - p.1).toNat), true) ρ1
def tupRg (r : En → R (Int × Int)) : En → R (D × Bool) := fun ρ => (r ρ).bind fun p ρ1 => .ok (.tup (upTo p.1 (p.2 - p.1).toNat), false) ρ1
section
variable {X : Cx} {cl : Cl} {W : WX} {a b : Expr} {da db : En → R (D × Bool)}
theorem den_rg {K : PySem.W.Frag} {F : Hp} {i j : Int} : DenL K cl F (rgV i j) (upTo i (j - i).toNat) := by
  unfold rgV upTo
  generalize List.range (j - i).toNat = l
  induction l with
  | nil => exact .nil
  | cons k l ih => exact .cons (.int _) ih
def tRG (K : PySem.W.Frag) (cl : Cl) (W : WX) (r : En → R (Int × Int)) : L2.St → Hp → (Int → Int → Hp → Prop) → Prop := fun σ H Q =>
  ∃ F ρ, Corr K cl F ρ σ H ∧ Post K cl W (r ρ) F ρ σ H fun p ρ' F' H' => RgOk p.1 p.2 → Q p.1 p.2 H'
theorem rg1_ok {σ : L2.St} {H : Hp} {Q : Int → Int → Hp → Prop} (h : ∃ F ρ, Corr X.K cl F ρ σ H ∧ Post X.K cl W (rg1 da ρ) F ρ σ H fun p ρ' F' H' => RgOk p.1 p.2 → Q p.1 p.2 H') : tRg1 (tE X.K cl W (fz da)) σ H Q := by
  obtain ⟨F, ρ, c, p⟩ := h
  refine ⟨F, ρ, c, (Post.bind p).mono fun x ρ1 F1 H1 st1 c1 p1 v hv => ?_⟩
  cases x with
  | int j =>
    dsimp only at p1
    split at p1
    · rename_i ho
      exact ⟨j, den_int hv, p1 F1 H1 (Step.refl _ _ _ _) c1 (rgOk_iff ho)⟩
    · exact p1.elim
  | _ => exact p1.elim
theorem rg2_ok {σ : L2.St} {H : Hp} {Q : Int → Int → Hp → Prop} (h : ∃ F ρ, Corr X.K cl F ρ σ H ∧ Post X.K cl W (rg2 da db ρ) F ρ σ H fun p ρ' F' H' => RgOk p.1 p.2 → Q p.1 p.2 H') : tRg2 (tE X.K cl W (fz da)) (tE X.K cl W (fz db)) σ H Q := by
  obtain ⟨F, ρ, c, p⟩ := h
  refine ⟨F, ρ, c, (Post.bind p).mono fun x ρ1 F1 H1 st1 c1 p1 v hv => ?_⟩
  refine ⟨F1, ρ1, c1, (Post.bind p1).mono fun y ρ2 F2 H2 st2 c2 p2 w hw => ?_⟩
  cases x with
  | int i =>
    cases y with
    | int j =>
      dsimp only at p2
      split at p2
      · rename_i ho
        exact ⟨i, j, den_int hv, den_int hw, p2 F2 H2 (Step.refl _ _ _ _) c2 (rgOk_iff ho)⟩
      · exact p2.elim
    | _ => exact p2.elim
  | _ => exact p2.elim
theorem prg_weak {e : Expr} {t t' : L2.St → Hp → (Int → Int → Hp → Prop) → Prop} (h : PRg X e t) (w : ∀ σ H Q, t' σ H Q → t σ H Q) : PRg X e t' := fun pins s σ H Q I q => h pins s σ H Q I (w _ _ _ q)
abbrev SR (X : Cx) (cl : Cl) (W : WX) (e : Expr) (r : En → R (Int × Int)) : Prop :=
  PRg X e (fun σ H Q => ∃ F ρ, Corr X.K cl F ρ σ H ∧ Post X.K cl W (r ρ) F ρ σ H fun p ρ' F' H' => RgOk p.1 p.2 → Q p.1 p.2 H')
theorem sr_1 {p pos : Pos} (hg : Gl X "range") (hm : X.mg "range" = none) (ha : SO X cl W a da) (na : starEach [a] X.env = (false, eval a X.env) :: starEach [] X.env) : SR X cl W (.Call (.Name "range" p) [a] [] pos) (rg1 da) :=
  prg_weak (prg_1 hg hm ha.fz na) fun σ H Q h => rg1_ok h
theorem sr_2 {p pos : Pos} (hg : Gl X "range") (hm : X.mg "range" = none) (ha : SO X cl W a da) (hb : SO X cl W b db) (na : starEach [a, b] X.env = (false, eval a X.env) :: starEach [b] X.env)
    (nb : starEach [b] X.env = (false, eval b X.env) :: starEach [] X.env) (hp : (backTo pos (starEach [b] X.env)).any (·.1) = false) : SR X cl W (.Call (.Name "range" p) [a, b] [] pos) (rg2 da db) :=
  prg_weak (prg_2 hg hm ha.fz hb.fz na nb hp) fun σ H Q h => rg2_ok h
variable {e : Expr} {r : En → R (Int × Int)}
theorem so_lstRg {p pos : Pos} (hc : X.calm = true) (hg : Gl X "list") (hm : X.mg "list" = none) (he : SR X cl W e r) (na : starEach [e] X.env = (false, eval e X.env) :: starEach [] X.env) : SO X cl W (.Call (.Name "list" p) [e] [] pos) (lstRg r) :=
  pe_weak (pe_listRg hc hg hm he na) fun σ H Q ⟨F, ρ, c, p⟩ => by
    refine ⟨F, ρ, c, (Post.bind p).mono fun x ρ1 F1 H1 st1 c1 p1 ok => ⟨ok, fun q nq => ?_⟩⟩
    exact Post.done (o := true) c1 (Grow.own c1.le nq _) ⟨q, rfl, nq, c1.le.back nq, .lst upd_same den_rg⟩ st1 p1
theorem so_tupRg {p pos : Pos} (hc : X.calm = true) (hg : Gl X "tuple") (hm : X.mg "tuple" = none) (he : SR X cl W e r) (na : starEach [e] X.env = (false, eval e X.env) :: starEach [] X.env) : SO X cl W (.Call (.Name "tuple" p) [e] [] pos) (tupRg r) :=
  pe_weak (pe_tupRg hc hg hm he na) fun σ H Q ⟨F, ρ, c, p⟩ => by
    refine ⟨F, ρ, c, (Post.bind p).mono fun x ρ1 F1 H1 st1 c1 p1 ok => ⟨ok, fun q nq => ?_⟩⟩
    have g := Grow.new c1.le nq (.tup (rgV x.1 x.2))
    exact Post.done (o := false) c1 g (.tup (SqT.val upd_same) den_rg) st1 p1
end
section
variable {prog : Program} {w : World} {A : Around} {E : Value → Shared → Prop} {s : Shared}
theorem rev_adj (n : Nat) : Builtin.Slice.sliceAdjust none none (-1) (n : Int) = ((n : Int) - 1, -1) := by
  unfold Builtin.Slice.sliceAdjust
  simp
theorem rev_plc (n : Nat) : Builtin.Slice.slicePlaces ((n : Int) - 1) (-1) (-1) = n := by
  unfold Builtin.Slice.slicePlaces
  have : ¬ ((-1 : Int) > 0) := by omega
  simp only [this, if_false]
  by_cases h : (n : Int) - 1 > -1
  · simp only [h, if_true]
    have : ((n : Int) - 1 - -1 - 1) / (- -1) + 1 = (n : Int) := by
      rw [show (- -1 : Int) = 1 by decide, Int.ediv_one]; omega
    rw [this]; rfl
  · simp only [h, if_false]; omega
theorem rev_pick (xs : Array Value) : ((List.range xs.size).filterMap fun (m : Nat) => xs[(((xs.size : Int) - 1) + (m : Int) * (-1)).toNat]?).toArray = xs.toList.reverse.toArray := by
  have e : ((List.range xs.size).filterMap fun (m : Nat) => xs[(((xs.size : Int) - 1) + (m : Int) * (-1)).toNat]?) = (List.range xs.size).reverse.filterMap (xs[·]?) := by
    rw [← PySem.W.krv_range, List.filterMap_map]
    show (List.range xs.size).filterMap (id ∘ _) = (List.range xs.size).filterMap (id ∘ _)
    rw [← List.filterMap_map, ← List.filterMap_map]
    congr 1
    refine List.map_congr_left fun m hm => ?_
    have := List.mem_range.mp hm
    have e : (((xs.size : Int) - 1) + (m : Int) * (-1)).toNat = xs.size - 1 - m := by omega
    rw [e]
  rw [e, List.filterMap_reverse, PySem.W.krv_all]
theorem rev_applied {sl : Addr} {vk : Value} {n : Nat} {Q : Int × Int × Nat → Shared → Prop} (hs : s.heap.IsSliceOf sl .none .none vk) (pk : IsPart vk (some (-1))) (h : Q ((n : Int) - 1, -1, n) s) :
    wpAny (model prog w) A (Builtin.Slice.sliceApplied (.ref sl) (pure (n : Int))) Q E s := by
  obtain ⟨os, hos, hcs, hds⟩ := id hs
  unfold Builtin.Slice.sliceApplied Builtin.Slice.sliceFields
  refine wpAny_bind (wpAny_bind (wpAny_field hos hds (x := .none) rfl (wpAny_bind (wpAny_field hos hds (x := .none) rfl (wpAny_bind (wpAny_field hos hds (x := vk) rfl (wpAny_pure ?_)))))))
  refine wpAny_bind (HT.slicePart_ pk ?_)
  show wpAny _ _ (if ((-1 : Int) == 0) = true then _ else _) _ _ s
  rw [if_neg (by decide)]
  refine wpAny_bind (slicePart_none (wpAny_bind (slicePart_none (wpAny_bind (wpAny_pure ?_)))))
  show wpAny _ _ (match Builtin.Slice.sliceAdjust none none (-1) (n : Int) with | (x, y) => pure (x, (-1 : Int), Builtin.Slice.slicePlaces x y (-1))) _ _ s
  rw [rev_adj n]
  show wpAny _ _ (pure ((n : Int) - 1, (-1 : Int), Builtin.Slice.slicePlaces ((n : Int) - 1) (-1) (-1))) _ _ s
  rw [rev_plc]
  exact wpAny_pure h
theorem rev_tuple {t sl : Addr} {xs : Array Value} {vk : Value} {Q : Value → Shared → Prop} (ht : IsTup s.heap t xs) (hs : s.heap.IsSliceOf sl .none .none vk) (pk : IsPart vk (some (-1)))
    (h : Q (.ref s.heap.objs.size) { s with heap := s.heap.push { cls := .type "tuple", data := .seq xs.toList.reverse.toArray } }) (hz : xs.size ≤ sizeLine) : wpAny (model prog w) A (getItem (.ref t) (.ref sl)) Q E s := by
  have hk : sizeOk (.seq xs.toList.reverse.toArray) := by
    show xs.toList.reverse.toArray.size ≤ sizeLine
    rw [List.size_toArray, List.length_reverse, Array.length_toList]; exact hz
  obtain ⟨os, hos, hcs, hds⟩ := id hs
  have hT : s.TypeIs (.ref sl) "slice" := ⟨os, hos, hcs⟩
  unfold getItem
  try with_reducible refine wpAny_holding ?_
  first | refine wpAny_bind (wpAny_pure ?_) | skip
  refine wpAny_bind (wpAny_sequenceKey ht.typeIs (by decide) ?_)
  refine wpAny_bind (wpAny_callSpecial?_slot (name := Str.ofString "__getitem__") ht.typeIs PyProof.Rows.slot_tuple_getitem (wpAny_call_entry PyProof.Rows.slot_tuple_getitem ht.typeIs entry_tuple_getitem ?_ (args_tuple_getitem _ _)))
  show wpAny _ _ (Builtin.Tuple.tupleItemsOf (.ref t) >>= _) _ _ s
  refine wpAny_bind (tupleItemsOf_ ht (wpAny_bind (wpAny_typeOf hT ?_)))
  rw [if_pos (by decide)]
  refine wpAny_bind (rev_applied hs pk ?_)
  have hno : ¬ ((((xs.size : Int) - 1) == 0 && (-1 : Int) == 1 && xs.size == xs.size) = true) := by
    intro q
    rw [Bool.and_eq_true, Bool.and_eq_true] at q
    exact absurd q.1.2 (by decide)
  show wpAny _ _ (if (((xs.size : Int) - 1) == 0 && (-1 : Int) == 1 && xs.size == xs.size) = true then _ else _) _ _ s
  rw [if_neg hno, rev_pick]
  first
    | exact wpAny_bind (m := Builtin.Tuple.tupleExact _) (wpAny_newObj_type (wpAny_pure ⟨_, rfl, wpAny_pure h⟩) hk)
    | exact wpAny_bind (m := Builtin.Tuple.tupleExact _) (wpAny_newObj_type (wpAny_bind (wpAny_pure (wpAny_pure ⟨_, rfl, wpAny_pure h⟩))) hk)
    | exact wpAny_bind (wpAny_bind (m := Builtin.Tuple.tupleExact _) (wpAny_newObj_type (wpAny_pure (wpAny_pure ⟨_, rfl, wpAny_pure h⟩)) hk))
    | exact wpAny_bind (wpAny_bind (m := Builtin.Tuple.tupleExact _) (wpAny_newObj_type (wpAny_pure ⟨_, rfl, wpAny_pure h⟩) hk))
end
def tRevT (K : PySem.W.Frag) (te : TE) : TE := fun σ H Q => te σ H fun x H1 => (∃ a xs, x = .ref a ∧ SqL K H1 a xs ∧ ∀ p, H1 p = none → Q (.ref p) (upd H1 p (.lst xs.reverse))) ∨
  ∃ a xs, x = .ref a ∧ SqT K H1 a xs ∧ ∀ p, H1 p = none → Q (.ref p) (upd H1 p (.tup xs.reverse))
section
variable {X : Cx} {cl : Cl} {W : WX}
theorem pe_rev {e : Expr} {te : TE} {k : Nat} {p1 p2 p3 pos : Pos} (he : PE X e te) : PE X (.Subscript e (.Slice none none (some (.UnaryOp .USub (.Constant (.int 1) k p1) p2)) p3) pos) (tRevT X.K te) := by
  refine ⟨fun pins s σ H Q I h => ?_⟩
  refine Subscript_ (thn (he.run pins s σ H _ I h) fun v s1 ⟨x, H1, I1, r1, q1⟩ => ?_)
  have hst : PO X (some (.UnaryOp .USub (.Constant (.int 1) k p1) p2)) (tPart (tUn (rU fun i => .int (-i)) (tC (.int 1)))) := po_some (pe_un un_neg pe_int)
  refine wpAny_Slice (thn (po_none.run pins s1 σ H1 (fun o H2 => o = none ∧ H2 = H1) I1 ⟨rfl, rfl⟩) fun vl s2 ⟨l, H2, I2, pl, el, e2⟩ => ?_)
  subst el e2
  refine thn (po_none.run pins s2 σ H2 (fun o H3 => o = none ∧ H3 = H2) I2 ⟨rfl, rfl⟩) fun vu s3 ⟨u, H3, I3, pu, eu, e3⟩ => ?_
  subst eu e3
  refine thn (hst.run pins s3 σ H3 (fun o H4 => o = some (-1) ∧ H4 = H3) I3 ⟨1, rfl, -1, rfl, rfl, rfl⟩) fun vs s4 ⟨o, H4, I4, ps, eo, e4⟩ => ?_
  subst eo e4
  have I5 : Inv X pins σ H4 { s4 with heap := s4.heap.push { cls := .type "slice", data := .fields #[vl, vu, vs] } } := I4.kept (t' := s4.toks) fun b ob q => Heap.get?_push_of_some _ q
  rcases q1 with ⟨a, xs, ex, hx, q⟩ | ⟨a, xs, ex, hx, q⟩
  · subst ex
    cases r1
    obtain ⟨its, r, ht, hz⟩ := I5.list hx
    have hlen := r.length
    show wpAny (model X.prog X.w) X.A (subscriptTail e (.Slice none none (some (.UnaryOp .USub (.Constant (.int 1) k p1) p2)) p3) (.ref a) (.ref s4.heap.objs.size)) (EP X pins σ Q) X.xe _
    refine tail_any (ops := [.ref a, .ref s4.heap.objs.size]) ht.isList.typeIs (PySem.slot_list_getitem.lookup) ?_ (by with_unfolding_all rfl)
    refine wpAny_getItem_list_slice ht.isList (Heap.IsSliceOf.new _ vl vu vs) pl pu ps (by decide) ?_ (by rw [List.size_toArray]; omega)
    rw [PySem.W.krv_pick]
    refine ⟨.ref _, _, I5.laid (t' := s4.toks) (o := .lst xs.reverse) (fun b ob q => Heap.get?_push_of_some _ q) (Nat.le_refl _) ?_, rfl, q _ (I5.hok.fresh (Nat.le_refl _))⟩
    exact ⟨by rw [List.length_reverse]; exact hz, _, 0, r.reverse, Heap.get?_push_size _ rfl⟩
  · subst ex
    cases r1
    cases pl
    cases pu
    obtain ⟨its, r, ht, hz⟩ := I5.tuple hx
    have hlen := r.length
    show wpAny (model X.prog X.w) X.A (subscriptTail e (.Slice none none (some (.UnaryOp .USub (.Constant (.int 1) k p1) p2)) p3) (.ref a) (.ref s4.heap.objs.size)) (EP X pins σ Q) X.xe _
    refine tail_any (ops := [.ref a, .ref s4.heap.objs.size]) ht.typeIs (PyProof.Rows.slot_tuple_getitem.lookup) ?_ (by with_unfolding_all rfl)
    refine rev_tuple ht (Heap.IsSliceOf.new _ .none .none vs) ps ?_ (by rw [List.size_toArray]; omega)
    refine ⟨.ref _, _, I5.laid (t' := s4.toks) (o := .tup xs.reverse) (fun b ob q => Heap.get?_push_of_some _ q) (Nat.le_refl _) ?_, rfl, q _ (I5.hok.fresh (Nat.le_refl _))⟩
    exact ⟨by rw [List.length_reverse]; exact hz, _, r.reverse, IsTup.new _ _⟩
def fRev : D → Option (D × Bool)
  | .lst ds => some (.lst ds.reverse, true)
  | .rdl ds => some (.lst ds.reverse, true)
  | .tup ds => some (.tup ds.reverse, false)
  | _ => none
theorem so_rev {e : Expr} {o : Opd} {k : Nat} {p1 p2 p3 pos : Pos} (h : SP X cl W e o) : SO X cl W (.Subscript e (.Slice none none (some (.UnaryOp .USub (.Constant (.int 1) k p1) p2)) p3) pos) (una fRev o) :=
  pe_weak (pe_rev h) fun σ H Q q => una_ok (r := fun x H Q => (∃ a xs, x = .ref a ∧ SqL X.K H a xs ∧ ∀ p, H p = none → Q (.ref p) (upd H p (.lst xs.reverse))) ∨
      ∃ a xs, x = .ref a ∧ SqT X.K H a xs ∧ ∀ p, H p = none → Q (.ref p) (upd H p (.tup xs.reverse))) (fun F H x a c o Q le va e q => by
    cases a with
    | lst ds =>
      cases e
      obtain ⟨a, vs, rfl, q1, t⟩ := va.lst le
      exact .inl ⟨a, vs, rfl, SqL.val q1, fun l hl => q _ _ _ (Grow.own le hl _) ⟨l, rfl, hl, le.back hl, .lst upd_same t.reverse⟩⟩
    | rdl ds =>
      cases e
      obtain ⟨a, vs, rfl, q1, t⟩ := va.rdl le
      exact .inl ⟨a, vs, rfl, q1, fun l hl => q _ _ _ (Grow.own le hl _) ⟨l, rfl, hl, le.back hl, .lst upd_same t.reverse⟩⟩
    | tup ds =>
      cases e
      obtain ⟨a, vs, rfl, h0, q1, t⟩ := va.tup le
      exact .inr ⟨a, vs, rfl, q1, fun l hl => q _ _ _ (Grow.new le hl (.tup vs.reverse)) (.tup (SqT.val upd_same) (t.reverse.le (Grow.new le hl (.tup vs.reverse)).le))⟩
    | _ => cases e) q
end
@[simp] theorem fRev_t {ds : List D} : fRev (.tup ds) = some (.tup ds.reverse, false) := id rfl
@[simp] theorem fRev_l {ds : List D} : fRev (.lst ds) = some (.lst ds.reverse, true) := id rfl
@[simp] theorem fRev_r {ds : List D} : fRev (.rdl ds) = some (.lst ds.reverse, true) := id rfl
end PF

namespace PF
open PySem PySem.Spec L2 PySem.W PyProof.Rows
theorem tup_once (l : Addr) (xs : Array Value) (n : Nat) (dd : Option Addr) (sl : Array (Option Value)) (k : Int) (u : Tok) (c0 : (decide (k < -(2 ^ 63)) || decide (k ≥ 2 ^ 63)) = false) (c1 : (xs.isEmpty || k == 1) = true) :
    Meets (Builtin.«tuple.__mul__» ⟨[.ref l, .int k u], []⟩) (fun _ R s => s.heap.get? l = some { cls := .type "tuple", dict := dd, data := .seq xs n, slots := sl } ∧ R (.ok (.ret (Value.ref l))) s) :=
  .of_wp fun prog w A R s h => by
    obtain ⟨hp, g, d, tk, os⟩ := s
    obtain ⟨hl, h⟩ := h
    have f1 := AutoSeq1.idx_int
    wp_walk using wpAny_loadPart' hl
    repeat (first
      | (refine wpAny_ite_false (decide_eq_false (by rw [c0]; exact Bool.false_ne_true)) ?_; wp_walk using wpAny_loadPart' hl)
      | (refine wpAny_ite_true (decide_eq_true c1) ?_; wp_walk using wpAny_loadPart' hl))
    exact ⟨_, rfl, h⟩
theorem tup_never (l : Addr) (xs : Array Value) (n : Nat) (dd : Option Addr) (sl : Array (Option Value)) (k : Int) (u : Tok) (c0 : (decide (k < -(2 ^ 63)) || decide (k ≥ 2 ^ 63)) = false) (c1 : (xs.isEmpty || k == 1) = false) (c2 : (decide (k ≤ 0) || xs.isEmpty) = true) :
    Meets (Builtin.«tuple.__mul__» ⟨[.ref l, .int k u], []⟩) (fun _ R s => s.heap.get? l = some { cls := .type "tuple", dict := dd, data := .seq xs n, slots := sl } ∧ R (.ok (.ret (Value.ref s.heap.objs.size))) { s with heap := s.heap.push { cls := Value.type "tuple", data := Data.seq #[] }, toks := s.toks }) :=
  .of_wp fun prog w A R s h => by
    obtain ⟨hp, g, d, tk, os⟩ := s
    obtain ⟨hl, h⟩ := h
    have f1 := AutoSeq1.idx_int
    wp_walk using wpAny_loadPart' hl
    repeat (first
      | (refine wpAny_ite_false (decide_eq_false (by rw [c0]; exact Bool.false_ne_true)) ?_; wp_walk using wpAny_loadPart' hl)
      | (refine wpAny_ite_false (decide_eq_false (by rw [c1]; exact Bool.false_ne_true)) ?_; wp_walk using wpAny_loadPart' hl)
      | (refine wpAny_ite_true (decide_eq_true c2) ?_; wp_walk using wpAny_loadPart' hl))
    exact ⟨_, rfl, h⟩
section
variable {X : Cx} {cl : Cl}
def rOnce (K : PySem.W.Frag) : R2 := fun x y H Q => ∃ l k xs, x = .ref l ∧ y = .int k ∧ SqT K H l xs ∧ -(2 ^ 63) ≤ k ∧ k < 2 ^ 63 ∧ (xs = [] ∨ k = 1) ∧ Q (.ref l) H
def rNever (K : PySem.W.Frag) : R2 := fun x y H Q => ∃ l k xs, x = .ref l ∧ y = .int k ∧ SqT K H l xs ∧ -(2 ^ 63) ≤ k ∧ k ≤ 0 ∧ xs ≠ [] ∧ ∀ p, H p = none → Q (.ref p) (upd H p (.tup []))
theorem op_once : OpR X (binaryOp .Mult) (rOnce X.K) := by
  intro pins s σ H x y v u Q I rx ry h
  obtain ⟨l, k, xs, rfl, rfl, hT, h1, h2, hk, q⟩ := h
  cases rx
  obtain ⟨t, rfl⟩ := ry
  obtain ⟨its, r, ⟨⟨cls, dd, data, sl⟩, ho, hc, n, hd⟩, hs⟩ := I.tuple hT
  simp only at hc hd
  subst hc hd
  have c0 : (decide (k < -(2 ^ 63)) || decide (k ≥ 2 ^ 63)) = false := by
    rw [decide_eq_false (by omega), decide_eq_false (by omega)] <;> rfl
  have c1 : (its.toArray.isEmpty || k == 1) = true := by
    rcases hk with rfl | rfl
    · cases r; rfl
    · simp
  exact wpAny_binaryOp_repeat_ref (T := "tuple") (U := "int") (by decide) ⟨_, ho, rfl⟩ (fun s' => typeIs_int s' k t) noFill_tuple_mul F.fills_int_mul F.slot_int_rmul repeat_tuple F.slot_int_index.lookup
    (call_meets F.slot_int_rmul (typeIs_int s k t) F.entry_int_rmul (F.args_int_rmul_2 _ _) (int_rmul_tuple k t l its.toArray n dd sl)
      ⟨ho, rfl, ⟨_, ho, rfl⟩, call_meets F.slot_tuple_mul ⟨_, ho, rfl⟩ F.entry_tuple_mul (F.args_tuple_mul_2 _ _) (tup_once l its.toArray n dd sl k t c0 c1) ⟨ho, .ref l, H, I, rfl, q⟩⟩)
theorem op_never : OpR X (binaryOp .Mult) (rNever X.K) := by
  intro pins s σ H x y v u Q I rx ry h
  obtain ⟨l, k, xs, rfl, rfl, hT, h1, h2, hk, q⟩ := h
  cases rx
  obtain ⟨t, rfl⟩ := ry
  obtain ⟨its, r, ⟨⟨cls, dd, data, sl⟩, ho, hc, n, hd⟩, hs⟩ := I.tuple hT
  simp only at hc hd
  subst hc hd
  have c0 : (decide (k < -(2 ^ 63)) || decide (k ≥ 2 ^ 63)) = false := by
    rw [decide_eq_false (by omega), decide_eq_false (by omega)] <;> rfl
  have c1 : (its.toArray.isEmpty || k == 1) = false := by
    cases r with
    | nil => exact absurd rfl hk
    | cons a b =>
      have : (k == 1) = false := beq_eq_false_iff_ne.mpr (by omega)
      rw [this]; rfl
  have c2 : (decide (k ≤ 0) || its.toArray.isEmpty) = true := by rw [decide_eq_true h2]; rfl
  refine wpAny_binaryOp_repeat_ref (T := "tuple") (U := "int") (by decide) ⟨_, ho, rfl⟩ (fun s' => typeIs_int s' k t) noFill_tuple_mul F.fills_int_mul F.slot_int_rmul repeat_tuple F.slot_int_index.lookup
    (call_meets F.slot_int_rmul (typeIs_int s k t) F.entry_int_rmul (F.args_int_rmul_2 _ _) (int_rmul_tuple k t l its.toArray n dd sl)
      ⟨ho, rfl, ⟨_, ho, rfl⟩, call_meets F.slot_tuple_mul ⟨_, ho, rfl⟩ F.entry_tuple_mul (F.args_tuple_mul_2 _ _) (tup_never l its.toArray n dd sl k t c0 c1 c2) ⟨ho, ?_⟩⟩)
  exact ⟨.ref s.heap.objs.size, _, I.laid (t' := s.toks) (o := .tup []) (fun b ob q => Heap.get?_push_of_some _ q) (Nat.le_refl _) ⟨Nat.zero_le _, [], .nil, IsTup.new _ _⟩, rfl, q _ (I.hok.fresh (Nat.le_refl _))⟩
def timesD (k : Int) (xs : List D) : List D := (List.replicate k.toNat xs).flatten
def kOk (k : Int) : Bool := decide (-1000 ≤ k) && decide (k ≤ 1000)
def fRep : F2
  | .lst xs, .int k => if (kOk k && decide (xs.length ≤ 1000)) = true then some (.lst (timesD k xs), true) else none
  | .tup xs, .int k => if (kOk k && decide (xs.length ≤ 1000)) = true then some (.tup (timesD k xs), false) else none
  | a, b => fMul a b
theorem kOk_iff {k : Int} (h : kOk k = true) : -1000 ≤ k ∧ k ≤ 1000 := by
  unfold kOk at h
  simpa [Bool.and_eq_true, decide_eq_true_eq] using h
theorem den_times {K : PySem.W.Frag} {F : Hp} {vs : List V} {ds : List D} {k : Int} (t : DenL K cl F vs ds) : DenL K cl F (List.replicate k.toNat vs).flatten (timesD k ds) := by
  unfold timesD
  induction k.toNat with
  | zero => exact .nil
  | succ n ih => rw [List.replicate_succ, List.replicate_succ, List.flatten_cons, List.flatten_cons]; exact t.append ih
theorem opK_rep : OpK X cl (binaryOp .Mult) fRep := by
  obtain ⟨r, h1, h2⟩ := opK_of (X := X) (cl := cl) (op := .Mult)
  refine ⟨_, OpR.or h1 (OpR.or (op_rep (X := X)) (OpR.or (op_once (X := X)) (OpR.or (op_never (X := X)) (op_repT (X := X))))), ?_⟩
  intro F H x y a b c o Q le va vb e q
  unfold fRep at e
  split at e
  · rename_i xs k
    split at e
    · rename_i hc
      cases e
      rw [Bool.and_eq_true] at hc
      obtain ⟨k1, k2⟩ := kOk_iff hc.1
      have hl := of_decide_eq_true hc.2
      obtain ⟨p, vs, rfl, q1, t⟩ := va.lst le
      have hv := t.length
      refine .inr (.inl ⟨p, k, vs, rfl, vb.int, q1, by omega, by omega, ?_, fun l hl => ?_⟩)
      · rw [sizeLine_eq, hv]
        have : xs.length * k.toNat ≤ 1000 * 1000 := Nat.mul_le_mul hl (by omega)
        omega
      · exact q _ _ _ (Grow.own le hl _) ⟨l, rfl, hl, le.back hl, .lst upd_same (den_times t)⟩
    · cases e
  · rename_i xs k
    split at e
    · rename_i hc
      cases e
      rw [Bool.and_eq_true] at hc
      obtain ⟨k1, k2⟩ := kOk_iff hc.1
      have hl := of_decide_eq_true hc.2
      obtain ⟨p, vs, rfl, h0, q1, t⟩ := va.tup le
      have hv := t.length
      by_cases he : vs = [] ∨ k = 1
      · refine .inr (.inr (.inl ⟨p, k, vs, rfl, vb.int, q1, by omega, by omega, he, q F H _ (Grow.refl le) ?_⟩))
        have e1 : timesD k xs = xs := by
          unfold timesD
          rcases he with rfl | rfl
          · cases t; simp
          · show (List.replicate 1 xs).flatten = xs
            simp
        rw [e1]; exact .tup h0 t
      · rw [not_or] at he
        by_cases hk : k ≤ 0
        · refine .inr (.inr (.inr (.inl ⟨p, k, vs, rfl, vb.int, q1, by omega, hk, he.1, fun l hl => ?_⟩)))
          have e1 : timesD k xs = [] := by
            unfold timesD
            have : k.toNat = 0 := by omega
            rw [this]; rfl
          have g := Grow.new le hl (.tup [])
          exact q _ _ _ g (by rw [e1]; exact .tup (SqT.val upd_same) .nil)
        · refine .inr (.inr (.inr (.inr ⟨p, k, vs, rfl, vb.int, q1, he.1, by omega, by omega, by omega, fun l hl => ?_⟩)))
          have g := Grow.new le hl (.tup (List.replicate k.toNat vs).flatten)
          exact q _ _ _ g (.tup (SqT.val upd_same) ((den_times t).le g.le))
    · cases e
  · exact .inl (h2 F H x y _ _ c o Q le va vb e q)
theorem so_rep {W : WX} {a b : Expr} {oa ob : Opd} {pos : Pos} (ha : SP X cl W a oa) (hb : SP X cl W b ob) : SO X cl W (.BinOp a .Mult b pos) (bin fRep oa ob) := by
  obtain ⟨r, h1, h2⟩ := opK_rep (X := X) (cl := cl)
  exact pe_weak (pe_op h1 ha hb) fun σ H Q h => bin_ok h2 h
end
theorem rep_l {xs : List D} {k : Int} (h1 : -1000 ≤ k) (h2 : k ≤ 1000) (h3 : xs.length ≤ 1000) : fRep (.lst xs) (.int k) = some (.lst (timesD k xs), true) := by
  simp [fRep, kOk, h1, h2, h3]
theorem rep_t {xs : List D} {k : Int} (h1 : -1000 ≤ k) (h2 : k ≤ 1000) (h3 : xs.length ≤ 1000) : fRep (.tup xs) (.int k) = some (.tup (timesD k xs), false) := by
  simp [fRep, kOk, h1, h2, h3]
@[simp] theorem rep_i {i k : Int} : fRep (.int i) (.int k) = fOp .Mult (.int i) (.int k) := id rfl
@[simp] theorem times_one {d : D} {k : Int} : timesD k [d] = List.replicate k.toNat d := by
  unfold timesD
  induction k.toNat with
  | zero => rfl
  | succ n ih => rw [List.replicate_succ, List.replicate_succ, List.flatten_cons, ih]; rfl
end PF

namespace PF
open PySem PySem.Spec L2 PySem.W PyProof.Rows
def fIsi2 (okc : Nat → Bool) (isi : Tg → Tg → Option Bool) (c c' : Tg) : D → Option (D × Bool) := fun d => match tagD okc d with
  | some t => match isi t c, isi t c' with
    | some b, some b' => some (.bl (b || b'), false)
    | _, _ => none
  | none => none
theorem Vw.grow {K : PySem.W.Frag} {cl : Cl} {F H F' H' : Hp} {v : V} {d : D} (g : Grow F H F' H') (h : Vw K cl F H v d) : Vw K cl F' H' v d := by
  rcases h with h | ⟨a, rfl, h⟩
  · exact .inl (h.le g.le)
  · exact .inr ⟨a, rfl, h.keep g.le (fun o e => g.keep _ _ e) (fun b e => g.keep _ _ e)⟩
section
variable {X : Cx} {cl : Cl} {W : WX}
theorem so_isi2 {okc : Nat → Bool} {isi : Tg → Tg → Option Bool} {c c' : Tg} {k : Nat} {p pos p2 : Pos} {e eT eU : Expr} {o : Opd} {vT vU : V} (hok : ∀ c, okc c = true → ClsI X.K (cl c)) (hi : ∀ t b, isi t c = some b → PySem.W.kitOne X.K (tvG cl t) (tvG cl c) = some b)
    (hi' : ∀ t b, isi t c' = some b → PySem.W.kitOne X.K (tvG cl t) (tvG cl c') = some b)
    (hg : Gl X "isinstance") (hm : X.mg "isinstance" = none) (hv : bootBuiltins "isinstance" = some (.builtin "isinstance")) (h : SP X cl W e o) (hT : PE X eT (tC vT)) (hU : PE X eU (tC vU)) (hk : ClsV vT (tvG cl c)) (hk' : ClsV vU (tvG cl c'))
    (hs : starEach [e, .Tuple [eT, eU] k p2] X.env = (false, eval e X.env) :: starEach [.Tuple [eT, eU] k p2] X.env) (hs2 : starEach [.Tuple [eT, eU] k p2] X.env = (false, eval (.Tuple [eT, eU] k p2) X.env) :: starEach [] X.env)
    (hs3 : starEach [eT, eU] X.env = (false, eval eT X.env) :: starEach [eU] X.env) (hs4 : starEach [eU] X.env = (false, eval eU X.env) :: starEach [] X.env) (hpl : (backTo pos (starEach [.Tuple [eT, eU] k p2] X.env)).any (·.1) = false) :
    SO X cl W (.Call (.Name "isinstance" p) [e, .Tuple [eT, eU] k p2] [] pos) (una (fIsi2 okc isi c c') o) :=
  pe_weak (pe_callB call_isiT hg hm hv (pa_cons h (pa_cons (pe_tup (pa_cons hT (pa_cons hU pa_nil hs4) hs3)) pa_nil hs2) hs) (by decide) (by decide) hs hpl) fun σ H Q q =>
    una_ok (r := fun x H Q => 2 ≤ sizeLine ∧ ∀ l, H l = none → rIsiT X.K [x, .ref l] (upd H l (.tup [vT, vU])) Q) (fun F H x a d o Q le va e q => by
      unfold fIsi2 at e
      split at e
      · rename_i t ht
        split at e
        · rename_i b b' hb hb'
          cases e
          refine ⟨by rw [sizeLine_eq]; omega, fun l hl => ?_⟩
          have g := Grow.new le hl (.tup [vT, vU])
          refine ⟨x, l, [vT, vU], tvG cl t, [tvG cl c, tvG cl c'], b || b', rfl, upd_same, .cons hk (.cons hk' .nil), ?_, ?_, q _ _ _ g (.bl _)⟩
          · exact tag_ok hok g.in' (va.grow g) ht
          · unfold PySem.W.kitAny
            rw [hi t b hb]
            cases b with
            | true => rfl
            | false =>
              unfold PySem.W.kitAny
              rw [hi' t b' hb']
              cases b' <;> rfl
        · cases e
      · cases e) q
end
theorem iL_inj {a b : List Int} : iL a = iL b ↔ a = b := by
  constructor
  · intro h
    have := congrArg ints? h
    rw [ints_iL, ints_iL] at this
    exact Option.some.inj this
  · rintro rfl; rfl
@[simp] theorem dEq_lI {l m : List Int} : dEq (.lst (iL l)) (.lst (iL m)) = some (decide (l = m)) := by
  have h : ∀ l : List Int, shp (.lst (iL l)) = true := fun l => shp_lstA fun x hx => by
    simp only [iL_def, List.mem_map] at hx
    obtain ⟨i, _, rfl⟩ := hx
    exact atom_int
  rw [dEq_ok (h l) (h m), ← eqv_ints (l := l) (m := m)]
  simp only [eqvD, toPy, PyData.eqv]
theorem leD_int (a b : Int) : leD (.int a) (.int b) = decide (a ≤ b) := by
  show (!PySem.W.dataLt (toPy (.int b)) (toPy (.int a))) = _
  simp only [toPy]
  rw [PySem.W.dataLt_int]
  by_cases h : a ≤ b
  · rw [decide_eq_true h, decide_eq_false (by omega)]; rfl
  · rw [decide_eq_false h, decide_eq_true (by omega)]; rfl
def srt (l : List Int) : List Int := l.mergeSort fun a b => decide (a ≤ b)
theorem sort_iL (l : List Int) : (iL l).mergeSort leD = iL (srt l) :=
  (List.map_mergeSort (r := fun a b : Int => decide (a ≤ b)) (s := leD) (f := D.int) (l := l) fun a _ b _ => (leD_int a b).symm).symm
theorem srtOk_iL (l : List Int) : srtOk (iL l) = true := by
  unfold srtOk
  simp [iL_def, plain, toPy, PyData.depth]
  intro x _ y _
  rfl
theorem sorted_t {l : List Int} : fSorted [.tup (iL l)] = some (.lst (iL (srt l)), true) := by simp [fSorted, items?, srtOk_iL, sort_iL]
theorem sorted_l {l : List Int} : fSorted [.lst (iL l)] = some (.lst (iL (srt l)), true) := by simp [fSorted, items?, srtOk_iL, sort_iL]
theorem srt_perm (l : List Int) : (srt l).Perm l := List.mergeSort_perm ..
theorem srt_sorted (l : List Int) : (srt l).Pairwise (· ≤ ·) := by
  have := List.pairwise_mergeSort (le := fun a b : Int => decide (a ≤ b)) (fun a b c h1 h2 => by simp at *; omega) (fun a b => by simp; omega) l
  exact this.imp fun h => by simpa using h
theorem srt_uniq {l m : List Int} (h : l.Perm m) (hm : m.Pairwise (· ≤ ·)) : srt l = m :=
  ((srt_perm l).trans h).eq_of_pairwise (le := (· ≤ ·)) (fun a b _ _ h1 h2 => by omega) (srt_sorted l) hm
end PF

namespace PF
open PySem PySem.Spec L2 PySem.W PyProof.Rows
theorem meets_enumB {v : Value} {o : Obj} {H : Heap → Prop} (B : Begins v o H) : Meets (Builtin.«enumerate.__new__» ⟨[.type "enumerate", v], []⟩) (fun _ R s => H s.heap ∧ R (.ok (.ret (.ref (s.heap.push o).objs.size)))
    { s with heap := (s.heap.push o).push { cls := .type "enumerate", data := .fields #[.none, .bool false, .ref s.heap.objs.size, rawInt 0, .none, .none] } }) :=
  .of_wp fun prog w A R s h => by
    obtain ⟨hp, g, d, tk, os⟩ := s; obtain ⟨h1, h⟩ := h
    have hsub := sub_enumerate
    have q1 : ∀ {A' : Around} {E : Value → Shared → Prop} {Q : Value → Shared → Prop}, Q (.ref hp.objs.size) ⟨hp.push o, g, d, tk, os⟩ → wpAny (model prog w) A' (pyIter v) Q E ⟨hp, g, d, tk, os⟩ := fun q => B.iter prog w _ _ ⟨hp, g, d, tk, os⟩ _ h1 q
    wp_walk using q1
    refine wpAny_stack_any fun st => wpAny_pure ?_
    split
    · rename_i c _ _ _ _ _
      cases (c == Value.type "enumerate")
      · wp_walk using q1
        exact ⟨_, rfl, h⟩
      · wp_walk using q1
        exact ⟨_, rfl, h⟩
    · wp_walk using q1
      exact ⟨_, rfl, h⟩
theorem enum_new {prog : Program} {w : World} {A : Around} {E : Value → Shared → Prop} {s : Shared} {v : Value} {o : Obj} {H : Heap → Prop} {Q : Value → Shared → Prop} (B : Begins v o H) (h1 : H s.heap)
    (h : ∀ h', IsEnum h' (s.heap.objs.size + 1) s.heap.objs.size 0 .none → h'.get? s.heap.objs.size = some o → (∀ b o, s.heap.get? b = some o → h'.get? b = some o) → Q (.ref (s.heap.objs.size + 1)) { s with heap := h' }) :
    wpAny (model prog w) A (call (.type "enumerate") [v]) Q E s := by
  refine callType_new F.called_enumerate (by decide) (F.typeCall_enumerate_1 _) (F.newCall_enumerate_1 _) (fun obj => F.args_object_init_2 obj _) F.entry_enumerate_new (meets_enumB B) ⟨h1, ?_⟩
  have hz : (s.heap.push o).objs.size = s.heap.objs.size + 1 := Heap.size_push ..
  show _ ∧ _
  rw [hz]
  have he : IsEnum ((s.heap.push o).push { cls := .type "enumerate", data := .fields #[.none, .bool false, .ref s.heap.objs.size, rawInt 0, .none, .none] }) (s.heap.objs.size + 1) s.heap.objs.size 0 .none := by
    have := Heap.get?_push_size (s.heap.push o) (o := { cls := .type "enumerate", data := .fields #[.none, .bool false, .ref s.heap.objs.size, rawInt 0, .none, .none] }) rfl
    rw [hz] at this; exact this
  exact ⟨⟨_, he, rfl⟩, h _ he (Heap.get?_push_of_some _ (Heap.get?_push_size _ B.free)) fun b o x => Heap.get?_push_of_some _ (Heap.get?_push_of_some _ x)⟩
/-- the tuple at a, each item in a new pair -/
def IteT (K : PySem.W.Frag) (a : Addr) : It :=
  ⟨fun i H => ∃ (xs : List V) (x : V), SqT K H a xs ∧ xs[i]? = some x, fun i H v H' => ∃ T x, v = .ref T ∧ H T = none ∧ H' = upd H T (.tup [.int (i : Nat), x]) ∧ ∀ xs, SqT K H a xs → xs[i]? = some x, fun i H => ∃ xs : List V, SqT K H a xs ∧ xs.length ≤ i⟩
theorem turn_enumT {P : Program} {w : World} {K : PySem.W.Frag} {elts : List Expr} {kk : Nat} {tpos : Pos} (a e it : Addr) :
    Turn P w K (.Tuple elts kk tpos) (IteT K a) [e, it] e (fun i h => (∃ old, IsEnum h e it ((i : Nat) : Int) old) ∧ h.IsTupleIter it a i ∧ e ≠ it ∧ a ≠ it ∧ e ≠ a) where
  mem := by simp
  obj := fun i h st b hb => by
    obtain ⟨⟨old, he⟩, ⟨o, ho, hc, hd⟩, _⟩ := st
    have e' : b = e ∨ b = it := by simpa using hb
    rcases e' with z | z
    · subst z; exact ⟨_, he, fun v q => nomatch q⟩
    · subst z; exact ⟨o, ho, fun v q => by rw [hd] at q; cases q⟩
  keep := fun i h h' st k => let ⟨⟨old, he⟩, hi, hne⟩ := st; ⟨⟨old, k e (by simp) _ he⟩, hi.at fun o q => k it (by simp) o q, hne⟩
  item := by
    intro X hP hw hK hc i pins s σ H E I hf st hg
    subst hP hw hK
    obtain ⟨⟨old, he⟩, hit, hne, hai, hea⟩ := st
    obtain ⟨xs, x, hq, hx⟩ := hg
    obtain ⟨its, rv, p, hz⟩ := I.tuple hq
    obtain ⟨u, hu, ru⟩ := rv.get hx
    have hel : e < s.heap.objs.size := Heap.lt_size he
    have hil : it < s.heap.objs.size := by obtain ⟨_, q, _⟩ := hit; exact Heap.lt_size q
    have hlt : i < its.toArray.size := by rw [List.size_toArray]; exact (List.getElem?_eq_some_iff.mp hu).1
    refine wpAny_pyNext_enum_itemD (Draws.tuple (show X.A.in1.handled = none from I.ok.hd hc) it a hai its.toArray) he ⟨hit, p⟩ hlt hne (by simp [hne, hea]) fun y h' tk hy ho hit' hT hsz hk => ?_
    have hyu : y = u := by
      have e1 : its.toArray[i]? = some u := by simpa using hu
      have e2 : its.toArray[i]? = some y := hy
      rw [e1] at e2; exact (Option.some.inj e2).symm
    subst hyu
    refine ⟨_, rfl, wpAny_letOwnedTupleGo_enum (s := { s with heap := h', toks := tk + 1 }) ho fun h'' he' sb => ?_⟩
    have hT2 : h''.get? s.heap.objs.size = some { cls := .type "tuple", data := .seq #[.int i tk, y] } := (sb.2 _ (Nat.ne_of_gt hel)).trans hT
    have new : ObjOk X.prog X.w (upd H s.heap.objs.size (.tup [.int (i : Nat), x])) h'' s.heap.objs.size (.tup [.int (i : Nat), x]) :=
      ⟨by show 2 ≤ sizeLine; decide, [.int i tk, y], .cons ⟨_, rfl⟩ (.cons ru .nil), ⟨_, hT2, rfl, _, rfl⟩⟩
    have I1 : Inv X pins σ (upd H s.heap.objs.size (.tup [.int (i : Nat), x])) { s with heap := h'', toks := tk + 1 } :=
      I.turnedNew (ch := [e, it]) (fun b ob hb q => (sb.2 b (fun z => hb (by simp [z]))).trans (hk b ob (fun z => hb (by simp [z])) (fun z => hb (by simp [z])) q)) hf (Nat.le_refl _) new
    refine ⟨.ref s.heap.objs.size, _, I1, rfl, ⟨_, x, rfl, I.hok.fresh (Nat.le_refl _), rfl, fun ys hy => by rw [I.tuple_inj hy hq]; exact hx⟩, ⟨⟨y, ?_⟩, hit'.1.at fun o q => (sb.2 it (Ne.symm hne)).trans q, hne, hai, hea⟩, fun b hb => ?_⟩
    · have e1 : ((i + 1 : Nat) : Int) = (i : Int) + 1 := by omega
      rw [e1]; exact he'
    · have hb' : b < s.heap.objs.size := by
        have e' : b = e ∨ b = it := by simpa using hb
        rcases e' with z | z
        · subst z; exact hel
        · subst z; exact hil
      rw [upd_ne (Nat.ne_of_lt hb')]
      exact (hf b hb).1
  done := by
    intro X hP hw hK hc i pins s σ H E I hf st hg
    subst hP hw hK
    obtain ⟨⟨old, he⟩, hit, hne, hai, hea⟩ := st
    obtain ⟨xs, hq, hx⟩ := hg
    obtain ⟨its, rv, p, hz⟩ := I.tuple hq
    obtain ⟨f0, f1, f2, f3, f4, f5⟩ := hf it (by simp)
    have hl := rv.length
    have hh : X.A.in1.handled = none := I.ok.hd hc
    have D : Draws X.prog X.w X.A.in1 it [it, a] i (fun _ _ => False) (fun j h => j = i ∧ h.IsTupleIter it a j ∧ h.IsTuple a its.toArray) :=
      { live := fun _ _ st => let ⟨o, ho, _⟩ := st.2.1; ⟨o, ho⟩
        frame := fun _ _ _ st hk => ⟨st.1, st.2.1.at fun o e => hk it (by simp) o e, st.2.2.at fun o e => hk a (by simp) o e⟩
        item := fun j s Q E hj st _ => by have := st.1; omega
        done := fun s Q E st hE => wpAny_nextOf_tuple_end hh st.2.1 st.2.2 (by simp; omega) hE }
    exact wpAny_pyNext_enum_endD D he ⟨rfl, hit, p⟩ fun h' eb => ⟨rfl, I.turned (t' := s.toks) (fun b o hb q => eb b o hb q) f0 f1 f3 f4 f5⟩
  self := fun A i s Q E st h => let ⟨⟨_, he⟩, _⟩ := st; wpAny_pyIter_enum he h
def iEnumT (K : PySem.W.Frag) (ta : TA) : TI := fun σ H R => ta σ H fun vs H1 => (∃ a xs, vs = [.ref a] ∧ SqL K H1 a xs ∧ R (Ite K a) H1) ∨ ∃ a xs, vs = [.ref a] ∧ SqT K H1 a xs ∧ R (IteT K a) H1
theorem pi_enumT {X : Cx} {e : Expr} {ta : TA} {p pos tpos : Pos} {elts : List Expr} {kk : Nat} (hg : Gl X "enumerate") (hm : X.mg "enumerate" = none) (ha : PA X [e] ta) (hs : starEach [e] X.env = [(false, eval e X.env)]) :
    PI X (.Tuple elts kk tpos) (.Call (.Name "enumerate" p) [e] [] pos) (iEnumT X.K ta) := by
  refine ⟨fun pins s σ H R I h => ?_⟩
  refine Call_ (ld_blt I hg hm boot_enumerate (PyProof.Rows.callWith_type1 (thn (ha.run pos pins s σ H _ I h) fun us s1 ⟨vs, H1, I1, r1, q1⟩ => ?_) hs rfl))
  have fin : ∀ {a b : Addr} {St : Nat → Heap → Prop} {J : It} {h' : Heap}, (∀ b o, s1.heap.get? b = some o → h'.get? b = some o) → Turn X.prog X.w X.K (.Tuple elts kk tpos) J [s1.heap.objs.size + 1, s1.heap.objs.size] (s1.heap.objs.size + 1) St → St 0 h' → R J H1 →
      PIE X pins σ (.Tuple elts kk tpos) R (.ref (s1.heap.objs.size + 1)) { s1 with heap := h' } := fun {_ _ St J h'} hk tn st q => by
    have I2 : Inv X pins σ H1 { s1 with heap := h' } := I1.kept (t' := s1.toks) hk
    refine ⟨s1.heap.objs.size + 1, [s1.heap.objs.size + 1, s1.heap.objs.size], _, _, H1, rfl, I2, tn, st, fun b hb => ?_, q⟩
    have e' : b = s1.heap.objs.size + 1 ∨ b = s1.heap.objs.size := by simpa using hb
    have hle : s1.heap.objs.size ≤ b := by
      rcases e' with z | z
      · subst z; exact Nat.le_add_right _ _
      · subst z; exact Nat.le_refl _
    exact I1.fpOk hle (I1.hok.fresh hle)
  rcases q1 with ⟨a, xs, ex, hq, q⟩ | ⟨a, xs, ex, hq, q⟩
  · subst ex
    cases r1 with
    | cons r rr =>
      cases rr
      cases r
      obtain ⟨its, rv, p', hz⟩ := I1.list hq
      exact call_enumerate_list p'.isList fun h' he hit hsz hk => wpAny_pyIter_enum he (fin (a := a) (b := a) hk (turn_enum a _ _) ⟨⟨.none, he⟩, hit, Nat.succ_ne_self _⟩ q)
  · subst ex
    cases r1 with
    | cons r rr =>
      cases rr
      cases r
      obtain ⟨its, rv, p', hz⟩ := I1.tuple hq
      have hlt : a < s1.heap.objs.size := by obtain ⟨_, q, _⟩ := p'; exact Heap.lt_size q
      refine enum_new (begins_tuple a its.toArray) p' fun h' he hit hk => wpAny_pyIter_enum he (fin (a := a) (b := a) hk (turn_enumT a _ _) ⟨⟨.none, he⟩, ⟨_, hit, rfl, rfl⟩, Nat.succ_ne_self _, Nat.ne_of_lt hlt, Nat.ne_of_gt (Nat.lt_succ_of_lt hlt)⟩ q)
section
variable {X : Cx} {cl : Cl} {W : WX} {K : PySem.W.Frag} {F : Hp}
theorem itOk_enumT {a : Addr} {vs : List V} {ds : List D} (h : SqT K F a vs) (t : DenL K cl F vs ds) : ItOk K cl (IteT K a) F (numd ds) where
  go i H le hi := by
    have hi : i < ds.length := by simpa [numd] using hi
    obtain ⟨v, hv, _⟩ := t.get (i := i) (List.getElem?_eq_getElem hi)
    exact ⟨vs, v, le.sqT h, hv⟩
  stop H le := ⟨vs, le.sqT h, by rw [t.length]; simp [numd]⟩
  yld i F2 H x H' d le le2 hd hy := by
    obtain ⟨T, z, rfl, nT, rfl, hx⟩ := hy
    unfold numd at hd
    rw [List.getElem?_map, List.getElem?_zipIdx] at hd
    cases hr : ds[i]? with
    | none => rw [hr] at hd; cases hd
    | some e =>
      rw [hr] at hd; simp at hd; subst hd
      obtain ⟨v, hv, hden⟩ := t.get hr
      have := hx vs (le2.sqT (le.sqT h))
      rw [hv] at this; cases this
      have g := Grow.new le2 nT (.tup [.int (i : Nat), z])
      exact ⟨_, g, .tup (SqT.val upd_same) (.cons (.int _) (.cons (hden.le (le.trans g.le)) .nil))⟩
def fEnumA : List D → Option (List D)
  | [.lst ds] => some (numd ds)
  | [.tup ds] => some (numd ds)
  | _ => none
theorem si_enumA {a : Expr} {as : List (En → R (D × Bool))} {elts : List Expr} {kk : Nat} {p pos tpos : Pos} (hg : Gl X "enumerate") (hm : X.mg "enumerate" = none) (ha : SA X cl W [a] as) (hs : starEach [a] X.env = [(false, eval a X.env)]) :
    SI X cl W (.Tuple elts kk tpos) (.Call (.Name "enumerate" p) [a] [] pos) (itC fEnumA as) := pi_weak (pi_enumT hg hm ha hs) fun σ H Q q => itC_ok q fun F H1 ds vs r le hv hf k => by
  unfold fEnumA at hf
  split at hf
  · cases hf
    cases hv with
    | cons h1 t =>
      cases t
      obtain ⟨a, vs, rfl, h2, t⟩ := den_lst h1
      exact .inl ⟨a, vs, rfl, le.sqL h2, k _ (itOk_enum h2 t)⟩
  · cases hf
    cases hv with
    | cons h1 t =>
      cases t
      obtain ⟨a, vs, rfl, h2, t⟩ := den_tup h1
      exact .inr ⟨a, vs, rfl, le.sqT h2, k _ (itOk_enumT h2 t)⟩
  · cases hf
end
@[simp] theorem fEnumA_l {ds : List D} : fEnumA [.lst ds] = some (numd ds) := id rfl
@[simp] theorem fEnumA_t {ds : List D} : fEnumA [.tup ds] = some (numd ds) := id rfl
end PF

namespace PF
open PySem PySem.Spec L2 PySem.W PyProof.Rows
section
variable {b : Bn} {e : En → R (D × Bool)} {c : En → R Bool} {vs : List Nat} {it : En → R (List D)} {ρ ρ1 : En}
/-- [e for x in l if c], neither the items' values nor which of them known -/
theorem lc_exF {ds : List D} {P : En → Prop} {Q : D → Prop} (hit : it ρ = .ok ds ρ1) (hl : ds.length ≤ 1000000) (h0 : P (wipeE ρ1 vs)) (h : ∀ d ∈ ds, ∀ ρ, P ρ → ∃ y ρ', turnF b c e vs d ρ = .ok y ρ' ∧ (∀ z, y = some z → Q z) ∧ P ρ') :
    ∃ out ρ', lcD it b c e vs ρ = .ok (.lst out, true) (backE vs ρ1 ρ') ∧ out.length ≤ ds.length ∧ (∀ y ∈ out, Q y) ∧ P ρ' := by
  have key : ∀ (l acc : List D) (ρ : En), acc.length + l.length ≤ 1000000 → P ρ → (∀ d ∈ l, ∀ ρ, P ρ → ∃ y ρ', turnF b c e vs d ρ = .ok y ρ' ∧ (∀ z, y = some z → Q z) ∧ P ρ') → ∃ out ρ', lcL b c e vs l acc ρ = .ok (acc ++ out) ρ' ∧ out.length ≤ l.length ∧ (∀ y ∈ out, Q y) ∧ P ρ' := by
    intro l
    induction l with
    | nil => intro acc ρ _ hp _; exact ⟨[], ρ, by simp [lcL], Nat.le_refl _, by simp, hp⟩
    | cons x l ih =>
      intro acc ρ ha hp hs
      simp only [List.length_cons] at ha
      obtain ⟨y, ρ', h1, hq, hp'⟩ := hs x List.mem_cons_self ρ hp
      unfold turnF at h1
      cases hb : b x ρ with
      | none => rw [hb] at h1; cases h1
      | some ρ1 =>
        rw [hb] at h1
        dsimp only at h1
        cases hc : c ρ1 with
        | bad => rw [hc] at h1; cases h1
        | ex x ρ' => rw [hc] at h1; cases h1
        | ok t ρ2 =>
          rw [hc] at h1
          simp only [R.bind] at h1
          cases t with
          | false =>
            rw [if_neg Bool.false_ne_true] at h1
            simp only [R.ok.injEq] at h1
            obtain ⟨rfl, h4⟩ := h1
            obtain ⟨out, ρ2, g1, g2, g3, g4⟩ := ih acc ρ' (by omega) hp' fun y hy => hs y (List.mem_cons_of_mem _ hy)
            refine ⟨out, ρ2, ?_, by simp; omega, g3, g4⟩
            simp only [lcL, hb, hc, noex, R.bind, Bool.false_ne_true, if_false]
            rw [h4, g1]
            try rfl
          | true =>
            rw [if_pos rfl] at h1
            cases he : fz e ρ2 with
            | bad => rw [he] at h1; cases h1
            | ex x ρ' => rw [he] at h1; cases h1
            | ok w ρ3 =>
              rw [he] at h1
              simp only [R.ok.injEq] at h1
              obtain ⟨rfl, h4⟩ := h1
              obtain ⟨out, ρ2, g1, g2, g3, g4⟩ := ih (acc ++ [w]) ρ' (by simp; omega) hp' fun y hy => hs y (List.mem_cons_of_mem _ hy)
              refine ⟨w :: out, ρ2, ?_, by simp; omega, fun z hz => by rcases List.mem_cons.mp hz with rfl | hz; exact hq _ rfl; exact g3 z hz, g4⟩
              simp only [lcL, hb, hc, noex, R.bind, if_true, he]
              rw [if_pos (by show acc.length < 1000000; omega), h4, g1]
              simp
  obtain ⟨out, ρ', g1, g2, g3, g4⟩ := key ds [] (wipeE ρ1 vs) (by simpa using hl) h0 h
  refine ⟨out, ρ', ?_, g2, g3, g4⟩
  rw [lcD_app, hit, bind_ok, g1]
  simp only [noex, R.bind, List.nil_append]
end
theorem seqIx_nn {n : Nat} {i : Int} (h0 : 0 ≤ i) (h1 : i < n) : seqIndex? i n = some i.toNat := by
  unfold seqIndex?
  have : ¬ i < 0 := by omega
  simp [this, h0, h1]
theorem popAtD_app {i : Nat} {den : En → R (D × Bool)} {ρ : En} : popAtD i den ρ = match ownL i ρ with
  | none => .bad
  | some _ => (fz den ρ).bind fun k ρ1 => match ownL i ρ1, k with
    | some (x, ds), .int k => if (decide (-(2 ^ 63) ≤ k) && decide (k < 2 ^ 63)) = true then (match seqIndex? k ds.length with
      | some j => match ds[j]? with
        | some d => .ok (d, false) (ρ1.set i (x.re (.lst (ds.eraseIdx j))))
        | none => .bad
      | none => .bad) else .bad
    | _, _ => .bad := id rfl
theorem take_perm {α : Type} : ∀ {l : List α} {j : Nat} {x : α}, l[j]? = some x → (x :: l.eraseIdx j).Perm l
  | [], j, x, h => by simp at h
  | a :: l, 0, x, h => by simp at h; subst h; simp
  | a :: l, j + 1, x, h => by
    have := take_perm (l := l) (j := j) (x := x) (by simpa using h)
    rw [List.eraseIdx_cons_succ]
    exact (List.Perm.swap a x _).trans (this.cons a)
end PF

namespace PF
open PySem PySem.Spec L2 PyProof.Rows
abbrev lamQ (X : Cx) : Str := X.env.qual ++ "<lambda>"
section
variable {X : Cx} {cl : Cl} {pins : List (Addr × Obj)} {σ : L2.St} {F H : Hp} {ρ : En} {s : Shared}
/-- what the making leaves: the table longer by one, the code object known from now on -/
theorem grow_tab {T : List NdefX.NTab} {P c : Addr} {q : Str} {ps : Array Value} {pos : Pos} (le : Le F H) (tab : TabOk T F H) (hP : H P = some (.tbl ps)) (fP : F P = none) (nC : H c = none) (hu : ∀ p ∈ T, p.1 = P → p.2 = fun _ _ => q) :
    GrowT T F H (upd F c (LamX.CodeO c q)) (upd (upd H P (.tbl (ps ++ #[rawInt pos.line, rawInt pos.col, .ref c]))) c (LamX.CodeO c q)) := by
  have nPc : P ≠ c := ne_of_none hP nC
  have other : ∀ {b : Addr}, b ≠ P → b ≠ c → upd (upd H P (.tbl (ps ++ #[rawInt pos.line, rawInt pos.col, .ref c]))) c (LamX.CodeO c q) b = H b := fun {b} h1 h2 => by rw [upd_ne h2, upd_ne h1]
  have atP : upd (upd H P (.tbl (ps ++ #[rawInt pos.line, rawInt pos.col, .ref c]))) c (LamX.CodeO c q) P = some (.tbl (ps ++ #[rawInt pos.line, rawInt pos.col, .ref c])) := by rw [upd_ne nPc, upd_same]
  have fle : Le F (upd F c (LamX.CodeO c q)) := Le.new (le.back nC)
  refine ⟨fle, fun a o e w => ?_, fun a qs e => ?_, fun p hp => ?_, fun a o e => ?_, fun a o e => ?_, fun a o e _ z => ?_⟩
  · have h1 : a ≠ P := fun z => by subst z; rw [hP] at e; cases e; exact w _ rfl
    rw [other h1 (ne_of_none e nC)]; exact e
  · by_cases h1 : a = P
    · subst h1; exact ⟨_, atP⟩
    · exact ⟨qs, by rw [other h1 (ne_of_none e nC)]; exact e⟩
  · obtain ⟨ps', a1, a2, a3, a4⟩ := tab p hp
    have nc : p.1 ≠ c := ne_of_none a1 nC
    have f1 : upd F c (LamX.CodeO c q) p.1 = none := by rw [upd_ne nc]; exact a2
    by_cases h1 : p.1 = P
    · have hq := hu p hp h1
      rw [h1, hP] at a1
      cases a1
      have eL : (ps ++ #[rawInt pos.line, rawInt pos.col, .ref c]).toList = ps.toList ++ [rawInt pos.line, rawInt pos.col, .ref c] := by simp
      refine ⟨_, by rw [h1]; exact atP, f1, by rw [eL]; exact PySem.TriplesOk_snoc _ _ _ _ a3, fun p' cv hc => ?_⟩
      rw [eL] at hc
      rcases LamX.among_app _ a3 hc with z | z
      · obtain ⟨c0, e1, e2⟩ := a4 p' cv z
        exact ⟨c0, e1, fle _ _ e2⟩
      · exact ⟨c, z, by rw [hq]; exact upd_same⟩
    · refine ⟨ps', by rw [other h1 nc]; exact a1, f1, a3, fun p' cv hc => ?_⟩
      obtain ⟨c0, e1, e2⟩ := a4 p' cv hc
      exact ⟨c0, e1, fle _ _ e2⟩
  · by_cases h1 : a = P
    · subst h1; exact ⟨_, atP⟩
    · exact ⟨o, by rw [other h1 (ne_of_none e nC)]; exact e⟩
  · by_cases h1 : a = c
    · subst h1
      rw [upd_same] at e ⊢; exact e
    · rw [upd_ne h1] at e
      have h2 : a ≠ P := fun z => by subst z; rw [fP] at e; cases e
      rw [other h2 h1]; exact le _ _ e
  · rw [upd_ne (ne_of_none e nC)]; exact z
theorem lam_new {c P : Addr} {params : Arguments} {body : Expr} {scope : Scope} {pos : Pos} {E : Value → Shared → Prop} {Q : Value → Shared → Prop} (I : Inv X pins σ H s) (co : Corr X.K cl F ρ σ H) (TB : LamX.TabB X.base X.mg c P) (hcode : X.env.code = .ref c)
    (hm : ∃ p ∈ cl.T, p.1 = P) (hu : ∀ p ∈ cl.T, p.1 = P → p.2 = fun _ _ => lamQ X) (hdef : defaultsOf params X.env = ([], [])) (hfree : ∀ y ∈ scope.names, y.2 = .free → ∃ c, X.env.cells.lookup y.1 = some c)
    (h : ∀ (f c' : Addr) (pm ctv : Value) (F1 H1 : Hp) (s' : Shared), Inv X pins σ H1 s' → GrowT cl.T F H F1 H1 → s'.heap.get? f = some (PySem.W.kla_obj "<lambda>" (lamQ X) params body scope (cloFrom X.env.cells scope.names []) pm c' ctv) → H1 f = none → f ∉ frs X.stack →
      F1 c' = some (LamX.CodeO c' (lamQ X)) → Q (.ref f) s') :
    wpAny (model X.prog X.w) X.A (eval (.Lambda params body scope pos) X.env) Q E s := by
  obtain ⟨p, hp, ep⟩ := hm
  obtain ⟨ps, hP, fP, ht, ha⟩ := co.tab p hp
  rw [ep] at hP fP
  have hq : p.2 = fun _ _ => lamQ X := hu p hp ep
  refine PySem.W.kla_eval hdef ?_
  have bP : s.heap.BuiltinsAt X.mg P := TB.bm.keeps I.bk
  have hP' : s.heap.get? P = some { cls := .none, data := .fields ps } := I.hok P _ hP
  have nofr : ∀ f, s.heap.objs.size ≤ f → f ∉ frs X.stack := fun f hf z => by
    rcases List.mem_cons.mp (I.stkSub _ z) with e | e
    · have h1 := I.lt
      rw [← e] at h1
      exact Nat.lt_irrefl _ (Nat.lt_of_lt_of_le h1 hf)
    · exact I.nofs hf e
  cases hc : codeAmong pos ps.toList with
  | none =>
    refine PySem.W.kla_makeFunction (mg := X.mg) (c := c) (P := P) (ps := ps) (closure_ok hfree) I.ok.glob (I.mod.glob.keeps I.bk) hcode (TB.code.keeps I.bk) hP' ht hc TB.gP bP fun c' ctv h' tk hx hge hlt hrec htb => ?_
    obtain ⟨c2, oc, vs, t, e2, hoc, hd, hv⟩ := hrec
    cases e2
    have hsz : s.heap.objs.size ≤ h'.objs.size := Nat.le_trans hge (Nat.le_of_lt hlt)
    have nC : H c' = none := I.hok.fresh hge
    have I1 := LamX.inv_table (t' := tk) (more := #[rawInt pos.line, rawInt pos.col, .ref c']) (h' := h'.push (PySem.W.kla_obj "<lambda>" (lamQ X) params body scope (cloFrom X.env.cells scope.names []) ((X.mg "__name__").getD .none) c' ctv)) I hP
      (fun b o hb e => Heap.get?_push_of_some _ (hx b o hb e)) (Heap.get?_push_of_some _ htb) hge ⟨oc, vs, t, Heap.get?_push_of_some _ hoc, hd, hv⟩
    refine h h'.objs.size c' ((X.mg "__name__").getD .none) ctv _ _ _ I1 (grow_tab co.le co.tab hP fP nC hu) (Heap.get?_push_size _ rfl) ?_ (nofr _ hsz) upd_same
    have n1 : h'.objs.size ≠ c' := Nat.ne_of_gt hlt
    have n2 : h'.objs.size ≠ P := Nat.ne_of_gt (Nat.lt_of_lt_of_le (Heap.lt_size hP') hsz)
    rw [upd_ne n1, upd_ne n2]
    exact I.hok.fresh hsz
  | some cv =>
    obtain ⟨c', e, hco⟩ := ha pos cv hc
    subst e
    rw [hq] at hco
    refine PySem.W.kla_makeFunctionHit (mg := X.mg) (c := c) (P := P) (ps := ps) (closure_ok hfree) I.ok.glob (I.mod.glob.keeps I.bk) hcode (TB.code.keeps I.bk) hP' ht hc bP fun ctv h' tk hx hsz => ?_
    have I1 : Inv X pins σ H { s with heap := h'.push (PySem.W.kla_obj "<lambda>" (lamQ X) params body scope (cloFrom X.env.cells scope.names []) ((X.mg "__name__").getD .none) c' ctv), toks := tk } := I.kept fun b o e => Heap.get?_push_of_some _ (hx b o e)
    exact h h'.objs.size c' ((X.mg "__name__").getD .none) ctv F H _ I1 ⟨Le.refl _, fun a o e _ => e, fun a qs e => ⟨qs, e⟩, co.tab, fun a o e => ⟨o, e⟩, co.le, fun a o _ _ z => z⟩ (Heap.get?_push_size _ rfl) (I.hok.fresh hsz) (nofr _ hsz) hco
end
end PF

namespace PF
open PySem PySem.Spec L2 PyProof.Rows NdefX
section
variable {P : Program} {w : World} {K : PySem.W.Frag} {mg : Str → Option Value} {base : Heap} {N ps fr : List Str} {L : NF} {f : Addr}
/-- the captured cells, as they stand in the base -/
structure CellsB (cl : List (Str × Addr)) (fr : List Str) (ws : List (Option V)) (base : Heap) : Prop where
  len : ws.length = fr.length
  all : ∀ y c, cl.lookup y = some c → ∃ v, base.IsCell c v
  inj : ∀ x y c, cl.lookup x = some c → cl.lookup y = some c → x = y
  has : ∀ (i : Nat) (y : Str), fr[i]? = some y → ∃ c, cl.lookup y = some c ∧ ∀ v, ws[i]? = some (some v) → ∃ u, L2.RelV v u ∧ base.IsCell c (some u)
theorem CellsB.at {cl : List (Str × Addr)} {ws : List (Option V)} {h : Heap} {H : Hp} (C : CellsB cl fr ws base) (bs : ∀ b o, base.get? b = some o → h.get? b = some o ∧ H b = none) : CellsAt cl fr ws h H where
  len := C.len
  all := fun y c e => by
    obtain ⟨v, o, ho, hd⟩ := C.all y c e
    exact ⟨(bs _ _ ho).2, v, o, (bs _ _ ho).1, hd⟩
  inj := C.inj
  has := fun i y hi => by
    obtain ⟨c, hc, hv⟩ := C.has i y hi
    refine ⟨c, hc, fun v hw => ?_⟩
    obtain ⟨u, ru, o, ho, hd⟩ := hv v hw
    exact ⟨u, ru, o, (bs _ _ ho).1, hd⟩
theorem lamG {k : Nat} {params : Arguments} {body : Expr} {pm ctv : Value} {ws : List (Option V)} {sp : Sp} (ho : base.get? f = some (PySem.W.kla_obj "<lambda>" L.qual params body L.scope L.cl pm L.c ctv)) (S : NScope N ps fr L.scope) (C : CellsB L.cl fr ws base)
    (ar : ∀ vs H Q E, sp vs H Q E → vs.length = ps.length) (cd : ∀ vs H Q E, sp vs H Q E → H L.c = some (LamX.CodeO L.c L.qual))
    (B : ∀ (A : Around) (outer : List Env) (s : Shared) (H : Hp) (vs : List V) (Q : VK) (E : XK), Room k (A.deeper (envF L f s.heap.objs.size)) → A.guards = some [] → sp vs H Q E →
      ∃ t, PE (ncx (L2.CX P w) P w K mg base N L f A outer s H E) body t ∧ t (startF N vs ws) H Q) :
    FnG P w K mg base (k + 1) f (PySem.W.kla_fn "<lambda>" L.qual params body L.scope L.cl pm (.ref L.c) ctv) ps sp where
  arity := ar
  go A outer s H args us vs Q E room gd e0 bt rv hs := by
    have hf := (e0.bs _ _ ho).1
    have nl : s.heap.NoLimit := e0.mod.nolimit.keeps fun b o q => (e0.bs b o q).1
    have cr : s.heap.CodeRec (.ref L.c) L.qual := codeO_at e0.hok (cd _ _ _ _ hs)
    have ca : CellsAt L.cl fr ws s.heap H := C.at e0.bs
    refine PySem.W.kla_callFunE room.depth hf rfl S.co S.gen rfl cr (bt _ _ _ _ ?_)
    refine wpAny_newFunctionEnv S.nocell (fun ⟨n, _⟩ hy => S.par n (List.of_mem_zip hy).1) (fun h₁ hns hsb => ⟨nl.fresh _ hsb, ?_⟩) S.kind
    have kp : ∀ b o, s.heap.get? b = some o → h₁.get? b = some o := fun b o e => hsb.extBut b o (Nat.ne_of_lt (Heap.lt_size e)) (Heap.get?_push_of_some _ e)
    obtain ⟨t, ht, hq⟩ := B A outer s H vs Q E (room.deeper _) gd hs
    have J : Inv (ncx (L2.CX P w) P w K mg base N L f A outer s H E) [] (startF N vs ws) H { s with heap := h₁, toks := s.toks + (ps.zip us).length } := inv_startN S room.hd e0 (ar _ _ _ _ hs) rv ca hns kp
    show codeAny _ _ (.expr body (envF L f s.heap.objs.size)) _ _
    refine PySem.W.kla_codeExpr (wpAny_mono (ht.run [] _ (startF N vs ws) H Q J hq) (fun v s' z => ?_) fun _ _ z => z)
    obtain ⟨x, H', J', r, q⟩ := z
    exact ⟨x, H', J'.os, J'.bare, J'.base, J'.hok, r, q⟩
end
end PF

namespace PF
open PySem PySem.Spec L2 PyProof.Rows NdefX
/-- what is known of the function that was handed in -/
def HeldOk (P : Program) (w : World) (K : PySem.W.Frag) (mg : Str → Option Value) (base : Heap) (cl : Cl) (k n : Nat) (g : FR) : Prop :=
  ∃ (fd : FuncData) (od : Option Addr) (oc : Value) (sl : Array (Option Value)) (ps : List Str), base.get? cl.fn = some ⟨oc, od, .func fd, sl⟩ ∧ FnG P w K mg base k cl.fn fd ps (spC K cl n g) ∧ Binds K fd ps []
section
variable {X : Cx} {cl : Cl} {W : WX} {k i n : Nat} {g : FR} {x : Str} {p pos : Pos} {e : Expr} {es : List Expr} {os : List Opd}
theorem so_callV (h : HeldOk X.prog X.w X.K X.mg X.base cl k n g) (room : Room k X.A) (gd : X.A.guards = some []) (tk : Takes X W) (hN : X.N[i]? = some x) (hv : Vis X.env.scope x) (nd : (x == ("__debug__" : Str)) = false) (ncd : (x == ("__classdict__" : Str)) = false)
    (ha : SAp X cl W (e :: es) os) (st : starEach (e :: es) X.env = (false, eval e X.env) :: starEach es X.env) (pl : (backTo pos (starEach es X.env)).any (·.1) = false) : SO X cl W (.Call (.Name x p) (e :: es) [] pos) (usrV i n g os) := by
  obtain ⟨fd, od, oc, sl, ps, ho, F, bs⟩ := h
  refine ⟨fun pins s σ H Q I q => ?_⟩
  obtain ⟨hs, q⟩ := usrV_ok q
  refine wpAny_Call_Name_kw (thn ((pe_var (pos := p) hN hv nd ncd).run pins s σ H (fun v H1 => v = .ref cl.fn ∧ H1 = H) I ⟨.ref cl.fn, hs, rfl, rfl⟩) fun u s1 ⟨v, H1, I1, r1, q1⟩ => ?_)
  obtain ⟨rfl, rfl⟩ := q1
  cases r1
  have at_ : ∀ {s' : Shared} {H' : Hp} {σ' : L2.St}, Inv X pins σ' H' s' → PySem.W.FnAt cl.fn s'.heap := fun J => ⟨_, _, _, _, (J.bs _ _ ho).1⟩
  exact PySem.W.callWith_F (at_ I1) (thn (ha.run pos pins s1 σ _ _ I1 q) fun us s2 ⟨vs, H2, J, r, q2⟩ => ⟨at_ J, here_fn F room gd bs tk J r q2⟩) st pl
end
end PF

namespace PF
open PySem PySem.Spec L2 PyProof.Rows NdefX
def callB (X : Cx) (s : Shared) (H : Hp) : Heap := PySem.W.hideAll (hidT s.heap H) (frs X.stack)
section
variable {X : Cx} {pins : List (Addr × Obj)} {σ : L2.St} {H : Hp} {s : Shared}
theorem callB_get {b : Addr} {o : Obj} (e : s.heap.get? b = some o) (n : H b = none) (f : b ∉ frs X.stack) : (callB X s H).get? b = some o := PySem.W.hideAll_get _ (hidT_get e n) f
theorem of_callB {b : Addr} {o : Obj} (e : (callB X s H).get? b = some o) : s.heap.get? b = some o ∧ H b = none := of_hidT (PySem.W.of_hideAll _ e)
theorem callB_old (I : Inv X pins σ H s) {b : Addr} {o : Obj} (e : X.base.get? b = some o) : (callB X s H).get? b = some o :=
  callB_get (I.bs b o e).1 (I.bs b o e).2 fun hb => by
    have := (I.stack.mem hb).1
    rw [e] at this; cases this
theorem callB_env (I : Inv X pins σ H s) : Env0 X.prog X.w X.K X.mg (callB X s H) X.A X.stack s H where
  frames := I.ok.frames
  mod := by
    have k : ∀ b o, X.base.get? b = some o → (callB X s H).get? b = some o := fun b o e => callB_old I e
    obtain ⟨mb, h1, h2⟩ := I.mod.blt
    exact ⟨fun b o e => k b o (I.mod.kin b o e), I.mod.glob.keeps k, ⟨mb, h1.keeps k, h2⟩, I.mod.nolimit.keeps k⟩
  bs := fun b o e => of_callB e
  bsz := by
    unfold callB
    rw [PySem.W.hideAll_size, hidT_size]; exact Nat.le_refl _
  funs := funFrames_none I.stack fun L hL => PySem.W.hideAll_none _ hL
  frf := I.stkFree
  hok := I.hok
  bare := I.bare
/-- the captured cells in it -/
theorem callB_cells {scope : Scope} {fr : List Str} {js : List Nat} (I : Inv X pins σ H s) (c : Caps X (cloFrom X.env.cells scope.names []) fr js) (ncell : ∀ y a, X.env.cells.lookup y = some a → a ∉ frs X.stack) : CellsB (cloFrom X.env.cells scope.names []) fr (js.map (slotAt σ)) (callB X s H) := by
  have z := cells_of I c
  refine ⟨z.len, fun y a e => ?_, z.inj, fun i y hi => ?_⟩
  · obtain ⟨n, v, o, ho, hd⟩ := z.all y a e
    exact ⟨v, o, callB_get ho n (ncell y a (c.sub y a e)), hd⟩
  · obtain ⟨a, ha, hv⟩ := z.has i y hi
    refine ⟨a, ha, fun v hw => ?_⟩
    obtain ⟨u, ru, o, ho, hd⟩ := hv v hw
    exact ⟨u, ru, o, callB_get ho (z.all y a ha).1 (ncell y a (c.sub y a ha)), hd⟩
theorem cell_nofr (I : Inv X pins σ H s) (hfn : ∀ y, X.fn y = true) {y : Str} {a : Addr} (e : X.env.cells.lookup y = some a) : a ∉ frs X.stack := fun hb => by
  have out : ∀ b, b ∈ frs X.outer → b < X.s_0.heap.objs.size := fun b h => by
    obtain ⟨_, o, ho, _⟩ := I.ok.funs.mem h
    exact Heap.lt_size ho
  have up := I.ok.cab y a (hfn y) e
  rcases I.ok.stk with z | ⟨z, hf⟩
  · rw [z] at hb
    exact Nat.lt_irrefl _ (Nat.lt_of_lt_of_le (out a hb) up)
  · rw [z] at hb
    have hb : a ∈ (X.env :: X.outer).filterMap (·.frame) := hb
    rw [List.filterMap_cons, hf] at hb
    rcases List.mem_cons.mp hb with q | q
    · obtain ⟨m, ⟨o, es, ep, ho, hd, _⟩, _⟩ := I.loc
      obtain ⟨v, o2, ho2, hd2⟩ := I.cell y a e
      rw [q, ho] at ho2; cases ho2
      rw [hd] at hd2; cases hd2
    · exact Nat.lt_irrefl _ (Nat.lt_of_lt_of_le (out a q) up)
end
end PF

namespace PF
open PySem PySem.Spec L2 PyProof.Rows NdefX
def allFr (as : En) : Bool := as.all fun x => match x with | .fr _ => true | _ => false
/-- cs: what the captured names held -/
def lamD (m : Nat) (den : En → R (D × Bool)) (cs : List D) : FR := fun as => if allFr as = true then
    (match den (as ++ (cs.map Sl.fr ++ List.replicate (m - as.length - cs.length) .un)) with
    | .ok d ρ => .ok d (keepL as ρ)
    | .ex x ρ => .ex x (keepL as ρ)
    | .bad => .bad) else .bad
section
variable {K : PySem.W.Frag} {cl : Cl} {N : List Str} {vs : List V} {ws : List (Option V)} {cs : List D} {H : Hp}
theorem lam_body {n : Nat} {den : En → R (D × Bool)} {Q : VK} {E : XK} (hn : n + cs.length ≤ N.length) (hw : ws.length = cs.length) (hc : ∀ (i : Nat) (d : D), cs[i]? = some d → ∃ v, ws[i]? = some (some v) ∧ Den K cl cl.F0 v d)
    (h : spC K cl n (lamD N.length den cs) vs H Q E) : tO K cl (fun c d _ H => E c d H) den (startF N vs ws) H Q := by
  obtain ⟨F, l0, as, c, ar, ln, p⟩ := h
  have hf : allFr as = true := by
    by_cases z : allFr as = true
    · exact z
    · have e : lamD N.length den cs as = .bad := by unfold lamD; rw [if_neg z]
      rw [e] at p; exact p.elim
  have eL : lamD N.length den cs as = (match den (as ++ (cs.map Sl.fr ++ List.replicate (N.length - as.length - cs.length) .un)) with
    | .ok d ρ => .ok d (keepL as ρ)
    | .ex x ρ => .ex x (keepL as ρ)
    | .bad => .bad) := by unfold lamD; rw [if_pos hf]
  rw [eL] at p
  have hlen : as.length = vs.length := by have := c.len; simpa using this
  have fr : ∀ (i : Nat) (x : Sl), (as ++ (cs.map Sl.fr ++ List.replicate (N.length - as.length - cs.length) Sl.un))[i]? = some x → x = .un ∨ ∃ d v, x = .fr d ∧ (startF N vs ws)[i]? = some (some v) ∧ Den K cl F v d := by
    intro i x hx
    unfold startF
    by_cases h1 : i < as.length
    · rw [List.getElem?_append_left h1] at hx
      have hm := List.all_eq_true.mp hf x (List.mem_of_getElem? hx)
      cases x with
      | fr d =>
        obtain ⟨o, ho⟩ : ∃ o, (vs.map some)[i]? = some o := ⟨_, List.getElem?_eq_getElem (by simp; omega)⟩
        obtain ⟨v, e, hv⟩ := c.slot i _ o hx ho
        subst e
        exact .inr ⟨d, v, rfl, by rw [List.getElem?_append_left (by simp; omega)]; exact ho, hv⟩
      | _ => cases hm
    · rw [List.getElem?_append_right (by omega)] at hx
      by_cases h2 : i - as.length < cs.length
      · rw [List.getElem?_append_left (by simpa using h2), List.getElem?_map] at hx
        cases hd : cs[i - as.length]? with
        | none => rw [hd] at hx; cases hx
        | some d =>
          rw [hd] at hx; cases hx
          obtain ⟨v, e, hv⟩ := hc _ _ hd
          refine .inr ⟨d, v, rfl, ?_, hv.le l0⟩
          rw [List.getElem?_append_right (by simp; omega), List.length_map, List.getElem?_append_left (by omega), ← hlen]
          exact e
      · rw [List.getElem?_append_right (by simpa using h2)] at hx
        exact .inl (List.eq_of_mem_replicate (List.mem_of_getElem? hx))
  have no : ∀ a, ¬ Owned (startF N vs ws) (as ++ (cs.map Sl.fr ++ List.replicate (N.length - as.length - cs.length) Sl.un)) a := fun a ⟨i, x, d, h1, h2, _⟩ => by
    rcases fr i x h1 with rfl | ⟨d', v, rfl, _⟩ <;> cases h2
  have co : Corr K cl F (as ++ (cs.map Sl.fr ++ List.replicate (N.length - as.length - cs.length) .un)) (startF N vs ws) H := by
    refine ⟨by unfold startF; simp; omega, c.le, fun i x o h1 h2 => ?_, fun i j x y d e a h1 h2 h3 h4 _ _ => ?_, c.tab⟩
    · rcases fr i x h1 with rfl | ⟨d, v, rfl, e, hv⟩
      · trivial
      · rw [e] at h2; cases h2; exact ⟨v, rfl, hv⟩
    · rcases fr i x h1 with rfl | ⟨d', v, rfl, _⟩ <;> cases h3
  have ce : ∀ {F' H' : Hp} {ρ' : En}, Step F (as ++ (cs.map Sl.fr ++ List.replicate (N.length - as.length - cs.length) .un)) (startF N vs ws) H F' ρ' (startF N vs ws) H' → Corr K cl F' ρ' (startF N vs ws) H' → CEnd K cl F as vs H F' (keepL as ρ') H' := fun {F' H' ρ'} st c' =>
    { le := st.le
      in' := c'.le
      keep := fun a o e w _ => st.keep a o e w (no a)
      tbl := st.tbl
      tab := c'.tab
      thaw := fun a o e w _ z => st.thaw a o e w (no a) z
      live := st.live
      lent := fun i d e => by
        have hm := List.all_eq_true.mp hf _ (List.mem_of_getElem? e)
        cases hm }
  refine ⟨F, _, co, ?_⟩
  cases hd : den (as ++ (cs.map Sl.fr ++ List.replicate (N.length - as.length - cs.length) Sl.un)) with
  | bad => rw [hd] at p; exact p
  | ex x ρ' => rw [hd] at p; exact fun F' H' cc dd st c' er => p F' H' cc dd (ce st c') er
  | ok d ρ' =>
    rw [hd] at p
    intro F' H' st c' v ht
    refine p F' H' v (ce st c') ?_
    unfold Tmp at ht
    split at ht
    · rename_i ho
      rw [if_pos ho]
      obtain ⟨a, e, n1, ow, _, fz⟩ := ht
      exact ⟨a, e, fz.elim id fun z => absurd z (no a), n1, ow⟩
    · rename_i ho
      rw [if_neg ho]; exact ht
end
end PF

namespace PF
open PySem PySem.Spec L2 PyProof.Rows NdefX
mutual
def noFn : D → Bool
  | .fnv => false
  | .tup xs => noFnL xs
  | .lst xs => noFnL xs
  | .rdl xs => noFnL xs
  | .ins _ fs => noFnF fs
  | _ => true
def noFnL : List D → Bool
  | [] => true
  | x :: xs => noFn x && noFnL xs
def noFnF : List (Str × D) → Bool
  | [] => true
  | (_, x) :: xs => noFn x && noFnF xs
end
section
variable {K : PySem.W.Frag} {cl cl' : Cl} {F : Hp}
mutual
theorem Den.other (e : cl'.ad = cl.ad) : ∀ {v : V} {d : D}, noFn d = true → Den K cl F v d → Den K cl' F v d
  | _, _, _, .non => .non
  | _, _, _, .bl b => .bl b
  | _, _, _, .int i => .int i
  | _, _, _, .str x => .str x
  | _, _, _, .opq h => .opq h
  | _, _, p, .fnv _ => by simp [noFn] at p
  | _, _, p, .lst h t => .lst h (DenL.other e (by simpa [noFn] using p) t)
  | _, _, p, .rdl h t => .rdl h (DenL.other e (by simpa [noFn] using p) t)
  | _, _, p, .tup h t => .tup h (DenL.other e (by simpa [noFn] using p) t)
  | _, _, p, .ins h h2 t => .ins (by show F _ = some (.ins (cl'.ad _) _ _); rw [e]; exact h) h2 (DenF.other e (by simpa [noFn] using p) t)
theorem DenL.other (e : cl'.ad = cl.ad) : ∀ {vs : List V} {ds : List D}, noFnL ds = true → DenL K cl F vs ds → DenL K cl' F vs ds
  | _, _, _, .nil => .nil
  | _, _, p, .cons h t => by
    simp only [noFnL, Bool.and_eq_true] at p
    exact .cons (Den.other e p.1 h) (DenL.other e p.2 t)
theorem DenF.other (e : cl'.ad = cl.ad) : ∀ {vs : List (Str × V)} {ds : List (Str × D)}, noFnF ds = true → DenF K cl F vs ds → DenF K cl' F vs ds
  | _, _, _, .nil => .nil
  | _, _, p, .cons h t => by
    simp only [noFnF, Bool.and_eq_true] at p
    exact .cons (Den.other e p.1 h) (DenF.other e p.2 t)
end
theorem Own.other {H : Hp} {a : Addr} {d : D} (e : cl'.ad = cl.ad) (p : noFn d = true) (h : Own K cl F H a d) : Own K cl' F H a d := by
  cases h with
  | lst h t => exact .lst h (t.other e (by simpa [noFn] using p))
  | ins h h2 t => exact .ins (by show H _ = some (.ins (cl'.ad _) _ _); rw [e]; exact h) h2 (t.other e (by simpa [noFn] using p))
end
end PF

namespace PF
open PySem PySem.Spec L2 PyProof.Rows NdefX
def capsOf (ρ : En) : List Nat → Option (List D)
  | [] => some []
  | j :: js => match ρ[j]? with
    | some (.fr d) => if noFn d = true then (capsOf ρ js).map (d :: ·) else none
    | some (.lf d) => if noFn d = true then (capsOf ρ js).map (d :: ·) else none
    | _ => none
/-- hf: the def of what is handed in; lg: the lambda of what its captured names hold -/
def usrH (hf : FR → FR) (lg : List D → FR) (js : List Nat) (a : En → R (D × Bool)) : En → R (D × Bool) := fun ρ => (fz a ρ).bind fun d ρ1 =>
  if noFn d = true then (match capsOf ρ1 js with
    | some cs => match hf (lg cs) [.fr d, .fr .fnv] with
      | .ok r _ => if noFn r.1 = true then .ok r ρ1 else .bad
      | .ex x _ => if noFnF x.fs = true then .ex x ρ1 else .bad
      | .bad => .bad
    | none => .bad) else .bad
section
variable {K : PySem.W.Frag} {cl : Cl} {F H : Hp} {ρ : En} {σ : L2.St}
theorem caps_get (c : Corr K cl F ρ σ H) : ∀ {js : List Nat} {cs : List D}, capsOf ρ js = some cs → cs.length = js.length ∧ ∀ (i : Nat) (d : D), cs[i]? = some d → noFn d = true ∧ ∃ j v, js[i]? = some j ∧ σ[j]? = some (some v) ∧ Den K cl F v d
  | [], cs, h => by cases h; exact ⟨rfl, fun i d h => by simp at h⟩
  | j :: js, cs, h => by
    have key : ∀ d, noFn d = true → (∃ v, σ[j]? = some (some v) ∧ Den K cl F v d) → (capsOf ρ js).map (d :: ·) = some cs → cs.length = (j :: js).length ∧ ∀ (i : Nat) (d : D), cs[i]? = some d → noFn d = true ∧ ∃ j' v, (j :: js)[i]? = some j' ∧ σ[j']? = some (some v) ∧ Den K cl F v d := fun d nd ⟨v, e, hv⟩ hm => by
      cases hr : capsOf ρ js with
      | none => rw [hr] at hm; cases hm
      | some r =>
        rw [hr] at hm; cases hm
        obtain ⟨l, g⟩ := caps_get c hr
        refine ⟨by simp [l], fun i d' hi => ?_⟩
        cases i with
        | zero => simp at hi; subst hi; exact ⟨nd, j, v, rfl, e, hv⟩
        | succ i => simpa using g i d' (by simpa using hi)
    have at_ : ∀ x, ρ[j]? = some x → ∃ o, σ[j]? = some o := fun x hx => ⟨_, List.getElem?_eq_getElem (by rw [← c.len]; exact (List.getElem?_eq_some_iff.mp hx).1)⟩
    unfold capsOf at h
    split at h
    · rename_i d hx
      split at h
      · rename_i nd
        obtain ⟨o, ho⟩ := at_ _ hx
        obtain ⟨v, e, hv⟩ := c.slot j _ o hx ho
        subst e
        exact key d nd ⟨v, ho, hv⟩ h
      · cases h
    · rename_i d hx
      split at h
      · rename_i nd
        obtain ⟨o, ho⟩ := at_ _ hx
        obtain ⟨a, e, _, hv⟩ := c.slot j _ o hx ho
        subst e
        exact key d nd ⟨_, ho, hv⟩ h
      · cases h
    · cases h
end
end PF

namespace PF
open PySem PySem.Spec L2 PyProof.Rows NdefX
theorem cellsFrom_app : ∀ (names : List (Str × NameKind)) (n : Nat) (acc rest : List (Str × Addr)), cellsFrom n names (acc ++ rest) = cellsFrom n names acc ++ rest
  | [], _, _, _ => rfl
  | (x, k) :: r, n, acc, rest => by
    unfold cellsFrom
    by_cases h : (k == .cell) = true
    · rw [if_pos h, if_pos h, ← List.cons_append]; exact cellsFrom_app r _ _ _
    · rw [if_neg h, if_neg h]; exact cellsFrom_app r _ _ _
theorem cellsFrom_kind : ∀ (names : List (Str × NameKind)) (n : Nat) (acc : List (Str × Addr)) (x : Str) (c : Addr), (x, c) ∈ cellsFrom n names acc → (x, c) ∈ acc ∨ (x, NameKind.cell) ∈ names
  | [], _, _, _, _, h => .inl h
  | (y, k) :: r, n, acc, x, c, h => by
    unfold cellsFrom at h
    by_cases hk : (k == .cell) = true
    · rw [if_pos hk] at h
      rcases cellsFrom_kind r _ _ x c h with z | z
      · rcases List.mem_cons.mp z with e | z
        · cases e; rw [beq_iff_eq.mp hk]; exact .inr List.mem_cons_self
        · exact .inl z
      · exact .inr (List.mem_cons_of_mem _ z)
    · rw [if_neg hk] at h
      rcases cellsFrom_kind r _ _ x c h with z | z
      · exact .inl z
      · exact .inr (List.mem_cons_of_mem _ z)
section
variable {M : Model} {A : Around} {E : Value → Shared → Prop} {s₀ s : Shared} {m cm : Str → Option Value} {env : Env} {own : List (Str × Addr)}
theorem putLocal {n : Str} {v : Value} {Q : Unit → Shared → Prop} (x : InCallC s₀ env.locals m own cm s) (hk : env.scope.kind = .function) (hl : env.kindOf n = some .local)
    (q : ∀ s', InCallC s₀ env.locals (fun y => if y = n then some v else m y) own cm s' → Q () s') : wpAny M A (storeName env n v) Q E s := by
  refine wpAny_storeName_local hl x.toInCall.ns (fun h' n' b' => q _ ?_) (by rw [hk]; rfl)
  obtain ⟨h₁, tk, rfl⟩ := x.toInCall.same
  exact { toInCall := ⟨⟨h', _, rfl⟩, n', fun b o e => b'.extBut b o (Nat.ne_of_lt (Nat.lt_of_lt_of_le (Heap.lt_size e) x.toInCall.fresh)) (x.toInCall.keep b o e), x.toInCall.fresh⟩, cell := fun k c hc => (x.cell k c hc).sameBut b' (Nat.ne_of_gt (x.above k c (PySem.mem_of_lookup hc))), apart := x.apart, above := x.above }
theorem putCell {n : Str} {c : Addr} {v : Value} {Q : Unit → Shared → Prop} (x : InCallC s₀ env.locals m own cm s) (hk : env.scope.kind = .function) (hl : env.kindOf n = some .cell) (ho : own.lookup n = some c) (hc : env.cells.lookup n = some c)
    (q : ∀ s', InCallC s₀ env.locals m own (fun y => if y = n then some v else cm y) s' → Q () s') : wpAny M A (storeName env n v) Q E s := by
  have up := x.above n c (PySem.mem_of_lookup ho)
  refine wpAny_storeName_cell hk hl hc (x.cell n c ho) fun h' c' b' => q _ ?_
  obtain ⟨h₁, tk, rfl⟩ := x.toInCall.same
  refine { toInCall := ⟨⟨h', _, rfl⟩, x.toInCall.ns.sameBut b' (Nat.ne_of_lt up), fun b o e => b'.extBut b o (Nat.ne_of_lt (Nat.lt_trans (Nat.lt_of_lt_of_le (Heap.lt_size e) x.toInCall.fresh) up)) (x.toInCall.keep b o e), x.toInCall.fresh⟩, cell := fun k a ha => ?_, apart := x.apart, above := x.above }
  by_cases e : k = n
  · subst e
    rw [ho] at ha; cases ha
    simpa using c'
  · rw [if_neg e]
    exact (x.cell k a ha).sameBut b' fun z => e (name_of_addr x.apart (PySem.mem_of_lookup ha) (z ▸ PySem.mem_of_lookup ho))
theorem putBinds (f : Str × Value → PUnit → Sem (ForInStep PUnit)) (hf : ∀ n v u, f (n, v) u = (do storeName env n v; pure (.yield ⟨⟩))) (hk : env.scope.kind = .function) (sub : ∀ n c, own.lookup n = some c → env.cells.lookup n = some c) :
    ∀ (bs : List (Str × Value)) (m cm : Str → Option Value) (s : Shared) (Q : PUnit → Shared → Prop), InCallC s₀ env.locals m own cm s → (∀ x ∈ bs, env.kindOf x.1 = some .local ∨ (env.kindOf x.1 = some .cell ∧ (own.lookup x.1).isSome = true)) →
      (∀ s', InCallC s₀ env.locals (bindL env.kindOf bs m) own (bindC env.kindOf bs cm) s' → Q ⟨⟩ s') → wpAny M A (forIn bs ⟨⟩ f) Q E s
  | [], m, cm, s, Q, x, _, q => by rw [List.forIn_nil]; exact wpAny_pure (q s x)
  | (n, v) :: r, m, cm, s, Q, x, hb, q => by
    rw [List.forIn_cons, hf]
    have hr := fun y hy => hb y (List.mem_cons_of_mem _ hy)
    rcases hb (n, v) List.mem_cons_self with hl | ⟨hl, hc⟩
    · refine wpAny_bind (wpAny_bind (putLocal x hk hl fun s1 x1 => wpAny_pure (putBinds f hf hk sub r _ _ s1 Q x1 hr fun s2 x2 => q s2 ?_)))
      unfold bindL bindC; rw [if_pos hl, if_pos hl]; exact x2
    · obtain ⟨c, hc⟩ := Option.isSome_iff_exists.mp hc
      have nl : ¬ env.kindOf n = some .local := by rw [hl]; decide
      refine wpAny_bind (wpAny_bind (putCell x hk hl hc (sub _ _ hc) fun s1 x1 => wpAny_pure (putBinds f hf hk sub r _ _ s1 Q x1 hr fun s2 x2 => q s2 ?_)))
      unfold bindL bindC; rw [if_neg nl, if_neg nl]; exact x2
theorem look_app {a b : List (Str × Addr)} {n : Str} {c : Addr} (h : a.lookup n = some c) : (a ++ b).lookup n = some c := by rw [List.lookup_append, h]; rfl
theorem newEnvF {scope : Scope} {globals : Addr} {clo : List (Str × Addr)} {bs : List (Str × Value)} {qual : Str} {func : Option Addr} {code : Value} {builtins : Addr} {Q : Env → Shared → Prop} (hk : scope.kind = .function)
    (hb : ∀ x ∈ bs, scope.names.lookup x.1 = some .local ∨ (scope.names.lookup x.1 = some .cell ∧ ((cellsFrom (s.heap.objs.size + 1) scope.names []).lookup x.1).isSome = true))
    (q : ∀ env, env = newEnv scope s.heap.objs.size globals (cellsFrom (s.heap.objs.size + 1) scope.names [] ++ clo) qual func code none builtins →
      ∀ s', InCallC s s.heap.objs.size (bindL env.kindOf bs fun _ => none) (cellsFrom (s.heap.objs.size + 1) scope.names []) (bindC env.kindOf bs fun _ => none) s' → Q env s') :
    wpAny M A (newFunctionEnv scope globals clo bs qual func code none builtins) Q E s := by
  simp only [newFunctionEnv, Option.isSome_none, Bool.false_eq_true, if_false]
  refine wpAny_bind (wpAny_alloc (wpAny_bind (wpAny_layCells _ (fun name kind cells => by cases e : kind == NameKind.cell <;> simp [e]) _ _ _ _ ?_)))
  have ok := cellsFrom_ok scope.names (s.heap.push { cls := .type "frame", data := .dict #[] }) (s.heap.objs.size + 1) [] ⟨fun _ _ z => (nomatch z), List.Pairwise.nil⟩ (by rw [Heap.size_push]; exact Nat.le_refl _)
  rw [Heap.size_push] at ok
  have e1 : ({ s with heap := s.heap.push { cls := .type "frame", data := .dict #[] } } : Shared).heap.objs.size = s.heap.objs.size + 1 := Heap.size_push ..
  rw [e1, show clo = [] ++ clo from rfl, cellsFrom_app]
  refine wpAny_bind (putBinds (s₀ := s) (own := cellsFrom (s.heap.objs.size + 1) scope.names []) (env := newEnv scope s.heap.objs.size globals (cellsFrom (s.heap.objs.size + 1) scope.names [] ++ clo) qual func code none builtins)
    _ (fun _ _ _ => rfl) hk (fun n c h => look_app h) bs (fun _ => none) (fun _ => none) _ _
    { toInCall := ⟨⟨_, _, rfl⟩, (Heap.Ns.new s.heap (.type "frame")).keeps (pushCells_keeps _ _), fun b o e => pushCells_keeps _ _ b o (Heap.get?_push_of_some _ e), Nat.le_refl _⟩, cell := fun n c h => (ok.empty n c (PySem.mem_of_lookup h)).1, apart := ok.apart, above := fun n c h => (ok.empty n c h).2 }
    hb fun s' x => wpAny_pure (q _ rfl s' x))
end

structure NScopeC (N ps fr : List Str) (sc : Scope) : Prop where
  kind : sc.kind = .function
  co : sc.isCoroutine = false
  gen : sc.isGenerator = false
  nd : N.Nodup
  pre : N.take (ps.length + fr.length) = ps ++ fr
  par : ∀ x ∈ ps, sc.names.lookup x = some .local ∨ sc.names.lookup x = some .cell
  free : ∀ y ∈ sc.names, y.2 = .free → y.1 ∈ fr
  frk : ∀ x ∈ fr, sc.names.lookup x = some .free
  sep : ∀ y ∈ sc.names, y.2 = .cell → y.1 ∉ fr
def nscCB (N ps fr : List Str) (sc : Scope) : Bool :=
  decide (sc.kind = .function) && (!sc.isCoroutine && (!sc.isGenerator && (decide N.Nodup && (decide (N.take (ps.length + fr.length) = ps ++ fr) && (ps.all (fun x => decide (sc.names.lookup x = some .local) || decide (sc.names.lookup x = some .cell)) &&
    (sc.names.all (fun y => !decide (y.2 = .free) || decide (y.1 ∈ fr)) && (fr.all (fun x => decide (sc.names.lookup x = some .free)) && sc.names.all (fun y => !decide (y.2 = .cell) || decide (y.1 ∉ fr)))))))))
theorem nscopeC_by {N ps fr : List Str} {sc : Scope} (h : nscCB N ps fr sc = true) : NScopeC N ps fr sc := by
  unfold nscCB at h
  simp only [Bool.and_eq_true, Bool.not_eq_true', decide_eq_true_eq, List.all_eq_true, Bool.or_eq_true, decide_eq_false_iff_not] at h
  obtain ⟨a1, a2, a3, a4, a5, a6, a7, a8, a9⟩ := h
  exact ⟨a1, a2, a3, a4, a5, a6, fun y hy e => (a7 y hy).elim (fun z => absurd e z) id, a8, fun y hy e => (a9 y hy).elim (fun z => absurd e z) id⟩
/-- with its own cells, entered where the heap has n objects -/
def _root_.NdefX.NF.at (L : NF) (n : Nat) : NF := { L with cl := cellsFrom (n + 1) L.scope.names [] ++ L.cl }
section
variable {CX : CXT} {P : Program} {w : World} {K : PySem.W.Frag} {mg : Str → Option Value} {base : Heap} {N ps fr : List Str} {L : NF} {f : Addr} {A : Around} {outer : List Env} {s s1 : Shared} {H : Hp} {E : XK} {us : List Value} {vs : List V} {ws : List (Option V)}
theorem inv_startC (S : NScopeC N ps fr L.scope) (hd : A.handled = none) (e0 : Env0 P w K mg base A outer s H) (hl : vs.length = ps.length) (r : Vals vs us) (C : CellsAt L.cl fr ws s.heap H)
    (x : InCallC s s.heap.objs.size (bindL (envF (L.at s.heap.objs.size) f s.heap.objs.size).kindOf (ps.zip us) fun _ => none) (cellsFrom (s.heap.objs.size + 1) L.scope.names []) (bindC (envF (L.at s.heap.objs.size) f s.heap.objs.size).kindOf (ps.zip us) fun _ => none) s1) :
    Inv (ncx CX P w K mg base N (L.at s.heap.objs.size) f A outer s H E) [] (startF N vs ws) H s1 := by
  have hpl : ps.length + fr.length ≤ N.length := by
    have q := congrArg List.length S.pre
    rw [List.length_take, List.length_append] at q; omega
  obtain ⟨h1, tk, rfl, hk⟩ := x.done
  have noA : ∀ b : Addr, b ∉ (ncx CX P w K mg base N (L.at s.heap.objs.size) f A outer s H E).ex := fun b z => absurd (show b ∈ ([] : List Addr) from z) (by simp)
  have lk : ∀ y c, (cellsFrom (s.heap.objs.size + 1) L.scope.names [] ++ L.cl).lookup y = some c → (cellsFrom (s.heap.objs.size + 1) L.scope.names []).lookup y = some c ∨ L.cl.lookup y = some c := fun y c e => by
    rw [List.lookup_append] at e
    cases q : (cellsFrom (s.heap.objs.size + 1) L.scope.names []).lookup y with
    | some d => rw [q] at e; exact .inl e
    | none => rw [q] at e; exact .inr e
  have up : ∀ y c, (cellsFrom (s.heap.objs.size + 1) L.scope.names []).lookup y = some c → s.heap.objs.size < c := fun y c e => x.above y c (PySem.mem_of_lookup e)
  have dn : ∀ y c, L.cl.lookup y = some c → c < s.heap.objs.size := fun y c e => by
    obtain ⟨_, v, o, ho, _⟩ := C.all y c e
    exact Heap.lt_size ho
  have ownN : ∀ y ∈ fr, (cellsFrom (s.heap.objs.size + 1) L.scope.names []).lookup y = none := fun y hy => by
    cases q : (cellsFrom (s.heap.objs.size + 1) L.scope.names []).lookup y with
    | none => rfl
    | some c =>
      rcases cellsFrom_kind _ _ _ _ _ (PySem.mem_of_lookup q) with z | z
      · cases z
      · exact absurd hy (S.sep _ z rfl)
  have cloK : ∀ y ∈ fr, ∀ c, L.cl.lookup y = some c → (cellsFrom (s.heap.objs.size + 1) L.scope.names [] ++ L.cl).lookup y = some c := fun y hy c e => by rw [List.lookup_append, ownN y hy]; exact e
  have cellK : ∀ {c : Addr} {v : Option Value}, s.heap.IsCell c v → h1.IsCell c v := fun {c v} ⟨o, ho, z⟩ => ⟨o, hk _ _ ho, z⟩
  refine ⟨⟨e0.mod, S.kind, rfl, rfl, Nat.le_refl _, fun y z c g1 g2 => ?_, fun y hy => ?_, fun y c z _ => ?_, fun _ => hd, Around.frames_deeper e0.frames, .inr ⟨rfl, rfl⟩, fun b z => absurd z (noA b), e0.bs, e0.bsz, fun b _ _ => noA b, fun b z => absurd z (noA b), e0.funs, e0.frf⟩,
    rfl, e0.bare, Un.kept hk, ⟨_, x.toInCall.ns, fun i y v g1 g2 g3 => ?_⟩, fun y c g => ?_, e0.hok.fresh (Nat.le_refl _), fun y c g => ?_, fun p hp => absurd (show p ∈ ([] : List (Addr × Obj)) from hp) (by simp), e0.hok.kept hk, ?_⟩
  · rcases lk _ _ g1 with a | a <;> rcases lk _ _ g2 with b | b
    · exact name_of_addr x.apart (PySem.mem_of_lookup a) (PySem.mem_of_lookup b)
    · exact absurd (up _ _ a) (Nat.lt_asymm (dn _ _ b))
    · exact absurd (up _ _ b) (Nat.lt_asymm (dn _ _ a))
    · exact C.inj _ _ _ a b
  · have hy : L.scope.names.lookup y = some .cell ∨ L.scope.names.lookup y = some .free := hy
    rcases hy with hy | hy
    · obtain ⟨c, e⟩ := cell_has (n := s.heap.objs.size + 1) hy
      exact ⟨c, look_app e⟩
    · have hm := S.free _ (PySem.mem_of_lookup hy) rfl
      obtain ⟨i, hi⟩ := List.mem_iff_getElem?.mp hm
      obtain ⟨c, hc, _⟩ := C.has i y hi
      exact ⟨c, cloK y hm c hc⟩
  · have z : false = true := z
    cases z
  · have g1 : N[i]? = some y := g1
    have clen := C.len
    have hpre : i < ps.length + fr.length → (ps ++ fr)[i]? = some y := fun h => by rw [← S.pre, List.getElem?_take_of_lt h]; exact g1
    unfold startF at g2
    by_cases q1 : i < ps.length
    · have hq := hpre (by omega)
      rw [List.getElem?_append_left q1] at hq
      rw [List.getElem?_append_left (by rw [List.length_map]; omega), List.getElem?_map] at g2
      have ha : vs[i]? = some v := by
        cases e : vs[i]? with
        | none => rw [e] at g2; cases g2
        | some a => rw [e] at g2; cases g2; rfl
      obtain ⟨u, hu, rv⟩ := r.get ha
      have ndP : ps.Nodup := by
        have q := S.nd.sublist (List.take_sublist (ps.length + fr.length) N)
        rw [S.pre] at q; exact (List.nodup_append.mp q).1
      refine ⟨u, rv, ?_⟩
      rcases S.par y (List.mem_of_getElem? hq) with k | k
      · exact .inl ⟨k, bindL_get ndP hq hu k⟩
      · obtain ⟨c, e⟩ := cell_has (n := s.heap.objs.size + 1) k
        refine .inr ⟨.inl k, c, look_app e, ?_⟩
        have q := x.cell y c e
        rw [bindC_get ndP hq hu (by show L.scope.names.lookup y ≠ _; rw [k]; decide)] at q
        exact q
    · rw [List.getElem?_append_right (by rw [List.length_map]; omega), List.length_map] at g2
      by_cases q2 : i < ps.length + fr.length
      · have hq := hpre q2
        rw [List.getElem?_append_right (by omega)] at hq
        rw [List.getElem?_append_left (by omega), hl] at g2
        obtain ⟨c, hc, hv⟩ := C.has (i - ps.length) y hq
        obtain ⟨u, ru, hu⟩ := hv v g2
        have hm := List.mem_of_getElem? hq
        exact ⟨u, ru, .inr ⟨.inr (S.frk y hm), c, cloK y hm c hc, cellK hu⟩⟩
      · rw [List.getElem?_append_right (by omega), List.getElem?_replicate] at g2
        split at g2 <;> cases g2
  · rcases lk _ _ g with a | a
    · exact ⟨_, x.cell y c a⟩
    · obtain ⟨v, z⟩ := (C.all y c a).2
      exact ⟨v, cellK z⟩
  · rcases lk _ _ g with a | a
    · exact e0.hok.fresh (Nat.le_of_lt (up _ _ a))
    · exact (C.all y c a).1
  · have clen := C.len
    unfold startF
    show _ = N.length
    rw [List.length_append, List.length_append, List.length_map, List.length_replicate]; omega
theorem lamGC {k : Nat} {params : Arguments} {body : Expr} {pm ctv : Value} {sp : Sp} (ho : base.get? f = some (PySem.W.kla_obj "<lambda>" L.qual params body L.scope L.cl pm L.c ctv)) (S : NScopeC N ps fr L.scope) (C : CellsB L.cl fr ws base)
    (ar : ∀ vs H Q E, sp vs H Q E → vs.length = ps.length) (cd : ∀ vs H Q E, sp vs H Q E → H L.c = some (LamX.CodeO L.c L.qual))
    (B : ∀ (A : Around) (outer : List Env) (s : Shared) (H : Hp) (vs : List V) (Q : VK) (E : XK), Room k (A.deeper (envF (L.at s.heap.objs.size) f s.heap.objs.size)) → A.guards = some [] → sp vs H Q E →
      ∃ t, PE (ncx (L2.CX P w) P w K mg base N (L.at s.heap.objs.size) f A outer s H E) body t ∧ t (startF N vs ws) H Q) :
    FnG P w K mg base (k + 1) f (PySem.W.kla_fn "<lambda>" L.qual params body L.scope L.cl pm (.ref L.c) ctv) ps sp where
  arity := ar
  go A outer s H args us vs Q E room gd e0 bt rv hs := by
    have nl : s.heap.NoLimit := e0.mod.nolimit.keeps fun b o q => (e0.bs b o q).1
    refine PySem.W.kla_callFunE room.depth (e0.bs _ _ ho).1 rfl S.co S.gen rfl (codeO_at e0.hok (cd _ _ _ _ hs)) (bt _ _ _ _ (newEnvF S.kind (fun y hy => ?_) fun env ee s1 x => ?_))
    · rcases S.par y.1 (List.of_mem_zip (show (y.1, y.2) ∈ _ from hy)).1 with q | q
      · exact .inl q
      · exact .inr ⟨q, PySem.W.cellsFrom_some _ _ _ (.inl q)⟩
    · subst ee
      refine ⟨nl.keeps x.toInCall.keep, ?_⟩
      obtain ⟨t, ht, hq⟩ := B A outer s H vs Q E (room.deeper _) gd hs
      have J := inv_startC (CX := L2.CX P w) (E := E) (f := f) S room.hd e0 (ar _ _ _ _ hs) rv (C.at e0.bs) x
      refine PySem.W.kla_codeExpr (wpAny_mono (ht.run [] _ _ H Q J hq) (fun v s' z => ?_) fun _ _ z => z)
      obtain ⟨y, H', J', r, q⟩ := z
      exact ⟨y, H', J'.os, J'.bare, J'.base, J'.hok, r, q⟩
end
end PF

namespace PF
open PySem PySem.Spec L2 PyProof.Rows NdefX
/-- hf: the def of what is handed in; lg: the lambda of what its captured names hold; as: the arguments ahead -/
def usrL (hf : FR → FR) (lg : List D → FR) (js : List Nat) (as : List (En → R (D × Bool))) : En → R (D × Bool) := fun ρ => (evE as ρ).bind fun ds ρ1 =>
  if noFnL ds = true then (match capsOf ρ1 js with
    | some cs => match hf (lg cs) (ds.map Sl.fr ++ [.fr .fnv]) with
      | .ok r _ => if noFn r.1 = true then .ok r ρ1 else .bad
      | .ex x _ => if noFnF x.fs = true then .ex x ρ1 else .bad
      | .bad => .bad
    | none => .bad) else .bad
/-- what a def says of each function that may be handed to it -/
def HoOk (P : Program) (w : World) (K : PySem.W.Frag) (mg : Str → Option Value) (cs : List (Addr × Addr)) (ad : Nat → Addr) (T : List NTab) (k kh : Nat) (x : Str) (n nl : Nat) (hf : FR → FR) : Prop :=
  ∃ g, mg x = some (.ref g) ∧ PySem.W.keepIn K (.ref g) = true ∧ ∀ (base : Heap) (fn : Addr) (F0 : Hp) (gc : FR), (∀ p ∈ cs, LamX.TabB base mg p.1 p.2) → HeldOk P w K mg base ⟨ad, fn, F0, T⟩ kh nl gc →
    ∃ fd ps, FnG P w K mg base k g fd ps (spOf K ⟨ad, fn, F0, T⟩ n (hf gc)) ∧ Binds K fd ps []
/-- the code object of the def at f -/
def cdOf (K : PySem.W.Frag) (f : Addr) : Option Value := match K.lookup f with
  | some ⟨_, _, .func fd, _⟩ => some fd.code
  | _ => none
/-- what the making of lambdas asks of the maker's code object -/
structure MkOk (cs : List (Addr × Addr)) (T : List NTab) (q : Str) (cdv : Value) : Prop where
  ex : ∃ c P, cdv = .ref c ∧ (c, P) ∈ cs ∧ (∃ p ∈ T, p.1 = P) ∧ ∀ p ∈ T, p.1 = P → p.2 = fun _ _ => q
section
variable {X : Cx} {cl : Cl} {W : WX} {pins : List (Addr × Obj)} {σ : L2.St} {F F1 H H1 : Hp} {ρ ρ1 : En} {s s1 : Shared}
theorem tabB_call (I : Inv X pins σ H s) {c P : Addr} (t : LamX.TabB X.base X.mg c P) : LamX.TabB (callB X s H) X.mg c P where
  code := t.code.keeps fun b o e => callB_old I e
  bm := t.bm.keeps fun b o e => callB_old I e
  gP := t.gP
theorem spC_len {K : PySem.W.Frag} {cl : Cl} {n : Nat} {g : FR} {vs : List V} {H : Hp} {Q : VK} {E : XK} (h : spC K cl n g vs H Q E) : vs.length = n := by
  obtain ⟨F, _, z⟩ := h
  exact spOf_len ⟨F, z⟩
theorem noFnL_get : ∀ {ds : List D}, noFnL ds = true → ∀ {i : Nat} {d : D}, ds[i]? = some d → noFn d = true
  | [], _, i, d, h => by simp at h
  | x :: xs, p, i, d, h => by
    simp only [noFnL, Bool.and_eq_true] at p
    cases i with
    | zero => simp at h; subst h; exact p.1
    | succ i => exact noFnL_get p.2 (by simpa using h)
/-- no slot of its own: what an end with such arguments leaves -/
theorem CEnd.grow {K : PySem.W.Frag} {cl : Cl} {as : En} {vs : List V} {F' H' : Hp} {ρ' : En} (ce : CEnd K cl F as vs H F' ρ' H') (no : ∀ a, ¬ Owned (vs.map some) as a) : GrowT cl.T F H F' H' :=
  ⟨ce.le, fun a o e w => ce.keep a o e w (no a), ce.tbl, ce.tab, ce.live, ce.in', fun a o e w z => ce.thaw a o e w (no a) z⟩
theorem lam_call {hf : FR → FR} {k kl : Nat} {g : Addr} {cs0 : List (Addr × Addr)} {params : Arguments} {body : Expr} {scope : Scope} {lpos : Pos} {N ps fr : List Str} {js : List Nat} {den : En → R (D × Bool)} {us : List Value} {vs : List V} {ds : List D} {Q : VK}
    (hG : ∀ (base : Heap) (fn : Addr) (F0 : Hp) (gc : FR), (∀ p ∈ cs0, LamX.TabB base X.mg p.1 p.2) → HeldOk X.prog X.w X.K X.mg base ⟨cl.ad, fn, F0, cl.T⟩ (kl + 1) ps.length gc → ∃ fd gs, FnG X.prog X.w X.K X.mg base k g fd gs (spOf X.K ⟨cl.ad, fn, F0, cl.T⟩ (ds.length + 1) (hf gc)) ∧ Binds X.K fd gs [])
    (tb : ∀ p ∈ cs0, LamX.TabB X.base X.mg p.1 p.2) (mk : MkOk cs0 cl.T (lamQ X) X.env.code) (room : Room k X.A) (gd : X.A.guards = some []) (tk : Takes X W) (hX : ∀ y, X.fn y = true) (hdef : defaultsOf params X.env = ([], []))
    (S : NScopeC N ps fr scope) (hfree : ∀ y ∈ scope.names, y.2 = .free → X.env.scope.names.lookup y.1 = some .cell ∨ X.env.scope.names.lookup y.1 = some .free) (hfr : ∀ y ∈ fr, (y, NameKind.free) ∈ scope.names) (hjs : js.map (fun j => X.N[j]?) = fr.map some) (hN : ps.length + fr.length ≤ N.length)
    (hb : ∀ (q : Str) (cl : List (Str × Addr)) (pm cv ctv : Value), Binds X.K (PySem.W.kla_fn "<lambda>" q params body scope cl pm cv ctv) ps [])
    (B : ∀ (base : Heap) (fn : Addr) (F0 : Hp) (L : NF) (A : Around) (outer : List Env) (s : Shared) (H : Hp) (E : XK), L.scope = scope → (∀ p ∈ cs0, LamX.TabB base X.mg p.1 p.2) → Room kl (A.deeper (envF (L.at s.heap.objs.size) fn s.heap.objs.size)) → A.guards = some [] →
      SO (ncx (L2.CX X.prog X.w) X.prog X.w X.K X.mg base N (L.at s.heap.objs.size) fn A outer s H E) ⟨cl.ad, fn, F0, cl.T⟩ (fun c d _ H => E c d H) body den)
    (I : Inv X pins σ H1 s1) (st : Step F ρ σ H F1 ρ1 σ H1) (co : Corr X.K cl F1 ρ1 σ H1) (hv : DenL X.K cl F1 vs ds) (rv : Vals vs us)
    (p : Post X.K cl W (if noFnL ds = true then (match capsOf ρ1 js with
      | some cs => match hf (lamD N.length den cs) (ds.map Sl.fr ++ [.fr .fnv]) with
        | .ok r _ => if noFn r.1 = true then .ok r ρ1 else .bad
        | .ex x _ => if noFnF x.fs = true then .ex x ρ1 else .bad
        | .bad => .bad
      | none => .bad) else .bad) F1 ρ1 σ H1 fun d ρ' F' H' => ∀ v, Tmp X.K cl d.2 F ρ σ H F' ρ' H' v d.1 → Q v H') :
    wpAny (model X.prog X.w) X.A (eval (.Lambda params body scope lpos) X.env) (fun v s2 => X.K.In s2.heap ∧ wpAny (model X.prog X.w) X.A (call (.ref g) (us ++ [v])) (EP X pins σ Q) X.xe s2) X.xe s1 := by
  split at p
  case isFalse => exact p.elim
  rename_i nf
  cases hcap : capsOf ρ1 js with
  | none => rw [hcap] at p; exact p.elim
  | some cs =>
  rw [hcap] at p
  dsimp only at p
  obtain ⟨c, P, hcode, hmem, hmT, huT⟩ := mk.ex
  have hfree' : ∀ y ∈ scope.names, y.2 = .free → ∃ c, X.env.cells.lookup y.1 = some c := fun y hy e => (hfree y hy e).elim (fun z => I.ok.has _ (.inl z)) fun z => I.ok.has _ (.inr z)
  refine lam_new I co (tb _ hmem) hcode hmT huT hdef hfree' fun f c' pm ctv F2 H2 s2 I2 gr hfo hfn hfr2 hco => ⟨I2.kIn, ?_⟩
  have co2 : Corr X.K cl F2 ρ1 σ H2 := co.growT gr
  have bf : (callB X s2 H2).get? f = some (PySem.W.kla_obj "<lambda>" (lamQ X) params body scope (cloFrom X.env.cells scope.names []) pm c' ctv) := callB_get hfo hfn hfr2
  have cells := callB_cells I2 (Caps.made I2.ok hfree hfr hjs) fun y a e => cell_nofr I2 hX e
  have tb' : ∀ p ∈ cs0, LamX.TabB (callB X s2 H2) X.mg p.1 p.2 := fun p hp => tabB_call I2 (tb p hp)
  obtain ⟨hlen, hcs⟩ := caps_get co2 hcap
  have hjl : js.length = fr.length := by simpa using congrArg List.length hjs
  have e' : (⟨cl.ad, f, F2, cl.T⟩ : Cl).ad = cl.ad := rfl
  have held : HeldOk X.prog X.w X.K X.mg (callB X s2 H2) ⟨cl.ad, f, F2, cl.T⟩ (kl + 1) ps.length (lamD N.length den cs) := by
    refine ⟨_, _, _, _, ps, bf, ?_, hb _ _ _ _ _⟩
    refine lamGC (L := ⟨"<lambda>", lamQ X, params, [], scope, cloFrom X.env.cells scope.names [], c'⟩) (N := N) (fr := fr) (ws := js.map (slotAt σ)) bf S cells (fun vs H Q E h => spC_len h) (fun vs H Q E h => ?_) fun A outer s H vs Q E rm gd' h => ?_
    · obtain ⟨F, l, as, cc, _⟩ := h
      exact cc.le _ _ (l _ _ hco)
    · refine ⟨_, B _ f F2 _ A outer s H E rfl tb' rm gd', ?_⟩
      refine lam_body (n := ps.length) (cs := cs) (by rw [hlen, hjl]; exact hN) (by rw [List.length_map, hlen]) (fun i d e => ?_) h
      obtain ⟨nd, j, v, hj, hs, hd⟩ := hcs i d e
      exact ⟨v, by rw [List.getElem?_map, hj]; exact congrArg some (slotAt_of hs), hd.other e' nd⟩
  obtain ⟨fd, gs, Fn, bs⟩ := hG _ f F2 _ tb' held
  have hvl := hv.length
  have fr_ : ∀ (i : Nat) (y : Sl), (ds.map Sl.fr ++ [Sl.fr .fnv])[i]? = some y → ∃ d v, y = .fr d ∧ ((vs ++ [V.ref f]).map some)[i]? = some (some v) ∧ Den X.K ⟨cl.ad, f, F2, cl.T⟩ F2 v d := fun i y hy => by
    rcases Nat.lt_trichotomy i ds.length with h | h | h
    · rw [List.getElem?_append_left (by simpa using h), List.getElem?_map] at hy
      cases hd : ds[i]? with
      | none => rw [hd] at hy; cases hy
      | some d =>
        rw [hd] at hy; cases hy
        obtain ⟨v, h1, h2⟩ := hv.get hd
        exact ⟨d, v, rfl, by rw [List.map_append, List.getElem?_append_left (by simp; omega), List.getElem?_map, h1]; rfl, (h2.le gr.le).other e' (noFnL_get nf hd)⟩
    · subst h
      rw [List.getElem?_append_right (by simp)] at hy
      simp at hy; subst hy
      exact ⟨.fnv, .ref f, rfl, by rw [List.map_append, List.getElem?_append_right (by simp; omega)]; simp [hvl], .fnv (Le.refl _)⟩
    · rw [List.getElem?_append_right (by simp; omega)] at hy
      have : i - (ds.map Sl.fr).length ≠ 0 := by simp; omega
      obtain ⟨j, hj⟩ := Nat.exists_eq_succ_of_ne_zero this
      rw [hj] at hy; simp at hy
  have no : ∀ a, ¬ Owned ((vs ++ [V.ref f]).map some) (ds.map Sl.fr ++ [Sl.fr .fnv]) a := fun a ⟨i, y, d, h1, h2, _⟩ => by
    obtain ⟨_, _, rfl, _⟩ := fr_ i y h1
    cases h2
  have cc : Corr X.K ⟨cl.ad, f, F2, cl.T⟩ F2 (ds.map Sl.fr ++ [Sl.fr .fnv]) ((vs ++ [V.ref f]).map some) H2 := by
    refine ⟨by simp [hvl], co2.le, fun i y o h1 h2 => ?_, fun i j y z d e a h1 _ h3 _ _ _ => ?_, co2.tab⟩
    · obtain ⟨d, v, rfl, e, hd⟩ := fr_ i y h1
      rw [e] at h2; cases h2; exact ⟨v, rfl, hd⟩
    · obtain ⟨_, _, rfl, _⟩ := fr_ i y h1
      cases h3
  have hsp : spOf X.K ⟨cl.ad, f, F2, cl.T⟩ (ds.length + 1) (hf (lamD N.length den cs)) (vs ++ [V.ref f]) H2 Q (WE W σ) := by
    refine ⟨F2, _, cc, fun y hy => ?_, by simp, ?_⟩
    · obtain ⟨i, hi⟩ := List.getElem?_of_mem hy
      obtain ⟨d, v, e, _⟩ := fr_ i y hi
      exact .inl ⟨d, e⟩
    · cases hr : hf (lamD N.length den cs) (ds.map Sl.fr ++ [Sl.fr .fnv]) with
      | bad => rw [hr] at p; exact p
      | ok r ρ' =>
        rw [hr] at p
        dsimp only at p ⊢
        intro F' H' v ce res
        split at p
        case isFalse => exact p.elim
        rename_i nr
        have g2 := ce.grow no
        refine p F' H' ((gr.step ρ1 σ).trans (g2.step ρ1 σ)) (co2.growT g2) v ?_
        unfold Tmp
        split at res
        · rename_i ho
          rw [if_pos ho]
          obtain ⟨a, ea, n1, n2, ow⟩ := res
          refine ⟨a, ea, n2, Own.other (cl := ⟨cl.ad, f, F2, cl.T⟩) (cl' := cl) rfl nr ow, fun z => ?_, .inl (st.back ((gr.step ρ1 σ).back n1))⟩
          obtain ⟨i, y, d, w1, w2, w3⟩ := z
          obtain ⟨b, f1, _, f3⟩ := own_slot (co2.slot i y _ w1 w3) w2
          cases f1
          obtain ⟨u, hu⟩ := f3.there
          rw [n1] at hu; cases hu
        · rename_i ho
          rw [if_neg ho]
          exact Den.other (cl := ⟨cl.ad, f, F2, cl.T⟩) (cl' := cl) rfl nr res
      | ex y ρ' =>
        rw [hr] at p
        dsimp only at p ⊢
        intro F' H' cc' dd ce er
        split at p
        case isFalse => exact p.elim
        rename_i nr
        have g2 := ce.grow no
        refine p F' H' cc' dd ((gr.step ρ1 σ).trans (g2.step ρ1 σ)) (co2.growT g2) ⟨er.1, fun ne => ?_⟩
        obtain ⟨a, fv, h1, h2, h3⟩ := er.2 ne
        exact ⟨a, fv, h1, h2, DenF.other (cl := ⟨cl.ad, f, F2, cl.T⟩) (cl' := cl) rfl nr h3⟩
  have rv2 : Vals (vs ++ [V.ref f]) (us ++ [Value.ref f]) := by
    clear hsp cc fr_ no p hv hvl hG B
    induction rv with
    | nil => exact .cons rfl .nil
    | cons a _ ih => exact .cons a ih
  have b := bs s2 (us ++ [Value.ref f]) I2.kIn (by simpa using rv2.length.symm.trans (Fn.arity _ _ _ _ hsp))
  simp only [List.append_nil] at b
  refine wpAny_call (codeAny_mono (Fn.go X.A X.stack s2 H2 ⟨us ++ [Value.ref f], []⟩ _ _ Q (WE W σ) room gd (callB_env I2) b rv2 hsp) fun r s' z => ?_)
  rcases back_here (H' := H2) tk I2 z with ⟨e, rfl, q⟩ | ⟨u, rfl, q⟩
  · exact q
  · exact q
end
end PF

namespace PF
open PySem PySem.Spec L2 PyProof.Rows NdefX
/-- what is known of a lambda where it stands -/
structure LamOk (X : Cx) (cl : Cl) (cs0 : List (Addr × Addr)) (kl : Nat) (params : Arguments) (body : Expr) (scope : Scope) (N ps fr : List Str) (js : List Nat) (den : En → R (D × Bool)) : Prop where
  mko : MkOk cs0 cl.T (lamQ X) X.env.code
  dflt : defaultsOf params X.env = ([], [])
  S : NScopeC N ps fr scope
  free : ∀ y ∈ scope.names, y.2 = .free → X.env.scope.names.lookup y.1 = some .cell ∨ X.env.scope.names.lookup y.1 = some .free
  frs : ∀ y ∈ fr, (y, NameKind.free) ∈ scope.names
  js : js.map (fun j => X.N[j]?) = fr.map some
  len : ps.length + fr.length ≤ N.length
  binds : ∀ (q : Str) (cl : List (Str × Addr)) (pm cv ctv : Value), Binds X.K (PySem.W.kla_fn "<lambda>" q params body scope cl pm cv ctv) ps []
  body : ∀ (base : Heap) (fn : Addr) (F0 : Hp) (L : NF) (A : Around) (outer : List Env) (s : Shared) (H : Hp) (E : XK), L.scope = scope → (∀ p ∈ cs0, LamX.TabB base X.mg p.1 p.2) → Room kl (A.deeper (envF (L.at s.heap.objs.size) fn s.heap.objs.size)) → A.guards = some [] →
      SO (ncx (L2.CX X.prog X.w) X.prog X.w X.K X.mg base N (L.at s.heap.objs.size) fn A outer s H E) ⟨cl.ad, fn, F0, cl.T⟩ (fun c d _ H => E c d H) body den
def lfree (a b : Scope) (fr : List Str) : Bool := a.names.all (fun y => !decide (y.2 = .free) || (decide (b.names.lookup y.1 = some .cell) || decide (b.names.lookup y.1 = some .free))) && fr.all fun y => decide ((y, NameKind.free) ∈ a.names)
theorem lfree_ok {a b : Scope} {fr : List Str} (h : lfree a b fr = true) : (∀ y ∈ a.names, y.2 = .free → b.names.lookup y.1 = some .cell ∨ b.names.lookup y.1 = some .free) ∧ ∀ y ∈ fr, (y, NameKind.free) ∈ a.names := by
  unfold lfree at h
  simp only [Bool.and_eq_true, List.all_eq_true, Bool.or_eq_true, Bool.not_eq_true', decide_eq_true_eq, decide_eq_false_iff_not] at h
  exact ⟨fun y hy e => (h.1 y hy).elim (fun z => absurd e z) id, h.2⟩
section
variable {X : Cx} {cl : Cl} {W : WX} {hf : FR → FR} {k kl : Nat} {x : Str} {cs0 : List (Addr × Addr)} {params : Arguments} {body : Expr} {scope : Scope} {p lpos pos : Pos} {N ps fr : List Str} {js : List Nat} {den : En → R (D × Bool)}
theorem so_callL0 (h : HoOk X.prog X.w X.K X.mg cs0 cl.ad cl.T k (kl + 1) x 1 ps.length hf) (tb : ∀ p ∈ cs0, LamX.TabB X.base X.mg p.1 p.2) (lo : LamOk X cl cs0 kl params body scope N ps fr js den) (room : Room k X.A) (gd : X.A.guards = some []) (tk : Takes X W) (hX : ∀ y, X.fn y = true) (hg : Gl X x) (nd : (x == ("__debug__" : Str)) = false) :
    SO X cl W (.Call (.Name x p) [.Lambda params body scope lpos] [] pos) (usrL hf (lamD N.length den) js []) := by
  obtain ⟨g, hm, kp, hG⟩ := h
  refine ⟨fun pins s σ H Q I ⟨F, ρ, c, q⟩ => ?_⟩
  refine wpAny_Call_Name_kw (ld_glob I hg hm (PySem.W.callWith_K (h₀ := X.base) I.ok.mod.kin kp ?_ rfl rfl) nd)
  show wpAny _ _ (spliced ((false, eval (.Lambda params body scope lpos) X.env) :: backTo pos (starEach [] X.env))) _ _ s
  have q1 := (Post.bind q).okk c
  exact Calls.spliced_cons (thn (lam_call (ds := []) (us := []) (vs := []) hG tb lo.mko room gd tk hX lo.dflt lo.S lo.free lo.frs lo.js lo.len lo.binds lo.body I (Step.refl _ _ _ _) c .nil .nil q1) fun v s2 z => Calls.spliced_nil z)
theorem so_callL1 {e : Expr} {d : En → R (D × Bool)} (h : HoOk X.prog X.w X.K X.mg cs0 cl.ad cl.T k (kl + 1) x 2 ps.length hf) (tb : ∀ p ∈ cs0, LamX.TabB X.base X.mg p.1 p.2) (lo : LamOk X cl cs0 kl params body scope N ps fr js den) (room : Room k X.A) (gd : X.A.guards = some []) (tk : Takes X W) (hX : ∀ y, X.fn y = true) (hg : Gl X x) (nd : (x == ("__debug__" : Str)) = false)
    (ha : SO X cl W e d) (se : starEach [e, .Lambda params body scope lpos] X.env = (false, eval e X.env) :: starEach [.Lambda params body scope lpos] X.env) :
    SO X cl W (.Call (.Name x p) [e, .Lambda params body scope lpos] [] pos) (usrL hf (lamD N.length den) js [d]) := by
  obtain ⟨g, hm, kp, hG⟩ := h
  refine ⟨fun pins s σ H Q I ⟨F, ρ, c, q⟩ => ?_⟩
  refine wpAny_Call_Name_kw (ld_glob I hg hm (PySem.W.callWith_K (h₀ := X.base) I.ok.mod.kin kp ?_ se rfl) nd)
  rw [se]
  show wpAny _ _ (spliced ((false, eval e X.env) :: backTo pos (starEach [.Lambda params body scope lpos] X.env))) _ _ s
  refine Calls.spliced_cons (thn (ha.fz.run pins s σ H (fun v H1 => ∃ a ρ1 F1, Step F ρ σ H F1 ρ1 σ H1 ∧ Corr X.K cl F1 ρ1 σ H1 ∧ Den X.K cl F1 v a ∧ Post X.K cl W (if noFnL [a] = true then (match capsOf ρ1 js with
      | some cs => match hf (lamD N.length den cs) ([a].map Sl.fr ++ [.fr .fnv]) with
        | .ok r _ => if noFn r.1 = true then .ok r ρ1 else .bad
        | .ex x _ => if noFnF x.fs = true then .ex x ρ1 else .bad
        | .bad => .bad
      | none => .bad) else .bad) F1 ρ1 σ H1 fun d ρ' F' H' => ∀ v, Tmp X.K cl d.2 F ρ σ H F' ρ' H' v d.1 → Q v H') I ⟨F, ρ, c, ?_⟩) fun u s1 ⟨v, H1, I1, r1, a, ρ1, F1, st, co, hv, q1⟩ => ?_)
  · have q := Post.bind q
    unfold evE at q
    refine (Post.bind q).mono fun a ρ1 F1 H1 st c1 q1 v hv => ⟨a, ρ1, F1, st, c1, hv, ?_⟩
    exact (show Post X.K cl W (.ok [a] ρ1) F1 ρ1 σ H1 _ from q1).okk c1
  · show wpAny _ _ (spliced ((false, eval (.Lambda params body scope lpos) X.env) :: backTo pos (starEach [] X.env))) _ _ s1
    exact Calls.spliced_cons (thn (lam_call (ds := [a]) (us := [u]) (vs := [v]) hG tb lo.mko room gd tk hX lo.dflt lo.S lo.free lo.frs lo.js lo.len lo.binds lo.body I1 st co (.one hv) (.cons r1 .nil) q1) fun v s2 z => Calls.spliced_nil z)
end
theorem takes_n {P : Program} {w : World} {K : PySem.W.Frag} {mg : Str → Option Value} {base : Heap} {N : List Str} {L : NF} {f : Addr} {A : Around} {outer : List Env} {s : Shared} {H : Hp} {E : XK} : Takes (ncx (L2.CX P w) P w K mg base N L f A outer s H E) (fun c d _ H => E c d H) := takes_of rfl rfl rfl rfl
/-- a def by its body, its code object known -/
theorem fn_bodyC {P : Program} {w : World} {K : PySem.W.Frag} {mg : Str → Option Value} {base : Heap} {cl : Cl} {x qual : Str} {st : Stmt} {f : Addr} {fd : FuncData} {N ps : List Str} {k : Nat} {body : Sm} (Fu : Fun K x qual st f fd) (S : FnScope N ps (defScope st)) (hl : ps.length ≤ N.length)
    (B : ∀ (cdv : Value) (A : Around) (outer : List Env) (s : Shared) (H : Hp) (E : XK), cdOf K f = some cdv → Room k (A.deeper (PyProof.Rows.envOfC qual (defScope st) s.heap.objs.size f cdv)) → A.guards = some [] →
      SB (cxOf (L2.CX P w) P w K mg base N qual (defScope st) f cdv A outer s H E) cl (fun c d _ H => E c d H) (defBody st) body) : FnG P w K mg base (k + 1) f fd ps (spOf K cl ps.length (fnD N.length body)) := by
  obtain ⟨oc, od, kV, doc, pm, an, cdv, ct, osl, rfl, lk, hcd⟩ := Fu.ex
  exact fnG lk hcd S (fun vs H Q E h => spOf_len h) fun A outer s H vs Q E room gd h => ⟨_, B cdv A outer s H E (by unfold cdOf; rw [lk]) room gd, body_of hl h⟩
end PF

namespace PF
open PySem PySem.Spec L2 PyProof.Rows
/-- the abstract heap at the law's call: the script, the empty tables -/
theorem script_atT {P : Program} {w : World} {K : PySem.W.Frag} {a : Addr} {s : Shared} {vs : List Value} {ns : List Int} (ts : List Addr) (kin : K.In s.heap) (ha : s.heap.get? a = some { cls := .type "list", data := .seq vs.toArray }) (hi : IntsAre vs ns) (hl : ns.length ≤ sizeLine)
    (hT : ∀ b ∈ ts, s.heap.get? b = some (PySem.W.tabObj #[])) :
    ∃ H : Hp, (∀ b, H b = none ∨ b ∈ ts ∨ ∃ o xs, H b = some (.frz o (.lst xs))) ∧ (∀ b ∈ ts, H b = some (.tbl #[])) ∧ SqL K H a (ns.map V.int) ∧ L2.HOk P w H s.heap ∧ ∀ b u, H b = some u → (b = a ∧ K.lookup a = none) ∨ b ∈ ts := by
  have rv := vals_ints hi
  have hlen := hi.length
  have nt : a ∉ ts := fun z => by
    have e := hT a z
    rw [ha] at e
    have e2 := congrArg Obj.data (Option.some.inj e)
    cases e2
  cases hk : K.lookup a with
  | some o =>
    have e := kin a o hk
    rw [ha] at e
    cases e
    have at_ : ∀ {b u}, (fun b => if b ∈ ts then some (HO.tbl #[]) else none) b = some u → b ∈ ts ∧ u = HO.tbl #[] := fun {b u} z => by
      by_cases hb : b ∈ ts
      · exact ⟨hb, by simpa [hb] using z.symm⟩
      · simp [hb] at z
    refine ⟨fun b => if b ∈ ts then some (HO.tbl #[]) else none, fun b => ?_, fun b hb => if_pos hb, .inr ⟨_, vs.toArray, _, hk, rfl, rfl, rfl, by rw [List.size_toArray, hlen]; exact hl, by simpa using rv⟩, fun b u z => ?_, fun b u z => .inr (at_ z).1⟩
    · by_cases hb : b ∈ ts
      · exact .inr (.inl hb)
      · exact .inl (if_neg hb)
    · obtain ⟨hb, rfl⟩ := at_ z
      exact hT b hb
  | none =>
    have at_ : ∀ {b u}, (fun b => if b = a then some (HO.frz { cls := .type "list", data := .seq vs.toArray } (.lst (ns.map V.int))) else if b ∈ ts then some (HO.tbl #[]) else none) b = some u →
        (b = a ∧ u = HO.frz { cls := .type "list", data := .seq vs.toArray } (.lst (ns.map V.int))) ∨ (b ∈ ts ∧ u = HO.tbl #[]) := fun {b u} z => by
      by_cases hb : b = a
      · exact .inl ⟨hb, by simpa [hb] using z.symm⟩
      · by_cases hb2 : b ∈ ts
        · exact .inr ⟨hb2, by simpa [hb, hb2] using z.symm⟩
        · simp [hb, hb2] at z
    refine ⟨fun b => if b = a then some (HO.frz { cls := .type "list", data := .seq vs.toArray } (.lst (ns.map V.int))) else if b ∈ ts then some (HO.tbl #[]) else none, fun b => ?_, fun b hb => ?_, .inl (.inr ⟨_, if_pos rfl⟩), fun b u z => ?_, fun b u z => ?_⟩
    · by_cases hb : b = a
      · exact .inr (.inr ⟨_, _, if_pos hb⟩)
      · by_cases hb2 : b ∈ ts
        · exact .inr (.inl hb2)
        · exact .inl ((if_neg hb).trans (if_neg hb2))
    · exact (if_neg (show ¬ b = a from fun z => nt (z ▸ hb))).trans (if_pos hb)
    · rcases at_ z with ⟨rfl, rfl⟩ | ⟨hb, rfl⟩
      · exact ⟨ha, by rw [List.length_map]; exact hl, vs, _, rv, ha⟩
      · exact hT b hb
    · rcases at_ z with ⟨hb, _⟩ | ⟨hb, _⟩
      · exact .inl ⟨hb, rfl⟩
      · exact .inr hb
theorem call_lawT {P : Program} {w : World} {K : PySem.W.Frag} {mg mb : Str → Option Value} {k : Nat} {fa a : Addr} {cs : List (Addr × Addr)} {fd : FuncData} {x : Str} {s : Shared} {vs : List Value} {ns : List Int}
    (kin : K.In s.heap) (nsM : s.heap.Ns mainGlobals mg) (nsB : s.heap.Ns builtinsNs mb) (boot : ∀ x : Str, x ≠ "__name__" → mb x = bootBuiltins x) (nl : s.heap.NoLimit) (gens : s.gens = #[])
    (hT : ∀ p ∈ cs, s.heap.get? p.2 = some (PySem.W.tabObj #[])) (nT : ∀ p ∈ cs, K.lookup p.2 = none) (hC : ∀ p ∈ cs, PySem.W.CodeHd s.heap p.1 p.2)
    (hbm : ∃ (bm : Addr) (ob : Obj), mg "__builtins__" = some (.ref bm) ∧ bm ≠ builtinsNs ∧ s.heap.get? bm = some ob ∧ ob.cls = .type "module" ∧ ob.dict = some builtinsNs ∧ ob.data = .plain)
    (ha : s.heap.get? a = some { cls := .type "list", data := .seq vs.toArray }) (hi : IntsAre vs ns) (hl : ns.length ≤ sizeLine) (room : Room k callerA) (bind : ∀ (s : Shared) (u : Value), BindsTo s fd ⟨[u], []⟩ [(x, u)])
    (F : ∀ base : Heap, K.In base → base.Ns mainGlobals mg → (∀ p ∈ cs, LamX.TabB base mg p.1 p.2) → ∃ sp : Sp, FnG P w K mg base k fa fd [x] sp ∧ ∀ H : Hp, (∀ p ∈ cs, H p.2 = some (.tbl #[])) → SqL K H a (ns.map V.int) → sp [.ref a] H (fun v _ => v = .bl true) fun _ _ _ => False) :
    codeAny (model P w) callerA (.call (.ref fa) ⟨[.ref a], []⟩) (fun r s' => r = .ok (.ret (.bool true)) ∧ OldK s.heap s'.heap ∧ s'.os = s.os ∧ AllBare s'.gens) s := by
  have memT : ∀ p ∈ cs, p.2 ∈ cs.map (·.2) := fun p hp => List.mem_map.mpr ⟨p, hp, rfl⟩
  have isT : ∀ b ∈ cs.map (·.2), s.heap.get? b = some (PySem.W.tabObj #[]) := fun b hb => by
    obtain ⟨p, hp, rfl⟩ := List.mem_map.mp hb
    exact hT p hp
  obtain ⟨H, only, tabs, seq, hok, at_⟩ := script_atT (P := P) (w := w) (cs.map (·.2)) kin ha hi hl isT
  have hid : ∀ {b : Addr} {o : Obj}, s.heap.get? b = some o → H b = none → (hidT s.heap H).get? b = some o := fun e n => hidT_get e n
  have free : ∀ {b : Addr} {o : Obj}, s.heap.get? b = some o → (∀ ws n, o.data ≠ .seq ws n) → o.data ≠ .fields #[] → H b = none := fun {b o} e d1 d2 => by
    cases q : H b with
    | none => rfl
    | some u =>
      rcases at_ b u q with ⟨rfl, _⟩ | hb
      · rw [ha] at e; cases e
        exact absurd rfl (d1 _ _)
      · rw [isT b hb] at e; cases e
        exact absurd rfl d2
  have ns' : ∀ {b : Addr} {m : Str → Option Value}, s.heap.Ns b m → (hidT s.heap H).Ns b m := fun {b m} ⟨o, es, ep, e, d, r⟩ => ⟨o, es, ep, hid e (free e (fun ws n z => by rw [d] at z; cases z) fun z => by rw [d] at z; cases z), d, r⟩
  have kin' : K.In (hidT s.heap H) := fun b o e => hid (kin b o e) (by
    cases q : H b with
    | none => rfl
    | some u =>
      rcases at_ b u q with ⟨rfl, z⟩ | hb
      · rw [z] at e; cases e
      · obtain ⟨p, hp, rfl⟩ := List.mem_map.mp hb
        rw [nT p hp] at e; cases e)
  obtain ⟨mc, c1, c2⟩ := nl
  have tb : ∀ p ∈ cs, LamX.TabB (hidT s.heap H) mg p.1 p.2 := fun p hp => by
    have hTp := hT p hp
    refine ⟨?_, ?_, fun z => ?_⟩
    · obtain ⟨o, us, fl, tf, gs, tg, iF, tx, tt, e1, r1, r2, r3, rr⟩ := hC p hp
      exact ⟨o, us, fl, tf, gs, tg, iF, tx, tt, hid e1 (free e1 (fun ws n z => by rw [r2] at z; cases z) fun z => by rw [r2] at z; cases z; simp at r3), r1, r2, r3, rr⟩
    · obtain ⟨bm, ob, b1, b2, b3, b4, b5, b6⟩ := hbm
      have g1 : bm ≠ mainGlobals := fun q => by
        obtain ⟨o, es, ep, e, d, _⟩ := nsM
        rw [q, e] at b3; cases b3
        rw [d] at b6; cases b6
      have g2 : bm ≠ p.2 := fun q => by
        rw [q, hTp] at b3; cases b3
        cases b6
      exact ⟨bm, ob, b1, b2, g1, g2, hid b3 (free b3 (fun ws n z => by rw [b6] at z; cases z) fun z => by rw [b6] at z; cases z), b4, b5, b6⟩
    · obtain ⟨o, es, ep, e, d, _⟩ := nsM
      rw [z, hTp] at e; cases e
      cases d
  have env : Env0 P w K mg (hidT s.heap H) callerA [] s H :=
    { frames := rfl, mod := ⟨kin', ns' nsM, ⟨mb, ns' nsB, boot⟩, ⟨mc, ns' c1, c2⟩⟩, bs := fun b o e => of_hidT e, bsz := Nat.le_of_eq (hidT_size _ _), funs := trivial, frf := fun b hb => (by cases (show b ∈ ([] : List Addr) from hb)), hok := hok, bare := .of_eq gens }
  obtain ⟨sp, Fn, law⟩ := F _ kin' (ns' nsM) tb
  refine codeAny_mono (Fn.go callerA [] s H ⟨[.ref a], []⟩ [.ref a] [.ref a] (fun v _ => v = .bl true) (fun _ _ _ => False) room rfl env (bind s (.ref a)) (.cons rfl .nil) (law H (fun p hp => tabs _ (memT p hp)) seq)) fun r s' h => ?_
  cases r with
  | error e =>
    obtain ⟨_, _, _, _, _, _, _, _, _, _, _, _, z⟩ := h
    exact z.elim
  | ok fl =>
    cases fl with
    | next => exact (h : False).elim
    | brk => exact (h : False).elim
    | cont => exact (h : False).elim
    | ret u =>
      obtain ⟨v, H', os, bare, un, hok', ru, rfl⟩ := h
      obtain rfl : u = Value.bool true := ru
      have key : ∀ b o, b ∉ cs.map (·.2) → s.heap.get? b = some o → s'.heap.get? b = some o := fun b o nb e => by
        cases q : H b with
        | none => exact un.keep b o e q (fun z => by cases (show b ∈ ([] : List Addr) from z)) (by simp)
        | some u =>
          rcases only b with z | z | ⟨ob, xs, z⟩
          · rw [q] at z; cases z
          · exact absurd z nb
          · obtain ⟨e1, _⟩ := hok b _ z
            obtain ⟨e2, _⟩ := hok' b _ (un.frzs b ob _ z)
            rw [e] at e1; cases e1
            exact e2
      have grown : ∀ p ∈ cs, ∃ more : Array Value, s'.heap.get? p.2 = some { cls := .none, data := .fields more } := fun p hp => by
        obtain ⟨more, z⟩ := un.tbls p.2 #[] (tabs _ (memT p hp))
        exact ⟨_, hok' p.2 _ z⟩
      refine ⟨rfl, ⟨fun b o e => ?_, fun b o e => ?_⟩, os, bare⟩
      · by_cases hb : b ∈ cs.map (·.2)
        · obtain ⟨p, hp, rfl⟩ := List.mem_map.mp hb
          obtain ⟨more, hm⟩ := grown p hp
          rw [hT p hp] at e; cases e
          exact .inr (.inl ⟨((hC p hp).tab (hT p hp)).isCodeTable, rfl, #[], more, rfl, by rw [Array.empty_append]; exact hm⟩)
        · exact .inl (key b o hb e)
      · by_cases hb : b ∈ cs.map (·.2)
        · obtain ⟨p, hp, rfl⟩ := List.mem_map.mp hb
          obtain ⟨more, hm⟩ := grown p hp
          exact ⟨_, hm⟩
        · exact ⟨o, key b o hb e⟩
/-- the goal that the head leaves, from the law's function of data, tables being written -/
theorem walk_GT {l : PySem.W.OpenLaw} {n k : Nat} {q : Program} {loose : List Str} {XP : (Str → Option Value) → Heap → Prop} {YP : World → Heap → Prop} {d : DefRec} {K : Params → PySem.W.Frag} {x : Str} {g : FR}
    (hn : l.most = some n) (hn2 : n ≤ sizeLine) (hdf : d.params.defaults = []) (room : Room k callerA) (hY : ∀ (w : World) (h : Heap), YP w h → (K w.params).In h)
    (F : ∀ (w : World) (mg : Str → Option Value) (fa : Addr) (h : Heap), YP w h → (K w.params).In h → h.Ns mainGlobals mg → mg d.name = some (.ref fa) →
      ∃ (fd : FuncData) (cl : Cl) (cs : List (Addr × Addr)), (∀ p ∈ cs, h.get? p.2 = some (PySem.W.tabObj #[])) ∧ (∀ p ∈ cs, (K w.params).lookup p.2 = none) ∧ (∀ p ∈ cs, PySem.W.CodeHd h p.1 p.2) ∧ (∀ p ∈ cl.T, p.1 ∈ cs.map (·.2)) ∧ (∀ (s : Shared) (u : Value), BindsTo s fd ⟨[u], []⟩ [(x, u)]) ∧
        ∀ base : Heap, (K w.params).In base → base.Ns mainGlobals mg → (∀ p ∈ cs, LamX.TabB base mg p.1 p.2) → FnG l.prog w (K w.params) mg base k fa fd [x] (spOf (K w.params) cl 1 g))
    (law : ∀ ns : List Int, ns.length ≤ n → ∃ ρ, g [.fr (.rdl (ns.map D.int))] = .ok (.bl true, false) ρ) : PySem.W.WalkO q loose XP YP l.row.toRowW d [] (fun f vs => PySem.call f vs) := by
  refine Att.attach_callB hn hdf fun w s₀ s₁ mg mb fa o pm cd doc a vs ns G Y ho hd hcd hmg hobj hints hlen hbits hg => ?_
  have kin := hY w _ Y
  obtain ⟨fd, cl, cs, hT, nT, hC, hcl, bind, hF⟩ := F w mg fa _ Y kin G.T.g hmg
  refine call_lawT kin G.T.g G.T.b G.T.builtins G.T.nolimit hg hT nT hC G.T.bmain hobj hints (Nat.le_trans hlen hn2) room bind fun base kb nb tb => ⟨_, hF base kb nb tb, fun H tabs seq => ?_⟩
  obtain ⟨ρ, hρ⟩ := law ns hlen
  have den : ∀ G : Hp, DenL (K w.params) cl G (ns.map V.int) (ns.map D.int) := fun G => by
    clear hlen hbits hints hρ seq law
    induction ns with
    | nil => exact .nil
    | cons i r ih => exact .cons (.int i) ih
  -- the tables are not frozen
  have seqF : SqL (K w.params) (fun b => if b ∈ cs.map (·.2) then none else H b) a (ns.map V.int) := by
    rcases seq with (z | ⟨o, z⟩) | z
    · refine .inl (.inl ?_)
      by_cases hb : a ∈ cs.map (·.2)
      · obtain ⟨p, hp, e⟩ := List.mem_map.mp hb
        rw [← e, tabs p hp] at z; cases z
      · exact (if_neg hb).trans z
    · refine .inl (.inr ⟨o, ?_⟩)
      by_cases hb : a ∈ cs.map (·.2)
      · obtain ⟨p, hp, e⟩ := List.mem_map.mp hb
        rw [← e, tabs p hp] at z; cases z
      · exact (if_neg hb).trans z
    · exact .inr z
  refine ⟨fun b => if b ∈ cs.map (·.2) then none else H b, [.fr (.rdl (ns.map D.int))], ⟨rfl, fun b u e => ?_, fun i y o h1 h2 => ?_, fun i j y z d e b h1 h2 h3 h4 h5 h6 => ?_, fun p hp => ?_⟩, fun y hy => ?_, rfl, ?_⟩
  · by_cases hb : b ∈ cs.map (·.2)
    · rw [if_pos hb] at e; cases e
    · rw [if_neg hb] at e; exact e
  · cases i with
    | zero => simp at h1 h2; subst h1 h2; exact ⟨.ref a, rfl, .rdl seqF (den _)⟩
    | succ i => simp at h1
  · cases i with
    | zero => simp at h1; subst h1; cases h3
    | succ i => simp at h1
  · have hm := hcl p hp
    obtain ⟨p2, hp2, e⟩ := List.mem_map.mp hm
    refine ⟨#[], by rw [← e]; exact tabs p2 hp2, if_pos hm, trivial, fun pos cv hc => ?_⟩
    have z : codeAmong pos [] = some cv := hc
    simp [codeAmong] at z
  · simp at hy; exact .inl ⟨_, hy⟩
  · rw [hρ]
    intro F' H' v ce hv
    exact den_bl hv
end PF

namespace PF
open PySem PySem.Spec L2 PyProof.Rows NdefX

section
variable {X : Cx} {cl : Cl} {W : WX} {k i n : Nat} {g : FR} {x : Str} {p pos : Pos}
theorem so_callV0 (h : HeldOk X.prog X.w X.K X.mg X.base cl k 0 g) (room : Room k X.A) (gd : X.A.guards = some []) (tk : Takes X W) (hN : X.N[i]? = some x) (hv : Vis X.env.scope x) (nd : (x == ("__debug__" : Str)) = false) (ncd : (x == ("__classdict__" : Str)) = false) : SO X cl W (.Call (.Name x p) [] [] pos) (usrV i 0 g []) := by
  obtain ⟨fd, od, oc, sl, ps, ho, F, bs⟩ := h
  refine ⟨fun pins s σ H Q I q => ?_⟩
  obtain ⟨hs, q⟩ := usrV_ok q
  refine wpAny_Call_Name_kw (thn ((pe_var (pos := p) hN hv nd ncd).run pins s σ H (fun v H1 => v = .ref cl.fn ∧ H1 = H) I ⟨.ref cl.fn, hs, rfl, rfl⟩) fun u s1 ⟨v, H1, I1, r1, q1⟩ => ?_)
  obtain ⟨rfl, rfl⟩ := q1
  cases r1
  exact PySem.W.callWith_F0 ⟨_, _, _, _, (I1.bs _ _ ho).1⟩ (here_fn (us := []) F room gd bs tk I1 .nil q)
end
theorem tab_uniq {T : List NTab} (nd : (T.map (·.1)).Nodup) {P : Addr} {q : Nat → Nat → Str} (h : (P, q) ∈ T) : ∀ p ∈ T, p.1 = P → p.2 = q := by
  intro p hp e
  induction T with
  | nil => cases h
  | cons t T ih =>
    rw [List.map_cons, List.nodup_cons] at nd
    rcases List.mem_cons.mp h with h1 | h1 <;> rcases List.mem_cons.mp hp with h2 | h2
    · subst h1; subst h2; rfl
    · subst h1; exact absurd (List.mem_map.mpr ⟨p, h2, e⟩) nd.1
    · subst h2; exact absurd (List.mem_map.mpr ⟨(P, q), h1, e.symm⟩) nd.1
    · exact ih nd.2 h1 h2
theorem mkOk_of {K : PySem.W.Frag} {cs : List (Addr × Addr)} {T : List NTab} {q : Str} {f c P : Addr} (hc : cdOf K f = some (.ref c)) (hm : (c, P) ∈ cs) (hT : (P, fun _ _ => q) ∈ T) (nd : (T.map (·.1)).Nodup) (cdv : Value) (h : cdOf K f = some cdv) : MkOk cs T q cdv := by
  rw [hc] at h
  cases h
  exact ⟨c, P, rfl, hm, ⟨_, hT, rfl⟩, tab_uniq nd hT⟩
def lfrs (a : Scope) (fr : List Str) : Bool := fr.all fun y => decide ((y, NameKind.free) ∈ a.names)
theorem lfrs_ok {a : Scope} {fr : List Str} (h : lfrs a fr = true) : ∀ y ∈ fr, (y, NameKind.free) ∈ a.names := by
  unfold lfrs at h
  simpa only [List.all_eq_true, decide_eq_true_eq] using h
structure LN (N : List Str) : Prop where
  nd : N.Nodup
/-- what a HO def says, from its promise at each base -/
theorem ho_mk {P : Program} {w : World} {K : PySem.W.Frag} {mg : Str → Option Value} {cs : List (Addr × Addr)} {ad : Nat → Addr} {T : List NTab} {k kh : Nat} {x : Str} {n nl : Nat} {hf : FR → FR} {g : Addr} {fd : FuncData} {ps : List Str} (hm : mg x = some (.ref g)) (kp : PySem.W.keepIn K (.ref g) = true) (bs : Binds K fd ps [])
    (h : ∀ (base : Heap) (fn : Addr) (F0 : Hp) (gc : FR), (∀ p ∈ cs, LamX.TabB base mg p.1 p.2) → HeldOk P w K mg base ⟨ad, fn, F0, T⟩ kh nl gc → FnG P w K mg base k g fd ps (spOf K ⟨ad, fn, F0, T⟩ n (hf gc))) : HoOk P w K mg cs ad T k kh x n nl hf :=
  ⟨g, hm, kp, fun base fn F0 gc tb hd => ⟨fd, ps, h base fn F0 gc tb hd, bs⟩⟩
end PF

namespace PF
open PySem PySem.Spec L2
section
variable {α : Type} {b : Bn} {e : En → R (D × Bool)} {c : En → R Bool} {vs : List Nat} {it : En → R (List D)} {ρ ρ1 ρw : En}
theorem lc_go {enc g : α → D} {l : List α} (hit : it ρ = .ok (l.map enc) ρ1) (hw : wipeE ρ1 vs = ρw) (h : ∀ x ∈ l, turn b e vs (enc x) ρw = .ok (g x) ρw) (hl : l.length ≤ 1000000) (hb : backE vs ρ1 ρw = ρ1) :
    lcD it b yesT e vs ρ = .ok (.lst (l.map g), true) ρ1 := by
  subst hw
  have q := lc_map (it := fun _ => .ok (l.map enc) ρ1) (b := b) (e := e) (vs := vs) (ρ := ρ1) enc g l rfl hl hb h
  rw [lcD_app] at q ⊢
  rw [hit]
  exact q
/-- the test of a drawn item -/
def turnT (b : Bn) (c : En → R Bool) (d : D) (ρ : En) : R Bool := match b d ρ with
  | none => .bad
  | some ρ1 => c ρ1
theorem turnT_app {d : D} : turnT b c d ρ = match b d ρ with | none => .bad | some ρ1 => c ρ1 := id rfl
theorem lc_goF {enc g : α → D} {p : α → Bool} {ρ3 ρ4 : α → En} {l : List α} (hit : it ρ = .ok (l.map enc) ρ1) (hw : wipeE ρ1 vs = ρw) (ht : ∀ x ∈ l, turnT b c (enc x) ρw = .ok (p x) (ρ3 x)) (h : ∀ x ∈ l, p x = true → fz e (ρ3 x) = .ok (g x) (ρ4 x))
    (h3 : ∀ x, wipeE (ρ3 x) vs = ρw) (h4 : ∀ x, wipeE (ρ4 x) vs = ρw) (hl : l.length ≤ 1000000) (hb : backE vs ρ1 ρw = ρ1) :
    lcD it b c e vs ρ = .ok (.lst ((l.filter p).map g), true) ρ1 := by
  subst hw
  have q := lc_filt (it := fun _ => .ok (l.map enc) ρ1) (b := b) (c := c) (e := e) (vs := vs) (ρ := ρ1) enc g p l rfl hl hb fun x hx => by
    have t := ht x hx
    unfold turnT at t
    unfold turnF
    cases hb : b (enc x) (wipeE ρ1 vs) with
    | none => rw [hb] at t; cases t
    | some ρ2 =>
      rw [hb] at t
      dsimp only at t ⊢
      rw [t, bind_ok]
      by_cases hp : p x = true
      · rw [if_pos hp, if_pos hp, h x hx hp, bind_ok, h4]
      · rw [if_neg hp, if_neg hp, h3]
  rw [lcD_app] at q ⊢
  rw [hit]
  exact q
theorem seqD_nx' {s t : Sm} {r : R Fl} (h : s ρ = .ok .nx ρ1) (q : t ρ1 = r) : seqD s t ρ = r := by rw [seqD_app, h]; exact q
theorem seqD_rt' {s t : Sm} {d : D × Bool} (h : s ρ = .ok (.rt d) ρ1) : seqD s t ρ = .ok (.rt d) ρ1 := by rw [seqD_app, h]
theorem setF_go {i : Nat} {den : En → R (D × Bool)} {d : D} {o : Bool} {ρ2 : En} (h : den ρ = .ok (d, o) ρ1) (hp : putS i (.fr d) ρ1 = some ρ2) : setF i den ρ = .ok .nx ρ2 := by rw [setF_app, h, bindS_ok, hp]
/-- a loop whose body leaves all as it is -/
theorem for_ck {body : Sm} {enc : α → D} : ∀ {l : List α}, (∀ x ∈ l, step b body (enc x) ρ = .ok .nx ρ) → forD b body (l.map enc) ρ = .ok .nx ρ
  | [], _ => by simp [forD]
  | x :: l, h => by
    rw [List.map_cons, forD_nx (.inl (h x List.mem_cons_self))]
    exact for_ck fun y hy => h y (List.mem_cons_of_mem _ hy)
/-- a loop that appends what it takes -/
theorem for_apF {body : Sm} (enc g : α → D) (p : α → Bool) (st : List D → En) : ∀ (l : List α) (acc : List D), acc.length + l.length ≤ 1000000 → (∀ x ∈ l, ∀ acc, acc.length < 1000000 → step b body (enc x) (st acc) = .ok .nx (st (if p x = true then acc ++ [g x] else acc))) →
    forD b body (l.map enc) (st acc) = .ok .nx (st (acc ++ (l.filter p).map g))
  | [], acc, _, _ => by simp [forD]
  | x :: l, acc, h, hs => by
    simp only [List.length_cons] at h
    have h1 := hs x List.mem_cons_self acc (by omega)
    rw [List.map_cons, forD_nx (.inl h1)]
    have ih := fun acc h => for_apF enc g p st l acc h fun y hy => hs y (List.mem_cons_of_mem _ hy)
    by_cases hp : p x = true
    · rw [if_pos hp, ih _ (by simp; omega), List.filter_cons_of_pos hp]; simp
    · rw [if_neg hp, ih _ (by omega), List.filter_cons_of_neg hp]
theorem for_apA {body : Sm} (enc g : α → D) (st : List D → En) (l : List α) (acc : List D) (hl : acc.length + l.length ≤ 1000000) (hs : ∀ x ∈ l, ∀ acc, acc.length < 1000000 → step b body (enc x) (st acc) = .ok .nx (st (acc ++ [g x]))) :
    forD b body (l.map enc) (st acc) = .ok .nx (st (acc ++ l.map g)) := by
  have := for_apF (b := b) (body := body) enc g (fun _ => true) st l acc hl fun x hx acc ha => by rw [if_pos rfl]; exact hs x hx acc ha
  rw [List.filter_eq_self.mpr (fun _ _ => rfl)] at this
  exact this
theorem forS_go {body : Sm} {ds : List D} {r : R Fl} (hit : it ρ = .ok ds ρ1) (h : forD b body ds ρ1 = r) : forS it b body ρ = r := by rw [forS_app, hit]; exact h
end
theorem usrL_app {hf : FR → FR} {lg : List D → FR} {js : List Nat} {as : List (En → R (D × Bool))} {ρ : En} : usrL hf lg js as ρ = (evE as ρ).bind fun ds ρ1 => if noFnL ds = true then (match capsOf ρ1 js with
      | some cs => match hf (lg cs) (ds.map Sl.fr ++ [.fr .fnv]) with
        | .ok r _ => if noFn r.1 = true then .ok r ρ1 else .bad
        | .ex x _ => if noFnF x.fs = true then .ex x ρ1 else .bad
        | .bad => .bad
      | none => .bad) else .bad := id rfl
theorem usrL_go {hf : FR → FR} {lg : List D → FR} {js : List Nat} {as : List (En → R (D × Bool))} {ρ ρ1 ρ2 : En} {ds cs : List D} {r : D × Bool} (ha : evE as ρ = .ok ds ρ1) (hn : noFnL ds = true) (hc : capsOf ρ1 js = some cs) (h : hf (lg cs) (ds.map Sl.fr ++ [.fr .fnv]) = .ok r ρ2) (hr : noFn r.1 = true) :
    usrL hf lg js as ρ = .ok r ρ1 := by
  rw [usrL_app, ha, bind_ok, if_pos hn, hc]
  dsimp only
  rw [h]
  dsimp only
  rw [if_pos hr]
theorem lamD_app {m : Nat} {den : En → R (D × Bool)} {cs : List D} {as : En} : lamD m den cs as = if allFr as = true then
    (match den (as ++ (cs.map Sl.fr ++ List.replicate (m - as.length - cs.length) .un)) with
    | .ok d ρ => .ok d (keepL as ρ)
    | .ex x ρ => .ex x (keepL as ρ)
    | .bad => .bad) else .bad := id rfl
theorem lamD_go {m : Nat} {den : En → R (D × Bool)} {cs : List D} {as ρ : En} {d : D × Bool} (hf : allFr as = true) (h : den (as ++ (cs.map Sl.fr ++ List.replicate (m - as.length - cs.length) .un)) = .ok d ρ) : lamD m den cs as = .ok d (keepL as ρ) := by
  rw [lamD_app, if_pos hf, h]
@[simp] theorem allFr_nil : allFr [] = true := id rfl
@[simp] theorem allFr_cons {d : D} {r : En} : allFr (.fr d :: r) = allFr r := id rfl
@[simp] theorem caps_nil {ρ : En} : capsOf ρ [] = some [] := id rfl
@[simp] theorem caps_cons {ρ : En} {j : Nat} {js : List Nat} : capsOf ρ (j :: js) = match ρ[j]? with
    | some (.fr d) => if noFn d = true then (capsOf ρ js).map (d :: ·) else none
    | some (.lf d) => if noFn d = true then (capsOf ρ js).map (d :: ·) else none
    | _ => none := by
  rw [capsOf] <;> (rcases ρ[j]? with _ | x) <;> first | rfl | (cases x <;> rfl)
@[simp] theorem noFn_int {i : Int} : noFn (.int i) = true := by simp [noFn]
@[simp] theorem noFn_bl {i : Bool} : noFn (.bl i) = true := by simp [noFn]
@[simp] theorem noFn_non : noFn .non = true := by simp [noFn]
@[simp] theorem noFn_str {i : Str} : noFn (.str i) = true := by simp [noFn]
@[simp] theorem noFn_opq : noFn .opq = true := by simp [noFn]
@[simp] theorem noFn_tup {xs : List D} : noFn (.tup xs) = noFnL xs := by simp [noFn]
@[simp] theorem noFn_lst {xs : List D} : noFn (.lst xs) = noFnL xs := by simp [noFn]
@[simp] theorem noFn_rdl {xs : List D} : noFn (.rdl xs) = noFnL xs := by simp [noFn]
@[simp] theorem noFn_ins {c : Nat} {fs : List (Str × D)} : noFn (.ins c fs) = noFnF fs := by simp [noFn]
@[simp] theorem noFnL_nil : noFnL [] = true := by simp [noFnL]
@[simp] theorem noFnL_cons {x : D} {xs : List D} : noFnL (x :: xs) = (noFn x && noFnL xs) := by simp [noFnL]
@[simp] theorem noFnF_nil : noFnF [] = true := by simp [noFnF]
@[simp] theorem noFnF_cons {f : Str} {x : D} {xs : List (Str × D)} : noFnF ((f, x) :: xs) = (noFn x && noFnF xs) := by simp [noFnF]
theorem noFnL_map {α : Type} {g : α → D} : ∀ {l : List α}, (∀ x ∈ l, noFn (g x) = true) → noFnL (l.map g) = true
  | [], _ => by simp
  | x :: l, h => by
    rw [List.map_cons, noFnL_cons, h x List.mem_cons_self, noFnL_map fun y hy => h y (List.mem_cons_of_mem _ hy)]; rfl
@[simp] theorem noFnL_iL {l : List Int} : noFnL (iL l) = true := noFnL_map fun _ _ => noFn_int
@[simp] theorem noFn_rD {l : List Int} : noFn (rD l) = true := by simp [rD]
@[simp] theorem usrV_app {i n : Nat} {g : FR} {as : List Opd} {ρ : En} : usrV i n g as ρ = match ρ[i]? with | some (.fr .fnv) => usr n g as ρ | _ => .bad := id rfl
end PF

namespace PF
open PySem PySem.Spec L2 PyProof.Rows
section
variable {α : Type} [DecidableEq α]
/-- each once -/
def dd : List α → List α
  | [] => []
  | x :: l => if x ∈ l then dd l else x :: dd l
theorem mem_dd {x : α} : ∀ {l : List α}, x ∈ dd l ↔ x ∈ l
  | [] => Iff.rfl
  | y :: l => by
    unfold dd
    have ih := mem_dd (x := x) (l := l)
    split
    · rename_i h
      rw [ih, List.mem_cons]
      exact ⟨.inr, fun z => z.elim (fun e => e ▸ h) id⟩
    · rw [List.mem_cons, List.mem_cons, ih]
theorem dd_nodup : ∀ l : List α, (dd l).Nodup
  | [] => List.nodup_nil
  | y :: l => by
    unfold dd
    split
    · exact dd_nodup l
    · rename_i h
      exact List.nodup_cons.mpr ⟨fun z => h (mem_dd.mp z), dd_nodup l⟩
theorem dd_perm {l m : List α} (n : m.Nodup) (h : ∀ x, x ∈ m ↔ x ∈ l) : m.Perm (dd l) := (List.perm_ext_iff_of_nodup n (dd_nodup l)).mpr fun x => (h x).trans mem_dd.symm
theorem fold_dd {K : Type} [DecidableEq K] [BEq K] [LawfulBEq K] : ∀ (l acc : List K), acc.Nodup → (l.foldl step_dedup acc).Nodup ∧ ∀ x, x ∈ l.foldl step_dedup acc ↔ x ∈ acc ∨ x ∈ l
  | [], acc, h => ⟨h, fun x => by simp⟩
  | y :: l, acc, h => by
    rw [List.foldl_cons]
    by_cases hy : y ∈ acc
    · have e : step_dedup acc y = acc := by unfold step_dedup; rw [if_pos (List.any_eq_true.mpr ⟨y, hy, by simp⟩)]
      rw [e]
      obtain ⟨a, b⟩ := fold_dd l acc h
      refine ⟨a, fun x => (b x).trans ?_⟩
      rw [List.mem_cons]
      constructor
      · rintro (z | z)
        · exact .inl z
        · exact .inr (.inr z)
      · rintro (z | z | z)
        · exact .inl z
        · exact .inl (z ▸ hy)
        · exact .inr z
    · have e : step_dedup acc y = acc ++ [y] := by
        unfold step_dedup
        rw [if_neg]
        simp only [List.any_eq_true, not_exists, not_and]
        intro x hx hxy
        exact hy (by rw [← beq_iff_eq.mp hxy]; exact hx)
      rw [e]
      obtain ⟨a, b⟩ := fold_dd l (acc ++ [y]) (List.nodup_append.mpr ⟨h, by simp, fun x hx z hz => by simp at hz; subst hz; exact fun q => hy (q ▸ hx)⟩)
      refine ⟨a, fun x => (b x).trans ?_⟩
      simp only [List.mem_append, List.mem_cons, List.not_mem_nil, or_false]
      constructor
      · rintro ((z | z) | z)
        · exact .inl z
        · exact .inr (.inl z)
        · exact .inr (.inr z)
      · rintro (z | z | z)
        · exact .inl (.inl z)
        · exact .inl (.inr z)
        · exact .inr z
end
theorem met_len (ns : List Int) : (firstMet (fun i => ns.getD i 0) ns.length).length = (dd ns).length := by
  have e : (List.range ns.length).map (fun i => ns.getD i 0) = ns := by
    refine List.ext_getElem (by simp) fun i h1 h2 => ?_
    simp [List.getD_eq_getElem?_getD, h2]
  unfold firstMet
  rw [e]
  obtain ⟨a, b⟩ := fold_dd ns [] List.nodup_nil
  exact (dd_perm a fun x => (b x).trans (by simp)).length_eq
def tups? : List D → Option (List (List Int))
  | [] => some []
  | .tup xs :: r => match ints? xs, tups? r with
    | some k, some ks => some (k :: ks)
    | _, _ => none
  | _ => none
theorem DenL.tups {K : PySem.W.Frag} {cl : Cl} {F : Hp} : ∀ {vs : List V} {ds : List D} {ks : List (List Int)}, DenL K cl F vs ds → tups? ds = some ks → ∃ ps : List (Addr × List Int), vs = (ps.map fun p => V.ref p.1) ∧ ps.map (·.2) = ks ∧ ∀ p ∈ ps, SqT K F p.1 (p.2.map V.int)
  | _, _, ks, .nil, h => by cases h; exact ⟨[], rfl, rfl, by simp⟩
  | _, _, ks, .cons (d := d) q t, h => by
    cases d with
    | tup xs =>
      unfold tups? at h
      split at h
      · rename_i k ks' h1 h2
        cases h
        obtain ⟨ps, rfl, rfl, h3⟩ := DenL.tups t h2
        cases q with
        | @tup a vs ds hs ht =>
          have e := ht.ints h1
          subst e
          refine ⟨(a, k) :: ps, rfl, rfl, fun p hp => ?_⟩
          rcases List.mem_cons.mp hp with rfl | hp
          · exact hs
          · exact h3 p hp
      · cases h
    | _ => simp [tups?] at h
def lenS (ds : List D) : Option (D × Bool) := match ints? ds with
  | some ns => if ns.length ≤ 4000 then some (.int (dd ns).length, false) else none
  | none => match tups? ds with
    | some ks => if ks.length < 64 then some (.int (dd ks).length, false) else none
    | none => none
def fLenSet : D → Option (D × Bool)
  | .lst ds => lenS ds
  | .rdl ds => lenS ds
  | .tup ds => match ints? ds with
    | some ns => if ns.length ≤ 4000 then some (.int (dd ns).length, false) else none
    | none => none
  | _ => none
def rLS (K : PySem.W.Frag) : V → Hp → VK → Prop := fun x H Q => (∃ l ns, x = .ref l ∧ SqL K H l (ns.map V.int) ∧ ns.length ≤ 4000 ∧ Q (.int (dd ns).length) H) ∨ (∃ l ns, x = .ref l ∧ SqT K H l (ns.map V.int) ∧ ns.length ≤ 4000 ∧ Q (.int (dd ns).length) H) ∨
  ∃ (l : Addr) (ps : List (Addr × List Int)), x = .ref l ∧ SqL K H l (ps.map fun p => V.ref p.1) ∧ (∀ p ∈ ps, SqT K H p.1 (p.2.map V.int)) ∧ ps.length < 64 ∧ Q (.int (dd (ps.map (·.2))).length) H
theorem DenL.isRefs {K : PySem.W.Frag} {F H : Hp} (le : Le F H) {ps : List (Addr × List Int)} (h : ∀ p ∈ ps, SqT K F p.1 (p.2.map V.int)) : ∀ p ∈ ps, SqT K H p.1 (p.2.map V.int) := fun p hp => le.sqT (h p hp)
theorem us_lenSet {K : PySem.W.Frag} {cl : Cl} : UnS K cl (rLS K) fLenSet := fun F H x a c o Q le va e q => by
  have lst : ∀ {l : Addr} {vs : List V} {ds : List D}, SqL K H l vs → DenL K cl F vs ds → lenS ds = some (c, o) → rLS K (.ref l) H Q := fun {l vs ds} hl t e => by
    unfold lenS at e
    split at e
    · rename_i ns hn
      split at e
      · rename_i hz
        cases e
        have := t.ints hn
        subst this
        exact .inl ⟨l, ns, rfl, hl, hz, q F H _ (Grow.refl le) (.int _)⟩
      · cases e
    · split at e
      · rename_i ks hk
        split at e
        · rename_i hz
          cases e
          obtain ⟨ps, rfl, rfl, h3⟩ := t.tups hk
          exact .inr (.inr ⟨l, ps, rfl, hl, DenL.isRefs le h3, by simpa using hz, q F H _ (Grow.refl le) (.int _)⟩)
        · cases e
      · cases e
  unfold fLenSet at e
  split at e
  · obtain ⟨l, vs, rfl, h1, t⟩ := va.lst le
    exact lst (SqL.val h1) t e
  · obtain ⟨l, vs, rfl, h1, t⟩ := va.rdl le
    exact lst h1 t e
  · obtain ⟨l, vs, rfl, _, h1, t⟩ := va.tup le
    split at e
    · rename_i ns hn
      split at e
      · rename_i hz
        cases e
        have := t.ints hn
        subst this
        exact .inr (.inl ⟨l, ns, rfl, h1, hz, q F H _ (Grow.refl le) (.int _)⟩)
      · cases e
    · cases e
  · cases e
section
variable {X : Cx} {cl : Cl} {W : WX}
theorem setR_len {w : World} {h : Heap} {a : Addr} {ns : List Int} {c : Nat} (R : SetR w h a (fun j => decide (j ∈ ns)) c) : c = (dd ns).length := by
  obtain ⟨o, es, ep, t, _, _, _, _, nd, mem, _, _, hn, _⟩ := R
  have := (dd_perm (l := ns) nd fun x => (mem x).symm.trans (by simp)).length_eq
  simpa [← hn] using this
theorem pe_lenSet {a : Expr} {ta : TE} {p p2 q pos : Pos} (hc : X.calm = true) (hu : X.A.units + 65 < cLine) (hg : Gl X "len") (hm : X.mg "len" = none) (hg2 : Gl X "set") (hm2 : X.mg "set" = none) (ha : PE X a ta) (na : starEach [a] X.env = (false, eval a X.env) :: starEach [] X.env) :
    PE X (.Call (.Name "len" p) [.Call (.Name "set" p2) [a] [] q] [] pos) (tUn (rLS X.K) ta) := by
  refine ⟨fun pins s σ H Q I h => ?_⟩
  refine Call_ (ld_blt I hg hm boot_len (PyProof.Rows.callWith_builtin1 (PyProof.Rows.args_cons ?_ rfl) rfl rfl))
  refine Call_ (ld_blt I hg2 hm2 boot_set (PyProof.Rows.callWith_type1 (PyProof.Rows.args_cons (thn (ha.run pins s σ H _ I h) fun v s1 ⟨x, H1, I1, r1, q1⟩ => PyProof.Rows.args_nil ?_) na) na rfl))
  rcases q1 with ⟨l, ns, rfl, hq, hl, q1⟩ | ⟨l, ns, rfl, hq, hl, q1⟩ | ⟨l, ps, rfl, hq, hk, hl, q1⟩
  · cases r1
    obtain ⟨its, r, pl, hz⟩ := I1.list hq
    have hlen : its.toArray.size = ns.length := by rw [List.size_toArray, ← r.length, List.length_map]
    refine call_set_list (I1.ok.hd hc) pl.isList (ns := ns) (by simpa using r.ints) (by rw [hlen]; unfold scanBound; omega) fun h' tk hS hk => PyProof.Rows.args_nil ?_
    rw [hlen, met_len] at hS
    obtain ⟨o, es, ep, t, ho, hex, hd, _, _, hb, hf, hn⟩ := hS
    have I2 : Inv X pins σ H1 { s1 with heap := h', toks := tk } := I1.kept fun b o e => hk b o (Heap.lt_size e) e
    exact call_len_set ho hex hd hf (by unfold scanBound at hb; omega) ⟨.int (dd ns).length, H1, I2.tok _, ⟨_, by rw [hn]⟩, q1⟩
  · cases r1
    obtain ⟨its, r, ⟨o, ho, hco, n, hd⟩, _⟩ := I1.tuple hq
    refine call_set_tupI (w := X.w) ns (I1.ok.hd hc) ⟨o, ho, hco, n, hd⟩ (by simpa using r.ints) (by unfold scanBound; omega) fun h' tk c hR hle hk => PyProof.Rows.args_nil ?_
    rw [setR_len hR] at hR
    obtain ⟨o, es, ep, t, ho, hex, hd, _, _, hb, hf, hn⟩ := SetR.setOf (P := X.prog) hR
    have I2 : Inv X pins σ H1 { s1 with heap := h', toks := tk } := I1.kept fun b o e => hk b o e
    exact call_len_set ho hex hd hf (by unfold scanBound at hb; omega) ⟨.int (dd ns).length, H1, I2.tok _, ⟨_, by rw [hn]⟩, q1⟩
  · cases r1
    obtain ⟨its, r, pl, hz⟩ := I1.list hq
    refine call_set_tups (P := X.prog) (w := X.w) ps (I1.ok.hd hc) pl.isList (by simpa using refs_of_vals r) (fun p hp => I1.isT (hk p hp)) hl (by omega) fun h' tk L es ep t R g kp => PyProof.Rows.args_nil ?_
    obtain ⟨o, ho, hex, hd⟩ := R.ob
    have hn : es.size = (dd (ps.map (·.2))).length := by
      rw [SetTR.size (s := { s1 with heap := h', toks := tk }) R, ← List.length_map (f := (·.2))]
      refine (dd_perm R.nd fun x => ⟨fun hx => ?_, fun hx => ?_⟩).length_eq
      · obtain ⟨p, hp, rfl⟩ := List.mem_map.mp hx
        exact List.mem_map.mpr ⟨p, List.mem_of_mem_take (g.sub p hp), rfl⟩
      · obtain ⟨p, hp, rfl⟩ := List.mem_map.mp hx
        exact g.all p (by rw [List.take_length]; exact hp)
    have I2 : Inv X pins σ H1 { s1 with heap := h', toks := tk } := I1.kept fun b o e => kp b o e
    have := R.few
    exact call_len_set ho hex hd (SetTR.fits (s := { s1 with heap := h', toks := tk }) R) (by rw [SetTR.size (s := { s1 with heap := h', toks := tk }) R]; omega) ⟨.int (dd (ps.map (·.2))).length, H1, I2.tok _, ⟨_, by rw [hn]⟩, q1⟩
theorem so_lenSet {a : Expr} {o : Opd} {p p2 q pos : Pos} (hc : X.calm = true) (hu : X.A.units + 65 < cLine) (hg : Gl X "len") (hm : X.mg "len" = none) (hg2 : Gl X "set") (hm2 : X.mg "set" = none) (ha : SP X cl W a o) (na : starEach [a] X.env = (false, eval a X.env) :: starEach [] X.env) :
    SO X cl W (.Call (.Name "len" p) [.Call (.Name "set" p2) [a] [] q] [] pos) (una fLenSet o) := pe_weak (pe_lenSet hc hu hg hm hg2 hm2 ha na) fun σ H Q h => una_ok us_lenSet h
end
@[simp] theorem fLenSet_ints {l : List Int} (h : l.length ≤ 4000) : fLenSet (.lst (iL l)) = some (.int (dd l).length, false) := by
  simp only [fLenSet, lenS, ints_iL, if_pos h]
@[simp] theorem fLenSet_tup {l : List Int} (h : l.length ≤ 4000) : fLenSet (.tup (iL l)) = some (.int (dd l).length, false) := by
  simp only [fLenSet, ints_iL, if_pos h]
theorem tups_map : ∀ ks : List (List Int), tups? (ks.map rD) = some ks
  | [] => rfl
  | k :: ks => by simp [rD, tups?, ints_iL, tups_map ks]
theorem fLenSet_rows {ks : List (List Int)} (h : ks.length < 64) : fLenSet (.lst (ks.map rD)) = some (.int (dd ks).length, false) := by
  cases ks with
  | nil => rfl
  | cons k ks =>
    have e : ints? ((k :: ks).map rD) = none := rfl
    simp only [fLenSet, lenS, e, tups_map, if_pos h]
end PF

namespace PF
open PySem PySem.Spec L2 PyProof.Rows
mutual
def ti : D → Bool
  | .int _ => true
  | .tup xs => tiL xs
  | _ => false
def tiL : List D → Bool
  | [] => true
  | x :: xs => ti x && tiL xs
end
@[simp] theorem ti_int {i : Int} : ti (.int i) = true := by simp [ti]
@[simp] theorem ti_tup {xs : List D} : ti (.tup xs) = tiL xs := by simp [ti]
@[simp] theorem tiL_nil : tiL [] = true := by simp [tiL]
@[simp] theorem tiL_cons {x : D} {xs : List D} : tiL (x :: xs) = (ti x && tiL xs) := by simp [tiL]
@[simp] theorem tiL_iL : ∀ {l : List Int}, tiL (iL l) = true
  | [] => by simp
  | a :: l => by simp [tiL_iL (l := l)]
@[simp] theorem ti_rD {l : List Int} : ti (rD l) = true := by simp [rD]
mutual
theorem ti_plain : ∀ {a : D}, ti a = true → plain a = true
  | .int _, _ => by simp [plain]
  | .tup xs, h => by simp only [plain]; exact tiL_plain (by simpa using h)
  | .non, h | .bl _, h | .str _, h | .lst _, h | .rdl _, h | .ins _ _, h | .opq, h | .fnv, h => by simp [ti] at h
theorem tiL_plain : ∀ {a : List D}, tiL a = true → plainL a = true
  | [], _ => by simp [plainL]
  | x :: xs, h => by
    simp only [tiL, Bool.and_eq_true] at h
    simp [plainL, ti_plain h.1, tiL_plain h.2]
end
open PySem.W in
mutual
theorem toks_inj : ∀ {a b : D} {r s : List (Int ⊕ List Nat)}, ti a = true → ti b = true → alike (toPy a) (toPy b) = true → keyToks (toPy a) ++ r = keyToks (toPy b) ++ s → a = b ∧ r = s
  | .int i, .int j, r, s, _, _, _, e => by
    simp only [toPy, keyToks, List.cons_append, List.nil_append, List.cons.injEq, Sum.inl.injEq] at e
    exact ⟨by rw [e.1], e.2⟩
  | .tup xs, .tup ys, r, s, ha, hb, al, e => by
    simp only [toPy, keyToks, alike] at e al
    obtain ⟨h1, h2⟩ := toksL_inj (by simpa using ha) (by simpa using hb) al e
    exact ⟨by rw [h1], h2⟩
  | .int _, .tup _, _, _, _, _, al, _ => by simp [toPy, alike] at al
  | .tup _, .int _, _, _, _, _, al, _ => by simp [toPy, alike] at al
  | .non, _, _, _, h, _, _, _ | .bl _, _, _, _, h, _, _, _ | .str _, _, _, _, h, _, _, _ | .lst _, _, _, _, h, _, _, _ | .rdl _, _, _, _, h, _, _, _ | .ins _ _, _, _, _, h, _, _, _ | .opq, _, _, _, h, _, _, _ | .fnv, _, _, _, h, _, _, _ => by simp [ti] at h
  | .int _, .non, _, _, _, h, _, _ | .int _, .bl _, _, _, _, h, _, _ | .int _, .str _, _, _, _, h, _, _ | .int _, .lst _, _, _, _, h, _, _ | .int _, .rdl _, _, _, _, h, _, _ | .int _, .ins _ _, _, _, _, h, _, _ | .int _, .opq, _, _, _, h, _, _ | .int _, .fnv, _, _, _, h, _, _ => by simp [ti] at h
  | .tup _, .non, _, _, _, h, _, _ | .tup _, .bl _, _, _, _, h, _, _ | .tup _, .str _, _, _, _, h, _, _ | .tup _, .lst _, _, _, _, h, _, _ | .tup _, .rdl _, _, _, _, h, _, _ | .tup _, .ins _ _, _, _, _, h, _, _ | .tup _, .opq, _, _, _, h, _, _ | .tup _, .fnv, _, _, _, h, _, _ => by simp [ti] at h
theorem toksL_inj : ∀ {a b : List D} {r s : List (Int ⊕ List Nat)}, tiL a = true → tiL b = true → alikeAll (toPyL a) (toPyL b) = true → keyToksAll (toPyL a) ++ r = keyToksAll (toPyL b) ++ s → a = b ∧ r = s
  | [], [], r, s, _, _, _, e => ⟨rfl, by simpa [toPyL, keyToksAll] using e⟩
  | [], y :: ys, r, s, _, _, _, e => by simp [toPyL, keyToksAll] at e
  | x :: xs, [], r, s, _, _, _, e => by simp [toPyL, keyToksAll] at e
  | x :: xs, y :: ys, r, s, ha, hb, al, e => by
    simp only [tiL, Bool.and_eq_true] at ha hb
    simp only [toPyL, alikeAll, Bool.and_eq_true] at al
    simp only [toPyL, keyToksAll, List.cons_append, List.append_assoc, List.cons.injEq, true_and] at e
    obtain ⟨h1, h2⟩ := toks_inj ha.1 hb.1 al.1 e
    obtain ⟨h3, h4⟩ := toksL_inj ha.2 hb.2 al.2 h2
    exact ⟨by rw [h1, h3], h4⟩
end
/-- alike data of ints and tuples -/
def tiAll (ds : List D) : Bool := ds.all fun a => ti a && decide ((toPy a).depth ≤ 62) && ds.all fun b => PySem.W.alike (toPy a) (toPy b)
def ltD (a b : D) : Bool := PySem.W.dataLt (toPy a) (toPy b)
theorem toPy_inj {a b : D} (ha : ti a = true) (hb : ti b = true) (al : PySem.W.alike (toPy a) (toPy b) = true) (e : toPy a = toPy b) : a = b := (toks_inj (r := []) (s := []) ha hb al (by rw [e])).1
def minT : List D → Option D
  | [] => none
  | x :: xs => if tiAll (x :: xs) = true then some (xs.foldl (fun a y => if ltD y a = true then y else a) x) else none
def maxT : List D → Option D
  | [] => none
  | x :: xs => if tiAll (x :: xs) = true then some (xs.foldl (fun a y => if ltD a y = true then y else a) x) else none
theorem best_mem {α : Type} (f : α → α → Bool) : ∀ (xs : List α) (x : α), xs.foldl (fun a y => if f y a = true then y else a) x ∈ x :: xs
  | [], x => by simp
  | y :: ys, x => by
    rw [List.foldl_cons]
    have := best_mem f ys (if f y x = true then y else x)
    rcases List.mem_cons.mp this with h | h
    · rw [h]
      split
      · simp
      · simp
    · exact List.mem_cons_of_mem _ (List.mem_cons_of_mem _ h)
theorem best_map {α β : Type} (g : α → β) (f : β → β → Bool) : ∀ (xs : List α) (x : α), g (xs.foldl (fun a y => if f (g y) (g a) = true then y else a) x) = (xs.map g).foldl (fun a y => if f y a = true then y else a) (g x)
  | [], x => rfl
  | y :: ys, x => by
    rw [List.foldl_cons, List.map_cons, List.foldl_cons, best_map g f ys]
    congr 1
    split <;> rfl
theorem tiAll_at {ds : List D} (h : tiAll ds = true) {a : D} (ha : a ∈ ds) : ti a = true ∧ (toPy a).depth ≤ 62 ∧ ∀ b ∈ ds, PySem.W.alike (toPy a) (toPy b) = true := by
  unfold tiAll at h
  have := List.all_eq_true.mp h a ha
  simp only [Bool.and_eq_true, decide_eq_true_eq, List.all_eq_true] at this
  exact ⟨this.1.1, this.1.2, this.2⟩
theorem tiAll_alike {ds : List D} (h : tiAll ds = true) : PySem.W.AlikeAll (ds.map toPy) := by
  refine ⟨fun x hx y hy => ?_, fun x hx => ?_⟩
  · obtain ⟨a, ha, rfl⟩ := List.mem_map.mp hx
    obtain ⟨b, hb, rfl⟩ := List.mem_map.mp hy
    exact (tiAll_at h ha).2.2 b hb
  · obtain ⟨a, ha, rfl⟩ := List.mem_map.mp hx
    have := (tiAll_at h ha).1
    cases a <;> simp_all [toPy, ti]
theorem depthAll_le : ∀ {ds : List PyData} {n : Nat}, (∀ d ∈ ds, d.depth ≤ n) → PyData.depthAll ds ≤ n
  | [], n, _ => by simp [PyData.depthAll]
  | d :: ds, n, h => by
    simp only [PyData.depthAll]
    exact Nat.max_le.mpr ⟨h d List.mem_cons_self, depthAll_le fun e he => h e (List.mem_cons_of_mem _ he)⟩
def rBest (K : PySem.W.Frag) (best : List D → Option D) : List V → Hp → VK → Prop := fun vs H Q => ∃ (a : Addr) (ps : List (V × D)) (m : D), vs = [.ref a] ∧ (SqL K H a (ps.map (·.1)) ∨ SqT K H a (ps.map (·.1))) ∧ (∀ p ∈ ps, Dp K H p.1 (toPy p.2)) ∧ tiAll (ps.map (·.2)) = true ∧ best (ps.map (·.2)) = some m ∧ ∀ p ∈ ps, p.2 = m → Q p.1 H
section
variable {X : Cx} {cl : Cl}
theorem dpAll_of {K : PySem.W.Frag} {H : Hp} : ∀ {ps : List (V × D)}, (∀ p ∈ ps, Dp K H p.1 (toPy p.2)) → DpAll K H (ps.map (·.1)) (ps.map fun p => toPy p.2)
  | [], _ => .nil
  | p :: ps, h => .cons (h p List.mem_cons_self) (dpAll_of fun q hq => h q (List.mem_cons_of_mem _ hq))
theorem best_end {pins : List (Addr × Obj)} {σ : L2.St} {H : Hp} {s : Shared} {its : List Value} {ps : List (V × D)} {as : List Addr} {m : D} {Q : VK} (I : Inv X pins σ H s) (r : Vals (ps.map (·.1)) its) (rd : ReadsAll s.heap its (ps.map fun p => toPy p.2) as) (ht : tiAll (ps.map (·.2)) = true) (hm : m ∈ ps.map (·.2)) (q : ∀ p ∈ ps, p.2 = m → Q p.1 H)
    {i : Nat} {v : Value} {h' : Heap} {tk : Nat} {bs : List Addr} (hv : its[i]? = some v) (rv : Reads h' v (toPy m) bs) (kp : ∀ b o, s.heap.get? b = some o → h'.get? b = some o) : ∃ x H', Inv X pins σ H' { s with heap := h', toks := tk } ∧ RelV x v ∧ Q x H' := by
  obtain ⟨cs, r2, hi, _, _⟩ := PySem.W.readsAll_at rd i v hv
  rw [List.length_map] at hi
  have hp : ps[i]? = some ps[i] := List.getElem?_eq_getElem hi
  have e1 : (ps.map fun p => toPy p.2).getD i .none = toPy ps[i].2 := by rw [List.getD_eq_getElem?_getD, List.getElem?_map, hp]; rfl
  rw [e1] at r2
  have hmem : ps[i] ∈ ps := List.getElem_mem hi
  have hmem2 : ps[i].2 ∈ ps.map (·.2) := List.mem_map.mpr ⟨_, hmem, rfl⟩
  have e2 := ((Reads.keeps kp r2).unique _ _ rv).1
  have e3 := toPy_inj (tiAll_at ht hmem2).1 (tiAll_at ht hm).1 ((tiAll_at ht hmem2).2.2 _ hm) e2
  obtain ⟨u, hu, ru⟩ := r.get (show (ps.map (·.1))[i]? = some ps[i].1 by rw [List.getElem?_map, hp]; rfl)
  rw [hv] at hu
  cases hu
  exact ⟨ps[i].1, H, I.kept kp, ru, q _ hmem e3⟩
theorem cr_minT (hc : X.calm = true) (hu : X.A.units + 65 < cLine) : CallR X (.builtin "min") (rBest X.K minT) := by
  intro pins s σ H vs us Q I r h
  obtain ⟨a, ps, m, rfl, hs, hd, ht, hm, q⟩ := h
  rw [Vals.ref1 r]
  cases ps with
  | nil => cases hm
  | cons p ps =>
    have hm' : (ps.map (·.2)).foldl (fun a y => if ltD y a = true then y else a) p.2 = m := by
      simp only [List.map_cons, minT] at hm
      rw [if_pos (by simpa using ht)] at hm
      exact Option.some.inj hm
    have hmem : m ∈ (p :: ps).map (·.2) := by rw [← hm']; exact best_mem ltD _ _
    have em : PySem.W.minD (toPy p.2) (ps.map fun p => toPy p.2) = toPy m := by
      rw [← hm']
      refine Eq.symm ((best_map toPy PySem.W.dataLt (ps.map fun q : V × D => q.2) p.2).trans ?_)
      simp [PySem.W.minD, Function.comp_def]
    have dp : PyData.depthAll (toPy p.2 :: ps.map fun p => toPy p.2) ≤ 62 := depthAll_le fun d hd' => by
      have : d ∈ ((p :: ps).map (·.2)).map toPy := by simpa using hd'
      obtain ⟨e, he, rfl⟩ := List.mem_map.mp this
      exact (tiAll_at ht he).2.1
    have al := tiAll_alike ht
    rcases hs with hs | hs
    · obtain ⟨its, rv, pl, hz⟩ := I.list hs
      obtain ⟨as, rd⟩ := Dp.readsAll I _ _ _ (dpAll_of hd) rv
      exact PySem.W.min_list_data (x := toPy p.2) (xs := ps.map fun p => toPy p.2) (I.ok.hd hc) pl.isList (by simpa using rd) (by simpa [Function.comp_def] using al) (by omega) fun i v h' tk bs hv rv2 kp => best_end I rv rd ht hmem q (by simpa using hv) (by rw [← em]; exact rv2) kp
    · obtain ⟨its, rv, ⟨o, ho, hco, n, hdat⟩, _⟩ := I.tuple hs
      obtain ⟨as, rd⟩ := Dp.readsAll I _ _ _ (dpAll_of hd) rv
      exact PySem.W.min_tuple_data (x := toPy p.2) (xs := ps.map fun p => toPy p.2) (I.ok.hd hc) ⟨o, ho, hco, n, hdat⟩ (by simpa using rd) (by simpa [Function.comp_def] using al) (by omega) fun i v h' tk bs hv rv2 kp => best_end I rv rd ht hmem q (by simpa using hv) (by rw [← em]; exact rv2) kp
theorem cr_maxT (hc : X.calm = true) (hu : X.A.units + 65 < cLine) : CallR X (.builtin "max") (rBest X.K maxT) := by
  intro pins s σ H vs us Q I r h
  obtain ⟨a, ps, m, rfl, hs, hd, ht, hm, q⟩ := h
  rw [Vals.ref1 r]
  cases ps with
  | nil => cases hm
  | cons p ps =>
    have hm' : (ps.map (·.2)).foldl (fun a y => if ltD a y = true then y else a) p.2 = m := by
      simp only [List.map_cons, maxT] at hm
      rw [if_pos (by simpa using ht)] at hm
      exact Option.some.inj hm
    have hmem : m ∈ (p :: ps).map (·.2) := by rw [← hm']; exact best_mem (fun a b => ltD b a) _ _
    have em : PySem.W.maxD (toPy p.2) (ps.map fun p => toPy p.2) = toPy m := by
      rw [← hm']
      refine Eq.symm ((best_map toPy (fun a b => PySem.W.dataLt b a) (ps.map fun q : V × D => q.2) p.2).trans ?_)
      simp [PySem.W.maxD, Function.comp_def]
    have dp : PyData.depthAll (toPy p.2 :: ps.map fun p => toPy p.2) ≤ 62 := depthAll_le fun d hd' => by
      have : d ∈ ((p :: ps).map (·.2)).map toPy := by simpa using hd'
      obtain ⟨e, he, rfl⟩ := List.mem_map.mp this
      exact (tiAll_at ht he).2.1
    have al := tiAll_alike ht
    rcases hs with hs | hs
    · obtain ⟨its, rv, pl, hz⟩ := I.list hs
      obtain ⟨as, rd⟩ := Dp.readsAll I _ _ _ (dpAll_of hd) rv
      exact PySem.W.max_list_data (x := toPy p.2) (xs := ps.map fun p => toPy p.2) (I.ok.hd hc) pl.isList (by simpa using rd) (by simpa [Function.comp_def] using al) (by omega) fun i v h' tk bs hv rv2 kp => best_end I rv rd ht hmem q (by simpa using hv) (by rw [← em]; exact rv2) kp
    · obtain ⟨its, rv, ⟨o, ho, hco, n, hdat⟩, _⟩ := I.tuple hs
      obtain ⟨as, rd⟩ := Dp.readsAll I _ _ _ (dpAll_of hd) rv
      exact PySem.W.max_tuple_data (x := toPy p.2) (xs := ps.map fun p => toPy p.2) (I.ok.hd hc) ⟨o, ho, hco, n, hdat⟩ (by simpa using rd) (by simpa [Function.comp_def] using al) (by omega) fun i v h' tk bs hv rv2 kp => best_end I rv rd ht hmem q (by simpa using hv) (by rw [← em]; exact rv2) kp
/-- of ints as before, else of tuples -/
def fBest (f : List D → Option (D × Bool)) (best : List D → Option D) : List D → Option (D × Bool)
  | [d] => match f [d] with
    | some r => some r
    | none => match items? d with
      | some ds => if tiAll ds = true then (best ds).map (·, false) else none
      | none => none
  | ds => f ds
theorem callK_best {g : Value} {f : List D → Option (D × Bool)} {best : List D → Option D} (h1 : CallK X cl g f) (h2 : CallR X g (rBest X.K best)) : CallK X cl g (fBest f best) := by
  obtain ⟨r, hr, hs⟩ := h1
  refine ⟨_, hr.or h2, fun F H xs as c o Q le va e q => ?_⟩
  rcases as with _ | ⟨d, _ | ⟨d2, r⟩⟩
  · exact .inl (hs F H xs _ c o Q le va e q)
  · cases hf : f [d] with
    | some r' =>
      simp only [fBest, hf] at e
      cases e
      exact .inl (hs F H xs _ c o Q le va hf q)
    | none =>
      simp only [fBest, hf] at e
      cases hd : items? d with
      | none => rw [hd] at e; cases e
      | some ds =>
        rw [hd] at e
        dsimp only at e
        split at e
        case isFalse => cases e
        rename_i ht
        cases hb : best ds with
        | none => rw [hb] at e; cases e
        | some m =>
          rw [hb] at e; cases e
          obtain ⟨v, rfl, hv⟩ := va.one
          obtain ⟨a, vs, rfl, hs2, t⟩ : ∃ a vs, v = .ref a ∧ (SqL X.K H a vs ∨ SqT X.K H a vs) ∧ DenL X.K cl F vs ds := by
            cases d with
            | lst xs => cases hd; obtain ⟨a, vs, e, h, t⟩ := hv.lst le; exact ⟨a, vs, e, .inl (SqL.val h), t⟩
            | rdl xs => cases hd; obtain ⟨a, vs, e, h, t⟩ := hv.rdl le; exact ⟨a, vs, e, .inl h, t⟩
            | tup xs => cases hd; obtain ⟨a, vs, e, _, h, t⟩ := hv.tup le; exact ⟨a, vs, e, .inr h, t⟩
            | _ => cases hd
          obtain ⟨ps, rfl, rfl, hp⟩ := t.pairs
          refine .inr ⟨a, ps, c, rfl, hs2, fun p hp' => ?_, ht, hb, fun p hp' e => ?_⟩
          · have := (tiAll_at ht (List.mem_map.mpr ⟨p, hp', rfl⟩)).1
            exact Vw.dp le (ti_plain this) (Or.inl (hp p hp'))
          · exact q F H _ (Grow.refl le) (by subst e; exact hp p hp')
  · exact .inl (hs F H xs _ c o Q le va e q)
end
abbrev fMin2 : List D → Option (D × Bool) := fBest fMin minT
abbrev fMax2 : List D → Option (D × Bool) := fBest fMax maxT
theorem callK_min2 {X : Cx} {cl : Cl} (hc : X.calm = true) (hu : X.A.units + 65 < cLine) : CallK X cl (.builtin "min") fMin2 := callK_best (callK_min hc) (cr_minT hc hu)
theorem callK_max2 {X : Cx} {cl : Cl} (hc : X.calm = true) (hu : X.A.units + 65 < cLine) : CallK X cl (.builtin "max") fMax2 := callK_best (callK_max hc) (cr_maxT hc hu)
end PF

namespace PF
open PySem PySem.Spec L2
theorem leD_trans {a b c : D} (h : leD a b = true) (g : leD b c = true) : leD a c = true := (PySem.W.sortLe_total (PyProof.Rows.listOrd PyProof.Rows.itemOrd) false fun d => PySem.W.keyToks (toPy d)).trans a b c h g
theorem leD_total (a b : D) : (leD a b || leD b a) = true := by
  rw [Bool.or_eq_true]
  exact (PySem.W.sortLe_total (PyProof.Rows.listOrd PyProof.Rows.itemOrd) false fun d => PySem.W.keyToks (toPy d)).total a b
theorem ltD_le (a b : D) : ltD a b = !leD b a := by
  show PyProof.Rows.lexLt PyProof.Rows.itemOrd _ _ = !!_
  rw [Bool.not_not]
theorem leD_refl (a : D) : leD a a = true := by simpa using leD_total a a
theorem leD_anti {a b : D} (ha : ti a = true) (hb : ti b = true) (al : PySem.W.alike (toPy a) (toPy b) = true) (h : leD a b = true) (g : leD b a = true) : a = b := by
  have h1 : PyProof.Rows.lexLt PyProof.Rows.itemOrd (PySem.W.keyToks (toPy b)) (PySem.W.keyToks (toPy a)) = false := by
    have : (!PyProof.Rows.lexLt PyProof.Rows.itemOrd (PySem.W.keyToks (toPy b)) (PySem.W.keyToks (toPy a))) = true := h
    simpa using this
  have h2 : PyProof.Rows.lexLt PyProof.Rows.itemOrd (PySem.W.keyToks (toPy a)) (PySem.W.keyToks (toPy b)) = false := by
    have : (!PyProof.Rows.lexLt PyProof.Rows.itemOrd (PySem.W.keyToks (toPy a)) (PySem.W.keyToks (toPy b))) = true := g
    simpa using this
  have e := PyProof.Rows.lex_total _ _ h2 h1
  exact (toks_inj (r := []) (s := []) ha hb al (by rw [e])).1
theorem sorted_le (l : List D) : (l.mergeSort leD).Pairwise fun a b => leD a b = true := List.pairwise_mergeSort (le := leD) (fun a b c h g => leD_trans h g) (fun a b => leD_total a b) l
theorem sort_uniq {l m : List D} (ht : tiAll l = true) (p : l.Perm m) (hm : m.Pairwise fun a b => leD a b = true) : l.mergeSort leD = m := by
  have pl : (l.mergeSort leD).Perm l := List.mergeSort_perm ..
  refine (pl.trans p).eq_of_pairwise (fun a b ha hb h g => ?_) (sorted_le l) hm
  have ha' := pl.mem_iff.mp ha
  have hb' := p.mem_iff.mpr hb
  exact leD_anti (tiAll_at ht ha').1 (tiAll_at ht hb').1 ((tiAll_at ht ha').2.2 b hb') h g
theorem sort_perm {l m : List D} (ht : tiAll l = true) (p : l.Perm m) : l.mergeSort leD = m.mergeSort leD := sort_uniq ht (p.trans (List.mergeSort_perm m leD).symm) (sorted_le m)
theorem best_le : ∀ (xs : List D) (x : D), ∀ y ∈ x :: xs, leD (xs.foldl (fun a y => if ltD y a = true then y else a) x) y = true
  | [], x, y, h => by simp at h; subst h; exact leD_refl _
  | z :: zs, x, y, h => by
    rw [List.foldl_cons]
    have ih := best_le zs (if ltD z x = true then z else x)
    have h0 := ih _ List.mem_cons_self
    have key : ∀ w, leD (if ltD z x = true then z else x) w = true → leD (zs.foldl (fun a y => if ltD y a = true then y else a) (if ltD z x = true then z else x)) w = true := fun w hw => leD_trans h0 hw
    rcases List.mem_cons.mp h with rfl | h
    · refine key _ ?_
      split
      · rename_i q
        rw [ltD_le] at q
        have := leD_total z y
        simp only [Bool.not_eq_true'] at q
        rw [q, Bool.or_false] at this
        exact this
      · exact leD_refl _
    · rcases List.mem_cons.mp h with rfl | h
      · refine key _ ?_
        split
        · exact leD_refl _
        · rename_i q
          rw [ltD_le] at q
          simpa using q
      · exact ih y (List.mem_cons_of_mem _ h)
theorem minT_ok {l : List D} (h0 : l ≠ []) (ht : tiAll l = true) : ∃ m, minT l = some m ∧ m ∈ l ∧ ∀ x ∈ l, leD m x = true := by
  cases l with
  | nil => exact absurd rfl h0
  | cons x xs => exact ⟨_, by simp only [minT]; rw [if_pos ht], best_mem ltD xs x, best_le xs x⟩
theorem minT_is {l : List D} {m : D} (ht : tiAll l = true) (hm : m ∈ l) (h : ∀ x ∈ l, leD m x = true) : minT l = some m := by
  obtain ⟨k, e, hk, hle⟩ := minT_ok (List.ne_nil_of_mem hm) ht
  rw [e, leD_anti (tiAll_at ht hk).1 (tiAll_at ht hm).1 ((tiAll_at ht hk).2.2 m hm) (hle m hm) (h k hk)]
/-- the first items of pairs -/
theorem leD_fst {a b : Int} {x y : List D} (h : leD (.tup (.int a :: x)) (.tup (.int b :: y)) = true) : a ≤ b := by
  have h1 : (!PyProof.Rows.lexLt PyProof.Rows.itemOrd (PySem.W.keyToks (toPy (.tup (.int b :: y)))) (PySem.W.keyToks (toPy (.tup (.int a :: x))))) = true := h
  simp only [toPy, toPyL, PySem.W.keyToks, PySem.W.keyToksAll, List.cons_append, List.nil_append] at h1
  rw [PyProof.Rows.lex_self] at h1
  rw [Bool.not_eq_true'] at h1
  have h2 := (PyProof.Rows.lex_false.mp h1).1
  have : decide (b < a) = false := h2
  simpa using this
theorem leD_pair {a b : Int} (x y : List D) (h : a < b) : leD (.tup (.int a :: x)) (.tup (.int b :: y)) = true := by
  have t := leD_total (.tup (.int a :: x)) (.tup (.int b :: y))
  cases q : leD (.tup (.int b :: y)) (.tup (.int a :: x)) with
  | true => have := leD_fst q; omega
  | false => rw [q, Bool.or_false] at t; exact t
theorem leD_same (a : Int) (x y : List D) : leD (.tup (.int a :: x)) (.tup (.int a :: y)) = leD (.tup x) (.tup y) := by
  show (!PyProof.Rows.lexLt PyProof.Rows.itemOrd (PySem.W.keyToks (toPy (.tup (.int a :: y)))) (PySem.W.keyToks (toPy (.tup (.int a :: x))))) = !PyProof.Rows.lexLt PyProof.Rows.itemOrd (PySem.W.keyToks (toPy (.tup y))) (PySem.W.keyToks (toPy (.tup x)))
  simp only [toPy, toPyL, PySem.W.keyToks, PySem.W.keyToksAll, List.cons_append, List.nil_append]
  rw [PyProof.Rows.lex_self, PyProof.Rows.lex_self]
theorem leD_nil (x : List D) : leD (.tup []) (.tup x) = true := by
  cases x with
  | nil => exact leD_refl _
  | cons y x =>
    have t := leD_total (.tup []) (.tup (y :: x))
    cases q : leD (.tup (y :: x)) (.tup []) with
    | false => rw [q, Bool.or_false] at t; exact t
    | true =>
      have h1 : (!PyProof.Rows.lexLt PyProof.Rows.itemOrd (PySem.W.keyToks (toPy (.tup []))) (PySem.W.keyToks (toPy (.tup (y :: x))))) = true := q
      simp only [toPy, toPyL, PySem.W.keyToks, PySem.W.keyToksAll, Bool.not_eq_true'] at h1
      have h2 := (PyProof.Rows.lex_false.mp h1).1
      have : decide ((0 : Int) < 1) = false := h2
      simp at this
theorem alike_iL : ∀ a b : List Int, PySem.W.alikeAll (toPyL (iL a)) (toPyL (iL b)) = true
  | [], _ => by simp [toPyL, PySem.W.alikeAll]
  | _ :: _, [] => by simp [toPyL, PySem.W.alikeAll]
  | x :: a, y :: b => by simp [toPyL, toPy, PySem.W.alikeAll, PySem.W.alike, alike_iL a b]
theorem depth_ints : ∀ l : List Int, PyData.depthAll (toPyL (iL l)) ≤ 0
  | [] => by simp [toPyL, PyData.depthAll]
  | x :: l => by
    have := depth_ints l
    simp only [iL_cons, toPyL, toPy, PyData.depthAll, PyData.depth]
    omega
theorem tiAll_rows (ks : List (List Int)) : tiAll (ks.map rD) = true := by
  unfold tiAll
  simp only [List.all_eq_true, List.mem_map, Bool.and_eq_true, decide_eq_true_eq]
  rintro _ ⟨k, _, rfl⟩
  refine ⟨⟨ti_rD, ?_⟩, ?_⟩
  · have := depth_ints k
    simp only [rD, toPy, PyData.depth]; omega
  · rintro _ ⟨j, _, rfl⟩
    simp only [rD, toPy, PySem.W.alike]
    exact alike_iL _ _
theorem tiAll_pairs {α : Type} (f : α → Int) (g : α → List Int) (l : List α) : tiAll (l.map fun x => D.tup [.int (f x), .tup (iL (g x))]) = true := by
  unfold tiAll
  simp only [List.all_eq_true, List.mem_map, Bool.and_eq_true, decide_eq_true_eq]
  rintro _ ⟨k, _, rfl⟩
  refine ⟨⟨by simp, ?_⟩, ?_⟩
  · have := depth_ints (g k)
    simp only [toPy, toPyL, PyData.depth, PyData.depthAll]; omega
  · rintro _ ⟨j, _, rfl⟩
    simp only [toPy, toPyL, PySem.W.alike, PySem.W.alikeAll, alike_iL, Bool.and_self]
theorem fBest_f {f : List D → Option (D × Bool)} {best : List D → Option D} {d : D} {r : D × Bool} (h : f [d] = some r) : fBest f best [d] = some r := by simp only [fBest, h]
theorem fBest_t {f : List D → Option (D × Bool)} {best : List D → Option D} {d : D} {ds : List D} {m : D} (h : f [d] = none) (hd : items? d = some ds) (ht : tiAll ds = true) (hm : best ds = some m) : fBest f best [d] = some (m, false) := by simp only [fBest, h, hd, ht, if_true, hm, Option.map]
theorem srtOk_ti {ds : List D} (h : tiAll ds = true) : srtOk ds = true := by
  unfold srtOk
  simp only [List.all_eq_true, Bool.and_eq_true, decide_eq_true_eq]
  intro a ha
  obtain ⟨h1, h2, h3⟩ := tiAll_at h ha
  refine ⟨⟨⟨ti_plain h1, h2⟩, ?_⟩, fun b hb => h3 b hb⟩
  cases a <;> simp_all [ti]
theorem sorted_ti {d : D} {ds : List D} (hd : items? d = some ds) (h : tiAll ds = true) : fSorted [d] = some (.lst (ds.mergeSort leD), true) := by
  simp only [fSorted, hd, srtOk_ti h, if_true]
end PF

namespace PF.k30
open PySem PySem.Spec L2 PF
abbrev PP : Program := PySem.Challenge.pw_bittables_k30_whole_nearest_even_tallies
def top (i : Nat) : Stmt := PP.main.body.getD i (.Pass ⟨0, 0, 0, 0⟩)
theorem b_abs : bootBuiltins "abs" = some (.builtin "abs") := by first | rfl | kernel_rfl
theorem b_all : bootBuiltins "all" = some (.builtin "all") := by first | rfl | kernel_rfl
theorem b_any : bootBuiltins "any" = some (.builtin "any") := by first | rfl | kernel_rfl
theorem b_bool : bootBuiltins "bool" = some (.type "bool") := by first | rfl | kernel_rfl
theorem b_dict : bootBuiltins "dict" = some (.type "dict") := by first | rfl | kernel_rfl
theorem b_int : bootBuiltins "int" = some (.type "int") := by first | rfl | kernel_rfl
theorem b_isinstance : bootBuiltins "isinstance" = some (.builtin "isinstance") := by first | rfl | kernel_rfl
theorem b_len : bootBuiltins "len" = some (.builtin "len") := by first | rfl | kernel_rfl
theorem b_list : bootBuiltins "list" = some (.type "list") := by first | rfl | kernel_rfl
theorem b_min : bootBuiltins "min" = some (.builtin "min") := by first | rfl | kernel_rfl
theorem b_range : bootBuiltins "range" = some (.type "range") := by first | rfl | kernel_rfl
theorem b_set : bootBuiltins "set" = some (.type "set") := by first | rfl | kernel_rfl
theorem b_sorted : bootBuiltins "sorted" = some (.builtin "sorted") := by first | rfl | kernel_rfl
theorem b_sum : bootBuiltins "sum" = some (.builtin "sum") := by first | rfl | kernel_rfl
theorem b_tuple : bootBuiltins "tuple" = some (.type "tuple") := by first | rfl | kernel_rfl
theorem b_zip : bootBuiltins "zip" = some (.type "zip") := by first | rfl | kernel_rfl
def c_MOST_LETTERS : D := (.int 5)
def okA : Nat → Str → Bool := fun c f => (c == 0 && [("bits" : Str), ("letters" : Str), ("looked" : Str)].contains f)
def okC : Nat → Bool := fun c => c == 0
def isi : Tg → Tg → Option Bool := isiT okC ["bool", "dict", "int", "list", "tuple"]
abbrev TabsB (mg : Str → Option Value) (cs : List (Addr × Addr)) (base : Heap) : Prop := ∀ p ∈ cs, LamX.TabB base mg p.1 p.2
abbrev s_is_integer : Stmt := (top 1)
abbrev s_is_within : Stmt := (top 2)
abbrev s_is_tuple : Stmt := (top 3)
abbrev s_rows : Stmt := (top 10)
abbrev s_number_of : Stmt := (top 11)
abbrev s_is_bit : Stmt := (top 12)
abbrev s_are_bits : Stmt := (top 13)
abbrev s_is_count : Stmt := (top 14)
abbrev s_Table___init__ : Stmt := (inClass (top 15) 0)
abbrev s_Table___eq__ : Stmt := (inClass (top 15) 1)
abbrev s_worth_at : Stmt := (top 16)
abbrev s_rows_of : Stmt := (top 17)
abbrev s_check_alike : Stmt := (top 19)
abbrev s_summed : Stmt := (top 21)
abbrev s_spread_out : Stmt := (top 23)
abbrev s_spectrum_of : Stmt := (top 24)
abbrev s_spectrum : Stmt := (top 25)
abbrev s_even_table : Stmt := (top 26)
abbrev s_nearest_even : Stmt := (top 27)
abbrev s_flat : Stmt := (top 28)
abbrev s_tallies_of : Stmt := (top 29)
abbrev s_tallies : Stmt := (top 30)
abbrev s_met : Stmt := (top 31)
abbrev s__law_hand : Stmt := (top 33)
abbrev s__law_draw : Stmt := (top 34)
abbrev s__law_is : Stmt := (top 35)
abbrev s__law_rows : Stmt := (top 36)
abbrev s__law_number : Stmt := (top 37)
abbrev s__law_bits : Stmt := (top 38)
abbrev s__law_ones : Stmt := (top 39)
abbrev s__law_table : Stmt := (top 40)
abbrev s__law_worth : Stmt := (top 41)
abbrev s__law_turned : Stmt := (top 42)
abbrev s__law_added : Stmt := (top 43)
abbrev s__law_evens : Stmt := (top 44)
abbrev s__law_nearest : Stmt := (top 45)
abbrev s__law_met : Stmt := (top 46)
abbrev s_law : Stmt := (top 47)
structure Tab (w : World) (K : PySem.W.Frag) (mg : Str → Option Value) (cs : List (Addr × Addr)) (cl : Cl) : Prop where
  z_abs : mg "abs" = none
  z_all : mg "all" = none
  z_any : mg "any" = none
  z_bool : mg "bool" = none
  z_dict : mg "dict" = none
  z_int : mg "int" = none
  z_isinstance : mg "isinstance" = none
  z_len : mg "len" = none
  z_list : mg "list" = none
  z_min : mg "min" = none
  z_range : mg "range" = none
  z_set : mg "set" = none
  z_sorted : mg "sorted" = none
  z_sum : mg "sum" = none
  z_tuple : mg "tuple" = none
  z_zip : mg "zip" = none
  g_MOST_LETTERS : GlobOk K mg cl "MOST_LETTERS" c_MOST_LETTERS
  g_Table : mg "Table" = some (.ref (cl 0))
  att : ∀ c f, okA c f = true → Cls K (cl c) ∧ NoAttr K (cl c) f
  cls : ∀ c, okC c = true → ClsI K (cl c)
  isi : ∀ t c b, isi t c = some b → PySem.W.kitOne K (tvG cl t) (tvG cl c) = some b
structure Lv (w : World) (K : PySem.W.Frag) (mg : Str → Option Value) (base : Heap) (cl : Cl) (k : Nat) (G : Nat → FR) : Prop where
  f0 : CallOk PP w K mg base cl k "is_integer" 1 (G 0)
  f1 : CallOk PP w K mg base cl k "is_within" 3 (G 1)
  f2 : CallOk PP w K mg base cl k "is_tuple" 3 (G 2)
  f3 : CallOk PP w K mg base cl k "rows" 1 (G 3)
  f4 : CallOk PP w K mg base cl k "number_of" 1 (G 4)
  f5 : CallOk PP w K mg base cl k "is_bit" 1 (G 5)
  f6 : CallOk PP w K mg base cl k "are_bits" 2 (G 6)
  f7 : CallOk PP w K mg base cl k "is_count" 1 (G 7)
  n8 : NewOk PP w K mg base cl k "Table" 0 3 (G 8)
  e9 : EqOk PP w K mg base cl k 0 (G 9)
  f10 : CallOk PP w K mg base cl k "worth_at" 2 (G 10)
  f11 : CallOk PP w K mg base cl k "rows_of" 2 (G 11)
  f12 : CallOk PP w K mg base cl k "check_alike" 2 (G 12)
  f13 : CallOk PP w K mg base cl k "summed" 2 (G 13)
  f14 : CallOk PP w K mg base cl k "spread_out" 1 (G 14)
  f15 : CallOk PP w K mg base cl k "spectrum_of" 1 (G 15)
  f16 : CallOk PP w K mg base cl k "spectrum" 1 (G 16)
  f17 : CallOk PP w K mg base cl k "even_table" 3 (G 17)
  f18 : CallOk PP w K mg base cl k "nearest_even" 1 (G 18)
  f19 : CallOk PP w K mg base cl k "flat" 1 (G 19)
  f20 : CallOk PP w K mg base cl k "tallies_of" 1 (G 20)
  f21 : CallOk PP w K mg base cl k "tallies" 1 (G 21)
  f22 : CallOk PP w K mg base cl k "met" 2 (G 22)
  f23 : CallOk PP w K mg base cl k "_law_hand" 1 (G 23)
  f24 : CallOk PP w K mg base cl k "_law_draw" 2 (G 24)
  f25 : CallOk PP w K mg base cl k "_law_is" 2 (G 25)
  f26 : CallOk PP w K mg base cl k "_law_rows" 1 (G 26)
  f27 : CallOk PP w K mg base cl k "_law_number" 1 (G 27)
  f28 : CallOk PP w K mg base cl k "_law_bits" 2 (G 28)
  f29 : CallOk PP w K mg base cl k "_law_ones" 1 (G 29)
  f30 : CallOk PP w K mg base cl k "_law_table" 2 (G 30)
  f31 : CallOk PP w K mg base cl k "_law_worth" 2 (G 31)
  f32 : CallOk PP w K mg base cl k "_law_turned" 1 (G 32)
  f33 : CallOk PP w K mg base cl k "_law_added" 2 (G 33)
  f34 : CallOk PP w K mg base cl k "_law_evens" 1 (G 34)
  f35 : CallOk PP w K mg base cl k "_law_nearest" 2 (G 35)
  f36 : CallOk PP w K mg base cl k "_law_met" 3 (G 36)
  f37 : CallOk PP w K mg base cl k "law" 1 (G 37)
theorem sc_is_integer : FnScope ["thing"] ["thing"] (defScope s_is_integer) := ⟨rfl, rfl, rfl, by decide +kernel, rfl, by decide +kernel, by decide +kernel⟩
def d_is_integer (G G' : Nat → FR) : Sm := (retD (andV (una (fIsi okC isi (.ty "int")) (.var 0)) (notV (una (fIsi okC isi (.ty "bool")) (.var 0)))))
theorem b_is_integer {w : World} {K : PySem.W.Frag} {mg : Str → Option Value} {cs : List (Addr × Addr)} {base : Heap} {cl : Cl} {m : Nat} {G G' : Nat → FR} (T : Tab w K mg cs cl) (L1 : Lv w K mg base cl (m + 1) G) (L0 : Lv w K mg base cl m G')
    (f : Addr) (cdv : Value) (A : Around) (outer : List Env) (s : Shared) (H : Hp) (E : XK) (room : Room (m + 1) (A.deeper (PyProof.Rows.envOfC "is_integer" (defScope s_is_integer) s.heap.objs.size f cdv))) (gd : A.guards = some []) :
    SB (cxOf (L2.CX PP w) PP w K mg base ["thing"] "is_integer" (defScope s_is_integer) f cdv A outer s H E) cl (fun c d _ H => E c d H) (defBody s_is_integer) (d_is_integer G G') := by
  have hu := room_hu room; have hu66 := room_hu66 room; have tk := @takes_cx PP w K mg base ["thing"] "is_integer" (defScope s_is_integer) f cdv A outer s H E; have sc := sc_is_integer
  exact (sb_one (ss_ret (so_and (so_isi (isi := isi) (c := (.ty "int")) T.cls (fun t b h => T.isi t _ b h) rfl T.z_isinstance b_isinstance (sp_v ⟨rfl, .inl rfl, rfl, rfl⟩) (pe_bltn (v := .ty "int") rfl T.z_int b_int rfl (by decide) rfl) (.ty _) rfl rfl rfl) (so_one (so_not (so_isi (isi := isi) (c := (.ty "bool")) T.cls (fun t b h => T.isi t _ b h) rfl T.z_isinstance b_isinstance (sp_v ⟨rfl, .inl rfl, rfl, rfl⟩) (pe_bltn (v := .ty "bool") rfl T.z_bool b_bool rfl (by decide) rfl) (.ty _) rfl rfl rfl))))))
theorem o_is_integer {w : World} {K : PySem.W.Frag} {mg : Str → Option Value} {cs : List (Addr × Addr)} {base : Heap} {cl : Cl} {m : Nat} {G G' : Nat → FR} (T : Tab w K mg cs cl) (L1 : Lv w K mg base cl (m + 1) G) (L0 : Lv w K mg base cl m G') {f : Addr} {fd : FuncData}
    (F : Fun K "is_integer" "is_integer" s_is_integer f fd) : FnG PP w K mg base (m + 2) f fd ["thing"] (spOf K cl 1 (fnD 1 (d_is_integer G G'))) := fn_body F sc_is_integer (by decide) fun cdv A outer s H E room gd => b_is_integer T L1 L0 f cdv A outer s H E room gd
theorem sc_is_within : FnScope ["thing", "low", "high"] ["thing", "low", "high"] (defScope s_is_within) := ⟨rfl, rfl, rfl, by decide +kernel, rfl, by decide +kernel, by decide +kernel⟩
def d_is_within (G G' : Nat → FR) : Sm := (retD (andV (usr 1 (G 0) [.var 0]) (chain (fCmp .LtE) (fCmp .LtE) (.var 1) (.var 0) (.var 2))))
theorem b_is_within {w : World} {K : PySem.W.Frag} {mg : Str → Option Value} {cs : List (Addr × Addr)} {base : Heap} {cl : Cl} {m : Nat} {G G' : Nat → FR} (T : Tab w K mg cs cl) (L1 : Lv w K mg base cl (m + 1) G) (L0 : Lv w K mg base cl m G')
    (f : Addr) (cdv : Value) (A : Around) (outer : List Env) (s : Shared) (H : Hp) (E : XK) (room : Room (m + 1) (A.deeper (PyProof.Rows.envOfC "is_within" (defScope s_is_within) s.heap.objs.size f cdv))) (gd : A.guards = some []) :
    SB (cxOf (L2.CX PP w) PP w K mg base ["thing", "low", "high"] "is_within" (defScope s_is_within) f cdv A outer s H E) cl (fun c d _ H => E c d H) (defBody s_is_within) (d_is_within G G') := by
  have hu := room_hu room; have hu66 := room_hu66 room; have tk := @takes_cx PP w K mg base ["thing", "low", "high"] "is_within" (defScope s_is_within) f cdv A outer s H E; have sc := sc_is_within
  exact (sb_one (ss_ret (so_and (so_call L1.f0 room gd tk rfl rfl (sap_cons (sp_v ⟨rfl, .inl rfl, rfl, rfl⟩) sap_nil rfl) rfl rfl) (so_one (so_chain (op := .LtE) (op' := .LtE) hu (sp_v ⟨rfl, .inl rfl, rfl, rfl⟩) (sp_v ⟨rfl, .inl rfl, rfl, rfl⟩) (sp_v ⟨rfl, .inl rfl, rfl, rfl⟩) (by with_unfolding_all rfl))))))
theorem o_is_within {w : World} {K : PySem.W.Frag} {mg : Str → Option Value} {cs : List (Addr × Addr)} {base : Heap} {cl : Cl} {m : Nat} {G G' : Nat → FR} (T : Tab w K mg cs cl) (L1 : Lv w K mg base cl (m + 1) G) (L0 : Lv w K mg base cl m G') {f : Addr} {fd : FuncData}
    (F : Fun K "is_within" "is_within" s_is_within f fd) : FnG PP w K mg base (m + 2) f fd ["thing", "low", "high"] (spOf K cl 3 (fnD 3 (d_is_within G G'))) := fn_body F sc_is_within (by decide) fun cdv A outer s H E room gd => b_is_within T L1 L0 f cdv A outer s H E room gd
theorem sc_is_tuple : FnScope ["thing", "least", "most"] ["thing", "least", "most"] (defScope s_is_tuple) := ⟨rfl, rfl, rfl, by decide +kernel, rfl, by decide +kernel, by decide +kernel⟩
def d_is_tuple (G G' : Nat → FR) : Sm := (retD (andV (una (fIsi okC isi (.ty "tuple")) (.var 0)) (chain (fCmp .LtE) (fCmp .LtE) (.var 1) (.exp ((calD fLen [.var 0]))) (.var 2))))
theorem b_is_tuple {w : World} {K : PySem.W.Frag} {mg : Str → Option Value} {cs : List (Addr × Addr)} {base : Heap} {cl : Cl} {m : Nat} {G G' : Nat → FR} (T : Tab w K mg cs cl) (L1 : Lv w K mg base cl (m + 1) G) (L0 : Lv w K mg base cl m G')
    (f : Addr) (cdv : Value) (A : Around) (outer : List Env) (s : Shared) (H : Hp) (E : XK) (room : Room (m + 1) (A.deeper (PyProof.Rows.envOfC "is_tuple" (defScope s_is_tuple) s.heap.objs.size f cdv))) (gd : A.guards = some []) :
    SB (cxOf (L2.CX PP w) PP w K mg base ["thing", "least", "most"] "is_tuple" (defScope s_is_tuple) f cdv A outer s H E) cl (fun c d _ H => E c d H) (defBody s_is_tuple) (d_is_tuple G G') := by
  have hu := room_hu room; have hu66 := room_hu66 room; have tk := @takes_cx PP w K mg base ["thing", "least", "most"] "is_tuple" (defScope s_is_tuple) f cdv A outer s H E; have sc := sc_is_tuple
  exact (sb_one (ss_ret (so_and (so_isi (isi := isi) (c := (.ty "tuple")) T.cls (fun t b h => T.isi t _ b h) rfl T.z_isinstance b_isinstance (sp_v ⟨rfl, .inl rfl, rfl, rfl⟩) (pe_bltn (v := .ty "tuple") rfl T.z_tuple b_tuple rfl (by decide) rfl) (.ty _) rfl rfl rfl) (so_one (so_chain (op := .LtE) (op' := .LtE) hu (sp_v ⟨rfl, .inl rfl, rfl, rfl⟩) (sp_exp (so_callB callK_len rfl T.z_len b_len (sap_cons (sp_v ⟨rfl, .inl rfl, rfl, rfl⟩) sap_nil rfl) (by decide) rfl rfl rfl)) (sp_v ⟨rfl, .inl rfl, rfl, rfl⟩) (by with_unfolding_all rfl))))))
theorem o_is_tuple {w : World} {K : PySem.W.Frag} {mg : Str → Option Value} {cs : List (Addr × Addr)} {base : Heap} {cl : Cl} {m : Nat} {G G' : Nat → FR} (T : Tab w K mg cs cl) (L1 : Lv w K mg base cl (m + 1) G) (L0 : Lv w K mg base cl m G') {f : Addr} {fd : FuncData}
    (F : Fun K "is_tuple" "is_tuple" s_is_tuple f fd) : FnG PP w K mg base (m + 2) f fd ["thing", "least", "most"] (spOf K cl 3 (fnD 3 (d_is_tuple G G'))) := fn_body F sc_is_tuple (by decide) fun cdv A outer s H E room gd => b_is_tuple T L1 L0 f cdv A outer s H E room gd
theorem sc_rows : FnScope ["letters", "found", "turn", "longer", "row"] ["letters"] (defScope s_rows) := ⟨rfl, rfl, rfl, by decide +kernel, rfl, by decide +kernel, by decide +kernel⟩
def rows_b1 (G G' : Nat → FR) : Sm := (postG (fgtE [4]) (extS 3 (lstD [(bin (fOp .Add) (.var 4) (.exp ((tupD [(conD (.int 0))])))), (bin (fOp .Add) (.var 4) (.exp ((tupD [(conD (.int 1))]))))])))
def rows_b2 (G G' : Nat → FR) : Sm := (postG (fgtE [2, 3, 4]) (seqD (setD 3 (lstD [])) (seqD (forS (itV (varD 1)) (bName 4) (rows_b1 G G')) (setF 1 (varD 3)))))
def d_rows (G G' : Nat → FR) : Sm := (seqD (setF 1 (lstD [(tupD [])])) (seqD (forS (itC fRange1 [(varD 0)]) (bName 2) (rows_b2 G G')) (retV 1)))
theorem b_rows {w : World} {K : PySem.W.Frag} {mg : Str → Option Value} {cs : List (Addr × Addr)} {base : Heap} {cl : Cl} {m : Nat} {G G' : Nat → FR} (T : Tab w K mg cs cl) (L1 : Lv w K mg base cl (m + 1) G) (L0 : Lv w K mg base cl m G')
    (f : Addr) (cdv : Value) (A : Around) (outer : List Env) (s : Shared) (H : Hp) (E : XK) (room : Room (m + 1) (A.deeper (PyProof.Rows.envOfC "rows" (defScope s_rows) s.heap.objs.size f cdv))) (gd : A.guards = some []) :
    SB (cxOf (L2.CX PP w) PP w K mg base ["letters", "found", "turn", "longer", "row"] "rows" (defScope s_rows) f cdv A outer s H E) cl (fun c d _ H => E c d H) (defBody s_rows) (d_rows G G') := by
  have hu := room_hu room; have hu66 := room_hu66 room; have tk := @takes_cx PP w K mg base ["letters", "found", "turn", "longer", "row"] "rows" (defScope s_rows) f cdv A outer s H E; have sc := sc_rows
  exact (sb_cons (ss_setF (ss_set (i := 1) sc.nd rfl (.inl rfl) (.inr rfl) (so_lst (sa_cons (so_tup sa_nil) sa_nil rfl)) rfl)) (sb_cons (ss_for (passes_of (K := _) rfl) rfl (si_range1 rfl T.z_range (sa_cons (so_v ⟨rfl, .inl rfl, rfl, rfl⟩) sa_nil rfl) rfl) (pg_name (i := 2) sc.nd rfl (.inl rfl) (.inr rfl)) bg_name (sb_post (gh_fgtE [2, 3, 4]) (sb_cons (ss_set (i := 3) sc.nd rfl (.inl rfl) (.inr rfl) (so_lst sa_nil) rfl) (sb_cons (ss_for (passes_of (K := _) rfl) rfl (si_val (so_v ⟨rfl, .inl rfl, rfl, rfl⟩)) (pg_name (i := 4) sc.nd rfl (.inl rfl) (.inr rfl)) bg_name (sb_post (gh_fgtE [4]) (sb_one (ss_ext (pe_v ⟨rfl, .inl rfl, rfl, rfl⟩) (so_lst (sa_cons (so_bin (op := .Add) (sp_v ⟨rfl, .inl rfl, rfl, rfl⟩) (sp_exp (so_tup (sa_cons so_int sa_nil rfl)))) (sa_cons (so_bin (op := .Add) (sp_v ⟨rfl, .inl rfl, rfl, rfl⟩) (sp_exp (so_tup (sa_cons so_int sa_nil rfl)))) sa_nil rfl) rfl)) rfl rfl rfl rfl rfl rfl))) (fun _ => rfl)) (sb_one (ss_setF (ss_set (i := 1) sc.nd rfl (.inl rfl) (.inr rfl) (so_v ⟨rfl, .inl rfl, rfl, rfl⟩) rfl)))))) (fun _ => rfl)) (sb_one (ss_retV' ⟨rfl, .inl rfl, rfl, rfl⟩))))
theorem o_rows {w : World} {K : PySem.W.Frag} {mg : Str → Option Value} {cs : List (Addr × Addr)} {base : Heap} {cl : Cl} {m : Nat} {G G' : Nat → FR} (T : Tab w K mg cs cl) (L1 : Lv w K mg base cl (m + 1) G) (L0 : Lv w K mg base cl m G') {f : Addr} {fd : FuncData}
    (F : Fun K "rows" "rows" s_rows f fd) : FnG PP w K mg base (m + 2) f fd ["letters"] (spOf K cl 1 (fnD 5 (d_rows G G'))) := fn_body F sc_rows (by decide) fun cdv A outer s H E room gd => b_rows T L1 L0 f cdv A outer s H E room gd
theorem sc_number_of : FnScope ["row", "found", "bit"] ["row"] (defScope s_number_of) := ⟨rfl, rfl, rfl, by decide +kernel, rfl, by decide +kernel, by decide +kernel⟩
def number_of_b1 (G G' : Nat → FR) : Sm := (postG (fgtE [2]) (setF 1 (bin (fOp .Add) (.exp ((bin (fOp .Mult) (.exp ((conD (.int 2)))) (.var 1)))) (.var 2))))
def d_number_of (G G' : Nat → FR) : Sm := (seqD (setF 1 (conD (.int 0))) (seqD (forS (itV (varD 0)) (bName 2) (number_of_b1 G G')) (retV 1)))
theorem b_number_of {w : World} {K : PySem.W.Frag} {mg : Str → Option Value} {cs : List (Addr × Addr)} {base : Heap} {cl : Cl} {m : Nat} {G G' : Nat → FR} (T : Tab w K mg cs cl) (L1 : Lv w K mg base cl (m + 1) G) (L0 : Lv w K mg base cl m G')
    (f : Addr) (cdv : Value) (A : Around) (outer : List Env) (s : Shared) (H : Hp) (E : XK) (room : Room (m + 1) (A.deeper (PyProof.Rows.envOfC "number_of" (defScope s_number_of) s.heap.objs.size f cdv))) (gd : A.guards = some []) :
    SB (cxOf (L2.CX PP w) PP w K mg base ["row", "found", "bit"] "number_of" (defScope s_number_of) f cdv A outer s H E) cl (fun c d _ H => E c d H) (defBody s_number_of) (d_number_of G G') := by
  have hu := room_hu room; have hu66 := room_hu66 room; have tk := @takes_cx PP w K mg base ["row", "found", "bit"] "number_of" (defScope s_number_of) f cdv A outer s H E; have sc := sc_number_of
  exact (sb_cons (ss_setF (ss_set (i := 1) sc.nd rfl (.inl rfl) (.inr rfl) so_int rfl)) (sb_cons (ss_for (passes_of (K := _) rfl) rfl (si_val (so_v ⟨rfl, .inl rfl, rfl, rfl⟩)) (pg_name (i := 2) sc.nd rfl (.inl rfl) (.inr rfl)) bg_name (sb_post (gh_fgtE [2]) (sb_one (ss_setF (ss_set (i := 1) sc.nd rfl (.inl rfl) (.inr rfl) (so_bin (op := .Add) (sp_exp (so_bin (op := .Mult) (sp_exp so_int) (sp_v ⟨rfl, .inl rfl, rfl, rfl⟩))) (sp_v ⟨rfl, .inl rfl, rfl, rfl⟩)) rfl)))) (fun _ => rfl)) (sb_one (ss_retV' ⟨rfl, .inl rfl, rfl, rfl⟩))))
theorem o_number_of {w : World} {K : PySem.W.Frag} {mg : Str → Option Value} {cs : List (Addr × Addr)} {base : Heap} {cl : Cl} {m : Nat} {G G' : Nat → FR} (T : Tab w K mg cs cl) (L1 : Lv w K mg base cl (m + 1) G) (L0 : Lv w K mg base cl m G') {f : Addr} {fd : FuncData}
    (F : Fun K "number_of" "number_of" s_number_of f fd) : FnG PP w K mg base (m + 2) f fd ["row"] (spOf K cl 1 (fnD 3 (d_number_of G G'))) := fn_body F sc_number_of (by decide) fun cdv A outer s H E room gd => b_number_of T L1 L0 f cdv A outer s H E room gd
theorem sc_is_bit : FnScope ["thing"] ["thing"] (defScope s_is_bit) := ⟨rfl, rfl, rfl, by decide +kernel, rfl, by decide +kernel, by decide +kernel⟩
def d_is_bit (G G' : Nat → FR) : Sm := (retD (usr 3 (G 1) [.var 0, .exp ((conD (.int 0))), .exp ((conD (.int 1)))]))
theorem b_is_bit {w : World} {K : PySem.W.Frag} {mg : Str → Option Value} {cs : List (Addr × Addr)} {base : Heap} {cl : Cl} {m : Nat} {G G' : Nat → FR} (T : Tab w K mg cs cl) (L1 : Lv w K mg base cl (m + 1) G) (L0 : Lv w K mg base cl m G')
    (f : Addr) (cdv : Value) (A : Around) (outer : List Env) (s : Shared) (H : Hp) (E : XK) (room : Room (m + 1) (A.deeper (PyProof.Rows.envOfC "is_bit" (defScope s_is_bit) s.heap.objs.size f cdv))) (gd : A.guards = some []) :
    SB (cxOf (L2.CX PP w) PP w K mg base ["thing"] "is_bit" (defScope s_is_bit) f cdv A outer s H E) cl (fun c d _ H => E c d H) (defBody s_is_bit) (d_is_bit G G') := by
  have hu := room_hu room; have hu66 := room_hu66 room; have tk := @takes_cx PP w K mg base ["thing"] "is_bit" (defScope s_is_bit) f cdv A outer s H E; have sc := sc_is_bit
  exact (sb_one (ss_ret (so_call L1.f1 room gd tk rfl rfl (sap_cons (sp_v ⟨rfl, .inl rfl, rfl, rfl⟩) (sap_cons (sp_exp so_int) (sap_cons (sp_exp so_int) sap_nil rfl) rfl) rfl) rfl rfl)))
theorem o_is_bit {w : World} {K : PySem.W.Frag} {mg : Str → Option Value} {cs : List (Addr × Addr)} {base : Heap} {cl : Cl} {m : Nat} {G G' : Nat → FR} (T : Tab w K mg cs cl) (L1 : Lv w K mg base cl (m + 1) G) (L0 : Lv w K mg base cl m G') {f : Addr} {fd : FuncData}
    (F : Fun K "is_bit" "is_bit" s_is_bit f fd) : FnG PP w K mg base (m + 2) f fd ["thing"] (spOf K cl 1 (fnD 1 (d_is_bit G G'))) := fn_body F sc_is_bit (by decide) fun cdv A outer s H E room gd => b_is_bit T L1 L0 f cdv A outer s H E room gd
theorem sc_are_bits : FnScope ["thing", "many", "one"] ["thing", "many"] (defScope s_are_bits) := ⟨rfl, rfl, rfl, by decide +kernel, rfl, by decide +kernel, by decide +kernel⟩
def are_bits_e1 (G G' : Nat → FR) : En → R (D × Bool) := (usr 1 (G 5) [.var 2])
def d_are_bits (G G' : Nat → FR) : Sm := (retD (andV (usr 3 (G 2) [.var 0, .var 1, .exp ((varD 1))]) (calD fAll [.exp ((lcD (itV (varD 0)) (bName 2) yesT (are_bits_e1 G G') [2]))])))
theorem b_are_bits {w : World} {K : PySem.W.Frag} {mg : Str → Option Value} {cs : List (Addr × Addr)} {base : Heap} {cl : Cl} {m : Nat} {G G' : Nat → FR} (T : Tab w K mg cs cl) (L1 : Lv w K mg base cl (m + 1) G) (L0 : Lv w K mg base cl m G')
    (f : Addr) (cdv : Value) (A : Around) (outer : List Env) (s : Shared) (H : Hp) (E : XK) (room : Room (m + 1) (A.deeper (PyProof.Rows.envOfC "are_bits" (defScope s_are_bits) s.heap.objs.size f cdv))) (gd : A.guards = some []) :
    SB (cxOf (L2.CX PP w) PP w K mg base ["thing", "many", "one"] "are_bits" (defScope s_are_bits) f cdv A outer s H E) cl (fun c d _ H => E c d H) (defBody s_are_bits) (d_are_bits G G') := by
  have hu := room_hu room; have hu66 := room_hu66 room; have tk := @takes_cx PP w K mg base ["thing", "many", "one"] "are_bits" (defScope s_are_bits) f cdv A outer s H E; have sc := sc_are_bits
  exact (sb_one (ss_ret (so_and (so_call L1.f2 room gd tk rfl rfl (sap_cons (sp_v ⟨rfl, .inl rfl, rfl, rfl⟩) (sap_cons (sp_v ⟨rfl, .inl rfl, rfl, rfl⟩) (sap_cons (sp_exp (so_v ⟨rfl, .inl rfl, rfl, rfl⟩)) sap_nil rfl) rfl) rfl) rfl rfl) (so_one (so_callB (callK_all rfl) rfl T.z_all b_all (sap_cons (sp_exp (so_lc (own := [("one", 2)]) rfl sc.nd (si_val (so_v ⟨rfl, .inl rfl, rfl, rfl⟩)) (blkOk_by (by kernel_rfl)) (fun s H C cs fp => (pg_name (i := 2) sc.nd rfl (.inl rfl) (.inr rfl))) (fun s H C cs fp => pts_yes) (fun s H C cs fp => SO.fz (so_call L1.f5 room gd takesN rfl rfl (sap_cons (sp_v ⟨rfl, .inl rfl, rfl, rfl⟩) sap_nil rfl) rfl rfl)) bg_name (gin_name (by simp)) gmo_name (fun _ => rfl))) sap_nil rfl) (by decide) rfl rfl rfl)))))
theorem o_are_bits {w : World} {K : PySem.W.Frag} {mg : Str → Option Value} {cs : List (Addr × Addr)} {base : Heap} {cl : Cl} {m : Nat} {G G' : Nat → FR} (T : Tab w K mg cs cl) (L1 : Lv w K mg base cl (m + 1) G) (L0 : Lv w K mg base cl m G') {f : Addr} {fd : FuncData}
    (F : Fun K "are_bits" "are_bits" s_are_bits f fd) : FnG PP w K mg base (m + 2) f fd ["thing", "many"] (spOf K cl 2 (fnD 3 (d_are_bits G G'))) := fn_body F sc_are_bits (by decide) fun cdv A outer s H E room gd => b_are_bits T L1 L0 f cdv A outer s H E room gd
theorem sc_is_count : FnScope ["thing"] ["thing"] (defScope s_is_count) := ⟨rfl, rfl, rfl, by decide +kernel, rfl, by decide +kernel, by decide +kernel⟩
def d_is_count (G G' : Nat → FR) : Sm := (retD (usr 3 (G 1) [.var 0, .exp ((conD (.int 1))), .exp ((conD c_MOST_LETTERS))]))
theorem b_is_count {w : World} {K : PySem.W.Frag} {mg : Str → Option Value} {cs : List (Addr × Addr)} {base : Heap} {cl : Cl} {m : Nat} {G G' : Nat → FR} (T : Tab w K mg cs cl) (L1 : Lv w K mg base cl (m + 1) G) (L0 : Lv w K mg base cl m G')
    (f : Addr) (cdv : Value) (A : Around) (outer : List Env) (s : Shared) (H : Hp) (E : XK) (room : Room (m + 1) (A.deeper (PyProof.Rows.envOfC "is_count" (defScope s_is_count) s.heap.objs.size f cdv))) (gd : A.guards = some []) :
    SB (cxOf (L2.CX PP w) PP w K mg base ["thing"] "is_count" (defScope s_is_count) f cdv A outer s H E) cl (fun c d _ H => E c d H) (defBody s_is_count) (d_is_count G G') := by
  have hu := room_hu room; have hu66 := room_hu66 room; have tk := @takes_cx PP w K mg base ["thing"] "is_count" (defScope s_is_count) f cdv A outer s H E; have sc := sc_is_count
  exact (sb_one (ss_ret (so_call L1.f1 room gd tk rfl rfl (sap_cons (sp_v ⟨rfl, .inl rfl, rfl, rfl⟩) (sap_cons (sp_exp so_int) (sap_cons (sp_exp (so_glob (d := c_MOST_LETTERS) T.g_MOST_LETTERS rfl rfl)) sap_nil rfl) rfl) rfl) rfl rfl)))
theorem o_is_count {w : World} {K : PySem.W.Frag} {mg : Str → Option Value} {cs : List (Addr × Addr)} {base : Heap} {cl : Cl} {m : Nat} {G G' : Nat → FR} (T : Tab w K mg cs cl) (L1 : Lv w K mg base cl (m + 1) G) (L0 : Lv w K mg base cl m G') {f : Addr} {fd : FuncData}
    (F : Fun K "is_count" "is_count" s_is_count f fd) : FnG PP w K mg base (m + 2) f fd ["thing"] (spOf K cl 1 (fnD 1 (d_is_count G G'))) := fn_body F sc_is_count (by decide) fun cdv A outer s H E room gd => b_is_count T L1 L0 f cdv A outer s H E room gd
theorem sc_Table___init__ : FnScope ["self", "letters", "bits"] ["self", "letters", "bits"] (defScope s_Table___init__) := ⟨rfl, rfl, rfl, by decide +kernel, rfl, by decide +kernel, by decide +kernel⟩
def d_Table___init__ (G G' : Nat → FR) : Sm := (seqD (ifS (notT (tru (.exp (usr 1 (G 7) [.var 1])))) (fun _ => R.bad) nextD) (seqD (ifS (notT (tru (.exp (usr 2 (G 6) [.var 2, .exp ((bin (fOp .LShift) (.exp ((conD (.int 1)))) (.var 1)))])))) (fun _ => R.bad) nextD) (seqD (stD (bTup [(bFld 0 okA "letters"), (bFld 0 okA "bits")]) (tupD [(varD 1), (varD 2)])) (stD (bFld 0 okA "looked") (conD .opq)))))
theorem b_Table___init__ {w : World} {K : PySem.W.Frag} {mg : Str → Option Value} {cs : List (Addr × Addr)} {base : Heap} {cl : Cl} {m : Nat} {G G' : Nat → FR} (T : Tab w K mg cs cl) (L1 : Lv w K mg base cl (m + 1) G) (L0 : Lv w K mg base cl m G')
    (f : Addr) (cdv : Value) (A : Around) (outer : List Env) (s : Shared) (H : Hp) (E : XK) (room : Room (m + 1) (A.deeper (PyProof.Rows.envOfC "Table.__init__" (defScope s_Table___init__) s.heap.objs.size f cdv))) (gd : A.guards = some []) :
    SB (cxOf (L2.CX PP w) PP w K mg base ["self", "letters", "bits"] "Table.__init__" (defScope s_Table___init__) f cdv A outer s H E) cl (fun c d _ H => E c d H) (defBody s_Table___init__) (d_Table___init__ G G') := by
  have hu := room_hu room; have hu66 := room_hu66 room; have tk := @takes_cx PP w K mg base ["self", "letters", "bits"] "Table.__init__" (defScope s_Table___init__) f cdv A outer s H E; have sc := sc_Table___init__
  exact (sb_cons (ss_if (st_not (st_val (so_call L1.f7 room gd tk rfl rfl (sap_cons (sp_v ⟨rfl, .inl rfl, rfl, rfl⟩) sap_nil rfl) rfl rfl) (fun _ => rfl))) (sb_one (ss_bad)) sb_nil) (sb_cons (ss_if (st_not (st_val (so_call L1.f6 room gd tk rfl rfl (sap_cons (sp_v ⟨rfl, .inl rfl, rfl, rfl⟩) (sap_cons (sp_exp (so_bin (op := .LShift) (sp_exp so_int) (sp_v ⟨rfl, .inl rfl, rfl, rfl⟩))) sap_nil rfl) rfl) rfl rfl) (fun _ => rfl))) (sb_one (ss_bad)) sb_nil) (sb_cons (ss_st (so_tup (sa_cons (so_v ⟨rfl, .inl rfl, rfl, rfl⟩) (sa_cons (so_v ⟨rfl, .inl rfl, rfl, rfl⟩) sa_nil rfl) rfl)) (pg_tup rfl (pgs_cons (pg_fld (pe_v ⟨rfl, .inl rfl, rfl, rfl⟩)) (pgs_cons (pg_fld (pe_v ⟨rfl, .inl rfl, rfl, rfl⟩)) pgs_nil rfl) rfl) rfl rfl) (bg_tup (bgs_cons (bg_fld T.att) (bgs_cons (bg_fld T.att) bgs_nil)) rfl) rfl rfl rfl) (sb_one (ss_st so_dict0 (pg_fld (pe_v ⟨rfl, .inl rfl, rfl, rfl⟩)) (bg_fld T.att) rfl rfl rfl)))))
theorem o_Table___init__ {w : World} {K : PySem.W.Frag} {mg : Str → Option Value} {cs : List (Addr × Addr)} {base : Heap} {cl : Cl} {m : Nat} {G G' : Nat → FR} (T : Tab w K mg cs cl) (L1 : Lv w K mg base cl (m + 1) G) (L0 : Lv w K mg base cl m G') {f : Addr} {fd : FuncData}
    (F : Fun K "__init__" "Table.__init__" s_Table___init__ f fd) : FnG PP w K mg base (m + 2) f fd ["self", "letters", "bits"] (spOf K cl 3 (fnD 3 (d_Table___init__ G G'))) := fn_body F sc_Table___init__ (by decide) fun cdv A outer s H E room gd => b_Table___init__ T L1 L0 f cdv A outer s H E room gd
theorem sc_Table___eq__ : FnScope ["self", "other"] ["self", "other"] (defScope s_Table___eq__) := ⟨rfl, rfl, rfl, by decide +kernel, rfl, by decide +kernel, by decide +kernel⟩
def d_Table___eq__ (G G' : Nat → FR) : Sm := (retD (andV (una (fIsi okC isi (.own 0)) (.var 1)) (cmpI .Eq id (geT ((0, G' 9) :: [])) (.exp ((tupD [(una (fAtt okA "letters") (.var 0)), (una (fAtt okA "bits") (.var 0))]))) (.exp ((tupD [(una (fAtt okA "letters") (.var 1)), (una (fAtt okA "bits") (.var 1))]))))))
theorem b_Table___eq__ {w : World} {K : PySem.W.Frag} {mg : Str → Option Value} {cs : List (Addr × Addr)} {base : Heap} {cl : Cl} {m : Nat} {G G' : Nat → FR} (T : Tab w K mg cs cl) (L1 : Lv w K mg base cl (m + 1) G) (L0 : Lv w K mg base cl m G')
    (f : Addr) (cdv : Value) (A : Around) (outer : List Env) (s : Shared) (H : Hp) (E : XK) (room : Room (m + 1) (A.deeper (PyProof.Rows.envOfC "Table.__eq__" (defScope s_Table___eq__) s.heap.objs.size f cdv))) (gd : A.guards = some []) :
    SB (cxOf (L2.CX PP w) PP w K mg base ["self", "other"] "Table.__eq__" (defScope s_Table___eq__) f cdv A outer s H E) cl (fun c d _ H => E c d H) (defBody s_Table___eq__) (d_Table___eq__ G G') := by
  have hu := room_hu room; have hu66 := room_hu66 room; have tk := @takes_cx PP w K mg base ["self", "other"] "Table.__eq__" (defScope s_Table___eq__) f cdv A outer s H E; have sc := sc_Table___eq__
  exact (sb_one (ss_ret (so_and (so_isi (isi := isi) (c := (.own 0)) T.cls (fun t b h => T.isi t _ b h) rfl T.z_isinstance b_isinstance (sp_v ⟨rfl, .inl rfl, rfl, rfl⟩) (pe_glob (v := .ref (cl 0)) rfl T.g_Table rfl rfl) (.own _) rfl rfl rfl) (so_one (so_eqI hu room gd (geT_cons L0.e9 (fun _ _ h => geT_nil h)) (sp_exp (so_tup (sa_cons (so_att (ok := okA) T.att (sp_v ⟨rfl, .inl rfl, rfl, rfl⟩) rfl) (sa_cons (so_att (ok := okA) T.att (sp_v ⟨rfl, .inl rfl, rfl, rfl⟩) rfl) sa_nil rfl) rfl))) (sp_exp (so_tup (sa_cons (so_att (ok := okA) T.att (sp_v ⟨rfl, .inl rfl, rfl, rfl⟩) rfl) (sa_cons (so_att (ok := okA) T.att (sp_v ⟨rfl, .inl rfl, rfl, rfl⟩) rfl) sa_nil rfl) rfl))) (nomark _))))))
theorem o_Table___eq__ {w : World} {K : PySem.W.Frag} {mg : Str → Option Value} {cs : List (Addr × Addr)} {base : Heap} {cl : Cl} {m : Nat} {G G' : Nat → FR} (T : Tab w K mg cs cl) (L1 : Lv w K mg base cl (m + 1) G) (L0 : Lv w K mg base cl m G') {f : Addr} {fd : FuncData}
    (F : Fun K "__eq__" "Table.__eq__" s_Table___eq__ f fd) : FnG PP w K mg base (m + 2) f fd ["self", "other"] (spOf K cl 2 (fnD 2 (d_Table___eq__ G G'))) := fn_body F sc_Table___eq__ (by decide) fun cdv A outer s H E room gd => b_Table___eq__ T L1 L0 f cdv A outer s H E room gd
theorem sc_worth_at : FnScope ["table", "row"] ["table", "row"] (defScope s_worth_at) := ⟨rfl, rfl, rfl, by decide +kernel, rfl, by decide +kernel, by decide +kernel⟩
def d_worth_at (G G' : Nat → FR) : Sm := (retD (bin fIx (.exp ((una (fAtt okA "bits") (.var 0)))) (.exp ((usr 1 (G 4) [.var 1])))))
theorem b_worth_at {w : World} {K : PySem.W.Frag} {mg : Str → Option Value} {cs : List (Addr × Addr)} {base : Heap} {cl : Cl} {m : Nat} {G G' : Nat → FR} (T : Tab w K mg cs cl) (L1 : Lv w K mg base cl (m + 1) G) (L0 : Lv w K mg base cl m G')
    (f : Addr) (cdv : Value) (A : Around) (outer : List Env) (s : Shared) (H : Hp) (E : XK) (room : Room (m + 1) (A.deeper (PyProof.Rows.envOfC "worth_at" (defScope s_worth_at) s.heap.objs.size f cdv))) (gd : A.guards = some []) :
    SB (cxOf (L2.CX PP w) PP w K mg base ["table", "row"] "worth_at" (defScope s_worth_at) f cdv A outer s H E) cl (fun c d _ H => E c d H) (defBody s_worth_at) (d_worth_at G G') := by
  have hu := room_hu room; have hu66 := room_hu66 room; have tk := @takes_cx PP w K mg base ["table", "row"] "worth_at" (defScope s_worth_at) f cdv A outer s H E; have sc := sc_worth_at
  exact (sb_one (ss_ret (so_ix (sp_exp (so_att (ok := okA) T.att (sp_v ⟨rfl, .inl rfl, rfl, rfl⟩) rfl)) (sp_exp (so_call L1.f4 room gd tk rfl rfl (sap_cons (sp_v ⟨rfl, .inl rfl, rfl, rfl⟩) sap_nil rfl) rfl rfl)) (fun _ _ => rfl))))
theorem o_worth_at {w : World} {K : PySem.W.Frag} {mg : Str → Option Value} {cs : List (Addr × Addr)} {base : Heap} {cl : Cl} {m : Nat} {G G' : Nat → FR} (T : Tab w K mg cs cl) (L1 : Lv w K mg base cl (m + 1) G) (L0 : Lv w K mg base cl m G') {f : Addr} {fd : FuncData}
    (F : Fun K "worth_at" "worth_at" s_worth_at f fd) : FnG PP w K mg base (m + 2) f fd ["table", "row"] (spOf K cl 2 (fnD 2 (d_worth_at G G'))) := fn_body F sc_worth_at (by decide) fun cdv A outer s H E room gd => b_worth_at T L1 L0 f cdv A outer s H E room gd
theorem sc_rows_of : FnScope ["table", "bit", "row"] ["table", "bit"] (defScope s_rows_of) := ⟨rfl, rfl, rfl, by decide +kernel, rfl, by decide +kernel, by decide +kernel⟩
def rows_of_t1 (G G' : Nat → FR) : En → R Bool := (isB (cmpI .Eq id (geT ((0, G' 9) :: [])) (.exp ((usr 2 (G 10) [.var 0, .var 2]))) (.var 1)))
def rows_of_e1 (G G' : Nat → FR) : En → R (D × Bool) := (varD 2)
def d_rows_of (G G' : Nat → FR) : Sm := (retD (lcD (itV (usr 1 (G 3) [.exp ((una (fAtt okA "letters") (.var 0)))])) (bName 2) (rows_of_t1 G G') (rows_of_e1 G G') [2]))
theorem b_rows_of {w : World} {K : PySem.W.Frag} {mg : Str → Option Value} {cs : List (Addr × Addr)} {base : Heap} {cl : Cl} {m : Nat} {G G' : Nat → FR} (T : Tab w K mg cs cl) (L1 : Lv w K mg base cl (m + 1) G) (L0 : Lv w K mg base cl m G')
    (f : Addr) (cdv : Value) (A : Around) (outer : List Env) (s : Shared) (H : Hp) (E : XK) (room : Room (m + 1) (A.deeper (PyProof.Rows.envOfC "rows_of" (defScope s_rows_of) s.heap.objs.size f cdv))) (gd : A.guards = some []) :
    SB (cxOf (L2.CX PP w) PP w K mg base ["table", "bit", "row"] "rows_of" (defScope s_rows_of) f cdv A outer s H E) cl (fun c d _ H => E c d H) (defBody s_rows_of) (d_rows_of G G') := by
  have hu := room_hu room; have hu66 := room_hu66 room; have tk := @takes_cx PP w K mg base ["table", "bit", "row"] "rows_of" (defScope s_rows_of) f cdv A outer s H E; have sc := sc_rows_of
  exact (sb_one (ss_ret (so_lc (own := [("row", 2)]) rfl sc.nd (si_val (so_call L1.f3 room gd tk rfl rfl (sap_cons (sp_exp (so_att (ok := okA) T.att (sp_v ⟨rfl, .inr (.inl rfl), rfl, rfl⟩) rfl)) sap_nil rfl) rfl rfl)) (blkOk_by (by kernel_rfl)) (fun s H C cs fp => (pg_name (i := 2) sc.nd rfl (.inl rfl) (.inr rfl))) (fun s H C cs fp => (pts_one (st_eqI hu room gd (geT_cons L0.e9 (fun _ _ h => geT_nil h)) (sp_exp (so_call L1.f10 room gd takesN rfl rfl (sap_cons (sp_v ⟨rfl, .inr (.inl rfl), rfl, rfl⟩) (sap_cons (sp_v ⟨rfl, .inl rfl, rfl, rfl⟩) sap_nil rfl) rfl) rfl rfl)) (sp_v ⟨rfl, .inr (.inl rfl), rfl, rfl⟩) (nomark _)))) (fun s H C cs fp => SO.fz (so_v ⟨rfl, .inl rfl, rfl, rfl⟩)) bg_name (gin_name (by simp)) gmo_name (fun _ => rfl))))
theorem o_rows_of {w : World} {K : PySem.W.Frag} {mg : Str → Option Value} {cs : List (Addr × Addr)} {base : Heap} {cl : Cl} {m : Nat} {G G' : Nat → FR} (T : Tab w K mg cs cl) (L1 : Lv w K mg base cl (m + 1) G) (L0 : Lv w K mg base cl m G') {f : Addr} {fd : FuncData}
    (F : Fun K "rows_of" "rows_of" s_rows_of f fd) : FnG PP w K mg base (m + 2) f fd ["table", "bit"] (spOf K cl 2 (fnD 3 (d_rows_of G G'))) := fn_body F sc_rows_of (by decide) fun cdv A outer s H E room gd => b_rows_of T L1 L0 f cdv A outer s H E room gd
theorem sc_check_alike : FnScope ["one", "other"] ["one", "other"] (defScope s_check_alike) := ⟨rfl, rfl, rfl, by decide +kernel, rfl, by decide +kernel, by decide +kernel⟩
def d_check_alike (G G' : Nat → FR) : Sm := (ifS (isB (cmpI .NotEq not (geT ((0, G' 9) :: [])) (.exp ((una (fAtt okA "letters") (.var 0)))) (.exp ((una (fAtt okA "letters") (.var 1)))))) (fun _ => R.bad) nextD)
theorem b_check_alike {w : World} {K : PySem.W.Frag} {mg : Str → Option Value} {cs : List (Addr × Addr)} {base : Heap} {cl : Cl} {m : Nat} {G G' : Nat → FR} (T : Tab w K mg cs cl) (L1 : Lv w K mg base cl (m + 1) G) (L0 : Lv w K mg base cl m G')
    (f : Addr) (cdv : Value) (A : Around) (outer : List Env) (s : Shared) (H : Hp) (E : XK) (room : Room (m + 1) (A.deeper (PyProof.Rows.envOfC "check_alike" (defScope s_check_alike) s.heap.objs.size f cdv))) (gd : A.guards = some []) :
    SB (cxOf (L2.CX PP w) PP w K mg base ["one", "other"] "check_alike" (defScope s_check_alike) f cdv A outer s H E) cl (fun c d _ H => E c d H) (defBody s_check_alike) (d_check_alike G G') := by
  have hu := room_hu room; have hu66 := room_hu66 room; have tk := @takes_cx PP w K mg base ["one", "other"] "check_alike" (defScope s_check_alike) f cdv A outer s H E; have sc := sc_check_alike
  exact (sb_one (ss_if (st_neI hu room gd (geT_cons L0.e9 (fun _ _ h => geT_nil h)) (sp_exp (so_att (ok := okA) T.att (sp_v ⟨rfl, .inl rfl, rfl, rfl⟩) rfl)) (sp_exp (so_att (ok := okA) T.att (sp_v ⟨rfl, .inl rfl, rfl, rfl⟩) rfl)) (nomark _)) (sb_one (ss_bad)) sb_nil))
theorem o_check_alike {w : World} {K : PySem.W.Frag} {mg : Str → Option Value} {cs : List (Addr × Addr)} {base : Heap} {cl : Cl} {m : Nat} {G G' : Nat → FR} (T : Tab w K mg cs cl) (L1 : Lv w K mg base cl (m + 1) G) (L0 : Lv w K mg base cl m G') {f : Addr} {fd : FuncData}
    (F : Fun K "check_alike" "check_alike" s_check_alike f fd) : FnG PP w K mg base (m + 2) f fd ["one", "other"] (spOf K cl 2 (fnD 2 (d_check_alike G G'))) := fn_body F sc_check_alike (by decide) fun cdv A outer s H E room gd => b_check_alike T L1 L0 f cdv A outer s H E room gd
theorem sc_summed : FnScope ["x", "y", "a", "b"] ["x", "y"] (defScope s_summed) := ⟨rfl, rfl, rfl, by decide +kernel, rfl, by decide +kernel, by decide +kernel⟩
def summed_e1 (G G' : Nat → FR) : En → R (D × Bool) := (bin (fOp .Mod) (.exp ((bin (fOp .Add) (.var 2) (.var 3)))) (.exp ((conD (.int 2)))))
def d_summed (G G' : Nat → FR) : Sm := (retD (calD fTuple [.exp ((lcD (itC fZip2 [(varD 0), (varD 1)]) (bTup [(bName 2), (bName 3)]) yesT (summed_e1 G G') [2, 3]))]))
theorem b_summed {w : World} {K : PySem.W.Frag} {mg : Str → Option Value} {cs : List (Addr × Addr)} {base : Heap} {cl : Cl} {m : Nat} {G G' : Nat → FR} (T : Tab w K mg cs cl) (L1 : Lv w K mg base cl (m + 1) G) (L0 : Lv w K mg base cl m G')
    (f : Addr) (cdv : Value) (A : Around) (outer : List Env) (s : Shared) (H : Hp) (E : XK) (room : Room (m + 1) (A.deeper (PyProof.Rows.envOfC "summed" (defScope s_summed) s.heap.objs.size f cdv))) (gd : A.guards = some []) :
    SB (cxOf (L2.CX PP w) PP w K mg base ["x", "y", "a", "b"] "summed" (defScope s_summed) f cdv A outer s H E) cl (fun c d _ H => E c d H) (defBody s_summed) (d_summed G G') := by
  have hu := room_hu room; have hu66 := room_hu66 room; have tk := @takes_cx PP w K mg base ["x", "y", "a", "b"] "summed" (defScope s_summed) f cdv A outer s H E; have sc := sc_summed
  exact (sb_one (ss_ret (so_callT callK_tuple rfl T.z_tuple b_tuple (sap_cons (sp_exp (so_lc (own := [("a", 2), ("b", 3)]) rfl sc.nd (si_zip2 rfl T.z_zip (sa_cons (so_v ⟨rfl, .inl rfl, rfl, rfl⟩) (sa_cons (so_v ⟨rfl, .inl rfl, rfl, rfl⟩) sa_nil rfl) rfl) rfl rfl) (blkOk_by (by kernel_rfl)) (fun s H C cs fp => (pg_tup rfl (pgs_cons (pg_name (i := 2) sc.nd rfl (.inl rfl) (.inr rfl)) (pgs_cons (pg_name (i := 3) sc.nd rfl (.inl rfl) (.inr rfl)) pgs_nil rfl) rfl) rfl rfl)) (fun s H C cs fp => pts_yes) (fun s H C cs fp => SO.fz (so_bin (op := .Mod) (sp_exp (so_bin (op := .Add) (sp_v ⟨rfl, .inl rfl, rfl, rfl⟩) (sp_v ⟨rfl, .inl rfl, rfl, rfl⟩))) (sp_exp so_int))) (bg_tup (bgs_cons bg_name (bgs_cons bg_name bgs_nil)) rfl) (gin_tup (gins_cons (gin_name (by simp)) gmo_name (gins_cons (gin_name (by simp)) gmo_name gins_nil gmos_nil) (gmos_cons gmo_name gmos_nil))) (gmo_tup (gmos_cons gmo_name (gmos_cons gmo_name gmos_nil))) (fun _ => rfl))) sap_nil rfl) (by decide) rfl rfl rfl)))
theorem o_summed {w : World} {K : PySem.W.Frag} {mg : Str → Option Value} {cs : List (Addr × Addr)} {base : Heap} {cl : Cl} {m : Nat} {G G' : Nat → FR} (T : Tab w K mg cs cl) (L1 : Lv w K mg base cl (m + 1) G) (L0 : Lv w K mg base cl m G') {f : Addr} {fd : FuncData}
    (F : Fun K "summed" "summed" s_summed f fd) : FnG PP w K mg base (m + 2) f fd ["x", "y"] (spOf K cl 2 (fnD 4 (d_summed G G'))) := fn_body F sc_summed (by decide) fun cdv A outer s H E room gd => b_summed T L1 L0 f cdv A outer s H E room gd
theorem sc_spread_out : FnScope ["numbers", "found", "step", "at", "one", "other"] ["numbers"] (defScope s_spread_out) := ⟨rfl, rfl, rfl, by decide +kernel, rfl, by decide +kernel, by decide +kernel⟩
def spread_out_b1 (G G' : Nat → FR) : Sm := (postG (fgtE [3, 4, 5]) (ifS (isB (cmpI .Eq id (geT ((0, G' 9) :: [])) (.exp ((bin (fOp .Mod) (.exp ((bin (fOp .FloorDiv) (.var 3) (.var 2)))) (.exp ((conD (.int 2))))))) (.exp ((conD (.int 0)))))) (seqD (postG (frzE [4, 5]) (parD [4, 5] [(bin fIx (.var 1) (.var 3)), (bin fIx (.var 1) (.exp ((bin (fOp .Add) (.var 3) (.var 2)))))])) (stD (bTup [(bSub 1 (varD 3)), (bSub 1 (bin (fOp .Add) (.var 3) (.var 2)))]) (tupD [(bin (fOp .Add) (.var 4) (.var 5)), (bin (fOp .Sub) (.var 4) (.var 5))]))) nextD))
def spread_out_w1 (G G' : Nat → FR) : En → R Bool := (isB (bin (fCmp .Lt) (.var 2) (.exp ((calD fLen [.var 1])))))
def spread_out_b2 (G G' : Nat → FR) : Sm := (postG (fgtE [3, 4, 5]) (seqD (forS (itC fRange1 [(calD fLen [.var 1])]) (bName 3) (spread_out_b1 G G')) (setF 2 (bin (fOp .Mult) (.exp ((conD (.int 2)))) (.var 2)))))
def d_spread_out (G G' : Nat → FR) : Sm := (seqD (postG (frzE [2]) (parD [1, 2] [(calD fList [.var 0]), (conD (.int 1))])) (seqD (whileD (spread_out_w1 G G') (spread_out_b2 G G') fuel) (retV 1)))
theorem b_spread_out {w : World} {K : PySem.W.Frag} {mg : Str → Option Value} {cs : List (Addr × Addr)} {base : Heap} {cl : Cl} {m : Nat} {G G' : Nat → FR} (T : Tab w K mg cs cl) (L1 : Lv w K mg base cl (m + 1) G) (L0 : Lv w K mg base cl m G')
    (f : Addr) (cdv : Value) (A : Around) (outer : List Env) (s : Shared) (H : Hp) (E : XK) (room : Room (m + 1) (A.deeper (PyProof.Rows.envOfC "spread_out" (defScope s_spread_out) s.heap.objs.size f cdv))) (gd : A.guards = some []) :
    SB (cxOf (L2.CX PP w) PP w K mg base ["numbers", "found", "step", "at", "one", "other"] "spread_out" (defScope s_spread_out) f cdv A outer s H E) cl (fun c d _ H => E c d H) (defBody s_spread_out) (d_spread_out G G') := by
  have hu := room_hu room; have hu66 := room_hu66 room; have tk := @takes_cx PP w K mg base ["numbers", "found", "step", "at", "one", "other"] "spread_out" (defScope s_spread_out) f cdv A outer s H E; have sc := sc_spread_out
  exact (sb_cons (ss_post (gh_frzE [2]) (ss_par2 (i := 1) (j := 2) rfl sc.nd rfl rfl (by decide) rfl rfl (sao_cons (so_callT callK_list rfl T.z_list b_list (sap_cons (sp_v ⟨rfl, .inl rfl, rfl, rfl⟩) sap_nil rfl) (by decide) rfl rfl rfl) (sao_cons so_int sao_nil rfl) rfl) rfl rfl)) (sb_cons (ss_while (n := fuel) (passes_of (K := _) rfl) (st_cmp (op := .Lt) hu (sp_v ⟨rfl, .inl rfl, rfl, rfl⟩) (sp_exp (so_callB callK_len rfl T.z_len b_len (sap_cons (sp_v ⟨rfl, .inl rfl, rfl, rfl⟩) sap_nil rfl) (by decide) rfl rfl rfl)) (nomark _)) (sb_post (gh_fgtE [3, 4, 5]) (sb_cons (ss_for (passes_of (K := _) rfl) rfl (si_range1 rfl T.z_range (sa_cons (so_callB callK_len rfl T.z_len b_len (sap_cons (sp_v ⟨rfl, .inl rfl, rfl, rfl⟩) sap_nil rfl) (by decide) rfl rfl rfl) sa_nil rfl) rfl) (pg_name (i := 3) sc.nd rfl (.inl rfl) (.inr rfl)) bg_name (sb_post (gh_fgtE [3, 4, 5]) (sb_one (ss_if (st_eqI hu room gd (geT_cons L0.e9 (fun _ _ h => geT_nil h)) (sp_exp (so_bin (op := .Mod) (sp_exp (so_bin (op := .FloorDiv) (sp_v ⟨rfl, .inl rfl, rfl, rfl⟩) (sp_v ⟨rfl, .inl rfl, rfl, rfl⟩))) (sp_exp so_int))) (sp_exp so_int) (nomark _)) (sb_cons (ss_post (gh_frzE [4, 5]) (ss_par2 (i := 4) (j := 5) rfl sc.nd rfl rfl (by decide) rfl rfl (sao_cons (so_ix (sp_v ⟨rfl, .inl rfl, rfl, rfl⟩) (sp_v ⟨rfl, .inl rfl, rfl, rfl⟩) (fun _ _ => rfl)) (sao_cons (so_ix (sp_v ⟨rfl, .inl rfl, rfl, rfl⟩) (sp_exp (so_bin (op := .Add) (sp_v ⟨rfl, .inl rfl, rfl, rfl⟩) (sp_v ⟨rfl, .inl rfl, rfl, rfl⟩))) (fun _ _ => rfl)) sao_nil rfl) rfl) rfl rfl)) (sb_one (ss_st (so_tup (sa_cons (so_bin (op := .Add) (sp_v ⟨rfl, .inl rfl, rfl, rfl⟩) (sp_v ⟨rfl, .inl rfl, rfl, rfl⟩)) (sa_cons (so_bin (op := .Sub) (sp_v ⟨rfl, .inl rfl, rfl, rfl⟩) (sp_v ⟨rfl, .inl rfl, rfl, rfl⟩)) sa_nil rfl) rfl)) (pg_tup rfl (pgs_cons (pg_sub (pe_v ⟨rfl, .inl rfl, rfl, rfl⟩) (SO.fz (so_v ⟨rfl, .inl rfl, rfl, rfl⟩)) set_list (fun _ => rfl)) (pgs_cons (pg_sub (pe_v ⟨rfl, .inl rfl, rfl, rfl⟩) (SO.fz (so_bin (op := .Add) (sp_v ⟨rfl, .inl rfl, rfl, rfl⟩) (sp_v ⟨rfl, .inl rfl, rfl, rfl⟩))) set_list (fun _ => rfl)) pgs_nil rfl) rfl) rfl rfl) (bg_tup (bgs_cons (bg_sub (W := Wno)) (bgs_cons (bg_sub (W := Wno)) bgs_nil)) rfl) rfl rfl rfl))) sb_nil))) (fun _ => rfl)) (sb_one (ss_setF (ss_set (i := 2) sc.nd rfl (.inl rfl) (.inr rfl) (so_bin (op := .Mult) (sp_exp so_int) (sp_v ⟨rfl, .inl rfl, rfl, rfl⟩)) rfl)))))) (sb_one (ss_retV' ⟨rfl, .inl rfl, rfl, rfl⟩))))
theorem o_spread_out {w : World} {K : PySem.W.Frag} {mg : Str → Option Value} {cs : List (Addr × Addr)} {base : Heap} {cl : Cl} {m : Nat} {G G' : Nat → FR} (T : Tab w K mg cs cl) (L1 : Lv w K mg base cl (m + 1) G) (L0 : Lv w K mg base cl m G') {f : Addr} {fd : FuncData}
    (F : Fun K "spread_out" "spread_out" s_spread_out f fd) : FnG PP w K mg base (m + 2) f fd ["numbers"] (spOf K cl 1 (fnD 6 (d_spread_out G G'))) := fn_body F sc_spread_out (by decide) fun cdv A outer s H E room gd => b_spread_out T L1 L0 f cdv A outer s H E room gd
theorem sc_spectrum_of : FnScope ["table", "bit"] ["table"] (defScope s_spectrum_of) := ⟨rfl, rfl, rfl, by decide +kernel, rfl, by decide +kernel, by decide +kernel⟩
def spectrum_of_e1 (G G' : Nat → FR) : En → R (D × Bool) := (bin (fOp .Sub) (.exp ((conD (.int 1)))) (.exp ((bin (fOp .Mult) (.exp ((conD (.int 2)))) (.var 1)))))
def d_spectrum_of (G G' : Nat → FR) : Sm := (retD (usr 1 (G 14) [.exp ((lcD (itV (una (fAtt okA "bits") (.var 0))) (bName 1) yesT (spectrum_of_e1 G G') [1]))]))
theorem b_spectrum_of {w : World} {K : PySem.W.Frag} {mg : Str → Option Value} {cs : List (Addr × Addr)} {base : Heap} {cl : Cl} {m : Nat} {G G' : Nat → FR} (T : Tab w K mg cs cl) (L1 : Lv w K mg base cl (m + 1) G) (L0 : Lv w K mg base cl m G')
    (f : Addr) (cdv : Value) (A : Around) (outer : List Env) (s : Shared) (H : Hp) (E : XK) (room : Room (m + 1) (A.deeper (PyProof.Rows.envOfC "spectrum_of" (defScope s_spectrum_of) s.heap.objs.size f cdv))) (gd : A.guards = some []) :
    SB (cxOf (L2.CX PP w) PP w K mg base ["table", "bit"] "spectrum_of" (defScope s_spectrum_of) f cdv A outer s H E) cl (fun c d _ H => E c d H) (defBody s_spectrum_of) (d_spectrum_of G G') := by
  have hu := room_hu room; have hu66 := room_hu66 room; have tk := @takes_cx PP w K mg base ["table", "bit"] "spectrum_of" (defScope s_spectrum_of) f cdv A outer s H E; have sc := sc_spectrum_of
  exact (sb_one (ss_ret (so_call L1.f14 room gd tk rfl rfl (sap_cons (sp_exp (so_lc (own := [("bit", 1)]) rfl sc.nd (si_val (so_att (ok := okA) T.att (sp_v ⟨rfl, .inl rfl, rfl, rfl⟩) rfl)) (blkOk_by (by kernel_rfl)) (fun s H C cs fp => (pg_name (i := 1) sc.nd rfl (.inl rfl) (.inr rfl))) (fun s H C cs fp => pts_yes) (fun s H C cs fp => SO.fz (so_bin (op := .Sub) (sp_exp so_int) (sp_exp (so_bin (op := .Mult) (sp_exp so_int) (sp_v ⟨rfl, .inl rfl, rfl, rfl⟩))))) bg_name (gin_name (by simp)) gmo_name (fun _ => rfl))) sap_nil rfl) rfl rfl)))
theorem o_spectrum_of {w : World} {K : PySem.W.Frag} {mg : Str → Option Value} {cs : List (Addr × Addr)} {base : Heap} {cl : Cl} {m : Nat} {G G' : Nat → FR} (T : Tab w K mg cs cl) (L1 : Lv w K mg base cl (m + 1) G) (L0 : Lv w K mg base cl m G') {f : Addr} {fd : FuncData}
    (F : Fun K "spectrum_of" "spectrum_of" s_spectrum_of f fd) : FnG PP w K mg base (m + 2) f fd ["table"] (spOf K cl 1 (fnD 2 (d_spectrum_of G G'))) := fn_body F sc_spectrum_of (by decide) fun cdv A outer s H E room gd => b_spectrum_of T L1 L0 f cdv A outer s H E room gd
theorem sc_spectrum : FnScope ["table"] ["table"] (defScope s_spectrum) := ⟨rfl, rfl, rfl, by decide +kernel, rfl, by decide +kernel, by decide +kernel⟩
def d_spectrum (G G' : Nat → FR) : Sm := (retD (calD fTuple [.exp ((usr 1 (G 15) [.var 0]))]))
theorem b_spectrum {w : World} {K : PySem.W.Frag} {mg : Str → Option Value} {cs : List (Addr × Addr)} {base : Heap} {cl : Cl} {m : Nat} {G G' : Nat → FR} (T : Tab w K mg cs cl) (L1 : Lv w K mg base cl (m + 1) G) (L0 : Lv w K mg base cl m G')
    (f : Addr) (cdv : Value) (A : Around) (outer : List Env) (s : Shared) (H : Hp) (E : XK) (room : Room (m + 1) (A.deeper (PyProof.Rows.envOfC "spectrum" (defScope s_spectrum) s.heap.objs.size f cdv))) (gd : A.guards = some []) :
    SB (cxOf (L2.CX PP w) PP w K mg base ["table"] "spectrum" (defScope s_spectrum) f cdv A outer s H E) cl (fun c d _ H => E c d H) (defBody s_spectrum) (d_spectrum G G') := by
  have hu := room_hu room; have hu66 := room_hu66 room; have tk := @takes_cx PP w K mg base ["table"] "spectrum" (defScope s_spectrum) f cdv A outer s H E; have sc := sc_spectrum
  exact (sb_one (ss_ret (so_callT callK_tuple rfl T.z_tuple b_tuple (sap_cons (sp_exp (so_call L1.f15 room gd tk rfl rfl (sap_cons (sp_v ⟨rfl, .inl rfl, rfl, rfl⟩) sap_nil rfl) rfl rfl)) sap_nil rfl) (by decide) rfl rfl rfl)))
theorem o_spectrum {w : World} {K : PySem.W.Frag} {mg : Str → Option Value} {cs : List (Addr × Addr)} {base : Heap} {cl : Cl} {m : Nat} {G G' : Nat → FR} (T : Tab w K mg cs cl) (L1 : Lv w K mg base cl (m + 1) G) (L0 : Lv w K mg base cl m G') {f : Addr} {fd : FuncData}
    (F : Fun K "spectrum" "spectrum" s_spectrum f fd) : FnG PP w K mg base (m + 2) f fd ["table"] (spOf K cl 1 (fnD 1 (d_spectrum G G'))) := fn_body F sc_spectrum (by decide) fun cdv A outer s H E room gd => b_spectrum T L1 L0 f cdv A outer s H E room gd
theorem sc_even_table : FnScope ["letters", "row", "bit", "x", "a", "b"] ["letters", "row", "bit"] (defScope s_even_table) := ⟨rfl, rfl, rfl, by decide +kernel, rfl, by decide +kernel, by decide +kernel⟩
def even_table_e1 (G G' : Nat → FR) : En → R (D × Bool) := (bin (fOp .Mult) (.var 4) (.var 5))
def even_table_e2 (G G' : Nat → FR) : En → R (D × Bool) := (bin (fOp .Mod) (.exp ((bin (fOp .Add) (.var 2) (.exp ((calD fSumA [.exp ((lcD (itC fZip2 [(varD 1), (varD 3)]) (bTup [(bName 4), (bName 5)]) yesT (even_table_e1 G G') [4, 5]))])))))) (.exp ((conD (.int 2)))))
def d_even_table (G G' : Nat → FR) : Sm := (retD (calD fTuple [.exp ((lcD (itV (usr 1 (G 3) [.var 0])) (bName 3) yesT (even_table_e2 G G') [3]))]))
theorem b_even_table {w : World} {K : PySem.W.Frag} {mg : Str → Option Value} {cs : List (Addr × Addr)} {base : Heap} {cl : Cl} {m : Nat} {G G' : Nat → FR} (T : Tab w K mg cs cl) (L1 : Lv w K mg base cl (m + 1) G) (L0 : Lv w K mg base cl m G')
    (f : Addr) (cdv : Value) (A : Around) (outer : List Env) (s : Shared) (H : Hp) (E : XK) (room : Room (m + 1) (A.deeper (PyProof.Rows.envOfC "even_table" (defScope s_even_table) s.heap.objs.size f cdv))) (gd : A.guards = some []) :
    SB (cxOf (L2.CX PP w) PP w K mg base ["letters", "row", "bit", "x", "a", "b"] "even_table" (defScope s_even_table) f cdv A outer s H E) cl (fun c d _ H => E c d H) (defBody s_even_table) (d_even_table G G') := by
  have hu := room_hu room; have hu66 := room_hu66 room; have tk := @takes_cx PP w K mg base ["letters", "row", "bit", "x", "a", "b"] "even_table" (defScope s_even_table) f cdv A outer s H E; have sc := sc_even_table
  exact (sb_one (ss_ret (so_callT callK_tuple rfl T.z_tuple b_tuple (sap_cons (sp_exp (so_lc (own := [("x", 3)]) rfl sc.nd (si_val (so_call L1.f3 room gd tk rfl rfl (sap_cons (sp_v ⟨rfl, .inl rfl, rfl, rfl⟩) sap_nil rfl) rfl rfl)) (blkOk_by (by kernel_rfl)) (fun s H C cs fp => (pg_name (i := 3) sc.nd rfl (.inl rfl) (.inr rfl))) (fun s H C cs fp => pts_yes) (fun s H C cs fp => SO.fz (so_bin (op := .Mod) (sp_exp (so_bin (op := .Add) (sp_v ⟨rfl, .inr (.inl rfl), rfl, rfl⟩) (sp_exp (so_callB (callK_sumA rfl) rfl T.z_sum b_sum (sap_cons (sp_exp (so_lc (own := [("a", 4), ("b", 5)]) rfl sc.nd (si_zip2 rfl T.z_zip (sa_cons (so_v ⟨rfl, .inr (.inl rfl), rfl, rfl⟩) (sa_cons (so_v ⟨rfl, .inl rfl, rfl, rfl⟩) sa_nil rfl) rfl) rfl rfl) (blkOk_by (by kernel_rfl)) (fun s H C cs fp => (pg_tup rfl (pgs_cons (pg_name (i := 4) sc.nd rfl (.inl rfl) (.inr rfl)) (pgs_cons (pg_name (i := 5) sc.nd rfl (.inl rfl) (.inr rfl)) pgs_nil rfl) rfl) rfl rfl)) (fun s H C cs fp => pts_yes) (fun s H C cs fp => SO.fz (so_bin (op := .Mult) (sp_v ⟨rfl, .inl rfl, rfl, rfl⟩) (sp_v ⟨rfl, .inl rfl, rfl, rfl⟩))) (bg_tup (bgs_cons bg_name (bgs_cons bg_name bgs_nil)) rfl) (gin_tup (gins_cons (gin_name (by simp)) gmo_name (gins_cons (gin_name (by simp)) gmo_name gins_nil gmos_nil) (gmos_cons gmo_name gmos_nil))) (gmo_tup (gmos_cons gmo_name (gmos_cons gmo_name gmos_nil))) (fun _ => rfl))) sap_nil rfl) (by decide) rfl rfl rfl)))) (sp_exp so_int))) bg_name (gin_name (by simp)) gmo_name (fun _ => rfl))) sap_nil rfl) (by decide) rfl rfl rfl)))
theorem o_even_table {w : World} {K : PySem.W.Frag} {mg : Str → Option Value} {cs : List (Addr × Addr)} {base : Heap} {cl : Cl} {m : Nat} {G G' : Nat → FR} (T : Tab w K mg cs cl) (L1 : Lv w K mg base cl (m + 1) G) (L0 : Lv w K mg base cl m G') {f : Addr} {fd : FuncData}
    (F : Fun K "even_table" "even_table" s_even_table f fd) : FnG PP w K mg base (m + 2) f fd ["letters", "row", "bit"] (spOf K cl 3 (fnD 6 (d_even_table G G'))) := fn_body F sc_even_table (by decide) fun cdv A outer s H E room gd => b_even_table T L1 L0 f cdv A outer s H E room gd
theorem sc_nearest_even : FnScope ["table", "found", "row", "bit", "bits", "least", "a", "b", "number"] ["table"] (defScope s_nearest_even) := ⟨rfl, rfl, rfl, by decide +kernel, rfl, by decide +kernel, by decide +kernel⟩
def nearest_even_t1 (G G' : Nat → FR) : En → R Bool := (isB (cmpI .NotEq not (geT ((0, G' 9) :: [])) (.var 6) (.var 7)))
def nearest_even_e1 (G G' : Nat → FR) : En → R (D × Bool) := (conD (.int 1))
def nearest_even_b1 (G G' : Nat → FR) : Sm := (postG (fgtE [3, 4]) (seqD (setF 4 (usr 3 (G 17) [.exp ((una (fAtt okA "letters") (.var 0))), .var 2, .var 3])) (appS 1 (tupD [(calD fLen [.exp ((lcD (itC fZip2 [(varD 4), (una (fAtt okA "bits") (.var 0))]) (bTup [(bName 6), (bName 7)]) (nearest_even_t1 G G') (nearest_even_e1 G G') [6, 7]))]), (varD 4)]))))
def nearest_even_b2 (G G' : Nat → FR) : Sm := (postG (fgtE [2, 3, 4]) (forS (itV (tupD [(conD (.int 0)), (conD (.int 1))])) (bName 3) (nearest_even_b1 G G')))
def nearest_even_t2 (G G' : Nat → FR) : En → R Bool := (isB (cmpI .Eq id (geT ((0, G' 9) :: [])) (.var 8) (.var 5)))
def nearest_even_e2 (G G' : Nat → FR) : En → R (D × Bool) := (varD 4)
def d_nearest_even (G G' : Nat → FR) : Sm := (seqD (setD 1 (lstD [])) (seqD (forS (itV (usr 1 (G 3) [.exp ((una (fAtt okA "letters") (.var 0)))])) (bName 2) (nearest_even_b2 G G')) (seqD (setF 5 (bin fIx (.exp ((calD fMin2 [.var 1]))) (.exp ((conD (.int 0)))))) (retD (tupD [(varD 5), (calD fTuple [.exp ((calD fSorted [.exp ((lcD (itV (varD 1)) (bTup [(bName 8), (bName 4)]) (nearest_even_t2 G G') (nearest_even_e2 G G') [4, 8]))]))])])))))
theorem b_nearest_even {w : World} {K : PySem.W.Frag} {mg : Str → Option Value} {cs : List (Addr × Addr)} {base : Heap} {cl : Cl} {m : Nat} {G G' : Nat → FR} (T : Tab w K mg cs cl) (L1 : Lv w K mg base cl (m + 1) G) (L0 : Lv w K mg base cl m G')
    (f : Addr) (cdv : Value) (A : Around) (outer : List Env) (s : Shared) (H : Hp) (E : XK) (room : Room (m + 1) (A.deeper (PyProof.Rows.envOfC "nearest_even" (defScope s_nearest_even) s.heap.objs.size f cdv))) (gd : A.guards = some []) :
    SB (cxOf (L2.CX PP w) PP w K mg base ["table", "found", "row", "bit", "bits", "least", "a", "b", "number"] "nearest_even" (defScope s_nearest_even) f cdv A outer s H E) cl (fun c d _ H => E c d H) (defBody s_nearest_even) (d_nearest_even G G') := by
  have hu := room_hu room; have hu66 := room_hu66 room; have tk := @takes_cx PP w K mg base ["table", "found", "row", "bit", "bits", "least", "a", "b", "number"] "nearest_even" (defScope s_nearest_even) f cdv A outer s H E; have sc := sc_nearest_even
  exact (sb_cons (ss_set (i := 1) sc.nd rfl (.inl rfl) (.inr rfl) (so_lst sa_nil) rfl) (sb_cons (ss_for (passes_of (K := _) rfl) rfl (si_val (so_call L1.f3 room gd tk rfl rfl (sap_cons (sp_exp (so_att (ok := okA) T.att (sp_v ⟨rfl, .inl rfl, rfl, rfl⟩) rfl)) sap_nil rfl) rfl rfl)) (pg_name (i := 2) sc.nd rfl (.inl rfl) (.inr rfl)) bg_name (sb_post (gh_fgtE [2, 3, 4]) (sb_one (ss_for (passes_of (K := _) rfl) rfl (si_val (so_tup (sa_cons so_int (sa_cons so_int sa_nil rfl) rfl))) (pg_name (i := 3) sc.nd rfl (.inl rfl) (.inr rfl)) bg_name (sb_post (gh_fgtE [3, 4]) (sb_cons (ss_setF (ss_set (i := 4) sc.nd rfl (.inl rfl) (.inr rfl) (so_call L1.f17 room gd tk rfl rfl (sap_cons (sp_exp (so_att (ok := okA) T.att (sp_v ⟨rfl, .inl rfl, rfl, rfl⟩) rfl)) (sap_cons (sp_v ⟨rfl, .inl rfl, rfl, rfl⟩) (sap_cons (sp_v ⟨rfl, .inl rfl, rfl, rfl⟩) sap_nil rfl) rfl) rfl) rfl rfl) rfl)) (sb_one (ss_app (pe_v ⟨rfl, .inl rfl, rfl, rfl⟩) (so_tup (sa_cons (so_callB callK_len rfl T.z_len b_len (sap_cons (sp_exp (so_lc (own := [("a", 6), ("b", 7)]) rfl sc.nd (si_zip2 rfl T.z_zip (sa_cons (so_v ⟨rfl, .inl rfl, rfl, rfl⟩) (sa_cons (so_att (ok := okA) T.att (sp_v ⟨rfl, .inl rfl, rfl, rfl⟩) rfl) sa_nil rfl) rfl) rfl rfl) (blkOk_by (by kernel_rfl)) (fun s H C cs fp => (pg_tup rfl (pgs_cons (pg_name (i := 6) sc.nd rfl (.inl rfl) (.inr rfl)) (pgs_cons (pg_name (i := 7) sc.nd rfl (.inl rfl) (.inr rfl)) pgs_nil rfl) rfl) rfl rfl)) (fun s H C cs fp => (pts_one (st_neI hu room gd (geT_cons L0.e9 (fun _ _ h => geT_nil h)) (sp_v ⟨rfl, .inl rfl, rfl, rfl⟩) (sp_v ⟨rfl, .inl rfl, rfl, rfl⟩) (nomark _)))) (fun s H C cs fp => SO.fz so_int) (bg_tup (bgs_cons bg_name (bgs_cons bg_name bgs_nil)) rfl) (gin_tup (gins_cons (gin_name (by simp)) gmo_name (gins_cons (gin_name (by simp)) gmo_name gins_nil gmos_nil) (gmos_cons gmo_name gmos_nil))) (gmo_tup (gmos_cons gmo_name (gmos_cons gmo_name gmos_nil))) (fun _ => rfl))) sap_nil rfl) (by decide) rfl rfl rfl) (sa_cons (so_v ⟨rfl, .inl rfl, rfl, rfl⟩) sa_nil rfl) rfl)) rfl rfl rfl rfl rfl rfl)))) (fun _ => rfl)))) (fun _ => rfl)) (sb_cons (ss_setF (ss_set (i := 5) sc.nd rfl (.inr rfl) (.inl rfl) (so_ix (sp_exp (so_callB (callK_min2 rfl hu) rfl T.z_min b_min (sap_cons (sp_v ⟨rfl, .inl rfl, rfl, rfl⟩) sap_nil rfl) (by decide) rfl rfl rfl)) (sp_exp so_int) (fun _ _ => rfl)) rfl)) (sb_one (ss_ret (so_tup (sa_cons (so_v ⟨rfl, .inr (.inl rfl), rfl, rfl⟩) (sa_cons (so_callT callK_tuple rfl T.z_tuple b_tuple (sap_cons (sp_exp (so_callB (callK_sorted hu) rfl T.z_sorted b_sorted (sap_cons (sp_exp (so_lc (own := [("bits", 4), ("number", 8)]) rfl sc.nd (si_val (so_v ⟨rfl, .inl rfl, rfl, rfl⟩)) (blkOk_by (by kernel_rfl)) (fun s H C cs fp => (pg_tup rfl (pgs_cons (pg_name (i := 8) sc.nd rfl (.inl rfl) (.inr rfl)) (pgs_cons (pg_name (i := 4) sc.nd rfl (.inl rfl) (.inr rfl)) pgs_nil rfl) rfl) rfl rfl)) (fun s H C cs fp => (pts_one (st_eqI hu room gd (geT_cons L0.e9 (fun _ _ h => geT_nil h)) (sp_v ⟨rfl, .inl rfl, rfl, rfl⟩) (sp_v ⟨rfl, .inr (.inl rfl), rfl, rfl⟩) (nomark _)))) (fun s H C cs fp => SO.fz (so_v ⟨rfl, .inl rfl, rfl, rfl⟩)) (bg_tup (bgs_cons bg_name (bgs_cons bg_name bgs_nil)) rfl) (gin_tup (gins_cons (gin_name (by simp)) gmo_name (gins_cons (gin_name (by simp)) gmo_name gins_nil gmos_nil) (gmos_cons gmo_name gmos_nil))) (gmo_tup (gmos_cons gmo_name (gmos_cons gmo_name gmos_nil))) (fun _ => rfl))) sap_nil rfl) (by decide) rfl rfl rfl)) sap_nil rfl) (by decide) rfl rfl rfl) sa_nil rfl) rfl)))))))
theorem o_nearest_even {w : World} {K : PySem.W.Frag} {mg : Str → Option Value} {cs : List (Addr × Addr)} {base : Heap} {cl : Cl} {m : Nat} {G G' : Nat → FR} (T : Tab w K mg cs cl) (L1 : Lv w K mg base cl (m + 1) G) (L0 : Lv w K mg base cl m G') {f : Addr} {fd : FuncData}
    (F : Fun K "nearest_even" "nearest_even" s_nearest_even f fd) : FnG PP w K mg base (m + 2) f fd ["table"] (spOf K cl 1 (fnD 9 (d_nearest_even G G'))) := fn_body F sc_nearest_even (by decide) fun cdv A outer s H E room gd => b_nearest_even T L1 L0 f cdv A outer s H E room gd
theorem sc_flat : FnScope ["table", "numbers", "one"] ["table"] (defScope s_flat) := ⟨rfl, rfl, rfl, by decide +kernel, rfl, by decide +kernel, by decide +kernel⟩
def flat_e1 (G G' : Nat → FR) : En → R (D × Bool) := (cmpI .Eq id (geT ((0, G' 9) :: [])) (.exp ((calD fAbs [.var 2]))) (.exp ((calD fAbs [.exp ((bin fIx (.var 1) (.exp ((conD (.int 0))))))]))))
def d_flat (G G' : Nat → FR) : Sm := (seqD (setF 1 (usr 1 (G 15) [.var 0])) (retD (calD fAll [.exp ((lcD (itV (varD 1)) (bName 2) yesT (flat_e1 G G') [2]))])))
theorem b_flat {w : World} {K : PySem.W.Frag} {mg : Str → Option Value} {cs : List (Addr × Addr)} {base : Heap} {cl : Cl} {m : Nat} {G G' : Nat → FR} (T : Tab w K mg cs cl) (L1 : Lv w K mg base cl (m + 1) G) (L0 : Lv w K mg base cl m G')
    (f : Addr) (cdv : Value) (A : Around) (outer : List Env) (s : Shared) (H : Hp) (E : XK) (room : Room (m + 1) (A.deeper (PyProof.Rows.envOfC "flat" (defScope s_flat) s.heap.objs.size f cdv))) (gd : A.guards = some []) :
    SB (cxOf (L2.CX PP w) PP w K mg base ["table", "numbers", "one"] "flat" (defScope s_flat) f cdv A outer s H E) cl (fun c d _ H => E c d H) (defBody s_flat) (d_flat G G') := by
  have hu := room_hu room; have hu66 := room_hu66 room; have tk := @takes_cx PP w K mg base ["table", "numbers", "one"] "flat" (defScope s_flat) f cdv A outer s H E; have sc := sc_flat
  exact (sb_cons (ss_setF (ss_set (i := 1) sc.nd rfl (.inr rfl) (.inl rfl) (so_call L1.f15 room gd tk rfl rfl (sap_cons (sp_v ⟨rfl, .inl rfl, rfl, rfl⟩) sap_nil rfl) rfl rfl) rfl)) (sb_one (ss_ret (so_callB (callK_all rfl) rfl T.z_all b_all (sap_cons (sp_exp (so_lc (own := [("one", 2)]) rfl sc.nd (si_val (so_v ⟨rfl, .inr (.inl rfl), rfl, rfl⟩)) (blkOk_by (by kernel_rfl)) (fun s H C cs fp => (pg_name (i := 2) sc.nd rfl (.inl rfl) (.inr rfl))) (fun s H C cs fp => pts_yes) (fun s H C cs fp => SO.fz (so_eqI hu room gd (geT_cons L0.e9 (fun _ _ h => geT_nil h)) (sp_exp (so_callB callK_abs rfl T.z_abs b_abs (sap_cons (sp_v ⟨rfl, .inl rfl, rfl, rfl⟩) sap_nil rfl) (by decide) rfl rfl rfl)) (sp_exp (so_callB callK_abs rfl T.z_abs b_abs (sap_cons (sp_exp (so_ix (sp_v ⟨rfl, .inr (.inl rfl), rfl, rfl⟩) (sp_exp so_int) (fun _ _ => rfl))) sap_nil rfl) (by decide) rfl rfl rfl)) (nomark _))) bg_name (gin_name (by simp)) gmo_name (fun _ => rfl))) sap_nil rfl) (by decide) rfl rfl rfl))))
theorem o_flat {w : World} {K : PySem.W.Frag} {mg : Str → Option Value} {cs : List (Addr × Addr)} {base : Heap} {cl : Cl} {m : Nat} {G G' : Nat → FR} (T : Tab w K mg cs cl) (L1 : Lv w K mg base cl (m + 1) G) (L0 : Lv w K mg base cl m G') {f : Addr} {fd : FuncData}
    (F : Fun K "flat" "flat" s_flat f fd) : FnG PP w K mg base (m + 2) f fd ["table"] (spOf K cl 1 (fnD 3 (d_flat G G'))) := fn_body F sc_flat (by decide) fun cdv A outer s H E room gd => b_flat T L1 L0 f cdv A outer s H E room gd
theorem sc_tallies_of : FnScope ["table", "ones", "i", "row"] ["table"] (defScope s_tallies_of) := ⟨rfl, rfl, rfl, by decide +kernel, rfl, by decide +kernel, by decide +kernel⟩
def tallies_of_e1 (G G' : Nat → FR) : En → R (D × Bool) := (bin fIx (.var 3) (.var 2))
def tallies_of_e2 (G G' : Nat → FR) : En → R (D × Bool) := (calD fSumA [.exp ((lcD (itV (varD 1)) (bName 3) yesT (tallies_of_e1 G G') [3]))])
def d_tallies_of (G G' : Nat → FR) : Sm := (seqD (setF 1 (usr 2 (G 11) [.var 0, .exp ((conD (.int 1)))])) (retD (bin (fOp .Add) (.exp ((tupD [(calD fLen [.var 1])]))) (.exp ((calD fTuple [.exp ((lcD (itC fRange1 [(una (fAtt okA "letters") (.var 0))]) (bName 2) yesT (tallies_of_e2 G G') [2]))]))))))
theorem b_tallies_of {w : World} {K : PySem.W.Frag} {mg : Str → Option Value} {cs : List (Addr × Addr)} {base : Heap} {cl : Cl} {m : Nat} {G G' : Nat → FR} (T : Tab w K mg cs cl) (L1 : Lv w K mg base cl (m + 1) G) (L0 : Lv w K mg base cl m G')
    (f : Addr) (cdv : Value) (A : Around) (outer : List Env) (s : Shared) (H : Hp) (E : XK) (room : Room (m + 1) (A.deeper (PyProof.Rows.envOfC "tallies_of" (defScope s_tallies_of) s.heap.objs.size f cdv))) (gd : A.guards = some []) :
    SB (cxOf (L2.CX PP w) PP w K mg base ["table", "ones", "i", "row"] "tallies_of" (defScope s_tallies_of) f cdv A outer s H E) cl (fun c d _ H => E c d H) (defBody s_tallies_of) (d_tallies_of G G') := by
  have hu := room_hu room; have hu66 := room_hu66 room; have tk := @takes_cx PP w K mg base ["table", "ones", "i", "row"] "tallies_of" (defScope s_tallies_of) f cdv A outer s H E; have sc := sc_tallies_of
  exact (sb_cons (ss_setF (ss_set (i := 1) sc.nd rfl (.inr rfl) (.inl rfl) (so_call L1.f11 room gd tk rfl rfl (sap_cons (sp_v ⟨rfl, .inl rfl, rfl, rfl⟩) (sap_cons (sp_exp so_int) sap_nil rfl) rfl) rfl rfl) rfl)) (sb_one (ss_ret (so_bin (op := .Add) (sp_exp (so_tup (sa_cons (so_callB callK_len rfl T.z_len b_len (sap_cons (sp_v ⟨rfl, .inr (.inl rfl), rfl, rfl⟩) sap_nil rfl) (by decide) rfl rfl rfl) sa_nil rfl))) (sp_exp (so_callT callK_tuple rfl T.z_tuple b_tuple (sap_cons (sp_exp (so_lc (own := [("i", 2)]) rfl sc.nd (si_range1 rfl T.z_range (sa_cons (so_att (ok := okA) T.att (sp_v ⟨rfl, .inl rfl, rfl, rfl⟩) rfl) sa_nil rfl) rfl) (blkOk_by (by kernel_rfl)) (fun s H C cs fp => (pg_name (i := 2) sc.nd rfl (.inr rfl) (.inl rfl))) (fun s H C cs fp => pts_yes) (fun s H C cs fp => SO.fz (so_callB (callK_sumA rfl) rfl T.z_sum b_sum (sap_cons (sp_exp (so_lc (own := [("row", 3)]) rfl sc.nd (si_val (so_v ⟨rfl, .inr (.inl rfl), rfl, rfl⟩)) (blkOk_by (by kernel_rfl)) (fun s H C cs fp => (pg_name (i := 3) sc.nd rfl (.inl rfl) (.inr rfl))) (fun s H C cs fp => pts_yes) (fun s H C cs fp => SO.fz (so_ix (sp_v ⟨rfl, .inl rfl, rfl, rfl⟩) (sp_v ⟨rfl, .inr (.inl rfl), rfl, rfl⟩) (fun _ _ => rfl))) bg_name (gin_name (by simp)) gmo_name (fun _ => rfl))) sap_nil rfl) (by decide) rfl rfl rfl)) bg_name (gin_name (by simp)) gmo_name (fun _ => rfl))) sap_nil rfl) (by decide) rfl rfl rfl))))))
theorem o_tallies_of {w : World} {K : PySem.W.Frag} {mg : Str → Option Value} {cs : List (Addr × Addr)} {base : Heap} {cl : Cl} {m : Nat} {G G' : Nat → FR} (T : Tab w K mg cs cl) (L1 : Lv w K mg base cl (m + 1) G) (L0 : Lv w K mg base cl m G') {f : Addr} {fd : FuncData}
    (F : Fun K "tallies_of" "tallies_of" s_tallies_of f fd) : FnG PP w K mg base (m + 2) f fd ["table"] (spOf K cl 1 (fnD 4 (d_tallies_of G G'))) := fn_body F sc_tallies_of (by decide) fun cdv A outer s H E room gd => b_tallies_of T L1 L0 f cdv A outer s H E room gd
theorem sc_tallies : FnScope ["table"] ["table"] (defScope s_tallies) := ⟨rfl, rfl, rfl, by decide +kernel, rfl, by decide +kernel, by decide +kernel⟩
def d_tallies (G G' : Nat → FR) : Sm := (retD (usr 1 (G 20) [.var 0]))
theorem b_tallies {w : World} {K : PySem.W.Frag} {mg : Str → Option Value} {cs : List (Addr × Addr)} {base : Heap} {cl : Cl} {m : Nat} {G G' : Nat → FR} (T : Tab w K mg cs cl) (L1 : Lv w K mg base cl (m + 1) G) (L0 : Lv w K mg base cl m G')
    (f : Addr) (cdv : Value) (A : Around) (outer : List Env) (s : Shared) (H : Hp) (E : XK) (room : Room (m + 1) (A.deeper (PyProof.Rows.envOfC "tallies" (defScope s_tallies) s.heap.objs.size f cdv))) (gd : A.guards = some []) :
    SB (cxOf (L2.CX PP w) PP w K mg base ["table"] "tallies" (defScope s_tallies) f cdv A outer s H E) cl (fun c d _ H => E c d H) (defBody s_tallies) (d_tallies G G') := by
  have hu := room_hu room; have hu66 := room_hu66 room; have tk := @takes_cx PP w K mg base ["table"] "tallies" (defScope s_tallies) f cdv A outer s H E; have sc := sc_tallies
  exact (sb_one (ss_ret (so_call L1.f20 room gd tk rfl rfl (sap_cons (sp_v ⟨rfl, .inl rfl, rfl, rfl⟩) sap_nil rfl) rfl rfl)))
theorem o_tallies {w : World} {K : PySem.W.Frag} {mg : Str → Option Value} {cs : List (Addr × Addr)} {base : Heap} {cl : Cl} {m : Nat} {G G' : Nat → FR} (T : Tab w K mg cs cl) (L1 : Lv w K mg base cl (m + 1) G) (L0 : Lv w K mg base cl m G') {f : Addr} {fd : FuncData}
    (F : Fun K "tallies" "tallies" s_tallies f fd) : FnG PP w K mg base (m + 2) f fd ["table"] (spOf K cl 1 (fnD 1 (d_tallies G G'))) := fn_body F sc_tallies (by decide) fun cdv A outer s H E room gd => b_tallies T L1 L0 f cdv A outer s H E room gd
theorem sc_met : FnScope ["one", "other", "every", "ones", "found", "s", "x"] ["one", "other"] (defScope s_met) := ⟨rfl, rfl, rfl, by decide +kernel, rfl, by decide +kernel, by decide +kernel⟩
def met_e1 (G G' : Nat → FR) : En → R (D × Bool) := (usr 2 (G 10) [.var 1, .exp ((usr 2 (G 13) [.var 6, .var 5]))])
def met_b1 (G G' : Nat → FR) : Sm := (postG (fgtE [5]) (stD (bSub 4 (usr 1 (G 4) [.var 5])) (calD fSumA [.exp ((lcD (itV (varD 3)) (bName 6) yesT (met_e1 G G') [6]))])))
def d_met (G G' : Nat → FR) : Sm := (seqD (dropD (usr 2 (G 12) [.var 0, .var 1])) (seqD (postG (frzE [2, 3]) (parD [2, 3] [(usr 1 (G 3) [.exp ((una (fAtt okA "letters") (.var 0)))]), (usr 2 (G 11) [.var 0, .exp ((conD (.int 1)))])])) (seqD (setD 4 (bin fRep (.exp ((lstD [(conD (.int 0))]))) (.exp ((calD fLen [.var 2]))))) (seqD (forS (itV (varD 2)) (bName 5) (met_b1 G G')) (retD (calD fTuple [.var 4]))))))
theorem b_met {w : World} {K : PySem.W.Frag} {mg : Str → Option Value} {cs : List (Addr × Addr)} {base : Heap} {cl : Cl} {m : Nat} {G G' : Nat → FR} (T : Tab w K mg cs cl) (L1 : Lv w K mg base cl (m + 1) G) (L0 : Lv w K mg base cl m G')
    (f : Addr) (cdv : Value) (A : Around) (outer : List Env) (s : Shared) (H : Hp) (E : XK) (room : Room (m + 1) (A.deeper (PyProof.Rows.envOfC "met" (defScope s_met) s.heap.objs.size f cdv))) (gd : A.guards = some []) :
    SB (cxOf (L2.CX PP w) PP w K mg base ["one", "other", "every", "ones", "found", "s", "x"] "met" (defScope s_met) f cdv A outer s H E) cl (fun c d _ H => E c d H) (defBody s_met) (d_met G G') := by
  have hu := room_hu room; have hu66 := room_hu66 room; have tk := @takes_cx PP w K mg base ["one", "other", "every", "ones", "found", "s", "x"] "met" (defScope s_met) f cdv A outer s H E; have sc := sc_met
  exact (sb_cons (ss_expr (so_call L1.f12 room gd tk rfl rfl (sap_cons (sp_v ⟨rfl, .inl rfl, rfl, rfl⟩) (sap_cons (sp_v ⟨rfl, .inr (.inl rfl), rfl, rfl⟩) sap_nil rfl) rfl) rfl rfl) rfl) (sb_cons (ss_post (gh_frzE [2, 3]) (ss_par2 (i := 2) (j := 3) rfl sc.nd rfl rfl (by decide) rfl rfl (sao_cons (so_call L1.f3 room gd tk rfl rfl (sap_cons (sp_exp (so_att (ok := okA) T.att (sp_v ⟨rfl, .inl rfl, rfl, rfl⟩) rfl)) sap_nil rfl) rfl rfl) (sao_cons (so_call L1.f11 room gd tk rfl rfl (sap_cons (sp_v ⟨rfl, .inl rfl, rfl, rfl⟩) (sap_cons (sp_exp so_int) sap_nil rfl) rfl) rfl rfl) sao_nil rfl) rfl) rfl rfl)) (sb_cons (ss_set (i := 4) sc.nd rfl (.inl rfl) (.inr rfl) (so_rep (sp_exp (so_lst (sa_cons so_int sa_nil rfl))) (sp_exp (so_callB callK_len rfl T.z_len b_len (sap_cons (sp_v ⟨rfl, .inl rfl, rfl, rfl⟩) sap_nil rfl) (by decide) rfl rfl rfl))) rfl) (sb_cons (ss_for (passes_of (K := _) rfl) rfl (si_val (so_v ⟨rfl, .inl rfl, rfl, rfl⟩)) (pg_name (i := 5) sc.nd rfl (.inr rfl) (.inl rfl)) bg_name (sb_post (gh_fgtE [5]) (sb_one (ss_st (so_callB (callK_sumA rfl) rfl T.z_sum b_sum (sap_cons (sp_exp (so_lc (own := [("x", 6)]) rfl sc.nd (si_val (so_v ⟨rfl, .inl rfl, rfl, rfl⟩)) (blkOk_by (by kernel_rfl)) (fun s H C cs fp => (pg_name (i := 6) sc.nd rfl (.inl rfl) (.inr rfl))) (fun s H C cs fp => pts_yes) (fun s H C cs fp => SO.fz (so_call L1.f10 room gd takesN rfl rfl (sap_cons (sp_v ⟨rfl, .inr (.inl rfl), rfl, rfl⟩) (sap_cons (sp_exp (so_call L1.f13 room gd takesN rfl rfl (sap_cons (sp_v ⟨rfl, .inl rfl, rfl, rfl⟩) (sap_cons (sp_v ⟨rfl, .inr (.inl rfl), rfl, rfl⟩) sap_nil rfl) rfl) rfl rfl)) sap_nil rfl) rfl) rfl rfl)) bg_name (gin_name (by simp)) gmo_name (fun _ => rfl))) sap_nil rfl) (by decide) rfl rfl rfl) (pg_sub (pe_v ⟨rfl, .inl rfl, rfl, rfl⟩) (SO.fz (so_call L1.f4 room gd takesN rfl rfl (sap_cons (sp_v ⟨rfl, .inr (.inl rfl), rfl, rfl⟩) sap_nil rfl) rfl rfl)) set_list (fun _ => rfl)) (bg_sub (W := Wno)) rfl rfl rfl))) (fun _ => rfl)) (sb_one (ss_ret (so_callT callK_tuple rfl T.z_tuple b_tuple (sap_cons (sp_v ⟨rfl, .inl rfl, rfl, rfl⟩) sap_nil rfl) (by decide) rfl rfl rfl)))))))
theorem o_met {w : World} {K : PySem.W.Frag} {mg : Str → Option Value} {cs : List (Addr × Addr)} {base : Heap} {cl : Cl} {m : Nat} {G G' : Nat → FR} (T : Tab w K mg cs cl) (L1 : Lv w K mg base cl (m + 1) G) (L0 : Lv w K mg base cl m G') {f : Addr} {fd : FuncData}
    (F : Fun K "met" "met" s_met f fd) : FnG PP w K mg base (m + 2) f fd ["one", "other"] (spOf K cl 2 (fnD 7 (d_met G G'))) := fn_body F sc_met (by decide) fun cdv A outer s H E room gd => b_met T L1 L0 f cdv A outer s H E room gd
theorem sc__law_hand : FnScope ["script", "cells", "cell"] ["script"] (defScope s__law_hand) := ⟨rfl, rfl, rfl, by decide +kernel, rfl, by decide +kernel, by decide +kernel⟩
def _law_hand_e1 (G G' : Nat → FR) : En → R (D × Bool) := (calD fAbs [.exp ((calD fInt [.var 2]))])
def d__law_hand (G G' : Nat → FR) : Sm := (seqD (setF 1 (lcD (itV (slD (.var 0) none (some (conD (.int 63))))) (bName 2) yesT (_law_hand_e1 G G') [2])) (retD (lstD [(varD 1), (conD (.int 0)), (conD (.int 0)), (bin (fOp .Add) (.exp ((conD (.int 313)))) (.exp ((bin (fOp .Mult) (.exp ((conD (.int 59)))) (.exp ((calD fLen [.var 1]))))))), (conD (.int 0))])))
theorem b__law_hand {w : World} {K : PySem.W.Frag} {mg : Str → Option Value} {cs : List (Addr × Addr)} {base : Heap} {cl : Cl} {m : Nat} {G G' : Nat → FR} (T : Tab w K mg cs cl) (L1 : Lv w K mg base cl (m + 1) G) (L0 : Lv w K mg base cl m G')
    (f : Addr) (cdv : Value) (A : Around) (outer : List Env) (s : Shared) (H : Hp) (E : XK) (room : Room (m + 1) (A.deeper (PyProof.Rows.envOfC "_law_hand" (defScope s__law_hand) s.heap.objs.size f cdv))) (gd : A.guards = some []) :
    SB (cxOf (L2.CX PP w) PP w K mg base ["script", "cells", "cell"] "_law_hand" (defScope s__law_hand) f cdv A outer s H E) cl (fun c d _ H => E c d H) (defBody s__law_hand) (d__law_hand G G') := by
  have hu := room_hu room; have hu66 := room_hu66 room; have tk := @takes_cx PP w K mg base ["script", "cells", "cell"] "_law_hand" (defScope s__law_hand) f cdv A outer s H E; have sc := sc__law_hand
  exact (sb_cons (ss_setF (ss_setLc (i := 1) (own := [("cell", 2)]) rfl sc.nd rfl rfl rfl (si_val (so_sl (sp_v ⟨rfl, .inl rfl, rfl, rfl⟩) spo_none (spo_some so_int))) (blkOk_by (by kernel_rfl)) (fun s H C cs fp => (pg_name (i := 2) sc.nd rfl (.inl rfl) (.inr rfl))) (fun s H C cs fp => pts_yes) (fun s H C cs fp => SO.fz (so_callB callK_abs rfl T.z_abs b_abs (sap_cons (sp_exp (so_callT callK_int rfl T.z_int b_int (sap_cons (sp_v ⟨rfl, .inl rfl, rfl, rfl⟩) sap_nil rfl) (by decide) rfl rfl rfl)) sap_nil rfl) (by decide) rfl rfl rfl)) bg_name (gin_name (by simp)) gmo_name (fun _ => rfl))) (sb_one (ss_ret (so_lst (sa_cons (so_v ⟨rfl, .inl rfl, rfl, rfl⟩) (sa_cons so_int (sa_cons so_int (sa_cons (so_bin (op := .Add) (sp_exp so_int) (sp_exp (so_bin (op := .Mult) (sp_exp so_int) (sp_exp (so_callB callK_len rfl T.z_len b_len (sap_cons (sp_v ⟨rfl, .inl rfl, rfl, rfl⟩) sap_nil rfl) (by decide) rfl rfl rfl))))) (sa_cons so_int sa_nil rfl) rfl) rfl) rfl) rfl)))))
theorem o__law_hand {w : World} {K : PySem.W.Frag} {mg : Str → Option Value} {cs : List (Addr × Addr)} {base : Heap} {cl : Cl} {m : Nat} {G G' : Nat → FR} (T : Tab w K mg cs cl) (L1 : Lv w K mg base cl (m + 1) G) (L0 : Lv w K mg base cl m G') {f : Addr} {fd : FuncData}
    (F : Fun K "_law_hand" "_law_hand" s__law_hand f fd) : FnG PP w K mg base (m + 2) f fd ["script"] (spOf K cl 1 (fnD 3 (d__law_hand G G'))) := fn_body F sc__law_hand (by decide) fun cdv A outer s H E room gd => b__law_hand T L1 L0 f cdv A outer s H E room gd
theorem sc__law_draw : FnScope ["hand", "sides", "cell", "digit", "number"] ["hand", "sides"] (defScope s__law_draw) := ⟨rfl, rfl, rfl, by decide +kernel, rfl, by decide +kernel, by decide +kernel⟩
def d__law_draw (G G' : Nat → FR) : Sm := (seqD (postG (fgtE [2]) (ifS (andT (isB (cmpI .Eq id (geT ((0, G' 9) :: [])) (.exp ((bin fIx (.var 0) (.exp ((conD (.int 2))))))) (.exp ((conD (.int 0)))))) (isB (bin (fCmp .Lt) (.exp ((bin fIx (.var 0) (.exp ((conD (.int 1))))))) (.exp ((calD fLen [.exp ((bin fIx (.var 0) (.exp ((conD (.int 0))))))])))))) (seqD (setF 2 (bin fIx (.exp ((bin fIx (.var 0) (.exp ((conD (.int 0))))))) (.exp ((bin fIx (.var 0) (.exp ((conD (.int 1))))))))) (seqD (stD (bSub 0 (conD (.int 1))) (bin (fOp .Add) (.exp ((bin fIx (.var 0) (.exp ((conD (.int 1))))))) (.exp ((conD (.int 1)))))) (seqD (stD (bSub 0 (conD (.int 3))) (bin (fOp .Mod) (.exp ((calD fInt [.exp ((bin (fOp .Add) (.exp ((bin (fOp .Add) (.exp ((bin (fOp .Mult) (.exp ((bin fIx (.var 0) (.exp ((conD (.int 3))))))) (.exp ((conD (.int 69621))))))) (.var 2)))) (.exp ((conD (.int 29))))))]))) (.exp ((conD (.int 2147483629)))))) (ifS (isB (bin (fCmp .GtE) (.var 2) (.exp ((bin (fOp .Pow) (.exp ((conD (.int 10)))) (.exp ((conD (.int 18))))))))) (stD (bSub 0 (conD (.int 2))) (varD 2)) nextD)))) nextD)) (seqD (postG (fgtE [3]) (ifS (isB (bin (fCmp .Gt) (.exp ((bin fIx (.var 0) (.exp ((conD (.int 2))))))) (.exp ((conD (.int 0)))))) (seqD (setF 3 (bin (fOp .Mod) (.exp ((calD fInt [.exp ((bin fIx (.var 0) (.exp ((conD (.int 2))))))]))) (.var 1))) (seqD (stD (bSub 0 (conD (.int 2))) (bin (fOp .FloorDiv) (.exp ((bin fIx (.var 0) (.exp ((conD (.int 2))))))) (.var 1))) (retV 3))) nextD)) (seqD (stD (bSub 0 (conD (.int 4))) (bin (fOp .Add) (.exp ((bin fIx (.var 0) (.exp ((conD (.int 4))))))) (.exp ((conD (.int 1)))))) (seqD (setF 4 (bin (fOp .Mod) (.exp ((calD fInt [.exp ((bin (fOp .Mult) (.exp ((calD fInt [.exp ((bin (fOp .Add) (.exp ((bin fIx (.var 0) (.exp ((conD (.int 3))))))) (.exp ((bin (fOp .Mult) (.exp ((conD (.int 7919)))) (.exp ((bin fIx (.var 0) (.exp ((conD (.int 4))))))))))))]))) (.exp ((conD (.int 48271))))))]))) (.exp ((conD (.int 2147483647)))))) (seqD (setF 4 (bin (fOp .Mod) (.exp ((calD fInt [.exp ((bin (fOp .Mult) (.var 4) (.exp ((bin (fOp .Add) (.exp ((bin (fOp .FloorDiv) (.var 4) (.exp ((conD (.int 1009))))))) (.exp ((conD (.int 69621)))))))))]))) (.exp ((conD (.int 2147483647)))))) (seqD (setF 4 (bin (fOp .Mod) (.exp ((calD fInt [.exp ((bin (fOp .Mult) (.var 4) (.exp ((bin (fOp .Add) (.exp ((bin (fOp .FloorDiv) (.var 4) (.exp ((conD (.int 2003))))))) (.exp ((conD (.int 40692)))))))))]))) (.exp ((conD (.int 2147483399)))))) (retD (bin (fOp .Mod) (.exp ((calD fInt [.exp ((bin (fOp .FloorDiv) (.var 4) (.exp ((conD (.int 16))))))]))) (.var 1)))))))))
theorem b__law_draw {w : World} {K : PySem.W.Frag} {mg : Str → Option Value} {cs : List (Addr × Addr)} {base : Heap} {cl : Cl} {m : Nat} {G G' : Nat → FR} (T : Tab w K mg cs cl) (L1 : Lv w K mg base cl (m + 1) G) (L0 : Lv w K mg base cl m G')
    (f : Addr) (cdv : Value) (A : Around) (outer : List Env) (s : Shared) (H : Hp) (E : XK) (room : Room (m + 1) (A.deeper (PyProof.Rows.envOfC "_law_draw" (defScope s__law_draw) s.heap.objs.size f cdv))) (gd : A.guards = some []) :
    SB (cxOf (L2.CX PP w) PP w K mg base ["hand", "sides", "cell", "digit", "number"] "_law_draw" (defScope s__law_draw) f cdv A outer s H E) cl (fun c d _ H => E c d H) (defBody s__law_draw) (d__law_draw G G') := by
  have hu := room_hu room; have hu66 := room_hu66 room; have tk := @takes_cx PP w K mg base ["hand", "sides", "cell", "digit", "number"] "_law_draw" (defScope s__law_draw) f cdv A outer s H E; have sc := sc__law_draw
  exact (sb_cons (ss_post (gh_fgtE [2]) (ss_if (PW.pt (st_and (st_eqI hu room gd (geT_cons L0.e9 (fun _ _ h => geT_nil h)) (sp_exp (so_ix (sp_v ⟨rfl, .inl rfl, rfl, rfl⟩) (sp_exp so_int) (fun _ _ => rfl))) (sp_exp so_int) (nomark _)) (st_and1 (st_cmp (op := .Lt) hu (sp_exp (so_ix (sp_v ⟨rfl, .inl rfl, rfl, rfl⟩) (sp_exp so_int) (fun _ _ => rfl))) (sp_exp (so_callB callK_len rfl T.z_len b_len (sap_cons (sp_exp (so_ix (sp_v ⟨rfl, .inl rfl, rfl, rfl⟩) (sp_exp so_int) (fun _ _ => rfl))) sap_nil rfl) (by decide) rfl rfl rfl)) (nomark _))))) (sb_cons (ss_setF (ss_set (i := 2) sc.nd rfl (.inl rfl) (.inr rfl) (so_ix (sp_exp (so_ix (sp_v ⟨rfl, .inl rfl, rfl, rfl⟩) (sp_exp so_int) (fun _ _ => rfl))) (sp_exp (so_ix (sp_v ⟨rfl, .inl rfl, rfl, rfl⟩) (sp_exp so_int) (fun _ _ => rfl))) (fun _ _ => rfl)) rfl)) (sb_cons (ss_st (so_bin (op := .Add) (sp_exp (so_ix (sp_v ⟨rfl, .inl rfl, rfl, rfl⟩) (sp_exp so_int) (fun _ _ => rfl))) (sp_exp so_int)) (pg_sub (pe_v ⟨rfl, .inl rfl, rfl, rfl⟩) (SO.fz so_int) set_list (fun _ => rfl)) (bg_sub (W := Wno)) rfl rfl rfl) (sb_cons (ss_st (so_bin (op := .Mod) (sp_exp (so_callT callK_int rfl T.z_int b_int (sap_cons (sp_exp (so_bin (op := .Add) (sp_exp (so_bin (op := .Add) (sp_exp (so_bin (op := .Mult) (sp_exp (so_ix (sp_v ⟨rfl, .inl rfl, rfl, rfl⟩) (sp_exp so_int) (fun _ _ => rfl))) (sp_exp so_int))) (sp_v ⟨rfl, .inl rfl, rfl, rfl⟩))) (sp_exp so_int))) sap_nil rfl) (by decide) rfl rfl rfl)) (sp_exp so_int)) (pg_sub (pe_v ⟨rfl, .inl rfl, rfl, rfl⟩) (SO.fz so_int) set_list (fun _ => rfl)) (bg_sub (W := Wno)) rfl rfl rfl) (sb_one (ss_if (st_cmp (op := .GtE) hu (sp_v ⟨rfl, .inl rfl, rfl, rfl⟩) (sp_exp (so_bin (op := .Pow) (sp_exp so_int) (sp_exp so_int))) (nomark _)) (sb_one (ss_st (so_v ⟨rfl, .inl rfl, rfl, rfl⟩) (pg_sub (pe_v ⟨rfl, .inl rfl, rfl, rfl⟩) (SO.fz so_int) set_list (fun _ => rfl)) (bg_sub (W := Wno)) rfl rfl rfl)) sb_nil))))) sb_nil)) (sb_cons (ss_post (gh_fgtE [3]) (ss_if (st_cmp (op := .Gt) hu (sp_exp (so_ix (sp_v ⟨rfl, .inl rfl, rfl, rfl⟩) (sp_exp so_int) (fun _ _ => rfl))) (sp_exp so_int) (nomark _)) (sb_cons (ss_setF (ss_set (i := 3) sc.nd rfl (.inl rfl) (.inr rfl) (so_bin (op := .Mod) (sp_exp (so_callT callK_int rfl T.z_int b_int (sap_cons (sp_exp (so_ix (sp_v ⟨rfl, .inl rfl, rfl, rfl⟩) (sp_exp so_int) (fun _ _ => rfl))) sap_nil rfl) (by decide) rfl rfl rfl)) (sp_v ⟨rfl, .inl rfl, rfl, rfl⟩)) rfl)) (sb_cons (ss_st (so_bin (op := .FloorDiv) (sp_exp (so_ix (sp_v ⟨rfl, .inl rfl, rfl, rfl⟩) (sp_exp so_int) (fun _ _ => rfl))) (sp_v ⟨rfl, .inl rfl, rfl, rfl⟩)) (pg_sub (pe_v ⟨rfl, .inl rfl, rfl, rfl⟩) (SO.fz so_int) set_list (fun _ => rfl)) (bg_sub (W := Wno)) rfl rfl rfl) (sb_one (ss_retV' ⟨rfl, .inl rfl, rfl, rfl⟩)))) sb_nil)) (sb_cons (ss_st (so_bin (op := .Add) (sp_exp (so_ix (sp_v ⟨rfl, .inl rfl, rfl, rfl⟩) (sp_exp so_int) (fun _ _ => rfl))) (sp_exp so_int)) (pg_sub (pe_v ⟨rfl, .inl rfl, rfl, rfl⟩) (SO.fz so_int) set_list (fun _ => rfl)) (bg_sub (W := Wno)) rfl rfl rfl) (sb_cons (ss_setF (ss_set (i := 4) sc.nd rfl (.inl rfl) (.inr rfl) (so_bin (op := .Mod) (sp_exp (so_callT callK_int rfl T.z_int b_int (sap_cons (sp_exp (so_bin (op := .Mult) (sp_exp (so_callT callK_int rfl T.z_int b_int (sap_cons (sp_exp (so_bin (op := .Add) (sp_exp (so_ix (sp_v ⟨rfl, .inl rfl, rfl, rfl⟩) (sp_exp so_int) (fun _ _ => rfl))) (sp_exp (so_bin (op := .Mult) (sp_exp so_int) (sp_exp (so_ix (sp_v ⟨rfl, .inl rfl, rfl, rfl⟩) (sp_exp so_int) (fun _ _ => rfl))))))) sap_nil rfl) (by decide) rfl rfl rfl)) (sp_exp so_int))) sap_nil rfl) (by decide) rfl rfl rfl)) (sp_exp so_int)) rfl)) (sb_cons (ss_setF (ss_set (i := 4) sc.nd rfl (.inl rfl) (.inr rfl) (so_bin (op := .Mod) (sp_exp (so_callT callK_int rfl T.z_int b_int (sap_cons (sp_exp (so_bin (op := .Mult) (sp_v ⟨rfl, .inl rfl, rfl, rfl⟩) (sp_exp (so_bin (op := .Add) (sp_exp (so_bin (op := .FloorDiv) (sp_v ⟨rfl, .inl rfl, rfl, rfl⟩) (sp_exp so_int))) (sp_exp so_int))))) sap_nil rfl) (by decide) rfl rfl rfl)) (sp_exp so_int)) rfl)) (sb_cons (ss_setF (ss_set (i := 4) sc.nd rfl (.inl rfl) (.inr rfl) (so_bin (op := .Mod) (sp_exp (so_callT callK_int rfl T.z_int b_int (sap_cons (sp_exp (so_bin (op := .Mult) (sp_v ⟨rfl, .inl rfl, rfl, rfl⟩) (sp_exp (so_bin (op := .Add) (sp_exp (so_bin (op := .FloorDiv) (sp_v ⟨rfl, .inl rfl, rfl, rfl⟩) (sp_exp so_int))) (sp_exp so_int))))) sap_nil rfl) (by decide) rfl rfl rfl)) (sp_exp so_int)) rfl)) (sb_one (ss_ret (so_bin (op := .Mod) (sp_exp (so_callT callK_int rfl T.z_int b_int (sap_cons (sp_exp (so_bin (op := .FloorDiv) (sp_v ⟨rfl, .inl rfl, rfl, rfl⟩) (sp_exp so_int))) sap_nil rfl) (by decide) rfl rfl rfl)) (sp_v ⟨rfl, .inl rfl, rfl, rfl⟩))))))))))
theorem o__law_draw {w : World} {K : PySem.W.Frag} {mg : Str → Option Value} {cs : List (Addr × Addr)} {base : Heap} {cl : Cl} {m : Nat} {G G' : Nat → FR} (T : Tab w K mg cs cl) (L1 : Lv w K mg base cl (m + 1) G) (L0 : Lv w K mg base cl m G') {f : Addr} {fd : FuncData}
    (F : Fun K "_law_draw" "_law_draw" s__law_draw f fd) : FnG PP w K mg base (m + 2) f fd ["hand", "sides"] (spOf K cl 2 (fnD 5 (d__law_draw G G'))) := fn_body F sc__law_draw (by decide) fun cdv A outer s H E room gd => b__law_draw T L1 L0 f cdv A outer s H E room gd
theorem sc__law_is : FnScope ["one", "other", "mine", "yours", "key"] ["one", "other"] (defScope s__law_is) := ⟨rfl, rfl, rfl, by decide +kernel, rfl, by decide +kernel, by decide +kernel⟩
def _law_is_e1 (G G' : Nat → FR) : En → R (D × Bool) := (usr 2 (G 25) [.var 2, .var 3])
def _law_is_e2 (G G' : Nat → FR) : En → R (D × Bool) := (andV (bin (fCmp .In) (.var 4) (.var 1)) (usr 2 (G 25) [.exp ((bin fIx (.var 0) (.var 4))), .exp ((bin fIx (.var 1) (.var 4)))]))
def d__law_is (G G' : Nat → FR) : Sm := (seqD (ifS (orT (tru (.exp (una (fIsi okC isi (.ty "bool")) (.var 0)))) (tru (.exp (una (fIsi okC isi (.ty "bool")) (.var 1))))) (retD (andV (una (fIsi okC isi (.ty "bool")) (.var 0)) (andV (una (fIsi okC isi (.ty "bool")) (.var 1)) (cmpI .Eq id (geT ((0, G' 9) :: [])) (.var 0) (.var 1))))) nextD) (seqD (ifS (orT (tru (.exp (una (fIsi okC isi (.ty "tuple")) (.var 0)))) (tru (.exp (una (fIsi okC isi (.ty "list")) (.var 0))))) (seqD (ifS (orT (isB (cmpI .NotEq not (geT ((0, G' 9) :: [])) (.exp ((una (fIsi okC isi (.ty "tuple")) (.var 0)))) (.exp ((una (fIsi okC isi (.ty "tuple")) (.var 1)))))) (isB (cmpI .NotEq not (geT ((0, G' 9) :: [])) (.exp ((una (fIsi okC isi (.ty "list")) (.var 0)))) (.exp ((una (fIsi okC isi (.ty "list")) (.var 1))))))) (retD (conD (.bl false))) nextD) (retD (andV (cmpI .Eq id (geT ((0, G' 9) :: [])) (.exp ((calD fLen [.var 0]))) (.exp ((calD fLen [.var 1])))) (calD fAll [.exp ((lcD (itC fZip2 [(varD 0), (varD 1)]) (bTup [(bName 2), (bName 3)]) yesT (_law_is_e1 G G') [2, 3]))])))) nextD) (seqD (ifS (tru (.exp (una (fIsi okC isi (.ty "dict")) (.var 0)))) (seqD (ifS (orT (notT (tru (.exp (una (fIsi okC isi (.ty "dict")) (.var 1))))) (isB (cmpI .NotEq not (geT ((0, G' 9) :: [])) (.exp ((calD fLen [.var 0]))) (.exp ((calD fLen [.var 1])))))) (retD (conD (.bl false))) nextD) (retD (calD fAll [.exp ((lcD (itV (varD 0)) (bName 4) yesT (_law_is_e2 G G') [4]))]))) nextD) (retD (andV (cmpI .Eq id (geT ((0, G' 9) :: [])) (.exp ((una (fIsi okC isi (.ty "int")) (.var 0)))) (.exp ((una (fIsi okC isi (.ty "int")) (.var 1))))) (cmpI .Eq id (geT ((0, G' 9) :: [])) (.var 0) (.var 1)))))))
theorem b__law_is {w : World} {K : PySem.W.Frag} {mg : Str → Option Value} {cs : List (Addr × Addr)} {base : Heap} {cl : Cl} {m : Nat} {G G' : Nat → FR} (T : Tab w K mg cs cl) (L1 : Lv w K mg base cl (m + 1) G) (L0 : Lv w K mg base cl m G')
    (f : Addr) (cdv : Value) (A : Around) (outer : List Env) (s : Shared) (H : Hp) (E : XK) (room : Room (m + 1) (A.deeper (PyProof.Rows.envOfC "_law_is" (defScope s__law_is) s.heap.objs.size f cdv))) (gd : A.guards = some []) :
    SB (cxOf (L2.CX PP w) PP w K mg base ["one", "other", "mine", "yours", "key"] "_law_is" (defScope s__law_is) f cdv A outer s H E) cl (fun c d _ H => E c d H) (defBody s__law_is) (d__law_is G G') := by
  have hu := room_hu room; have hu66 := room_hu66 room; have tk := @takes_cx PP w K mg base ["one", "other", "mine", "yours", "key"] "_law_is" (defScope s__law_is) f cdv A outer s H E; have sc := sc__law_is
  exact (sb_cons (ss_if (PW.pt (st_or (st_val (so_isi (isi := isi) (c := (.ty "bool")) T.cls (fun t b h => T.isi t _ b h) rfl T.z_isinstance b_isinstance (sp_v ⟨rfl, .inr (.inl rfl), rfl, rfl⟩) (pe_bltn (v := .ty "bool") rfl T.z_bool b_bool rfl (by decide) rfl) (.ty _) rfl rfl rfl) (fun _ => rfl)) (st_or1 (st_val (so_isi (isi := isi) (c := (.ty "bool")) T.cls (fun t b h => T.isi t _ b h) rfl T.z_isinstance b_isinstance (sp_v ⟨rfl, .inr (.inl rfl), rfl, rfl⟩) (pe_bltn (v := .ty "bool") rfl T.z_bool b_bool rfl (by decide) rfl) (.ty _) rfl rfl rfl) (fun _ => rfl))))) (sb_one (ss_ret (so_and (so_isi (isi := isi) (c := (.ty "bool")) T.cls (fun t b h => T.isi t _ b h) rfl T.z_isinstance b_isinstance (sp_v ⟨rfl, .inr (.inl rfl), rfl, rfl⟩) (pe_bltn (v := .ty "bool") rfl T.z_bool b_bool rfl (by decide) rfl) (.ty _) rfl rfl rfl) (so_and (so_isi (isi := isi) (c := (.ty "bool")) T.cls (fun t b h => T.isi t _ b h) rfl T.z_isinstance b_isinstance (sp_v ⟨rfl, .inr (.inl rfl), rfl, rfl⟩) (pe_bltn (v := .ty "bool") rfl T.z_bool b_bool rfl (by decide) rfl) (.ty _) rfl rfl rfl) (so_one (so_eqI hu room gd (geT_cons L0.e9 (fun _ _ h => geT_nil h)) (sp_v ⟨rfl, .inr (.inl rfl), rfl, rfl⟩) (sp_v ⟨rfl, .inr (.inl rfl), rfl, rfl⟩) (nomark _))))))) sb_nil) (sb_cons (ss_if (PW.pt (st_or (st_val (so_isi (isi := isi) (c := (.ty "tuple")) T.cls (fun t b h => T.isi t _ b h) rfl T.z_isinstance b_isinstance (sp_v ⟨rfl, .inr (.inl rfl), rfl, rfl⟩) (pe_bltn (v := .ty "tuple") rfl T.z_tuple b_tuple rfl (by decide) rfl) (.ty _) rfl rfl rfl) (fun _ => rfl)) (st_or1 (st_val (so_isi (isi := isi) (c := (.ty "list")) T.cls (fun t b h => T.isi t _ b h) rfl T.z_isinstance b_isinstance (sp_v ⟨rfl, .inr (.inl rfl), rfl, rfl⟩) (pe_bltn (v := .ty "list") rfl T.z_list b_list rfl (by decide) rfl) (.ty _) rfl rfl rfl) (fun _ => rfl))))) (sb_cons (ss_if (PW.pt (st_or (st_neI hu room gd (geT_cons L0.e9 (fun _ _ h => geT_nil h)) (sp_exp (so_isi (isi := isi) (c := (.ty "tuple")) T.cls (fun t b h => T.isi t _ b h) rfl T.z_isinstance b_isinstance (sp_v ⟨rfl, .inr (.inl rfl), rfl, rfl⟩) (pe_bltn (v := .ty "tuple") rfl T.z_tuple b_tuple rfl (by decide) rfl) (.ty _) rfl rfl rfl)) (sp_exp (so_isi (isi := isi) (c := (.ty "tuple")) T.cls (fun t b h => T.isi t _ b h) rfl T.z_isinstance b_isinstance (sp_v ⟨rfl, .inr (.inl rfl), rfl, rfl⟩) (pe_bltn (v := .ty "tuple") rfl T.z_tuple b_tuple rfl (by decide) rfl) (.ty _) rfl rfl rfl)) (nomark _)) (st_or1 (st_neI hu room gd (geT_cons L0.e9 (fun _ _ h => geT_nil h)) (sp_exp (so_isi (isi := isi) (c := (.ty "list")) T.cls (fun t b h => T.isi t _ b h) rfl T.z_isinstance b_isinstance (sp_v ⟨rfl, .inr (.inl rfl), rfl, rfl⟩) (pe_bltn (v := .ty "list") rfl T.z_list b_list rfl (by decide) rfl) (.ty _) rfl rfl rfl)) (sp_exp (so_isi (isi := isi) (c := (.ty "list")) T.cls (fun t b h => T.isi t _ b h) rfl T.z_isinstance b_isinstance (sp_v ⟨rfl, .inr (.inl rfl), rfl, rfl⟩) (pe_bltn (v := .ty "list") rfl T.z_list b_list rfl (by decide) rfl) (.ty _) rfl rfl rfl)) (nomark _))))) (sb_one (ss_ret so_bl)) sb_nil) (sb_one (ss_ret (so_and (so_eqI hu room gd (geT_cons L0.e9 (fun _ _ h => geT_nil h)) (sp_exp (so_callB callK_len rfl T.z_len b_len (sap_cons (sp_v ⟨rfl, .inr (.inl rfl), rfl, rfl⟩) sap_nil rfl) (by decide) rfl rfl rfl)) (sp_exp (so_callB callK_len rfl T.z_len b_len (sap_cons (sp_v ⟨rfl, .inr (.inl rfl), rfl, rfl⟩) sap_nil rfl) (by decide) rfl rfl rfl)) (nomark _)) (so_one (so_callB (callK_all rfl) rfl T.z_all b_all (sap_cons (sp_exp (so_lc (own := [("mine", 2), ("yours", 3)]) rfl sc.nd (si_zip2 rfl T.z_zip (sa_cons (so_v ⟨rfl, .inr (.inl rfl), rfl, rfl⟩) (sa_cons (so_v ⟨rfl, .inr (.inl rfl), rfl, rfl⟩) sa_nil rfl) rfl) rfl rfl) (blkOk_by (by kernel_rfl)) (fun s H C cs fp => (pg_tup rfl (pgs_cons (pg_name (i := 2) sc.nd rfl (.inl rfl) (.inr rfl)) (pgs_cons (pg_name (i := 3) sc.nd rfl (.inl rfl) (.inr rfl)) pgs_nil rfl) rfl) rfl rfl)) (fun s H C cs fp => pts_yes) (fun s H C cs fp => SO.fz (so_call L1.f25 room gd takesN rfl rfl (sap_cons (sp_v ⟨rfl, .inl rfl, rfl, rfl⟩) (sap_cons (sp_v ⟨rfl, .inl rfl, rfl, rfl⟩) sap_nil rfl) rfl) rfl rfl)) (bg_tup (bgs_cons bg_name (bgs_cons bg_name bgs_nil)) rfl) (gin_tup (gins_cons (gin_name (by simp)) gmo_name (gins_cons (gin_name (by simp)) gmo_name gins_nil gmos_nil) (gmos_cons gmo_name gmos_nil))) (gmo_tup (gmos_cons gmo_name (gmos_cons gmo_name gmos_nil))) (fun _ => rfl))) sap_nil rfl) (by decide) rfl rfl rfl)))))) sb_nil) (sb_cons (ss_if (st_val (so_isi (isi := isi) (c := (.ty "dict")) T.cls (fun t b h => T.isi t _ b h) rfl T.z_isinstance b_isinstance (sp_v ⟨rfl, .inr (.inl rfl), rfl, rfl⟩) (pe_bltn (v := .ty "dict") rfl T.z_dict b_dict rfl (by decide) rfl) (.ty _) rfl rfl rfl) (fun _ => rfl)) (sb_cons (ss_if (PW.pt (st_or (st_not (st_val (so_isi (isi := isi) (c := (.ty "dict")) T.cls (fun t b h => T.isi t _ b h) rfl T.z_isinstance b_isinstance (sp_v ⟨rfl, .inr (.inl rfl), rfl, rfl⟩) (pe_bltn (v := .ty "dict") rfl T.z_dict b_dict rfl (by decide) rfl) (.ty _) rfl rfl rfl) (fun _ => rfl))) (st_or1 (st_neI hu room gd (geT_cons L0.e9 (fun _ _ h => geT_nil h)) (sp_exp (so_callB callK_len rfl T.z_len b_len (sap_cons (sp_v ⟨rfl, .inr (.inl rfl), rfl, rfl⟩) sap_nil rfl) (by decide) rfl rfl rfl)) (sp_exp (so_callB callK_len rfl T.z_len b_len (sap_cons (sp_v ⟨rfl, .inr (.inl rfl), rfl, rfl⟩) sap_nil rfl) (by decide) rfl rfl rfl)) (nomark _))))) (sb_one (ss_ret so_bl)) sb_nil) (sb_one (ss_ret (so_callB (callK_all rfl) rfl T.z_all b_all (sap_cons (sp_exp (so_lc (own := [("key", 4)]) rfl sc.nd (si_val (so_v ⟨rfl, .inr (.inl rfl), rfl, rfl⟩)) (blkOk_by (by kernel_rfl)) (fun s H C cs fp => (pg_name (i := 4) sc.nd rfl (.inl rfl) (.inr rfl))) (fun s H C cs fp => pts_yes) (fun s H C cs fp => SO.fz (so_and (so_cmp (op := .In) hu (sp_v ⟨rfl, .inl rfl, rfl, rfl⟩) (sp_v ⟨rfl, .inr (.inl rfl), rfl, rfl⟩) (by with_unfolding_all rfl)) (so_one (so_call L1.f25 room gd takesN rfl rfl (sap_cons (sp_exp (so_ix (sp_v ⟨rfl, .inr (.inl rfl), rfl, rfl⟩) (sp_v ⟨rfl, .inl rfl, rfl, rfl⟩) (fun _ _ => rfl))) (sap_cons (sp_exp (so_ix (sp_v ⟨rfl, .inr (.inl rfl), rfl, rfl⟩) (sp_v ⟨rfl, .inl rfl, rfl, rfl⟩) (fun _ _ => rfl))) sap_nil rfl) rfl) rfl rfl)))) bg_name (gin_name (by simp)) gmo_name (fun _ => rfl))) sap_nil rfl) (by decide) rfl rfl rfl)))) sb_nil) (sb_one (ss_ret (so_and (so_eqI hu room gd (geT_cons L0.e9 (fun _ _ h => geT_nil h)) (sp_exp (so_isi (isi := isi) (c := (.ty "int")) T.cls (fun t b h => T.isi t _ b h) rfl T.z_isinstance b_isinstance (sp_v ⟨rfl, .inr (.inl rfl), rfl, rfl⟩) (pe_bltn (v := .ty "int") rfl T.z_int b_int rfl (by decide) rfl) (.ty _) rfl rfl rfl)) (sp_exp (so_isi (isi := isi) (c := (.ty "int")) T.cls (fun t b h => T.isi t _ b h) rfl T.z_isinstance b_isinstance (sp_v ⟨rfl, .inr (.inl rfl), rfl, rfl⟩) (pe_bltn (v := .ty "int") rfl T.z_int b_int rfl (by decide) rfl) (.ty _) rfl rfl rfl)) (nomark _)) (so_one (so_eqI hu room gd (geT_cons L0.e9 (fun _ _ h => geT_nil h)) (sp_v ⟨rfl, .inr (.inl rfl), rfl, rfl⟩) (sp_v ⟨rfl, .inr (.inl rfl), rfl, rfl⟩) (nomark _)))))))))
theorem o__law_is {w : World} {K : PySem.W.Frag} {mg : Str → Option Value} {cs : List (Addr × Addr)} {base : Heap} {cl : Cl} {m : Nat} {G G' : Nat → FR} (T : Tab w K mg cs cl) (L1 : Lv w K mg base cl (m + 1) G) (L0 : Lv w K mg base cl m G') {f : Addr} {fd : FuncData}
    (F : Fun K "_law_is" "_law_is" s__law_is f fd) : FnG PP w K mg base (m + 2) f fd ["one", "other"] (spOf K cl 2 (fnD 5 (d__law_is G G'))) := fn_body F sc__law_is (by decide) fun cdv A outer s H E room gd => b__law_is T L1 L0 f cdv A outer s H E room gd
theorem sc__law_rows : FnScope ["letters", "found", "turn", "longer", "row"] ["letters"] (defScope s__law_rows) := ⟨rfl, rfl, rfl, by decide +kernel, rfl, by decide +kernel, by decide +kernel⟩
def _law_rows_b1 (G G' : Nat → FR) : Sm := (postG (fgtE [4]) (extS 3 (lstD [(bin (fOp .Add) (.var 4) (.exp ((tupD [(conD (.int 0))])))), (bin (fOp .Add) (.var 4) (.exp ((tupD [(conD (.int 1))]))))])))
def _law_rows_b2 (G G' : Nat → FR) : Sm := (postG (fgtE [2, 3, 4]) (seqD (setD 3 (lstD [])) (seqD (forS (itV (varD 1)) (bName 4) (_law_rows_b1 G G')) (setF 1 (varD 3)))))
def d__law_rows (G G' : Nat → FR) : Sm := (seqD (setF 1 (lstD [(tupD [])])) (seqD (forS (itC fRange1 [(varD 0)]) (bName 2) (_law_rows_b2 G G')) (retV 1)))
theorem b__law_rows {w : World} {K : PySem.W.Frag} {mg : Str → Option Value} {cs : List (Addr × Addr)} {base : Heap} {cl : Cl} {m : Nat} {G G' : Nat → FR} (T : Tab w K mg cs cl) (L1 : Lv w K mg base cl (m + 1) G) (L0 : Lv w K mg base cl m G')
    (f : Addr) (cdv : Value) (A : Around) (outer : List Env) (s : Shared) (H : Hp) (E : XK) (room : Room (m + 1) (A.deeper (PyProof.Rows.envOfC "_law_rows" (defScope s__law_rows) s.heap.objs.size f cdv))) (gd : A.guards = some []) :
    SB (cxOf (L2.CX PP w) PP w K mg base ["letters", "found", "turn", "longer", "row"] "_law_rows" (defScope s__law_rows) f cdv A outer s H E) cl (fun c d _ H => E c d H) (defBody s__law_rows) (d__law_rows G G') := by
  have hu := room_hu room; have hu66 := room_hu66 room; have tk := @takes_cx PP w K mg base ["letters", "found", "turn", "longer", "row"] "_law_rows" (defScope s__law_rows) f cdv A outer s H E; have sc := sc__law_rows
  exact (sb_cons (ss_setF (ss_set (i := 1) sc.nd rfl (.inl rfl) (.inr rfl) (so_lst (sa_cons (so_tup sa_nil) sa_nil rfl)) rfl)) (sb_cons (ss_for (passes_of (K := _) rfl) rfl (si_range1 rfl T.z_range (sa_cons (so_v ⟨rfl, .inl rfl, rfl, rfl⟩) sa_nil rfl) rfl) (pg_name (i := 2) sc.nd rfl (.inl rfl) (.inr rfl)) bg_name (sb_post (gh_fgtE [2, 3, 4]) (sb_cons (ss_set (i := 3) sc.nd rfl (.inl rfl) (.inr rfl) (so_lst sa_nil) rfl) (sb_cons (ss_for (passes_of (K := _) rfl) rfl (si_val (so_v ⟨rfl, .inl rfl, rfl, rfl⟩)) (pg_name (i := 4) sc.nd rfl (.inl rfl) (.inr rfl)) bg_name (sb_post (gh_fgtE [4]) (sb_one (ss_ext (pe_v ⟨rfl, .inl rfl, rfl, rfl⟩) (so_lst (sa_cons (so_bin (op := .Add) (sp_v ⟨rfl, .inl rfl, rfl, rfl⟩) (sp_exp (so_tup (sa_cons so_int sa_nil rfl)))) (sa_cons (so_bin (op := .Add) (sp_v ⟨rfl, .inl rfl, rfl, rfl⟩) (sp_exp (so_tup (sa_cons so_int sa_nil rfl)))) sa_nil rfl) rfl)) rfl rfl rfl rfl rfl rfl))) (fun _ => rfl)) (sb_one (ss_setF (ss_set (i := 1) sc.nd rfl (.inl rfl) (.inr rfl) (so_v ⟨rfl, .inl rfl, rfl, rfl⟩) rfl)))))) (fun _ => rfl)) (sb_one (ss_retV' ⟨rfl, .inl rfl, rfl, rfl⟩))))
theorem o__law_rows {w : World} {K : PySem.W.Frag} {mg : Str → Option Value} {cs : List (Addr × Addr)} {base : Heap} {cl : Cl} {m : Nat} {G G' : Nat → FR} (T : Tab w K mg cs cl) (L1 : Lv w K mg base cl (m + 1) G) (L0 : Lv w K mg base cl m G') {f : Addr} {fd : FuncData}
    (F : Fun K "_law_rows" "_law_rows" s__law_rows f fd) : FnG PP w K mg base (m + 2) f fd ["letters"] (spOf K cl 1 (fnD 5 (d__law_rows G G'))) := fn_body F sc__law_rows (by decide) fun cdv A outer s H E room gd => b__law_rows T L1 L0 f cdv A outer s H E room gd
theorem sc__law_number : FnScope ["row", "found", "bit"] ["row"] (defScope s__law_number) := ⟨rfl, rfl, rfl, by decide +kernel, rfl, by decide +kernel, by decide +kernel⟩
def _law_number_b1 (G G' : Nat → FR) : Sm := (postG (fgtE [2]) (setF 1 (bin (fOp .Add) (.exp ((bin (fOp .Mult) (.exp ((conD (.int 2)))) (.var 1)))) (.var 2))))
def d__law_number (G G' : Nat → FR) : Sm := (seqD (setF 1 (conD (.int 0))) (seqD (forS (itV (varD 0)) (bName 2) (_law_number_b1 G G')) (retV 1)))
theorem b__law_number {w : World} {K : PySem.W.Frag} {mg : Str → Option Value} {cs : List (Addr × Addr)} {base : Heap} {cl : Cl} {m : Nat} {G G' : Nat → FR} (T : Tab w K mg cs cl) (L1 : Lv w K mg base cl (m + 1) G) (L0 : Lv w K mg base cl m G')
    (f : Addr) (cdv : Value) (A : Around) (outer : List Env) (s : Shared) (H : Hp) (E : XK) (room : Room (m + 1) (A.deeper (PyProof.Rows.envOfC "_law_number" (defScope s__law_number) s.heap.objs.size f cdv))) (gd : A.guards = some []) :
    SB (cxOf (L2.CX PP w) PP w K mg base ["row", "found", "bit"] "_law_number" (defScope s__law_number) f cdv A outer s H E) cl (fun c d _ H => E c d H) (defBody s__law_number) (d__law_number G G') := by
  have hu := room_hu room; have hu66 := room_hu66 room; have tk := @takes_cx PP w K mg base ["row", "found", "bit"] "_law_number" (defScope s__law_number) f cdv A outer s H E; have sc := sc__law_number
  exact (sb_cons (ss_setF (ss_set (i := 1) sc.nd rfl (.inl rfl) (.inr rfl) so_int rfl)) (sb_cons (ss_for (passes_of (K := _) rfl) rfl (si_val (so_v ⟨rfl, .inl rfl, rfl, rfl⟩)) (pg_name (i := 2) sc.nd rfl (.inl rfl) (.inr rfl)) bg_name (sb_post (gh_fgtE [2]) (sb_one (ss_setF (ss_set (i := 1) sc.nd rfl (.inl rfl) (.inr rfl) (so_bin (op := .Add) (sp_exp (so_bin (op := .Mult) (sp_exp so_int) (sp_v ⟨rfl, .inl rfl, rfl, rfl⟩))) (sp_v ⟨rfl, .inl rfl, rfl, rfl⟩)) rfl)))) (fun _ => rfl)) (sb_one (ss_retV' ⟨rfl, .inl rfl, rfl, rfl⟩))))
theorem o__law_number {w : World} {K : PySem.W.Frag} {mg : Str → Option Value} {cs : List (Addr × Addr)} {base : Heap} {cl : Cl} {m : Nat} {G G' : Nat → FR} (T : Tab w K mg cs cl) (L1 : Lv w K mg base cl (m + 1) G) (L0 : Lv w K mg base cl m G') {f : Addr} {fd : FuncData}
    (F : Fun K "_law_number" "_law_number" s__law_number f fd) : FnG PP w K mg base (m + 2) f fd ["row"] (spOf K cl 1 (fnD 3 (d__law_number G G'))) := fn_body F sc__law_number (by decide) fun cdv A outer s H E room gd => b__law_number T L1 L0 f cdv A outer s H E room gd
theorem sc__law_bits : FnScope ["hand", "letters", "size", "way_of", "weights", "bar", "lots", "lot", "bit", "rare", "turn", "i", "row", "w", "b", "number"] ["hand", "letters"] (defScope s__law_bits) := ⟨rfl, rfl, rfl, by decide +kernel, rfl, by decide +kernel, by decide +kernel⟩
def _law_bits_e1 (G G' : Nat → FR) : En → R (D × Bool) := (usr 2 (G 24) [.var 0, .exp ((conD (.int 2)))])
def _law_bits_e2 (G G' : Nat → FR) : En → R (D × Bool) := (bin (fOp .Sub) (.exp ((usr 2 (G 24) [.var 0, .exp ((conD (.int 5)))]))) (.exp ((conD (.int 2)))))
def _law_bits_e3 (G G' : Nat → FR) : En → R (D × Bool) := (bin (fOp .Mult) (.var 13) (.var 14))
def _law_bits_e4 (G G' : Nat → FR) : En → R (D × Bool) := (calD fInt [.exp ((bin (fCmp .GtE) (.exp ((calD fSumA [.exp ((lcD (itC fZip2 [(varD 4), (varD 12)]) (bTup [(bName 13), (bName 14)]) yesT (_law_bits_e3 G G') [13, 14]))]))) (.var 5)))])
def _law_bits_e5 (G G' : Nat → FR) : En → R (D × Bool) := (usr 2 (G 24) [.var 0, .var 2])
def _law_bits_e6 (G G' : Nat → FR) : En → R (D × Bool) := (cmpI .Eq id (geT ((0, G' 9) :: [])) (.exp ((bin (fOp .BitAnd) (.var 15) (.var 7)))) (.var 7))
def _law_bits_e7 (G G' : Nat → FR) : En → R (D × Bool) := (calD fInt [.exp ((calD fAny [.exp ((lcD (itV (varD 6)) (bName 7) yesT (_law_bits_e6 G G') [7]))]))])
def _law_bits_e8 (G G' : Nat → FR) : En → R (D × Bool) := (bin (fOp .Mod) (.exp ((bin (fOp .Add) (.exp ((usr 1 (G 29) [.exp ((bin (fOp .BitAnd) (.var 15) (.var 7)))]))) (.var 8)))) (.exp ((conD (.int 2)))))
def _law_bits_e9 (G G' : Nat → FR) : En → R (D × Bool) := (calD fInt [.exp ((cmpI .Eq id (geT ((0, G' 9) :: [])) (.exp ((usr 2 (G 24) [.var 0, .exp ((bin (fOp .Add) (.var 9) (.exp ((conD (.int 1))))))]))) (.exp ((conD (.int 0))))))])
def d__law_bits (G G' : Nat → FR) : Sm := (seqD (stD (bTup [(bName 2), (bName 3)]) (tupD [(bin (fOp .LShift) (.exp ((conD (.int 1)))) (.var 1)), (usr 2 (G 24) [.var 0, .exp ((conD (.int 5)))])])) (seqD (ifS (isB (cmpI .Eq id (geT ((0, G' 9) :: [])) (.var 3) (.exp ((conD (.int 0)))))) (retD (calD fTuple [.exp ((lcD (itC fRange1 [(varD 2)]) (bName 10) yesT (_law_bits_e1 G G') [10]))])) nextD) (seqD (postG (fgtE [4, 5]) (ifS (isB (cmpI .Eq id (geT ((0, G' 9) :: [])) (.var 3) (.exp ((conD (.int 1)))))) (seqD (stD (bTup [(bName 4), (bName 5)]) (tupD [(lcD (itC fRange1 [(varD 1)]) (bName 11) yesT (_law_bits_e2 G G') [11]), (bin (fOp .Sub) (.exp ((usr 2 (G 24) [.var 0, .exp ((conD (.int 6)))]))) (.exp ((conD (.int 2)))))])) (retD (calD fTuple [.exp ((lcD (itV (usr 1 (G 26) [.var 1])) (bName 12) yesT (_law_bits_e4 G G') [12]))]))) nextD)) (seqD (postG (fgtE [6]) (ifS (isB (cmpI .Eq id (geT ((0, G' 9) :: [])) (.var 3) (.exp ((conD (.int 2)))))) (seqD (setF 6 (lcD (itC fRange1 [(bin (fOp .Add) (.exp ((conD (.int 1)))) (.exp ((usr 2 (G 24) [.var 0, .exp ((conD (.int 3)))]))))]) (bName 10) yesT (_law_bits_e5 G G') [10])) (retD (calD fTuple [.exp ((lcD (itC fRange1 [(varD 2)]) (bName 15) yesT (_law_bits_e7 G G') [15]))]))) nextD)) (seqD (postG (fgtE [7, 8]) (ifS (isB (cmpI .Eq id (geT ((0, G' 9) :: [])) (.var 3) (.exp ((conD (.int 3)))))) (seqD (stD (bTup [(bName 7), (bName 8)]) (tupD [(usr 2 (G 24) [.var 0, .var 2]), (usr 2 (G 24) [.var 0, .exp ((conD (.int 2)))])])) (retD (calD fTuple [.exp ((lcD (itC fRange1 [(varD 2)]) (bName 15) yesT (_law_bits_e8 G G') [15]))]))) nextD)) (seqD (setF 9 (bin (fOp .Add) (.exp ((conD (.int 1)))) (.exp ((usr 2 (G 24) [.var 0, .exp ((conD (.int 4)))]))))) (retD (calD fTuple [.exp ((lcD (itC fRange1 [(varD 2)]) (bName 10) yesT (_law_bits_e9 G G') [10]))]))))))))
theorem b__law_bits {w : World} {K : PySem.W.Frag} {mg : Str → Option Value} {cs : List (Addr × Addr)} {base : Heap} {cl : Cl} {m : Nat} {G G' : Nat → FR} (T : Tab w K mg cs cl) (L1 : Lv w K mg base cl (m + 1) G) (L0 : Lv w K mg base cl m G')
    (f : Addr) (cdv : Value) (A : Around) (outer : List Env) (s : Shared) (H : Hp) (E : XK) (room : Room (m + 1) (A.deeper (PyProof.Rows.envOfC "_law_bits" (defScope s__law_bits) s.heap.objs.size f cdv))) (gd : A.guards = some []) :
    SB (cxOf (L2.CX PP w) PP w K mg base ["hand", "letters", "size", "way_of", "weights", "bar", "lots", "lot", "bit", "rare", "turn", "i", "row", "w", "b", "number"] "_law_bits" (defScope s__law_bits) f cdv A outer s H E) cl (fun c d _ H => E c d H) (defBody s__law_bits) (d__law_bits G G') := by
  have hu := room_hu room; have hu66 := room_hu66 room; have tk := @takes_cx PP w K mg base ["hand", "letters", "size", "way_of", "weights", "bar", "lots", "lot", "bit", "rare", "turn", "i", "row", "w", "b", "number"] "_law_bits" (defScope s__law_bits) f cdv A outer s H E; have sc := sc__law_bits
  exact (sb_cons (ss_st (so_tup (sa_cons (so_bin (op := .LShift) (sp_exp so_int) (sp_v ⟨rfl, .inl rfl, rfl, rfl⟩)) (sa_cons (so_call L1.f24 room gd tk rfl rfl (sap_cons (sp_v ⟨rfl, .inr (.inl rfl), rfl, rfl⟩) (sap_cons (sp_exp so_int) sap_nil rfl) rfl) rfl rfl) sa_nil rfl) rfl)) (pg_tup rfl (pgs_cons (pg_name (i := 2) sc.nd rfl (.inr rfl) (.inl rfl)) (pgs_cons (pg_name (i := 3) sc.nd rfl (.inl rfl) (.inr rfl)) pgs_nil rfl) rfl) rfl rfl) (bg_tup (bgs_cons bg_name (bgs_cons bg_name bgs_nil)) rfl) rfl rfl rfl) (sb_cons (ss_if (st_eqI hu room gd (geT_cons L0.e9 (fun _ _ h => geT_nil h)) (sp_v ⟨rfl, .inl rfl, rfl, rfl⟩) (sp_exp so_int) (nomark _)) (sb_one (ss_ret (so_callT callK_tuple rfl T.z_tuple b_tuple (sap_cons (sp_exp (so_lc (own := [("turn", 10)]) rfl sc.nd (si_range1 rfl T.z_range (sa_cons (so_v ⟨rfl, .inr (.inl rfl), rfl, rfl⟩) sa_nil rfl) rfl) (blkOk_by (by kernel_rfl)) (fun s H C cs fp => (pg_name (i := 10) sc.nd rfl (.inl rfl) (.inr rfl))) (fun s H C cs fp => pts_yes) (fun s H C cs fp => SO.fz (so_call L1.f24 room gd takesN rfl rfl (sap_cons (sp_v ⟨rfl, .inr (.inl rfl), rfl, rfl⟩) (sap_cons (sp_exp so_int) sap_nil rfl) rfl) rfl rfl)) bg_name (gin_name (by simp)) gmo_name (fun _ => rfl))) sap_nil rfl) (by decide) rfl rfl rfl))) sb_nil) (sb_cons (ss_post (gh_fgtE [4, 5]) (ss_if (st_eqI hu room gd (geT_cons L0.e9 (fun _ _ h => geT_nil h)) (sp_v ⟨rfl, .inl rfl, rfl, rfl⟩) (sp_exp so_int) (nomark _)) (sb_cons (ss_st (so_tup (sa_cons (so_lc (own := [("i", 11)]) rfl sc.nd (si_range1 rfl T.z_range (sa_cons (so_v ⟨rfl, .inl rfl, rfl, rfl⟩) sa_nil rfl) rfl) (blkOk_by (by kernel_rfl)) (fun s H C cs fp => (pg_name (i := 11) sc.nd rfl (.inl rfl) (.inr rfl))) (fun s H C cs fp => pts_yes) (fun s H C cs fp => SO.fz (so_bin (op := .Sub) (sp_exp (so_call L1.f24 room gd takesN rfl rfl (sap_cons (sp_v ⟨rfl, .inr (.inl rfl), rfl, rfl⟩) (sap_cons (sp_exp so_int) sap_nil rfl) rfl) rfl rfl)) (sp_exp so_int))) bg_name (gin_name (by simp)) gmo_name (fun _ => rfl)) (sa_cons (so_bin (op := .Sub) (sp_exp (so_call L1.f24 room gd tk rfl rfl (sap_cons (sp_v ⟨rfl, .inr (.inl rfl), rfl, rfl⟩) (sap_cons (sp_exp so_int) sap_nil rfl) rfl) rfl rfl)) (sp_exp so_int)) sa_nil rfl) rfl)) (pg_tup rfl (pgs_cons (pg_name (i := 4) sc.nd rfl (.inr rfl) (.inl rfl)) (pgs_cons (pg_name (i := 5) sc.nd rfl (.inr rfl) (.inl rfl)) pgs_nil rfl) rfl) rfl rfl) (bg_tup (bgs_cons bg_name (bgs_cons bg_name bgs_nil)) rfl) rfl rfl rfl) (sb_one (ss_ret (so_callT callK_tuple rfl T.z_tuple b_tuple (sap_cons (sp_exp (so_lc (own := [("row", 12)]) rfl sc.nd (si_val (so_call L1.f26 room gd tk rfl rfl (sap_cons (sp_v ⟨rfl, .inl rfl, rfl, rfl⟩) sap_nil rfl) rfl rfl)) (blkOk_by (by kernel_rfl)) (fun s H C cs fp => (pg_name (i := 12) sc.nd rfl (.inl rfl) (.inr rfl))) (fun s H C cs fp => pts_yes) (fun s H C cs fp => SO.fz (so_callT callK_int rfl T.z_int b_int (sap_cons (sp_exp (so_cmp (op := .GtE) hu (sp_exp (so_callB (callK_sumA rfl) rfl T.z_sum b_sum (sap_cons (sp_exp (so_lc (own := [("w", 13), ("b", 14)]) rfl sc.nd (si_zip2 rfl T.z_zip (sa_cons (so_v ⟨rfl, .inr (.inl rfl), rfl, rfl⟩) (sa_cons (so_v ⟨rfl, .inl rfl, rfl, rfl⟩) sa_nil rfl) rfl) rfl rfl) (blkOk_by (by kernel_rfl)) (fun s H C cs fp => (pg_tup rfl (pgs_cons (pg_name (i := 13) sc.nd rfl (.inl rfl) (.inr rfl)) (pgs_cons (pg_name (i := 14) sc.nd rfl (.inl rfl) (.inr rfl)) pgs_nil rfl) rfl) rfl rfl)) (fun s H C cs fp => pts_yes) (fun s H C cs fp => SO.fz (so_bin (op := .Mult) (sp_v ⟨rfl, .inl rfl, rfl, rfl⟩) (sp_v ⟨rfl, .inl rfl, rfl, rfl⟩))) (bg_tup (bgs_cons bg_name (bgs_cons bg_name bgs_nil)) rfl) (gin_tup (gins_cons (gin_name (by simp)) gmo_name (gins_cons (gin_name (by simp)) gmo_name gins_nil gmos_nil) (gmos_cons gmo_name gmos_nil))) (gmo_tup (gmos_cons gmo_name (gmos_cons gmo_name gmos_nil))) (fun _ => rfl))) sap_nil rfl) (by decide) rfl rfl rfl)) (sp_v ⟨rfl, .inr (.inl rfl), rfl, rfl⟩) (nomark _))) sap_nil rfl) (by decide) rfl rfl rfl)) bg_name (gin_name (by simp)) gmo_name (fun _ => rfl))) sap_nil rfl) (by decide) rfl rfl rfl)))) sb_nil)) (sb_cons (ss_post (gh_fgtE [6]) (ss_if (st_eqI hu room gd (geT_cons L0.e9 (fun _ _ h => geT_nil h)) (sp_v ⟨rfl, .inl rfl, rfl, rfl⟩) (sp_exp so_int) (nomark _)) (sb_cons (ss_setF (ss_set (i := 6) sc.nd rfl (.inr rfl) (.inl rfl) (so_lc (own := [("turn", 10)]) rfl sc.nd (si_range1 rfl T.z_range (sa_cons (so_bin (op := .Add) (sp_exp so_int) (sp_exp (so_call L1.f24 room gd tk rfl rfl (sap_cons (sp_v ⟨rfl, .inr (.inl rfl), rfl, rfl⟩) (sap_cons (sp_exp so_int) sap_nil rfl) rfl) rfl rfl))) sa_nil rfl) rfl) (blkOk_by (by kernel_rfl)) (fun s H C cs fp => (pg_name (i := 10) sc.nd rfl (.inl rfl) (.inr rfl))) (fun s H C cs fp => pts_yes) (fun s H C cs fp => SO.fz (so_call L1.f24 room gd takesN rfl rfl (sap_cons (sp_v ⟨rfl, .inr (.inl rfl), rfl, rfl⟩) (sap_cons (sp_v ⟨rfl, .inr (.inl rfl), rfl, rfl⟩) sap_nil rfl) rfl) rfl rfl)) bg_name (gin_name (by simp)) gmo_name (fun _ => rfl)) rfl)) (sb_one (ss_ret (so_callT callK_tuple rfl T.z_tuple b_tuple (sap_cons (sp_exp (so_lc (own := [("number", 15)]) rfl sc.nd (si_range1 rfl T.z_range (sa_cons (so_v ⟨rfl, .inr (.inl rfl), rfl, rfl⟩) sa_nil rfl) rfl) (blkOk_by (by kernel_rfl)) (fun s H C cs fp => (pg_name (i := 15) sc.nd rfl (.inr rfl) (.inl rfl))) (fun s H C cs fp => pts_yes) (fun s H C cs fp => SO.fz (so_callT callK_int rfl T.z_int b_int (sap_cons (sp_exp (so_callB (callK_any rfl) rfl T.z_any b_any (sap_cons (sp_exp (so_lc (own := [("lot", 7)]) rfl sc.nd (si_val (so_v ⟨rfl, .inr (.inl rfl), rfl, rfl⟩)) (blkOk_by (by kernel_rfl)) (fun s H C cs fp => (pg_name (i := 7) sc.nd rfl (.inl rfl) (.inr rfl))) (fun s H C cs fp => pts_yes) (fun s H C cs fp => SO.fz (so_eqI hu room gd (geT_cons L0.e9 (fun _ _ h => geT_nil h)) (sp_exp (so_bin (op := .BitAnd) (sp_v ⟨rfl, .inr (.inl rfl), rfl, rfl⟩) (sp_v ⟨rfl, .inl rfl, rfl, rfl⟩))) (sp_v ⟨rfl, .inl rfl, rfl, rfl⟩) (nomark _))) bg_name (gin_name (by simp)) gmo_name (fun _ => rfl))) sap_nil rfl) (by decide) rfl rfl rfl)) sap_nil rfl) (by decide) rfl rfl rfl)) bg_name (gin_name (by simp)) gmo_name (fun _ => rfl))) sap_nil rfl) (by decide) rfl rfl rfl)))) sb_nil)) (sb_cons (ss_post (gh_fgtE [7, 8]) (ss_if (st_eqI hu room gd (geT_cons L0.e9 (fun _ _ h => geT_nil h)) (sp_v ⟨rfl, .inl rfl, rfl, rfl⟩) (sp_exp so_int) (nomark _)) (sb_cons (ss_st (so_tup (sa_cons (so_call L1.f24 room gd tk rfl rfl (sap_cons (sp_v ⟨rfl, .inr (.inl rfl), rfl, rfl⟩) (sap_cons (sp_v ⟨rfl, .inr (.inl rfl), rfl, rfl⟩) sap_nil rfl) rfl) rfl rfl) (sa_cons (so_call L1.f24 room gd tk rfl rfl (sap_cons (sp_v ⟨rfl, .inr (.inl rfl), rfl, rfl⟩) (sap_cons (sp_exp so_int) sap_nil rfl) rfl) rfl rfl) sa_nil rfl) rfl)) (pg_tup rfl (pgs_cons (pg_name (i := 7) sc.nd rfl (.inr rfl) (.inl rfl)) (pgs_cons (pg_name (i := 8) sc.nd rfl (.inr rfl) (.inl rfl)) pgs_nil rfl) rfl) rfl rfl) (bg_tup (bgs_cons bg_name (bgs_cons bg_name bgs_nil)) rfl) rfl rfl rfl) (sb_one (ss_ret (so_callT callK_tuple rfl T.z_tuple b_tuple (sap_cons (sp_exp (so_lc (own := [("number", 15)]) rfl sc.nd (si_range1 rfl T.z_range (sa_cons (so_v ⟨rfl, .inr (.inl rfl), rfl, rfl⟩) sa_nil rfl) rfl) (blkOk_by (by kernel_rfl)) (fun s H C cs fp => (pg_name (i := 15) sc.nd rfl (.inl rfl) (.inr rfl))) (fun s H C cs fp => pts_yes) (fun s H C cs fp => SO.fz (so_bin (op := .Mod) (sp_exp (so_bin (op := .Add) (sp_exp (so_call L1.f29 room gd takesN rfl rfl (sap_cons (sp_exp (so_bin (op := .BitAnd) (sp_v ⟨rfl, .inl rfl, rfl, rfl⟩) (sp_v ⟨rfl, .inr (.inl rfl), rfl, rfl⟩))) sap_nil rfl) rfl rfl)) (sp_v ⟨rfl, .inr (.inl rfl), rfl, rfl⟩))) (sp_exp so_int))) bg_name (gin_name (by simp)) gmo_name (fun _ => rfl))) sap_nil rfl) (by decide) rfl rfl rfl)))) sb_nil)) (sb_cons (ss_setF (ss_set (i := 9) sc.nd rfl (.inr rfl) (.inl rfl) (so_bin (op := .Add) (sp_exp so_int) (sp_exp (so_call L1.f24 room gd tk rfl rfl (sap_cons (sp_v ⟨rfl, .inr (.inl rfl), rfl, rfl⟩) (sap_cons (sp_exp so_int) sap_nil rfl) rfl) rfl rfl))) rfl)) (sb_one (ss_ret (so_callT callK_tuple rfl T.z_tuple b_tuple (sap_cons (sp_exp (so_lc (own := [("turn", 10)]) rfl sc.nd (si_range1 rfl T.z_range (sa_cons (so_v ⟨rfl, .inr (.inl rfl), rfl, rfl⟩) sa_nil rfl) rfl) (blkOk_by (by kernel_rfl)) (fun s H C cs fp => (pg_name (i := 10) sc.nd rfl (.inl rfl) (.inr rfl))) (fun s H C cs fp => pts_yes) (fun s H C cs fp => SO.fz (so_callT callK_int rfl T.z_int b_int (sap_cons (sp_exp (so_eqI hu room gd (geT_cons L0.e9 (fun _ _ h => geT_nil h)) (sp_exp (so_call L1.f24 room gd takesN rfl rfl (sap_cons (sp_v ⟨rfl, .inr (.inl rfl), rfl, rfl⟩) (sap_cons (sp_exp (so_bin (op := .Add) (sp_v ⟨rfl, .inr (.inl rfl), rfl, rfl⟩) (sp_exp so_int))) sap_nil rfl) rfl) rfl rfl)) (sp_exp so_int) (nomark _))) sap_nil rfl) (by decide) rfl rfl rfl)) bg_name (gin_name (by simp)) gmo_name (fun _ => rfl))) sap_nil rfl) (by decide) rfl rfl rfl)))))))))
theorem o__law_bits {w : World} {K : PySem.W.Frag} {mg : Str → Option Value} {cs : List (Addr × Addr)} {base : Heap} {cl : Cl} {m : Nat} {G G' : Nat → FR} (T : Tab w K mg cs cl) (L1 : Lv w K mg base cl (m + 1) G) (L0 : Lv w K mg base cl m G') {f : Addr} {fd : FuncData}
    (F : Fun K "_law_bits" "_law_bits" s__law_bits f fd) : FnG PP w K mg base (m + 2) f fd ["hand", "letters"] (spOf K cl 2 (fnD 16 (d__law_bits G G'))) := fn_body F sc__law_bits (by decide) fun cdv A outer s H E room gd => b__law_bits T L1 L0 f cdv A outer s H E room gd
theorem sc__law_ones : FnScope ["number", "found"] ["number"] (defScope s__law_ones) := ⟨rfl, rfl, rfl, by decide +kernel, rfl, by decide +kernel, by decide +kernel⟩
def _law_ones_w1 (G G' : Nat → FR) : En → R Bool := (isB (bin (fCmp .Gt) (.var 0) (.exp ((conD (.int 0))))))
def _law_ones_b1 (G G' : Nat → FR) : Sm := (postG (frzE [1, 0]) (parD [1, 0] [(bin (fOp .Add) (.var 1) (.exp ((bin (fOp .Mod) (.exp ((calD fInt [.var 0]))) (.exp ((conD (.int 2)))))))), (bin (fOp .FloorDiv) (.var 0) (.exp ((conD (.int 2)))))]))
def d__law_ones (G G' : Nat → FR) : Sm := (seqD (setF 1 (conD (.int 0))) (seqD (whileD (_law_ones_w1 G G') (_law_ones_b1 G G') fuel) (retV 1)))
theorem b__law_ones {w : World} {K : PySem.W.Frag} {mg : Str → Option Value} {cs : List (Addr × Addr)} {base : Heap} {cl : Cl} {m : Nat} {G G' : Nat → FR} (T : Tab w K mg cs cl) (L1 : Lv w K mg base cl (m + 1) G) (L0 : Lv w K mg base cl m G')
    (f : Addr) (cdv : Value) (A : Around) (outer : List Env) (s : Shared) (H : Hp) (E : XK) (room : Room (m + 1) (A.deeper (PyProof.Rows.envOfC "_law_ones" (defScope s__law_ones) s.heap.objs.size f cdv))) (gd : A.guards = some []) :
    SB (cxOf (L2.CX PP w) PP w K mg base ["number", "found"] "_law_ones" (defScope s__law_ones) f cdv A outer s H E) cl (fun c d _ H => E c d H) (defBody s__law_ones) (d__law_ones G G') := by
  have hu := room_hu room; have hu66 := room_hu66 room; have tk := @takes_cx PP w K mg base ["number", "found"] "_law_ones" (defScope s__law_ones) f cdv A outer s H E; have sc := sc__law_ones
  exact (sb_cons (ss_setF (ss_set (i := 1) sc.nd rfl (.inl rfl) (.inr rfl) so_int rfl)) (sb_cons (ss_while (n := fuel) (passes_of (K := _) rfl) (st_cmp (op := .Gt) hu (sp_v ⟨rfl, .inl rfl, rfl, rfl⟩) (sp_exp so_int) (nomark _)) (sb_one (ss_post (gh_frzE [1, 0]) (ss_par2 (i := 1) (j := 0) rfl sc.nd rfl rfl (by decide) rfl rfl (sao_cons (so_bin (op := .Add) (sp_v ⟨rfl, .inl rfl, rfl, rfl⟩) (sp_exp (so_bin (op := .Mod) (sp_exp (so_callT callK_int rfl T.z_int b_int (sap_cons (sp_v ⟨rfl, .inl rfl, rfl, rfl⟩) sap_nil rfl) (by decide) rfl rfl rfl)) (sp_exp so_int)))) (sao_cons (so_bin (op := .FloorDiv) (sp_v ⟨rfl, .inl rfl, rfl, rfl⟩) (sp_exp so_int)) sao_nil rfl) rfl) rfl rfl)))) (sb_one (ss_retV' ⟨rfl, .inl rfl, rfl, rfl⟩))))
theorem o__law_ones {w : World} {K : PySem.W.Frag} {mg : Str → Option Value} {cs : List (Addr × Addr)} {base : Heap} {cl : Cl} {m : Nat} {G G' : Nat → FR} (T : Tab w K mg cs cl) (L1 : Lv w K mg base cl (m + 1) G) (L0 : Lv w K mg base cl m G') {f : Addr} {fd : FuncData}
    (F : Fun K "_law_ones" "_law_ones" s__law_ones f fd) : FnG PP w K mg base (m + 2) f fd ["number"] (spOf K cl 1 (fnD 2 (d__law_ones G G'))) := fn_body F sc__law_ones (by decide) fun cdv A outer s H E room gd => b__law_ones T L1 L0 f cdv A outer s H E room gd
theorem sc__law_table : FnScope ["hand", "most", "letters"] ["hand", "most"] (defScope s__law_table) := ⟨rfl, rfl, rfl, by decide +kernel, rfl, by decide +kernel, by decide +kernel⟩
def d__law_table (G G' : Nat → FR) : Sm := (seqD (setF 2 (bin (fOp .Add) (.exp ((conD (.int 1)))) (.exp ((usr 2 (G 24) [.var 0, .var 1]))))) (retD (tupD [(varD 2), (usr 2 (G 28) [.var 0, .var 2])])))
theorem b__law_table {w : World} {K : PySem.W.Frag} {mg : Str → Option Value} {cs : List (Addr × Addr)} {base : Heap} {cl : Cl} {m : Nat} {G G' : Nat → FR} (T : Tab w K mg cs cl) (L1 : Lv w K mg base cl (m + 1) G) (L0 : Lv w K mg base cl m G')
    (f : Addr) (cdv : Value) (A : Around) (outer : List Env) (s : Shared) (H : Hp) (E : XK) (room : Room (m + 1) (A.deeper (PyProof.Rows.envOfC "_law_table" (defScope s__law_table) s.heap.objs.size f cdv))) (gd : A.guards = some []) :
    SB (cxOf (L2.CX PP w) PP w K mg base ["hand", "most", "letters"] "_law_table" (defScope s__law_table) f cdv A outer s H E) cl (fun c d _ H => E c d H) (defBody s__law_table) (d__law_table G G') := by
  have hu := room_hu room; have hu66 := room_hu66 room; have tk := @takes_cx PP w K mg base ["hand", "most", "letters"] "_law_table" (defScope s__law_table) f cdv A outer s H E; have sc := sc__law_table
  exact (sb_cons (ss_setF (ss_set (i := 2) sc.nd rfl (.inl rfl) (.inr rfl) (so_bin (op := .Add) (sp_exp so_int) (sp_exp (so_call L1.f24 room gd tk rfl rfl (sap_cons (sp_v ⟨rfl, .inl rfl, rfl, rfl⟩) (sap_cons (sp_v ⟨rfl, .inl rfl, rfl, rfl⟩) sap_nil rfl) rfl) rfl rfl))) rfl)) (sb_one (ss_ret (so_tup (sa_cons (so_v ⟨rfl, .inl rfl, rfl, rfl⟩) (sa_cons (so_call L1.f28 room gd tk rfl rfl (sap_cons (sp_v ⟨rfl, .inl rfl, rfl, rfl⟩) (sap_cons (sp_v ⟨rfl, .inl rfl, rfl, rfl⟩) sap_nil rfl) rfl) rfl rfl) sa_nil rfl) rfl)))))
theorem o__law_table {w : World} {K : PySem.W.Frag} {mg : Str → Option Value} {cs : List (Addr × Addr)} {base : Heap} {cl : Cl} {m : Nat} {G G' : Nat → FR} (T : Tab w K mg cs cl) (L1 : Lv w K mg base cl (m + 1) G) (L0 : Lv w K mg base cl m G') {f : Addr} {fd : FuncData}
    (F : Fun K "_law_table" "_law_table" s__law_table f fd) : FnG PP w K mg base (m + 2) f fd ["hand", "most"] (spOf K cl 2 (fnD 3 (d__law_table G G'))) := fn_body F sc__law_table (by decide) fun cdv A outer s H E room gd => b__law_table T L1 L0 f cdv A outer s H E room gd
theorem sc__law_worth : FnScope ["bits", "row"] ["bits", "row"] (defScope s__law_worth) := ⟨rfl, rfl, rfl, by decide +kernel, rfl, by decide +kernel, by decide +kernel⟩
def d__law_worth (G G' : Nat → FR) : Sm := (retD (bin fIx (.var 0) (.exp ((usr 1 (G 27) [.var 1])))))
theorem b__law_worth {w : World} {K : PySem.W.Frag} {mg : Str → Option Value} {cs : List (Addr × Addr)} {base : Heap} {cl : Cl} {m : Nat} {G G' : Nat → FR} (T : Tab w K mg cs cl) (L1 : Lv w K mg base cl (m + 1) G) (L0 : Lv w K mg base cl m G')
    (f : Addr) (cdv : Value) (A : Around) (outer : List Env) (s : Shared) (H : Hp) (E : XK) (room : Room (m + 1) (A.deeper (PyProof.Rows.envOfC "_law_worth" (defScope s__law_worth) s.heap.objs.size f cdv))) (gd : A.guards = some []) :
    SB (cxOf (L2.CX PP w) PP w K mg base ["bits", "row"] "_law_worth" (defScope s__law_worth) f cdv A outer s H E) cl (fun c d _ H => E c d H) (defBody s__law_worth) (d__law_worth G G') := by
  have hu := room_hu room; have hu66 := room_hu66 room; have tk := @takes_cx PP w K mg base ["bits", "row"] "_law_worth" (defScope s__law_worth) f cdv A outer s H E; have sc := sc__law_worth
  exact (sb_one (ss_ret (so_ix (sp_v ⟨rfl, .inl rfl, rfl, rfl⟩) (sp_exp (so_call L1.f27 room gd tk rfl rfl (sap_cons (sp_v ⟨rfl, .inl rfl, rfl, rfl⟩) sap_nil rfl) rfl rfl)) (fun _ _ => rfl))))
theorem o__law_worth {w : World} {K : PySem.W.Frag} {mg : Str → Option Value} {cs : List (Addr × Addr)} {base : Heap} {cl : Cl} {m : Nat} {G G' : Nat → FR} (T : Tab w K mg cs cl) (L1 : Lv w K mg base cl (m + 1) G) (L0 : Lv w K mg base cl m G') {f : Addr} {fd : FuncData}
    (F : Fun K "_law_worth" "_law_worth" s__law_worth f fd) : FnG PP w K mg base (m + 2) f fd ["bits", "row"] (spOf K cl 2 (fnD 2 (d__law_worth G G'))) := fn_body F sc__law_worth (by decide) fun cdv A outer s H E room gd => b__law_worth T L1 L0 f cdv A outer s H E room gd
theorem sc__law_turned : FnScope ["row", "bit"] ["row"] (defScope s__law_turned) := ⟨rfl, rfl, rfl, by decide +kernel, rfl, by decide +kernel, by decide +kernel⟩
def _law_turned_e1 (G G' : Nat → FR) : En → R (D × Bool) := (bin (fOp .Sub) (.exp ((conD (.int 1)))) (.var 1))
def d__law_turned (G G' : Nat → FR) : Sm := (retD (calD fTuple [.exp ((lcD (itV (varD 0)) (bName 1) yesT (_law_turned_e1 G G') [1]))]))
theorem b__law_turned {w : World} {K : PySem.W.Frag} {mg : Str → Option Value} {cs : List (Addr × Addr)} {base : Heap} {cl : Cl} {m : Nat} {G G' : Nat → FR} (T : Tab w K mg cs cl) (L1 : Lv w K mg base cl (m + 1) G) (L0 : Lv w K mg base cl m G')
    (f : Addr) (cdv : Value) (A : Around) (outer : List Env) (s : Shared) (H : Hp) (E : XK) (room : Room (m + 1) (A.deeper (PyProof.Rows.envOfC "_law_turned" (defScope s__law_turned) s.heap.objs.size f cdv))) (gd : A.guards = some []) :
    SB (cxOf (L2.CX PP w) PP w K mg base ["row", "bit"] "_law_turned" (defScope s__law_turned) f cdv A outer s H E) cl (fun c d _ H => E c d H) (defBody s__law_turned) (d__law_turned G G') := by
  have hu := room_hu room; have hu66 := room_hu66 room; have tk := @takes_cx PP w K mg base ["row", "bit"] "_law_turned" (defScope s__law_turned) f cdv A outer s H E; have sc := sc__law_turned
  exact (sb_one (ss_ret (so_callT callK_tuple rfl T.z_tuple b_tuple (sap_cons (sp_exp (so_lc (own := [("bit", 1)]) rfl sc.nd (si_val (so_v ⟨rfl, .inl rfl, rfl, rfl⟩)) (blkOk_by (by kernel_rfl)) (fun s H C cs fp => (pg_name (i := 1) sc.nd rfl (.inl rfl) (.inr rfl))) (fun s H C cs fp => pts_yes) (fun s H C cs fp => SO.fz (so_bin (op := .Sub) (sp_exp so_int) (sp_v ⟨rfl, .inl rfl, rfl, rfl⟩))) bg_name (gin_name (by simp)) gmo_name (fun _ => rfl))) sap_nil rfl) (by decide) rfl rfl rfl)))
theorem o__law_turned {w : World} {K : PySem.W.Frag} {mg : Str → Option Value} {cs : List (Addr × Addr)} {base : Heap} {cl : Cl} {m : Nat} {G G' : Nat → FR} (T : Tab w K mg cs cl) (L1 : Lv w K mg base cl (m + 1) G) (L0 : Lv w K mg base cl m G') {f : Addr} {fd : FuncData}
    (F : Fun K "_law_turned" "_law_turned" s__law_turned f fd) : FnG PP w K mg base (m + 2) f fd ["row"] (spOf K cl 1 (fnD 2 (d__law_turned G G'))) := fn_body F sc__law_turned (by decide) fun cdv A outer s H E room gd => b__law_turned T L1 L0 f cdv A outer s H E room gd
theorem sc__law_added : FnScope ["one", "other", "a", "b"] ["one", "other"] (defScope s__law_added) := ⟨rfl, rfl, rfl, by decide +kernel, rfl, by decide +kernel, by decide +kernel⟩
def _law_added_e1 (G G' : Nat → FR) : En → R (D × Bool) := (calD fInt [.exp ((cmpI .NotEq not (geT ((0, G' 9) :: [])) (.var 2) (.var 3)))])
def d__law_added (G G' : Nat → FR) : Sm := (retD (calD fTuple [.exp ((lcD (itC fZip2 [(varD 0), (varD 1)]) (bTup [(bName 2), (bName 3)]) yesT (_law_added_e1 G G') [2, 3]))]))
theorem b__law_added {w : World} {K : PySem.W.Frag} {mg : Str → Option Value} {cs : List (Addr × Addr)} {base : Heap} {cl : Cl} {m : Nat} {G G' : Nat → FR} (T : Tab w K mg cs cl) (L1 : Lv w K mg base cl (m + 1) G) (L0 : Lv w K mg base cl m G')
    (f : Addr) (cdv : Value) (A : Around) (outer : List Env) (s : Shared) (H : Hp) (E : XK) (room : Room (m + 1) (A.deeper (PyProof.Rows.envOfC "_law_added" (defScope s__law_added) s.heap.objs.size f cdv))) (gd : A.guards = some []) :
    SB (cxOf (L2.CX PP w) PP w K mg base ["one", "other", "a", "b"] "_law_added" (defScope s__law_added) f cdv A outer s H E) cl (fun c d _ H => E c d H) (defBody s__law_added) (d__law_added G G') := by
  have hu := room_hu room; have hu66 := room_hu66 room; have tk := @takes_cx PP w K mg base ["one", "other", "a", "b"] "_law_added" (defScope s__law_added) f cdv A outer s H E; have sc := sc__law_added
  exact (sb_one (ss_ret (so_callT callK_tuple rfl T.z_tuple b_tuple (sap_cons (sp_exp (so_lc (own := [("a", 2), ("b", 3)]) rfl sc.nd (si_zip2 rfl T.z_zip (sa_cons (so_v ⟨rfl, .inl rfl, rfl, rfl⟩) (sa_cons (so_v ⟨rfl, .inl rfl, rfl, rfl⟩) sa_nil rfl) rfl) rfl rfl) (blkOk_by (by kernel_rfl)) (fun s H C cs fp => (pg_tup rfl (pgs_cons (pg_name (i := 2) sc.nd rfl (.inl rfl) (.inr rfl)) (pgs_cons (pg_name (i := 3) sc.nd rfl (.inl rfl) (.inr rfl)) pgs_nil rfl) rfl) rfl rfl)) (fun s H C cs fp => pts_yes) (fun s H C cs fp => SO.fz (so_callT callK_int rfl T.z_int b_int (sap_cons (sp_exp (so_neI hu room gd (geT_cons L0.e9 (fun _ _ h => geT_nil h)) (sp_v ⟨rfl, .inl rfl, rfl, rfl⟩) (sp_v ⟨rfl, .inl rfl, rfl, rfl⟩) (nomark _))) sap_nil rfl) (by decide) rfl rfl rfl)) (bg_tup (bgs_cons bg_name (bgs_cons bg_name bgs_nil)) rfl) (gin_tup (gins_cons (gin_name (by simp)) gmo_name (gins_cons (gin_name (by simp)) gmo_name gins_nil gmos_nil) (gmos_cons gmo_name gmos_nil))) (gmo_tup (gmos_cons gmo_name (gmos_cons gmo_name gmos_nil))) (fun _ => rfl))) sap_nil rfl) (by decide) rfl rfl rfl)))
theorem o__law_added {w : World} {K : PySem.W.Frag} {mg : Str → Option Value} {cs : List (Addr × Addr)} {base : Heap} {cl : Cl} {m : Nat} {G G' : Nat → FR} (T : Tab w K mg cs cl) (L1 : Lv w K mg base cl (m + 1) G) (L0 : Lv w K mg base cl m G') {f : Addr} {fd : FuncData}
    (F : Fun K "_law_added" "_law_added" s__law_added f fd) : FnG PP w K mg base (m + 2) f fd ["one", "other"] (spOf K cl 2 (fnD 4 (d__law_added G G'))) := fn_body F sc__law_added (by decide) fun cdv A outer s H E room gd => b__law_added T L1 L0 f cdv A outer s H E room gd
theorem sc__law_evens : FnScope ["letters", "found", "lot", "bits", "number"] ["letters"] (defScope s__law_evens) := ⟨rfl, rfl, rfl, by decide +kernel, rfl, by decide +kernel, by decide +kernel⟩
def _law_evens_e1 (G G' : Nat → FR) : En → R (D × Bool) := (bin (fOp .Mod) (.exp ((usr 1 (G 29) [.exp ((bin (fOp .BitAnd) (.var 4) (.var 2)))]))) (.exp ((conD (.int 2)))))
def _law_evens_b1 (G G' : Nat → FR) : Sm := (postG (fgtE [2, 3]) (seqD (setF 3 (calD fTuple [.exp ((lcD (itC fRange1 [(bin (fOp .LShift) (.exp ((conD (.int 1)))) (.var 0))]) (bName 4) yesT (_law_evens_e1 G G') [4]))])) (extS 1 (lstD [(varD 3), (usr 1 (G 32) [.var 3])]))))
def d__law_evens (G G' : Nat → FR) : Sm := (seqD (setD 1 (lstD [])) (seqD (forS (itC fRange1 [(bin (fOp .LShift) (.exp ((conD (.int 1)))) (.var 0))]) (bName 2) (_law_evens_b1 G G')) (retV 1)))
theorem b__law_evens {w : World} {K : PySem.W.Frag} {mg : Str → Option Value} {cs : List (Addr × Addr)} {base : Heap} {cl : Cl} {m : Nat} {G G' : Nat → FR} (T : Tab w K mg cs cl) (L1 : Lv w K mg base cl (m + 1) G) (L0 : Lv w K mg base cl m G')
    (f : Addr) (cdv : Value) (A : Around) (outer : List Env) (s : Shared) (H : Hp) (E : XK) (room : Room (m + 1) (A.deeper (PyProof.Rows.envOfC "_law_evens" (defScope s__law_evens) s.heap.objs.size f cdv))) (gd : A.guards = some []) :
    SB (cxOf (L2.CX PP w) PP w K mg base ["letters", "found", "lot", "bits", "number"] "_law_evens" (defScope s__law_evens) f cdv A outer s H E) cl (fun c d _ H => E c d H) (defBody s__law_evens) (d__law_evens G G') := by
  have hu := room_hu room; have hu66 := room_hu66 room; have tk := @takes_cx PP w K mg base ["letters", "found", "lot", "bits", "number"] "_law_evens" (defScope s__law_evens) f cdv A outer s H E; have sc := sc__law_evens
  exact (sb_cons (ss_set (i := 1) sc.nd rfl (.inl rfl) (.inr rfl) (so_lst sa_nil) rfl) (sb_cons (ss_for (passes_of (K := _) rfl) rfl (si_range1 rfl T.z_range (sa_cons (so_bin (op := .LShift) (sp_exp so_int) (sp_v ⟨rfl, .inl rfl, rfl, rfl⟩)) sa_nil rfl) rfl) (pg_name (i := 2) sc.nd rfl (.inr rfl) (.inl rfl)) bg_name (sb_post (gh_fgtE [2, 3]) (sb_cons (ss_setF (ss_set (i := 3) sc.nd rfl (.inl rfl) (.inr rfl) (so_callT callK_tuple rfl T.z_tuple b_tuple (sap_cons (sp_exp (so_lc (own := [("number", 4)]) rfl sc.nd (si_range1 rfl T.z_range (sa_cons (so_bin (op := .LShift) (sp_exp so_int) (sp_v ⟨rfl, .inl rfl, rfl, rfl⟩)) sa_nil rfl) rfl) (blkOk_by (by kernel_rfl)) (fun s H C cs fp => (pg_name (i := 4) sc.nd rfl (.inl rfl) (.inr rfl))) (fun s H C cs fp => pts_yes) (fun s H C cs fp => SO.fz (so_bin (op := .Mod) (sp_exp (so_call L1.f29 room gd takesN rfl rfl (sap_cons (sp_exp (so_bin (op := .BitAnd) (sp_v ⟨rfl, .inl rfl, rfl, rfl⟩) (sp_v ⟨rfl, .inr (.inl rfl), rfl, rfl⟩))) sap_nil rfl) rfl rfl)) (sp_exp so_int))) bg_name (gin_name (by simp)) gmo_name (fun _ => rfl))) sap_nil rfl) (by decide) rfl rfl rfl) rfl)) (sb_one (ss_ext (pe_v ⟨rfl, .inl rfl, rfl, rfl⟩) (so_lst (sa_cons (so_v ⟨rfl, .inl rfl, rfl, rfl⟩) (sa_cons (so_call L1.f32 room gd tk rfl rfl (sap_cons (sp_v ⟨rfl, .inl rfl, rfl, rfl⟩) sap_nil rfl) rfl rfl) sa_nil rfl) rfl)) rfl rfl rfl rfl rfl rfl)))) (fun _ => rfl)) (sb_one (ss_retV' ⟨rfl, .inl rfl, rfl, rfl⟩))))
theorem o__law_evens {w : World} {K : PySem.W.Frag} {mg : Str → Option Value} {cs : List (Addr × Addr)} {base : Heap} {cl : Cl} {m : Nat} {G G' : Nat → FR} (T : Tab w K mg cs cl) (L1 : Lv w K mg base cl (m + 1) G) (L0 : Lv w K mg base cl m G') {f : Addr} {fd : FuncData}
    (F : Fun K "_law_evens" "_law_evens" s__law_evens f fd) : FnG PP w K mg base (m + 2) f fd ["letters"] (spOf K cl 1 (fnD 5 (d__law_evens G G'))) := fn_body F sc__law_evens (by decide) fun cdv A outer s H E room gd => b__law_evens T L1 L0 f cdv A outer s H E room gd
theorem sc__law_nearest : FnScope ["letters", "bits", "rows_of_v", "least", "one", "a", "b", "number"] ["letters", "bits"] (defScope s__law_nearest) := ⟨rfl, rfl, rfl, by decide +kernel, rfl, by decide +kernel, by decide +kernel⟩
def _law_nearest_t1 (G G' : Nat → FR) : En → R Bool := (isB (cmpI .NotEq not (geT ((0, G' 9) :: [])) (.var 5) (.var 6)))
def _law_nearest_e1 (G G' : Nat → FR) : En → R (D × Bool) := (conD (.int 1))
def _law_nearest_e2 (G G' : Nat → FR) : En → R (D × Bool) := (tupD [(calD fLen [.exp ((lcD (itC fZip2 [(varD 1), (varD 4)]) (bTup [(bName 5), (bName 6)]) (_law_nearest_t1 G G') (_law_nearest_e1 G G') [5, 6]))]), (varD 4)])
def _law_nearest_t2 (G G' : Nat → FR) : En → R Bool := (isB (cmpI .Eq id (geT ((0, G' 9) :: [])) (.var 7) (.var 3)))
def _law_nearest_e3 (G G' : Nat → FR) : En → R (D × Bool) := (varD 4)
def d__law_nearest (G G' : Nat → FR) : Sm := (seqD (setF 2 (lcD (itV (usr 1 (G 34) [.var 0])) (bName 4) yesT (_law_nearest_e2 G G') [4])) (seqD (setF 3 (bin fIx (.exp ((calD fMin2 [.var 2]))) (.exp ((conD (.int 0)))))) (retD (tupD [(varD 3), (calD fTuple [.exp ((calD fSorted [.exp ((lcD (itV (varD 2)) (bTup [(bName 7), (bName 4)]) (_law_nearest_t2 G G') (_law_nearest_e3 G G') [4, 7]))]))])]))))
theorem b__law_nearest {w : World} {K : PySem.W.Frag} {mg : Str → Option Value} {cs : List (Addr × Addr)} {base : Heap} {cl : Cl} {m : Nat} {G G' : Nat → FR} (T : Tab w K mg cs cl) (L1 : Lv w K mg base cl (m + 1) G) (L0 : Lv w K mg base cl m G')
    (f : Addr) (cdv : Value) (A : Around) (outer : List Env) (s : Shared) (H : Hp) (E : XK) (room : Room (m + 1) (A.deeper (PyProof.Rows.envOfC "_law_nearest" (defScope s__law_nearest) s.heap.objs.size f cdv))) (gd : A.guards = some []) :
    SB (cxOf (L2.CX PP w) PP w K mg base ["letters", "bits", "rows_of_v", "least", "one", "a", "b", "number"] "_law_nearest" (defScope s__law_nearest) f cdv A outer s H E) cl (fun c d _ H => E c d H) (defBody s__law_nearest) (d__law_nearest G G') := by
  have hu := room_hu room; have hu66 := room_hu66 room; have tk := @takes_cx PP w K mg base ["letters", "bits", "rows_of_v", "least", "one", "a", "b", "number"] "_law_nearest" (defScope s__law_nearest) f cdv A outer s H E; have sc := sc__law_nearest
  exact (sb_cons (ss_setF (ss_setLc (i := 2) (own := [("one", 4)]) rfl sc.nd rfl rfl rfl (si_val (so_call L1.f34 room gd tk rfl rfl (sap_cons (sp_v ⟨rfl, .inl rfl, rfl, rfl⟩) sap_nil rfl) rfl rfl)) (blkOk_by (by kernel_rfl)) (fun s H C cs fp => (pg_name (i := 4) sc.nd rfl (.inl rfl) (.inr rfl))) (fun s H C cs fp => pts_yes) (fun s H C cs fp => SO.fz (so_tup (sa_cons (so_callB callK_len rfl T.z_len b_len (sap_cons (sp_exp (so_lc (own := [("a", 5), ("b", 6)]) rfl sc.nd (si_zip2 rfl T.z_zip (sa_cons (so_v ⟨rfl, .inr (.inl rfl), rfl, rfl⟩) (sa_cons (so_v ⟨rfl, .inl rfl, rfl, rfl⟩) sa_nil rfl) rfl) rfl rfl) (blkOk_by (by kernel_rfl)) (fun s H C cs fp => (pg_tup rfl (pgs_cons (pg_name (i := 5) sc.nd rfl (.inl rfl) (.inr rfl)) (pgs_cons (pg_name (i := 6) sc.nd rfl (.inl rfl) (.inr rfl)) pgs_nil rfl) rfl) rfl rfl)) (fun s H C cs fp => (pts_one (st_neI hu room gd (geT_cons L0.e9 (fun _ _ h => geT_nil h)) (sp_v ⟨rfl, .inl rfl, rfl, rfl⟩) (sp_v ⟨rfl, .inl rfl, rfl, rfl⟩) (nomark _)))) (fun s H C cs fp => SO.fz so_int) (bg_tup (bgs_cons bg_name (bgs_cons bg_name bgs_nil)) rfl) (gin_tup (gins_cons (gin_name (by simp)) gmo_name (gins_cons (gin_name (by simp)) gmo_name gins_nil gmos_nil) (gmos_cons gmo_name gmos_nil))) (gmo_tup (gmos_cons gmo_name (gmos_cons gmo_name gmos_nil))) (fun _ => rfl))) sap_nil rfl) (by decide) rfl rfl rfl) (sa_cons (so_v ⟨rfl, .inl rfl, rfl, rfl⟩) sa_nil rfl) rfl))) bg_name (gin_name (by simp)) gmo_name (fun _ => rfl))) (sb_cons (ss_setF (ss_set (i := 3) sc.nd rfl (.inr rfl) (.inl rfl) (so_ix (sp_exp (so_callB (callK_min2 rfl hu) rfl T.z_min b_min (sap_cons (sp_v ⟨rfl, .inl rfl, rfl, rfl⟩) sap_nil rfl) (by decide) rfl rfl rfl)) (sp_exp so_int) (fun _ _ => rfl)) rfl)) (sb_one (ss_ret (so_tup (sa_cons (so_v ⟨rfl, .inr (.inl rfl), rfl, rfl⟩) (sa_cons (so_callT callK_tuple rfl T.z_tuple b_tuple (sap_cons (sp_exp (so_callB (callK_sorted hu) rfl T.z_sorted b_sorted (sap_cons (sp_exp (so_lc (own := [("one", 4), ("number", 7)]) rfl sc.nd (si_val (so_v ⟨rfl, .inl rfl, rfl, rfl⟩)) (blkOk_by (by kernel_rfl)) (fun s H C cs fp => (pg_tup rfl (pgs_cons (pg_name (i := 7) sc.nd rfl (.inl rfl) (.inr rfl)) (pgs_cons (pg_name (i := 4) sc.nd rfl (.inl rfl) (.inr rfl)) pgs_nil rfl) rfl) rfl rfl)) (fun s H C cs fp => (pts_one (st_eqI hu room gd (geT_cons L0.e9 (fun _ _ h => geT_nil h)) (sp_v ⟨rfl, .inl rfl, rfl, rfl⟩) (sp_v ⟨rfl, .inr (.inl rfl), rfl, rfl⟩) (nomark _)))) (fun s H C cs fp => SO.fz (so_v ⟨rfl, .inl rfl, rfl, rfl⟩)) (bg_tup (bgs_cons bg_name (bgs_cons bg_name bgs_nil)) rfl) (gin_tup (gins_cons (gin_name (by simp)) gmo_name (gins_cons (gin_name (by simp)) gmo_name gins_nil gmos_nil) (gmos_cons gmo_name gmos_nil))) (gmo_tup (gmos_cons gmo_name (gmos_cons gmo_name gmos_nil))) (fun _ => rfl))) sap_nil rfl) (by decide) rfl rfl rfl)) sap_nil rfl) (by decide) rfl rfl rfl) sa_nil rfl) rfl))))))
theorem o__law_nearest {w : World} {K : PySem.W.Frag} {mg : Str → Option Value} {cs : List (Addr × Addr)} {base : Heap} {cl : Cl} {m : Nat} {G G' : Nat → FR} (T : Tab w K mg cs cl) (L1 : Lv w K mg base cl (m + 1) G) (L0 : Lv w K mg base cl m G') {f : Addr} {fd : FuncData}
    (F : Fun K "_law_nearest" "_law_nearest" s__law_nearest f fd) : FnG PP w K mg base (m + 2) f fd ["letters", "bits"] (spOf K cl 2 (fnD 8 (d__law_nearest G G'))) := fn_body F sc__law_nearest (by decide) fun cdv A outer s H E room gd => b__law_nearest T L1 L0 f cdv A outer s H E room gd
theorem sc__law_met : FnScope ["letters", "one", "other", "found", "s", "good", "x"] ["letters", "one", "other"] (defScope s__law_met) := ⟨rfl, rfl, rfl, by decide +kernel, rfl, by decide +kernel, by decide +kernel⟩
def _law_met_t1 (G G' : Nat → FR) : En → R Bool := (andT (isB (cmpI .Eq id (geT ((0, G' 9) :: [])) (.exp ((usr 2 (G 31) [.var 1, .var 6]))) (.exp ((conD (.int 1)))))) (isB (cmpI .Eq id (geT ((0, G' 9) :: [])) (.exp ((usr 2 (G 31) [.var 2, .exp ((usr 2 (G 33) [.var 6, .var 4]))]))) (.exp ((conD (.int 1)))))))
def _law_met_e1 (G G' : Nat → FR) : En → R (D × Bool) := (varD 6)
def _law_met_b1 (G G' : Nat → FR) : Sm := (postG (fgtE [4, 5]) (seqD (setF 5 (lcD (itV (usr 1 (G 26) [.var 0])) (bName 6) (_law_met_t1 G G') (_law_met_e1 G G') [6])) (appS 3 (calD fLen [.var 5]))))
def d__law_met (G G' : Nat → FR) : Sm := (seqD (setD 3 (lstD [])) (seqD (forS (itV (usr 1 (G 26) [.var 0])) (bName 4) (_law_met_b1 G G')) (retD (calD fTuple [.var 3]))))
theorem b__law_met {w : World} {K : PySem.W.Frag} {mg : Str → Option Value} {cs : List (Addr × Addr)} {base : Heap} {cl : Cl} {m : Nat} {G G' : Nat → FR} (T : Tab w K mg cs cl) (L1 : Lv w K mg base cl (m + 1) G) (L0 : Lv w K mg base cl m G')
    (f : Addr) (cdv : Value) (A : Around) (outer : List Env) (s : Shared) (H : Hp) (E : XK) (room : Room (m + 1) (A.deeper (PyProof.Rows.envOfC "_law_met" (defScope s__law_met) s.heap.objs.size f cdv))) (gd : A.guards = some []) :
    SB (cxOf (L2.CX PP w) PP w K mg base ["letters", "one", "other", "found", "s", "good", "x"] "_law_met" (defScope s__law_met) f cdv A outer s H E) cl (fun c d _ H => E c d H) (defBody s__law_met) (d__law_met G G') := by
  have hu := room_hu room; have hu66 := room_hu66 room; have tk := @takes_cx PP w K mg base ["letters", "one", "other", "found", "s", "good", "x"] "_law_met" (defScope s__law_met) f cdv A outer s H E; have sc := sc__law_met
  exact (sb_cons (ss_set (i := 3) sc.nd rfl (.inl rfl) (.inr rfl) (so_lst sa_nil) rfl) (sb_cons (ss_for (passes_of (K := _) rfl) rfl (si_val (so_call L1.f26 room gd tk rfl rfl (sap_cons (sp_v ⟨rfl, .inl rfl, rfl, rfl⟩) sap_nil rfl) rfl rfl)) (pg_name (i := 4) sc.nd rfl (.inr rfl) (.inl rfl)) bg_name (sb_post (gh_fgtE [4, 5]) (sb_cons (ss_setF (ss_setLc (i := 5) (own := [("x", 6)]) rfl sc.nd rfl rfl rfl (si_val (so_call L1.f26 room gd tk rfl rfl (sap_cons (sp_v ⟨rfl, .inl rfl, rfl, rfl⟩) sap_nil rfl) rfl rfl)) (blkOk_by (by kernel_rfl)) (fun s H C cs fp => (pg_name (i := 6) sc.nd rfl (.inl rfl) (.inr rfl))) (fun s H C cs fp => (pts_one (PW.pt (st_and (st_eqI hu room gd (geT_cons L0.e9 (fun _ _ h => geT_nil h)) (sp_exp (so_call L1.f31 room gd takesN rfl rfl (sap_cons (sp_v ⟨rfl, .inr (.inl rfl), rfl, rfl⟩) (sap_cons (sp_v ⟨rfl, .inl rfl, rfl, rfl⟩) sap_nil rfl) rfl) rfl rfl)) (sp_exp so_int) (nomark _)) (st_and1 (st_eqI hu room gd (geT_cons L0.e9 (fun _ _ h => geT_nil h)) (sp_exp (so_call L1.f31 room gd takesN rfl rfl (sap_cons (sp_v ⟨rfl, .inr (.inl rfl), rfl, rfl⟩) (sap_cons (sp_exp (so_call L1.f33 room gd takesN rfl rfl (sap_cons (sp_v ⟨rfl, .inl rfl, rfl, rfl⟩) (sap_cons (sp_v ⟨rfl, .inr (.inl rfl), rfl, rfl⟩) sap_nil rfl) rfl) rfl rfl)) sap_nil rfl) rfl) rfl rfl)) (sp_exp so_int) (nomark _))))))) (fun s H C cs fp => SO.fz (so_v ⟨rfl, .inl rfl, rfl, rfl⟩)) bg_name (gin_name (by simp)) gmo_name (fun _ => rfl))) (sb_one (ss_app (pe_v ⟨rfl, .inl rfl, rfl, rfl⟩) (so_callB callK_len rfl T.z_len b_len (sap_cons (sp_v ⟨rfl, .inl rfl, rfl, rfl⟩) sap_nil rfl) (by decide) rfl rfl rfl) rfl rfl rfl rfl rfl rfl)))) (fun _ => rfl)) (sb_one (ss_ret (so_callT callK_tuple rfl T.z_tuple b_tuple (sap_cons (sp_v ⟨rfl, .inl rfl, rfl, rfl⟩) sap_nil rfl) (by decide) rfl rfl rfl)))))
theorem o__law_met {w : World} {K : PySem.W.Frag} {mg : Str → Option Value} {cs : List (Addr × Addr)} {base : Heap} {cl : Cl} {m : Nat} {G G' : Nat → FR} (T : Tab w K mg cs cl) (L1 : Lv w K mg base cl (m + 1) G) (L0 : Lv w K mg base cl m G') {f : Addr} {fd : FuncData}
    (F : Fun K "_law_met" "_law_met" s__law_met f fd) : FnG PP w K mg base (m + 2) f fd ["letters", "one", "other"] (spOf K cl 3 (fnD 7 (d__law_met G G'))) := fn_body F sc__law_met (by decide) fun cdv A outer s H E room gd => b__law_met T L1 L0 f cdv A outer s H E room gd
theorem sc_law : FnScope ["script", "hand", "turn", "letters", "bits", "table", "others", "ones", "due", "both", "one", "row", "i"] ["script"] (defScope s_law) := ⟨rfl, rfl, rfl, by decide +kernel, rfl, by decide +kernel, by decide +kernel⟩
def law_e1 (G G' : Nat → FR) : En → R (D × Bool) := (calD fAbs [.var 10])
def law_t1 (G G' : Nat → FR) : En → R Bool := (isB (cmpI .Eq id (geT ((0, G' 9) :: [])) (.exp ((usr 2 (G 31) [.var 4, .var 11]))) (.exp ((conD (.int 1))))))
def law_e2 (G G' : Nat → FR) : En → R (D × Bool) := (varD 11)
def law_t2 (G G' : Nat → FR) : En → R Bool := (isB (cmpI .Eq id (geT ((0, G' 9) :: [])) (.exp ((bin fIx (.var 11) (.var 12)))) (.exp ((conD (.int 1))))))
def law_e3 (G G' : Nat → FR) : En → R (D × Bool) := (varD 11)
def law_e4 (G G' : Nat → FR) : En → R (D × Bool) := (calD fLen [.exp ((lcD (itV (varD 7)) (bName 11) (law_t2 G G') (law_e3 G G') [11]))])
def law_b1 (G G' : Nat → FR) : Sm := (postG (fgtE [2, 3, 4, 5, 6, 7, 8]) (seqD (stD (bTup [(bName 3), (bName 4)]) (usr 2 (G 30) [.var 1, .exp ((conD (.int 4)))])) (seqD (postG (frzE [5, 6]) (parD [5, 6] [(newD 0 3 (G' 8) [(varD 3), (varD 4)]), (usr 2 (G 28) [.var 1, .var 3])])) (seqD (ifS (notT (tru (.exp (usr 2 (G 25) [.exp ((usr 1 (G 18) [.var 5])), .exp ((usr 2 (G 35) [.var 3, .var 4]))])))) (retD (conD (.bl false))) nextD) (seqD (ifS (notT (tru (.exp (usr 2 (G 25) [.exp ((usr 1 (G 19) [.var 5])), .exp ((cmpI .Eq id (geT ((0, G' 9) :: [])) (.exp ((una fLenSet (.exp ((lcD (itV (usr 1 (G 16) [.var 5])) (bName 10) yesT (law_e1 G G') [10])))))) (.exp ((conD (.int 1))))))])))) (retD (conD (.bl false))) nextD) (seqD (setF 7 (lcD (itV (usr 1 (G 26) [.var 3])) (bName 11) (law_t1 G G') (law_e2 G G') [11])) (seqD (setF 8 (bin (fOp .Add) (.exp ((tupD [(calD fLen [.var 7])]))) (.exp ((calD fTuple [.exp ((lcD (itC fRange1 [(varD 3)]) (bName 12) yesT (law_e4 G G') [12]))]))))) (seqD (ifS (notT (tru (.exp (usr 2 (G 25) [.exp ((usr 1 (G 21) [.var 5])), .var 8])))) (retD (conD (.bl false))) nextD) (seqD (ifS (notT (tru (.exp (usr 2 (G 25) [.exp ((usr 2 (G 22) [.var 5, .exp ((newD 0 3 (G' 8) [(varD 3), (varD 6)]))])), .exp ((usr 3 (G 36) [.var 3, .var 4, .var 6]))])))) (retD (conD (.bl false))) nextD) (ifS (orT (isB (cmpI .NotEq not (geT ((0, G' 9) :: [])) (.exp ((bin fIx (.exp ((usr 2 (G 22) [.var 5, .exp ((varD 5))]))) (.exp ((conD (.int 0))))))) (.exp ((calD fLen [.var 7]))))) (isB (cmpI .NotEq not (geT ((0, G' 9) :: [])) (.exp ((calD fSumA [.exp ((usr 2 (G 22) [.var 5, .exp ((varD 5))]))]))) (.exp ((bin (fOp .Mult) (.exp ((calD fLen [.var 7]))) (.exp ((calD fLen [.var 7]))))))))) (retD (conD (.bl false))) nextD))))))))))
def d_law (G G' : Nat → FR) : Sm := (seqD (setD 1 (usr 1 (G 23) [.var 0])) (seqD (forS (itC fRange1 [(conD (.int 3))]) (bName 2) (law_b1 G G')) (seqD (setF 9 (newD 0 3 (G' 8) [(conD (.int 2)), (tupD [(conD (.int 0)), (conD (.int 0)), (conD (.int 0)), (conD (.int 1))])])) (seqD (ifS (orT (isB (cmpI .NotEq not (geT ((0, G' 9) :: [])) (.exp ((bin fIx (.exp ((usr 1 (G 18) [.var 9]))) (.exp ((conD (.int 0))))))) (.exp ((conD (.int 1)))))) (isB (cmpI .NotEq not (geT ((0, G' 9) :: [])) (.exp ((calD fLen [.exp ((bin fIx (.exp ((usr 1 (G 18) [.var 9]))) (.exp ((conD (.int 1))))))]))) (.exp ((conD (.int 4))))))) (retD (conD (.bl false))) nextD) (retD (andV (bin (fCmp .Is) (.exp ((usr 1 (G 19) [.var 9]))) (.exp ((conD (.bl true))))) (cmpI .Eq id (geT ((0, G' 9) :: [])) (.exp ((usr 1 (G 21) [.var 9]))) (.exp ((tupD [(conD (.int 1)), (conD (.int 1)), (conD (.int 1))]))))))))))
theorem b_law {w : World} {K : PySem.W.Frag} {mg : Str → Option Value} {cs : List (Addr × Addr)} {base : Heap} {cl : Cl} {m : Nat} {G G' : Nat → FR} (T : Tab w K mg cs cl) (L1 : Lv w K mg base cl (m + 1) G) (L0 : Lv w K mg base cl m G')
    (f : Addr) (cdv : Value) (A : Around) (outer : List Env) (s : Shared) (H : Hp) (E : XK) (room : Room (m + 1) (A.deeper (PyProof.Rows.envOfC "law" (defScope s_law) s.heap.objs.size f cdv))) (gd : A.guards = some []) :
    SB (cxOf (L2.CX PP w) PP w K mg base ["script", "hand", "turn", "letters", "bits", "table", "others", "ones", "due", "both", "one", "row", "i"] "law" (defScope s_law) f cdv A outer s H E) cl (fun c d _ H => E c d H) (defBody s_law) (d_law G G') := by
  have hu := room_hu room; have hu66 := room_hu66 room; have tk := @takes_cx PP w K mg base ["script", "hand", "turn", "letters", "bits", "table", "others", "ones", "due", "both", "one", "row", "i"] "law" (defScope s_law) f cdv A outer s H E; have sc := sc_law
  exact (sb_cons (ss_set (i := 1) sc.nd rfl (.inl rfl) (.inr rfl) (so_call L1.f23 room gd tk rfl rfl (sap_cons (sp_v ⟨rfl, .inl rfl, rfl, rfl⟩) sap_nil rfl) rfl rfl) rfl) (sb_cons (ss_for (passes_of (K := _) rfl) rfl (si_range1 rfl T.z_range (sa_cons so_int sa_nil rfl) rfl) (pg_name (i := 2) sc.nd rfl (.inl rfl) (.inr rfl)) bg_name (sb_post (gh_fgtE [2, 3, 4, 5, 6, 7, 8]) (sb_cons (ss_st (so_call L1.f30 room gd tk rfl rfl (sap_cons (sp_v ⟨rfl, .inl rfl, rfl, rfl⟩) (sap_cons (sp_exp so_int) sap_nil rfl) rfl) rfl rfl) (pg_tup rfl (pgs_cons (pg_name (i := 3) sc.nd rfl (.inl rfl) (.inr rfl)) (pgs_cons (pg_name (i := 4) sc.nd rfl (.inr rfl) (.inl rfl)) pgs_nil rfl) rfl) rfl rfl) (bg_tup (bgs_cons bg_name (bgs_cons bg_name bgs_nil)) rfl) rfl rfl rfl) (sb_cons (ss_post (gh_frzE [5, 6]) (ss_par2 (i := 5) (j := 6) rfl sc.nd rfl rfl (by decide) rfl rfl (sao_cons (so_new L0.n8 room gd tk rfl rfl (sa_cons (so_v ⟨rfl, .inl rfl, rfl, rfl⟩) (sa_cons (so_v ⟨rfl, .inr (.inl rfl), rfl, rfl⟩) sa_nil rfl) rfl) rfl rfl) (sao_cons (so_call L1.f28 room gd tk rfl rfl (sap_cons (sp_v ⟨rfl, .inl rfl, rfl, rfl⟩) (sap_cons (sp_v ⟨rfl, .inl rfl, rfl, rfl⟩) sap_nil rfl) rfl) rfl rfl) sao_nil rfl) rfl) rfl rfl)) (sb_cons (ss_if (st_not (st_val (so_call L1.f25 room gd tk rfl rfl (sap_cons (sp_exp (so_call L1.f18 room gd tk rfl rfl (sap_cons (sp_v ⟨rfl, .inl rfl, rfl, rfl⟩) sap_nil rfl) rfl rfl)) (sap_cons (sp_exp (so_call L1.f35 room gd tk rfl rfl (sap_cons (sp_v ⟨rfl, .inl rfl, rfl, rfl⟩) (sap_cons (sp_v ⟨rfl, .inr (.inl rfl), rfl, rfl⟩) sap_nil rfl) rfl) rfl rfl)) sap_nil rfl) rfl) rfl rfl) (fun _ => rfl))) (sb_one (ss_ret so_bl)) sb_nil) (sb_cons (ss_if (st_not (st_val (so_call L1.f25 room gd tk rfl rfl (sap_cons (sp_exp (so_call L1.f19 room gd tk rfl rfl (sap_cons (sp_v ⟨rfl, .inl rfl, rfl, rfl⟩) sap_nil rfl) rfl rfl)) (sap_cons (sp_exp (so_eqI hu room gd (geT_cons L0.e9 (fun _ _ h => geT_nil h)) (sp_exp (so_lenSet rfl hu rfl T.z_len rfl T.z_set (sp_exp (so_lc (own := [("one", 10)]) rfl sc.nd (si_val (so_call L1.f16 room gd tk rfl rfl (sap_cons (sp_v ⟨rfl, .inl rfl, rfl, rfl⟩) sap_nil rfl) rfl rfl)) (blkOk_by (by kernel_rfl)) (fun s H C cs fp => (pg_name (i := 10) sc.nd rfl (.inl rfl) (.inr rfl))) (fun s H C cs fp => pts_yes) (fun s H C cs fp => SO.fz (so_callB callK_abs rfl T.z_abs b_abs (sap_cons (sp_v ⟨rfl, .inl rfl, rfl, rfl⟩) sap_nil rfl) (by decide) rfl rfl rfl)) bg_name (gin_name (by simp)) gmo_name (fun _ => rfl))) rfl)) (sp_exp so_int) (nomark _))) sap_nil rfl) rfl) rfl rfl) (fun _ => rfl))) (sb_one (ss_ret so_bl)) sb_nil) (sb_cons (ss_setF (ss_set (i := 7) sc.nd rfl (.inr rfl) (.inl rfl) (so_lc (own := [("row", 11)]) rfl sc.nd (si_val (so_call L1.f26 room gd tk rfl rfl (sap_cons (sp_v ⟨rfl, .inl rfl, rfl, rfl⟩) sap_nil rfl) rfl rfl)) (blkOk_by (by kernel_rfl)) (fun s H C cs fp => (pg_name (i := 11) sc.nd rfl (.inl rfl) (.inr rfl))) (fun s H C cs fp => (pts_one (st_eqI hu room gd (geT_cons L0.e9 (fun _ _ h => geT_nil h)) (sp_exp (so_call L1.f31 room gd takesN rfl rfl (sap_cons (sp_v ⟨rfl, .inr (.inl rfl), rfl, rfl⟩) (sap_cons (sp_v ⟨rfl, .inl rfl, rfl, rfl⟩) sap_nil rfl) rfl) rfl rfl)) (sp_exp so_int) (nomark _)))) (fun s H C cs fp => SO.fz (so_v ⟨rfl, .inl rfl, rfl, rfl⟩)) bg_name (gin_name (by simp)) gmo_name (fun _ => rfl)) rfl)) (sb_cons (ss_setF (ss_set (i := 8) sc.nd rfl (.inl rfl) (.inr rfl) (so_bin (op := .Add) (sp_exp (so_tup (sa_cons (so_callB callK_len rfl T.z_len b_len (sap_cons (sp_v ⟨rfl, .inr (.inl rfl), rfl, rfl⟩) sap_nil rfl) (by decide) rfl rfl rfl) sa_nil rfl))) (sp_exp (so_callT callK_tuple rfl T.z_tuple b_tuple (sap_cons (sp_exp (so_lc (own := [("i", 12)]) rfl sc.nd (si_range1 rfl T.z_range (sa_cons (so_v ⟨rfl, .inl rfl, rfl, rfl⟩) sa_nil rfl) rfl) (blkOk_by (by kernel_rfl)) (fun s H C cs fp => (pg_name (i := 12) sc.nd rfl (.inr rfl) (.inl rfl))) (fun s H C cs fp => pts_yes) (fun s H C cs fp => SO.fz (so_callB callK_len rfl T.z_len b_len (sap_cons (sp_exp (so_lc (own := [("row", 11)]) rfl sc.nd (si_val (so_v ⟨rfl, .inr (.inl rfl), rfl, rfl⟩)) (blkOk_by (by kernel_rfl)) (fun s H C cs fp => (pg_name (i := 11) sc.nd rfl (.inl rfl) (.inr rfl))) (fun s H C cs fp => (pts_one (st_eqI hu room gd (geT_cons L0.e9 (fun _ _ h => geT_nil h)) (sp_exp (so_ix (sp_v ⟨rfl, .inl rfl, rfl, rfl⟩) (sp_v ⟨rfl, .inr (.inl rfl), rfl, rfl⟩) (fun _ _ => rfl))) (sp_exp so_int) (nomark _)))) (fun s H C cs fp => SO.fz (so_v ⟨rfl, .inl rfl, rfl, rfl⟩)) bg_name (gin_name (by simp)) gmo_name (fun _ => rfl))) sap_nil rfl) (by decide) rfl rfl rfl)) bg_name (gin_name (by simp)) gmo_name (fun _ => rfl))) sap_nil rfl) (by decide) rfl rfl rfl))) rfl)) (sb_cons (ss_if (st_not (st_val (so_call L1.f25 room gd tk rfl rfl (sap_cons (sp_exp (so_call L1.f21 room gd tk rfl rfl (sap_cons (sp_v ⟨rfl, .inl rfl, rfl, rfl⟩) sap_nil rfl) rfl rfl)) (sap_cons (sp_v ⟨rfl, .inl rfl, rfl, rfl⟩) sap_nil rfl) rfl) rfl rfl) (fun _ => rfl))) (sb_one (ss_ret so_bl)) sb_nil) (sb_cons (ss_if (st_not (st_val (so_call L1.f25 room gd tk rfl rfl (sap_cons (sp_exp (so_call L1.f22 room gd tk rfl rfl (sap_cons (sp_v ⟨rfl, .inl rfl, rfl, rfl⟩) (sap_cons (sp_exp (so_new L0.n8 room gd tk rfl rfl (sa_cons (so_v ⟨rfl, .inl rfl, rfl, rfl⟩) (sa_cons (so_v ⟨rfl, .inl rfl, rfl, rfl⟩) sa_nil rfl) rfl) rfl rfl)) sap_nil rfl) rfl) rfl rfl)) (sap_cons (sp_exp (so_call L1.f36 room gd tk rfl rfl (sap_cons (sp_v ⟨rfl, .inl rfl, rfl, rfl⟩) (sap_cons (sp_v ⟨rfl, .inr (.inl rfl), rfl, rfl⟩) (sap_cons (sp_v ⟨rfl, .inl rfl, rfl, rfl⟩) sap_nil rfl) rfl) rfl) rfl rfl)) sap_nil rfl) rfl) rfl rfl) (fun _ => rfl))) (sb_one (ss_ret so_bl)) sb_nil) (sb_one (ss_if (PW.pt (st_or (st_neI hu room gd (geT_cons L0.e9 (fun _ _ h => geT_nil h)) (sp_exp (so_ix (sp_exp (so_call L1.f22 room gd tk rfl rfl (sap_cons (sp_v ⟨rfl, .inl rfl, rfl, rfl⟩) (sap_cons (sp_exp (so_v ⟨rfl, .inl rfl, rfl, rfl⟩)) sap_nil rfl) rfl) rfl rfl)) (sp_exp so_int) (fun _ _ => rfl))) (sp_exp (so_callB callK_len rfl T.z_len b_len (sap_cons (sp_v ⟨rfl, .inr (.inl rfl), rfl, rfl⟩) sap_nil rfl) (by decide) rfl rfl rfl)) (nomark _)) (st_or1 (st_neI hu room gd (geT_cons L0.e9 (fun _ _ h => geT_nil h)) (sp_exp (so_callB (callK_sumA rfl) rfl T.z_sum b_sum (sap_cons (sp_exp (so_call L1.f22 room gd tk rfl rfl (sap_cons (sp_v ⟨rfl, .inl rfl, rfl, rfl⟩) (sap_cons (sp_exp (so_v ⟨rfl, .inl rfl, rfl, rfl⟩)) sap_nil rfl) rfl) rfl rfl)) sap_nil rfl) (by decide) rfl rfl rfl)) (sp_exp (so_bin (op := .Mult) (sp_exp (so_callB callK_len rfl T.z_len b_len (sap_cons (sp_v ⟨rfl, .inr (.inl rfl), rfl, rfl⟩) sap_nil rfl) (by decide) rfl rfl rfl)) (sp_exp (so_callB callK_len rfl T.z_len b_len (sap_cons (sp_v ⟨rfl, .inr (.inl rfl), rfl, rfl⟩) sap_nil rfl) (by decide) rfl rfl rfl)))) (nomark _))))) (sb_one (ss_ret so_bl)) sb_nil))))))))))) (fun _ => rfl)) (sb_cons (ss_setF (ss_set (i := 9) sc.nd rfl (.inl rfl) (.inr rfl) (so_new L0.n8 room gd tk rfl rfl (sa_cons so_int (sa_cons (so_tup (sa_cons so_int (sa_cons so_int (sa_cons so_int (sa_cons so_int sa_nil rfl) rfl) rfl) rfl)) sa_nil rfl) rfl) rfl rfl) rfl)) (sb_cons (ss_if (PW.pt (st_or (st_neI hu room gd (geT_cons L0.e9 (fun _ _ h => geT_nil h)) (sp_exp (so_ix (sp_exp (so_call L1.f18 room gd tk rfl rfl (sap_cons (sp_v ⟨rfl, .inl rfl, rfl, rfl⟩) sap_nil rfl) rfl rfl)) (sp_exp so_int) (fun _ _ => rfl))) (sp_exp so_int) (nomark _)) (st_or1 (st_neI hu room gd (geT_cons L0.e9 (fun _ _ h => geT_nil h)) (sp_exp (so_callB callK_len rfl T.z_len b_len (sap_cons (sp_exp (so_ix (sp_exp (so_call L1.f18 room gd tk rfl rfl (sap_cons (sp_v ⟨rfl, .inl rfl, rfl, rfl⟩) sap_nil rfl) rfl rfl)) (sp_exp so_int) (fun _ _ => rfl))) sap_nil rfl) (by decide) rfl rfl rfl)) (sp_exp so_int) (nomark _))))) (sb_one (ss_ret so_bl)) sb_nil) (sb_one (ss_ret (so_and (so_cmp (op := .Is) hu (sp_exp (so_call L1.f19 room gd tk rfl rfl (sap_cons (sp_v ⟨rfl, .inl rfl, rfl, rfl⟩) sap_nil rfl) rfl rfl)) (sp_exp so_bl) (nomark _)) (so_one (so_eqI hu room gd (geT_cons L0.e9 (fun _ _ h => geT_nil h)) (sp_exp (so_call L1.f21 room gd tk rfl rfl (sap_cons (sp_v ⟨rfl, .inl rfl, rfl, rfl⟩) sap_nil rfl) rfl rfl)) (sp_exp (so_tup (sa_cons so_int (sa_cons so_int (sa_cons so_int sa_nil rfl) rfl) rfl))) (nomark _))))))))))
theorem o_law {w : World} {K : PySem.W.Frag} {mg : Str → Option Value} {cs : List (Addr × Addr)} {base : Heap} {cl : Cl} {m : Nat} {G G' : Nat → FR} (T : Tab w K mg cs cl) (L1 : Lv w K mg base cl (m + 1) G) (L0 : Lv w K mg base cl m G') {f : Addr} {fd : FuncData}
    (F : Fun K "law" "law" s_law f fd) : FnG PP w K mg base (m + 2) f fd ["script"] (spOf K cl 1 (fnD 13 (d_law G G'))) := fn_body F sc_law (by decide) fun cdv A outer s H E room gd => b_law T L1 L0 f cdv A outer s H E room gd

def stepF (G G' G2 G3 : Nat → FR) : Nat → FR
  | 0 => fnD 1 (d_is_integer G G')
  | 1 => fnD 3 (d_is_within G G')
  | 2 => fnD 3 (d_is_tuple G G')
  | 3 => fnD 5 (d_rows G G')
  | 4 => fnD 3 (d_number_of G G')
  | 5 => fnD 1 (d_is_bit G G')
  | 6 => fnD 3 (d_are_bits G G')
  | 7 => fnD 1 (d_is_count G G')
  | 8 => fnD 3 (d_Table___init__ G G')
  | 9 => fnD 2 (d_Table___eq__ G G')
  | 10 => fnD 2 (d_worth_at G G')
  | 11 => fnD 3 (d_rows_of G G')
  | 12 => fnD 2 (d_check_alike G G')
  | 13 => fnD 4 (d_summed G G')
  | 14 => fnD 6 (d_spread_out G G')
  | 15 => fnD 2 (d_spectrum_of G G')
  | 16 => fnD 1 (d_spectrum G G')
  | 17 => fnD 6 (d_even_table G G')
  | 18 => fnD 9 (d_nearest_even G G')
  | 19 => fnD 3 (d_flat G G')
  | 20 => fnD 4 (d_tallies_of G G')
  | 21 => fnD 1 (d_tallies G G')
  | 22 => fnD 7 (d_met G G')
  | 23 => fnD 3 (d__law_hand G G')
  | 24 => fnD 5 (d__law_draw G G')
  | 25 => fnD 5 (d__law_is G G')
  | 26 => fnD 5 (d__law_rows G G')
  | 27 => fnD 3 (d__law_number G G')
  | 28 => fnD 16 (d__law_bits G G')
  | 29 => fnD 2 (d__law_ones G G')
  | 30 => fnD 3 (d__law_table G G')
  | 31 => fnD 2 (d__law_worth G G')
  | 32 => fnD 2 (d__law_turned G G')
  | 33 => fnD 4 (d__law_added G G')
  | 34 => fnD 5 (d__law_evens G G')
  | 35 => fnD 8 (d__law_nearest G G')
  | 36 => fnD 7 (d__law_met G G')
  | 37 => fnD 13 (d_law G G')
  | _ => noF
def Fq : Nat → Nat → FR
  | 0 => fun _ => noF
  | 1 => fun _ => noF
  | 2 => fun _ => noF
  | 3 => fun _ => noF
  | k + 4 => stepF (Fq (k + 3)) (Fq (k + 2)) (Fq (k + 1)) (Fq k)
theorem Fc_ex : ∃ f : Nat → Nat → FR, f 0 = (fun _ => noF) ∧ f 1 = (fun _ => noF) ∧ f 2 = (fun _ => noF) ∧ f 3 = (fun _ => noF) ∧ ∀ k, f (k + 4) = stepF (f (k + 3)) (f (k + 2)) (f (k + 1)) (f k) := ⟨Fq, rfl, rfl, rfl, rfl, fun _ => rfl⟩
/-- chosen, so that no check unfolds it -/
noncomputable def Fc : Nat → Nat → FR := Classical.choose Fc_ex
theorem Fc_0 : Fc 0 = fun _ => noF := (Classical.choose_spec Fc_ex).1
theorem Fc_1 : Fc 1 = fun _ => noF := (Classical.choose_spec Fc_ex).2.1
theorem Fc_2 : Fc 2 = fun _ => noF := (Classical.choose_spec Fc_ex).2.2.1
theorem Fc_3 : Fc 3 = fun _ => noF := (Classical.choose_spec Fc_ex).2.2.2.1
theorem Fc_s (k : Nat) : Fc (k + 4) = stepF (Fc (k + 3)) (Fc (k + 2)) (Fc (k + 1)) (Fc k) := (Classical.choose_spec Fc_ex).2.2.2.2 k
noncomputable def Fk (k : Nat) : Nat → FR := Fc (k + 2)
theorem F_is_integer (k : Nat) : Fk (k + 2) 0 = fnD 1 (d_is_integer (Fk (k + 1)) (Fk k)) := by show Fc (k + 4) _ = _; rw [Fc_s]; rfl
theorem F_is_within (k : Nat) : Fk (k + 2) 1 = fnD 3 (d_is_within (Fk (k + 1)) (Fk k)) := by show Fc (k + 4) _ = _; rw [Fc_s]; rfl
theorem F_is_tuple (k : Nat) : Fk (k + 2) 2 = fnD 3 (d_is_tuple (Fk (k + 1)) (Fk k)) := by show Fc (k + 4) _ = _; rw [Fc_s]; rfl
theorem F_rows (k : Nat) : Fk (k + 2) 3 = fnD 5 (d_rows (Fk (k + 1)) (Fk k)) := by show Fc (k + 4) _ = _; rw [Fc_s]; rfl
theorem F_number_of (k : Nat) : Fk (k + 2) 4 = fnD 3 (d_number_of (Fk (k + 1)) (Fk k)) := by show Fc (k + 4) _ = _; rw [Fc_s]; rfl
theorem F_is_bit (k : Nat) : Fk (k + 2) 5 = fnD 1 (d_is_bit (Fk (k + 1)) (Fk k)) := by show Fc (k + 4) _ = _; rw [Fc_s]; rfl
theorem F_are_bits (k : Nat) : Fk (k + 2) 6 = fnD 3 (d_are_bits (Fk (k + 1)) (Fk k)) := by show Fc (k + 4) _ = _; rw [Fc_s]; rfl
theorem F_is_count (k : Nat) : Fk (k + 2) 7 = fnD 1 (d_is_count (Fk (k + 1)) (Fk k)) := by show Fc (k + 4) _ = _; rw [Fc_s]; rfl
theorem F_Table___init__ (k : Nat) : Fk (k + 2) 8 = fnD 3 (d_Table___init__ (Fk (k + 1)) (Fk k)) := by show Fc (k + 4) _ = _; rw [Fc_s]; rfl
theorem F_Table___eq__ (k : Nat) : Fk (k + 2) 9 = fnD 2 (d_Table___eq__ (Fk (k + 1)) (Fk k)) := by show Fc (k + 4) _ = _; rw [Fc_s]; rfl
theorem F_worth_at (k : Nat) : Fk (k + 2) 10 = fnD 2 (d_worth_at (Fk (k + 1)) (Fk k)) := by show Fc (k + 4) _ = _; rw [Fc_s]; rfl
theorem F_rows_of (k : Nat) : Fk (k + 2) 11 = fnD 3 (d_rows_of (Fk (k + 1)) (Fk k)) := by show Fc (k + 4) _ = _; rw [Fc_s]; rfl
theorem F_check_alike (k : Nat) : Fk (k + 2) 12 = fnD 2 (d_check_alike (Fk (k + 1)) (Fk k)) := by show Fc (k + 4) _ = _; rw [Fc_s]; rfl
theorem F_summed (k : Nat) : Fk (k + 2) 13 = fnD 4 (d_summed (Fk (k + 1)) (Fk k)) := by show Fc (k + 4) _ = _; rw [Fc_s]; rfl
theorem F_spread_out (k : Nat) : Fk (k + 2) 14 = fnD 6 (d_spread_out (Fk (k + 1)) (Fk k)) := by show Fc (k + 4) _ = _; rw [Fc_s]; rfl
theorem F_spectrum_of (k : Nat) : Fk (k + 2) 15 = fnD 2 (d_spectrum_of (Fk (k + 1)) (Fk k)) := by show Fc (k + 4) _ = _; rw [Fc_s]; rfl
theorem F_spectrum (k : Nat) : Fk (k + 2) 16 = fnD 1 (d_spectrum (Fk (k + 1)) (Fk k)) := by show Fc (k + 4) _ = _; rw [Fc_s]; rfl
theorem F_even_table (k : Nat) : Fk (k + 2) 17 = fnD 6 (d_even_table (Fk (k + 1)) (Fk k)) := by show Fc (k + 4) _ = _; rw [Fc_s]; rfl
theorem F_nearest_even (k : Nat) : Fk (k + 2) 18 = fnD 9 (d_nearest_even (Fk (k + 1)) (Fk k)) := by show Fc (k + 4) _ = _; rw [Fc_s]; rfl
theorem F_flat (k : Nat) : Fk (k + 2) 19 = fnD 3 (d_flat (Fk (k + 1)) (Fk k)) := by show Fc (k + 4) _ = _; rw [Fc_s]; rfl
theorem F_tallies_of (k : Nat) : Fk (k + 2) 20 = fnD 4 (d_tallies_of (Fk (k + 1)) (Fk k)) := by show Fc (k + 4) _ = _; rw [Fc_s]; rfl
theorem F_tallies (k : Nat) : Fk (k + 2) 21 = fnD 1 (d_tallies (Fk (k + 1)) (Fk k)) := by show Fc (k + 4) _ = _; rw [Fc_s]; rfl
theorem F_met (k : Nat) : Fk (k + 2) 22 = fnD 7 (d_met (Fk (k + 1)) (Fk k)) := by show Fc (k + 4) _ = _; rw [Fc_s]; rfl
theorem F__law_hand (k : Nat) : Fk (k + 2) 23 = fnD 3 (d__law_hand (Fk (k + 1)) (Fk k)) := by show Fc (k + 4) _ = _; rw [Fc_s]; rfl
theorem F__law_draw (k : Nat) : Fk (k + 2) 24 = fnD 5 (d__law_draw (Fk (k + 1)) (Fk k)) := by show Fc (k + 4) _ = _; rw [Fc_s]; rfl
theorem F__law_is (k : Nat) : Fk (k + 2) 25 = fnD 5 (d__law_is (Fk (k + 1)) (Fk k)) := by show Fc (k + 4) _ = _; rw [Fc_s]; rfl
theorem F__law_rows (k : Nat) : Fk (k + 2) 26 = fnD 5 (d__law_rows (Fk (k + 1)) (Fk k)) := by show Fc (k + 4) _ = _; rw [Fc_s]; rfl
theorem F__law_number (k : Nat) : Fk (k + 2) 27 = fnD 3 (d__law_number (Fk (k + 1)) (Fk k)) := by show Fc (k + 4) _ = _; rw [Fc_s]; rfl
theorem F__law_bits (k : Nat) : Fk (k + 2) 28 = fnD 16 (d__law_bits (Fk (k + 1)) (Fk k)) := by show Fc (k + 4) _ = _; rw [Fc_s]; rfl
theorem F__law_ones (k : Nat) : Fk (k + 2) 29 = fnD 2 (d__law_ones (Fk (k + 1)) (Fk k)) := by show Fc (k + 4) _ = _; rw [Fc_s]; rfl
theorem F__law_table (k : Nat) : Fk (k + 2) 30 = fnD 3 (d__law_table (Fk (k + 1)) (Fk k)) := by show Fc (k + 4) _ = _; rw [Fc_s]; rfl
theorem F__law_worth (k : Nat) : Fk (k + 2) 31 = fnD 2 (d__law_worth (Fk (k + 1)) (Fk k)) := by show Fc (k + 4) _ = _; rw [Fc_s]; rfl
theorem F__law_turned (k : Nat) : Fk (k + 2) 32 = fnD 2 (d__law_turned (Fk (k + 1)) (Fk k)) := by show Fc (k + 4) _ = _; rw [Fc_s]; rfl
theorem F__law_added (k : Nat) : Fk (k + 2) 33 = fnD 4 (d__law_added (Fk (k + 1)) (Fk k)) := by show Fc (k + 4) _ = _; rw [Fc_s]; rfl
theorem F__law_evens (k : Nat) : Fk (k + 2) 34 = fnD 5 (d__law_evens (Fk (k + 1)) (Fk k)) := by show Fc (k + 4) _ = _; rw [Fc_s]; rfl
theorem F__law_nearest (k : Nat) : Fk (k + 2) 35 = fnD 8 (d__law_nearest (Fk (k + 1)) (Fk k)) := by show Fc (k + 4) _ = _; rw [Fc_s]; rfl
theorem F__law_met (k : Nat) : Fk (k + 2) 36 = fnD 7 (d__law_met (Fk (k + 1)) (Fk k)) := by show Fc (k + 4) _ = _; rw [Fc_s]; rfl
theorem F_law (k : Nat) : Fk (k + 2) 37 = fnD 13 (d_law (Fk (k + 1)) (Fk k)) := by show Fc (k + 4) _ = _; rw [Fc_s]; rfl
end PF.k30
namespace PF.k30
open PySem PySem.Spec L2 PF
theorem is_integer_i (k : Nat) (i : Int) : Fk (k + 2) 0 [.fr (.int i)] = .ok (.bl true, false) [.un] := by
  rw [F_is_integer]
  simp [fnD_app, d_is_integer, fIsi, tagD, isi, isiT, isiTy, tagL, tyL]

theorem is_within_i (k : Nat) (i lo hi : Int) : Fk (k + 3) 1 [.fr (.int i), .fr (.int lo), .fr (.int hi)] = .ok (.bl (decide (lo ≤ i) && decide (i ≤ hi)), false) [.un, .un, .un] := by
  rw [F_is_within]
  simp [fnD_app, d_is_within, usr_app, handR_app, is_integer_i]
  by_cases h : lo ≤ i <;> simp [h]

theorem is_bit_i (k : Nat) (i : Int) : Fk (k + 4) 5 [.fr (.int i)] = .ok (.bl (decide (0 ≤ i) && decide (i ≤ 1)), false) [.un] := by
  rw [F_is_bit]
  simp [fnD_app, d_is_bit, usr_app, handR_app, is_within_i]

def grow2 (l : List (List Int)) : List (List Int) := l.flatMap fun r => [r ++ [0], r ++ [1]]
theorem grow2_nil : grow2 [] = [] := rfl
theorem grow2_cons (r : List Int) (l : List (List Int)) : grow2 (r :: l) = (r ++ [0]) :: (r ++ [1]) :: grow2 l := by simp [grow2]
theorem grow2_len : ∀ l : List (List Int), (grow2 l).length = 2 * l.length
  | [] => rfl
  | a :: l => by rw [grow2_cons]; simp [grow2_len l]; omega
def rowsL : Nat → List (List Int)
  | 0 => [[]]
  | n + 1 => grow2 (rowsL n)
theorem rowsL_len : ∀ n : Nat, (rowsL n).length = 2 ^ n
  | 0 => rfl
  | n + 1 => by rw [rowsL, grow2_len, rowsL_len n, Nat.pow_succ]; omega
theorem rowsL_mem : ∀ {n : Nat} {r : List Int}, r ∈ rowsL n → r.length = n ∧ ∀ b ∈ r, b = 0 ∨ b = 1
  | 0, r, h => by simp [rowsL] at h; subst h; simp
  | n + 1, r, h => by
    simp only [rowsL, grow2, List.mem_flatMap] at h
    obtain ⟨q, hq, hr⟩ := h
    obtain ⟨h1, h2⟩ := rowsL_mem hq
    simp at hr
    rcases hr with rfl | rfl
    · refine ⟨by simp [h1], fun b hb => ?_⟩
      rcases List.mem_append.mp hb with hb | hb
      · exact h2 b hb
      · simp at hb; exact .inl hb
    · refine ⟨by simp [h1], fun b hb => ?_⟩
      rcases List.mem_append.mp hb with hb | hb
      · exact h2 b hb
      · simp at hb; exact .inr hb
theorem pow_le {n m : Nat} (h : n ≤ m) : 2 ^ n ≤ 2 ^ m := Nat.pow_le_pow_right (by decide) h

theorem rows_in (G G' : Nat → FR) (y0 y1 y2 : Sl) : ∀ (l : List (List Int)) (acc : List D), acc.length + 2 * l.length ≤ 1000000 → (∀ r ∈ l, r.length ≤ 100) →
    forD (bName 4) (rows_b1 G G') (l.map rD) [y0, y1, y2, .ow (.lst acc), .un] = .ok .nx [y0, y1, y2, .ow (.lst (acc ++ (grow2 l).map rD)), .un]
  | [], acc, _, _ => by simp [forD, grow2_nil]
  | r :: l, acc, h, hl => by
    have hr := hl r List.mem_cons_self
    have a1 := add_tup (xs := iL r) (ys := [.int 0]) (by simp; omega)
    have a2 := add_tup (xs := iL r) (ys := [.int 1]) (by simp; omega)
    simp only [List.length_cons] at h
    have fl : acc.length + 2 ≤ 1000000 := by omega
    have ih := rows_in G G' y0 y1 y2 l (acc ++ [rD (r ++ [0]), rD (r ++ [1])]) (by simp; omega) fun r hr => hl r (List.mem_cons_of_mem _ hr)
    have st : step (bName 4) (rows_b1 G G') (rD r) [y0, y1, y2, .ow (.lst acc), .un] = .ok .nx [y0, y1, y2, .ow (.lst (acc ++ [rD (r ++ [0]), rD (r ++ [1])])), .un] := by
      simp [step_app, rows_b1, rD, a1, a2, fl, iL_app]
    rw [List.map_cons, forD_nx (.inl st), ih, grow2_cons]
    simp
theorem rows_s (G G' : Nat → FR) (n : Nat) (hn : n ≤ 10) : fnD 5 (d_rows G G') [.fr (.int n)] = .ok (.lst ((rowsL n).map rD), false) [.un] := by
  obtain ⟨ρ', h1, rfl⟩ := for_nth (b := bName 2) (body := rows_b2 G G') (ds := upTo 0 n) (ρ := [.fr (.int n), .fr (.lst ((rowsL 0).map rD)), .un, .un, .un]) (P := fun j ρ => ρ = [.fr (.int n), .fr (.lst ((rowsL j).map rD)), .un, .un, .un]) rfl (by
    rintro j d ρ hd rfl
    have hj : j < n := by have := (List.getElem?_eq_some_iff.mp hd).1; simpa using this
    refine ⟨_, .inl ?_, rfl⟩
    have hr := rows_in G G' (.fr (.int n)) (.fr (.lst ((rowsL j).map rD))) (.fr d) (rowsL j) [] (by
      have := pow_le (show j ≤ 10 by omega)
      rw [rowsL_len]; simp; omega) fun r hr => by have := (rowsL_mem hr).1; omega
    simp [step_app, rows_b2, seqD_app, forS_app, hr, rowsL])
  rw [upTo_len] at h1
  have hb := bnd_small (n := (n : Int)) (by omega) (by omega)
  have e0 : (rowsL 0).map rD = [.tup []] := rfl
  rw [e0] at h1
  simp [fnD_app, d_rows, seqD_app, forS_app, hb, h1]
theorem rows_k (k n : Nat) (hn : n ≤ 10) : Fk (k + 2) 3 [.fr (.int n)] = .ok (.lst ((rowsL n).map rD), false) [.un] := by
  rw [F_rows]; exact rows_s _ _ n hn

theorem law_rows_k (k n : Nat) (hn : n ≤ 10) : Fk (k + 2) 26 [.fr (.int n)] = .ok (.lst ((rowsL n).map rD), false) [.un] := by
  rw [F__law_rows, show d__law_rows = d_rows from rfl]; exact rows_s _ _ n hn

def numI (r : List Int) : Int := r.foldl (fun a b => 2 * a + b) 0
theorem numI_app (r : List Int) (b : Int) : numI (r ++ [b]) = 2 * numI r + b := by simp [numI]
theorem rows_num : ∀ {n i : Nat} {r : List Int}, (rowsL n)[i]? = some r → numI r = i
  | 0, i, r, h => by
    cases i with
    | zero => simp [rowsL] at h; subst h; rfl
    | succ i => simp [rowsL] at h
  | n + 1, i, r, h => by
    have key : ∀ (l : List (List Int)) (i : Nat) (r : List Int), (grow2 l)[i]? = some r → ∃ q, l[i / 2]? = some q ∧ r = q ++ [((i % 2 : Nat) : Int)] := by
      intro l
      induction l with
      | nil => intro i r h; simp [grow2] at h
      | cons a l ih =>
        intro i r h
        rw [grow2_cons] at h
        match i, h with
        | 0, h => simp at h; exact ⟨a, rfl, by simpa using h.symm⟩
        | 1, h => simp at h; exact ⟨a, rfl, by simpa using h.symm⟩
        | i + 2, h =>
          obtain ⟨q, h1, h2⟩ := ih i r (by simpa using h)
          refine ⟨q, by rw [show (i + 2) / 2 = i / 2 + 1 by omega]; simpa using h1, by rw [show (i + 2) % 2 = i % 2 by omega]; exact h2⟩
    obtain ⟨q, h1, rfl⟩ := key _ _ _ h
    rw [numI_app, rows_num h1]
    omega

theorem number_loop (G G' : Nat → FR) (y0 : Sl) (r : List Int) : forD (bName 2) (number_of_b1 G G') (iL r) [y0, .fr (.int 0), .un] = .ok .nx [y0, .fr (.int (numI r)), .un] := by
  refine for_fold' D.int (fun a => [y0, .fr (.int a), .un]) (fun a b => 2 * a + b) r 0 fun b hb a => ?_
  have m := op_mul_i (i := 2) (j := a) (.inl ⟨by decide, by decide⟩)
  simp [step_app, number_of_b1, m]
theorem number_of_k (k : Nat) (r : List Int) : Fk (k + 2) 4 [.fr (rD r)] = .ok (.int (numI r), false) [.un] := by
  rw [F_number_of]
  simp [fnD_app, d_number_of, seqD_app, forS_app, rD, number_loop]
theorem number_of_l (k : Nat) (r : List Int) : Fk (k + 2) 4 [.fr (.lst (iL r))] = .ok (.int (numI r), false) [.un] := by
  rw [F_number_of]
  simp [fnD_app, d_number_of, seqD_app, forS_app, number_loop]

def Bits (l : List Int) : Prop := ∀ b ∈ l, b = 0 ∨ b = 1

abbrev tab (n : Nat) (bs : List Int) : D := .ins 0 [("letters", .int n), ("bits", .tup (iL bs)), ("looked", .opq)]

theorem is_tuple_k (k : Nat) (ds : List D) (a b : Int) : Fk (k + 2) 2 [.fr (.tup ds), .fr (.int a), .fr (.int b)] = .ok (.bl (decide (a ≤ ds.length) && decide ((ds.length : Int) ≤ b)), false) [.un, .un, .un] := by
  rw [F_is_tuple]
  simp [fnD_app, d_is_tuple, fIsi, tagD, isi, isiT, isiTy, tagL, tyL]
  by_cases h : a ≤ ds.length <;> simp [h]

theorem is_count_k (k : Nat) (i : Int) : Fk (k + 4) 7 [.fr (.int i)] = .ok (.bl (decide (1 ≤ i) && decide (i ≤ 5)), false) [.un] := by
  rw [F_is_count]
  simp [fnD_app, d_is_count, usr_app, handR_app, is_within_i, c_MOST_LETTERS]

theorem are_bits_k (k : Nat) (bs : List Int) (hl : bs.length ≤ 1000) (m : Int) : Fk (k + 5) 6 [.fr (.tup (iL bs)), .fr (.int m)] = .ok (.bl (decide (m = bs.length) && bs.all fun b => decide (0 ≤ b) && decide (b ≤ 1)), false) [.un, .un] := by
  have h := lc_map (it := itV (varD 0)) (b := bName 2) (e := are_bits_e1 (Fk (k + 4)) (Fk (k + 3))) (vs := [2]) (ρ := [.fr (.tup (iL bs)), .fr (.int m), .un]) D.int (fun b => .bl (decide (0 ≤ b) && decide (b ≤ 1))) bs (by simp [iL_def]) (by omega) (by simp) fun b hb => by
    simp [turn_app, are_bits_e1, usr_app, handR_app, is_bit_i]
  have e : ∀ (m : Int), (decide (m ≤ ((iL bs).length : Int)) && decide (((iL bs).length : Int) ≤ m)) = decide (m = bs.length) := fun m => by
    rw [ints_len]
    by_cases h1 : m = bs.length
    · subst h1; simp
    · by_cases h2 : m ≤ bs.length <;> by_cases h3 : (bs.length : Int) ≤ m <;> simp [h1, h2, h3]; omega
  rw [F_are_bits]
  simp only [fnD_app, d_are_bits]
  simp only [List.length_cons, List.length_nil, List.replicate, List.cons_append, List.nil_append]
  simp [usr_app, handR_app, is_tuple_k, h, fAll_map, -ints_len, e]
  by_cases h1 : m = bs.length <;> simp [h1]

theorem shl1 (n : Nat) (hn : n ≤ 1000) : fOp .LShift (.int 1) (.int n) = some (.int (2 ^ n), false) := by
  have := op_shl_i (i := 1) (j := n) (by omega) (by omega) (by decide)
  rw [this]; simp
theorem bits_all {bs : List Int} (h : Bits bs) : (bs.all fun b => decide (0 ≤ b) && decide (b ≤ 1)) = true := by
  rw [List.all_eq_true]
  intro b hb
  rcases h b hb with rfl | rfl <;> decide
theorem init_k (k n : Nat) (bs : List Int) (h1 : 1 ≤ n) (h5 : n ≤ 5) (hb : Bits bs) (hl : bs.length = 2 ^ n) : Fk (k + 6) 8 [.ln (.ins 0 []), .fr (.int n), .fr (.tup (iL bs))] = .ok (.non, false) [.ln (tab n bs), .un, .un] := by
  have h32 := pow_le h5
  have ab := are_bits_k k bs (by rw [hl]; omega) (2 ^ n)
  rw [bits_all hb, hl, show decide ((2 : Int) ^ n = (2 ^ n : Nat)) = true by simp] at ab
  have e1 : (1 : Int) ≤ n := by omega
  have e2 : (n : Int) ≤ 5 := by omega
  have s := shl1 n (by omega)
  rw [F_Table___init__]
  simp only [fnD_app, d_Table___init__]
  simp only [List.length_cons, List.length_nil, List.replicate, List.cons_append, List.nil_append]
  simp [seqD_app, usr_app, handR_app, is_count_k, e1, e2, s, ab, okA, tab, putD]
theorem new_k (k n : Nat) (bs : List Int) (h1 : 1 ≤ n) (h5 : n ≤ 5) (hb : Bits bs) (hl : bs.length = 2 ^ n) {as : List (En → R (D × Bool))} {ρ ρ' : En} (he : evE as ρ = .ok [.int n, .tup (iL bs)] ρ') :
    newD 0 3 (Fk (k + 6) 8) as ρ = .ok (tab n bs, true) ρ' := by
  rw [newD_app, he]
  simp [init_k k n bs h1 h5 hb hl]

@[simp] theorem tab_l (n : Nat) (bs : List Int) : fAtt okA "letters" (tab n bs) = some (.int n, false) := by simp [fAtt, tab, okA, List.lookup]
@[simp] theorem tab_b (n : Nat) (bs : List Int) : fAtt okA "bits" (tab n bs) = some (.tup (iL bs), false) := by simp [fAtt, tab, okA, List.lookup]

def wL (bs : List Int) (r : List Int) : Int := bs.getD (numI r).toNat 0
theorem wL_at {n i : Nat} {r : List Int} {bs : List Int} (hr : (rowsL n)[i]? = some r) (hl : bs.length = 2 ^ n) : numI r = i ∧ bs[i]? = some (wL bs r) := by
  have h := rows_num hr
  have hi : i < bs.length := by rw [hl, ← rowsL_len]; exact (List.getElem?_eq_some_iff.mp hr).1
  refine ⟨h, ?_⟩
  unfold wL
  rw [h, Int.toNat_natCast, List.getD_eq_getElem?_getD, List.getElem?_eq_getElem hi]
  rfl
theorem ix_row {n : Nat} {r : List Int} {bs : List Int} (hr : r ∈ rowsL n) (hl : bs.length = 2 ^ n) : fIx (.tup (iL bs)) (.int (numI r)) = some (.int (wL bs r), false) := by
  obtain ⟨i, hi⟩ := List.getElem?_of_mem hr
  obtain ⟨h1, h2⟩ := wL_at hi hl
  rw [h1]
  exact ix_tup' (get_iL h2)

theorem worth_at_k (k : Nat) {n m : Nat} {r : List Int} {bs : List Int} (hr : r ∈ rowsL n) (hl : bs.length = 2 ^ n) : Fk (k + 3) 10 [.fr (tab m bs), .fr (rD r)] = .ok (.int (wL bs r), false) [.un, .un] := by
  have := ix_row hr hl
  rw [F_worth_at]
  simp [fnD_app, d_worth_at, usr_app, handR_app, number_of_k, this]

theorem tab_eq_k (k n m : Nat) (as bs : List Int) : Fk (k + 2) 9 [.fr (tab n as), .fr (tab m bs)] = .ok (.bl (decide (n = m ∧ as = bs)), false) [.un, .un] := by
  have is : fIsi okC isi (.own 0) (tab m bs) = some (.bl true, false) := by simp [fIsi, tagD, isi, isiT, isiTy, tagL, tyL, tab, okC]
  have sh : ∀ (n : Nat) (l : List Int), shp (.tup [.int n, .tup (iL l)]) = true := fun n l => (okN_tup (n := 2) (by
    intro x hx
    simp at hx
    rcases hx with rfl | rfl
    · exact okN_int
    · exact okN_ints)).shp (by decide)
  have eq : dEq (.tup [.int n, .tup (iL as)]) (.tup [.int m, .tup (iL bs)]) = some (decide (n = m ∧ as = bs)) := by
    rw [dEq_ok (sh n as) (sh m bs), eqv_tup]
    simp [eqvL]
    by_cases h : n = m <;> by_cases h2 : as = bs <;> simp [h, h2] <;> omega
  rw [F_Table___eq__]
  simp [fnD_app, d_Table___eq__, is, cmpI_app, eq]
theorem eq_tab_r (k : Nat) {op : CmpOp} {t : Bool → Bool} {n m : Nat} {as bs : List Int} {x y : En → R (D × Bool)} {ρ ρ1 ρ2 : En} {o1 o2 : Bool} (hx : x ρ = .ok (tab n as, o1) ρ1) (hy : y ρ1 = .ok (tab m bs, o2) ρ2) :
    cmpI op t (geT ((0, Fk (k + 2) 9) :: [])) (.exp x) (.exp y) ρ = .ok (.bl (t (decide (n = m ∧ as = bs))), false) ρ2 := by
  have h := tab_eq_k k n m as bs
  rw [cmpI_app]
  simp only [ev_exp, fz_app, hx, hy, bind_ok, late_r]
  simp only [tab] at h ⊢
  simp [geT, handR_app, h]

theorem law_hand_k (k : Nat) (ns : List Int) (hl : ns.length ≤ 63) : ∃ d, Hand d ∧ Fk (k + 2) 23 [.fr (.rdl (iL ns))] = .ok (d, true) [.un] := by
  rw [F__law_hand]
  exact hand1_ok (by decide) (by decide) ns hl fun i x y => by simp [_law_hand_e1]
theorem law_draw_k (k : Nat) {d : D} (h : Hand d) {many : Int} (hm : 0 < many) (hm2 : many < 1073741824) : ∃ d' v, Hand d' ∧ 0 ≤ v ∧ v < many ∧ Fk (k + 2) 24 [.ln d, .fr (.int many)] = .ok (.int v, false) [.ln d', .un] := by
  rw [F__law_draw]
  exact draw_ok (drawA2_ok _ _ _ (by decide) (by decide) (by decide)) ⟨by decide, by decide, by decide, by decide, by decide, by decide, by decide, by decide, by decide, by decide⟩ h hm hm2

theorem grow2_app (a b : List (List Int)) : grow2 (a ++ b) = grow2 a ++ grow2 b := by simp [grow2]
theorem grow2_map (c : Int) : ∀ l : List (List Int), grow2 (l.map (c :: ·)) = (grow2 l).map (c :: ·)
  | [] => rfl
  | a :: l => by rw [List.map_cons, grow2_cons, grow2_cons, grow2_map c l]; simp
theorem rowsL_succ : ∀ n : Nat, rowsL (n + 1) = (rowsL n).map (0 :: ·) ++ (rowsL n).map (1 :: ·)
  | 0 => rfl
  | n + 1 => by
    show grow2 (rowsL (n + 1)) = (grow2 (rowsL n)).map (0 :: ·) ++ (grow2 (rowsL n)).map (1 :: ·)
    rw [rowsL_succ n, grow2_app, grow2_map, grow2_map]
theorem sum_rows (n : Nat) (f : List Int → Int) : sumL (rowsL (n + 1)) f = sumL (rowsL n) (fun r => f (0 :: r)) + sumL (rowsL n) fun r => f (1 :: r) := by
  rw [rowsL_succ, sumL_app, sumL_map, sumL_map]
theorem numI_lt {n : Nat} {r : List Int} (h : r ∈ rowsL n) : 0 ≤ numI r ∧ numI r < 2 ^ n := by
  obtain ⟨i, hi⟩ := List.getElem?_of_mem h
  have h1 := rows_num hi
  have h2 := (List.getElem?_eq_some_iff.mp hi).1
  rw [rowsL_len] at h2
  rw [h1]
  refine ⟨by omega, ?_⟩
  exact_mod_cast h2
theorem numI_from (r : List Int) : ∀ c : Int, r.foldl (fun a b => 2 * a + b) c = c * 2 ^ r.length + numI r := by
  induction r with
  | nil => intro c; simp [numI]
  | cons a r ih =>
    intro c
    have e : numI (a :: r) = a * 2 ^ r.length + numI r := by
      show (a :: r).foldl (fun a b => 2 * a + b) 0 = _
      rw [List.foldl_cons, ih (2 * 0 + a)]; simp
    rw [List.foldl_cons, ih, e, List.length_cons, Int.pow_succ, Int.add_mul]
    have : 2 * c * 2 ^ r.length = c * (2 ^ r.length * 2) := by rw [Int.mul_comm 2 c, Int.mul_assoc, Int.mul_comm 2 (2 ^ r.length)]
    omega
theorem numI_cons (a : Int) (r : List Int) : numI (a :: r) = a * 2 ^ r.length + numI r := by
  show (a :: r).foldl (fun a b => 2 * a + b) 0 = _
  rw [List.foldl_cons, numI_from]; simp
theorem wL_0 {n : Nat} {r as bs : List Int} (h : r ∈ rowsL n) (ha : as.length = 2 ^ n) : wL (as ++ bs) (0 :: r) = wL as r := by
  obtain ⟨h1, h2⟩ := numI_lt h
  have h3 : (numI r).toNat < as.length := by rw [ha]; have : ((2 ^ n : Nat) : Int) = 2 ^ n := by simp
                                             omega
  unfold wL
  rw [numI_cons, Int.zero_mul, Int.zero_add, List.getD_eq_getElem?_getD, List.getD_eq_getElem?_getD, List.getElem?_append_left h3]
theorem wL_1 {n : Nat} {r as bs : List Int} (h : r ∈ rowsL n) (ha : as.length = 2 ^ n) : wL (as ++ bs) (1 :: r) = wL bs r := by
  obtain ⟨h1, h2⟩ := numI_lt h
  have h4 := (rowsL_mem h).1
  have h5 : ((2 ^ n : Nat) : Int) = 2 ^ n := by simp
  have h3 : (1 * 2 ^ r.length + numI r).toNat = as.length + (numI r).toNat := by rw [ha, h4]; omega
  unfold wL
  rw [numI_cons, h3, List.getD_eq_getElem?_getD, List.getD_eq_getElem?_getD, List.getElem?_append_right (by omega)]
  congr 2
  omega
theorem halves {n : Nat} {bs : List Int} (h : bs.length = 2 ^ (n + 1)) : ∃ as cs, bs = as ++ cs ∧ as.length = 2 ^ n ∧ cs.length = 2 ^ n := by
  have e : 2 ^ (n + 1) = 2 ^ n + 2 ^ n := by rw [Nat.pow_succ]; omega
  exact ⟨bs.take (2 ^ n), bs.drop (2 ^ n), (List.take_append_drop _ _).symm, by rw [List.length_take]; omega, by rw [List.length_drop]; omega⟩

def adds (a b : List Int) : List Int := (a.zip b).map fun p => p.1 + p.2
def subs (a b : List Int) : List Int := (a.zip b).map fun p => p.1 - p.2
def wht : Nat → List Int → List Int
  | 0, l => l
  | n + 1, l => adds (wht n (l.take (2 ^ n))) (wht n (l.drop (2 ^ n))) ++ subs (wht n (l.take (2 ^ n))) (wht n (l.drop (2 ^ n)))
theorem wht_len : ∀ {n : Nat} {l : List Int}, l.length = 2 ^ n → (wht n l).length = 2 ^ n
  | 0, l, h => h
  | n + 1, l, h => by
    have e : 2 ^ (n + 1) = 2 ^ n + 2 ^ n := by rw [Nat.pow_succ]; omega
    have h1 := wht_len (n := n) (l := l.take (2 ^ n)) (by rw [List.length_take]; omega)
    have h2 := wht_len (n := n) (l := l.drop (2 ^ n)) (by rw [List.length_drop]; omega)
    simp [wht, adds, subs, h1, h2]; omega
theorem wht_app {n : Nat} {a b : List Int} (h : a.length = 2 ^ n) : wht (n + 1) (a ++ b) = adds (wht n a) (wht n b) ++ subs (wht n a) (wht n b) := by
  simp only [wht]
  rw [List.take_left' h, List.drop_left' h]
/-- one pass: pairs st apart -/
def pv (st : Nat) (l : List Int) (i : Nat) : Int := if i / st % 2 = 0 then l.getD i 0 + l.getD (i + st) 0 else l.getD (i - st) 0 - l.getD i 0
def pass (st : Nat) (l : List Int) : List Int := (List.range l.length).map (pv st l)
def low (st i : Nat) : Nat := if i / st % 2 = 0 then i else i - st
def mid (st : Nat) (l : List Int) (j : Nat) : List Int := (List.range l.length).map fun i => if low st i < j then pv st l i else l.getD i 0
theorem mid_0 (st : Nat) (l : List Int) : mid st l 0 = l := by
  apply List.ext_getElem?
  intro i
  simp only [mid, List.getElem?_map]
  by_cases h : i < l.length
  · rw [List.getElem?_range h]; simp [h]
  · rw [List.getElem?_eq_none (by simp; omega), List.getElem?_eq_none (by omega)]; rfl
theorem mid_all (st : Nat) (l : List Int) : mid st l l.length = pass st l := by
  unfold mid pass
  refine List.map_congr_left fun i hi => ?_
  have : i < l.length := by simpa using hi
  have : low st i < l.length := by unfold low; split <;> omega
  rw [if_pos this]
@[simp] theorem mid_len {st j : Nat} {l : List Int} : (mid st l j).length = l.length := by simp [mid]
theorem mid_get {st j i : Nat} {l : List Int} (h : i < l.length) : (mid st l j)[i]? = some (if low st i < j then pv st l i else l.getD i 0) := by
  simp only [mid, List.getElem?_map, List.getElem?_range h, Option.map_some]
theorem odd_block {st i : Nat} (hs : 0 < st) (h : i / st % 2 = 1) : st ≤ i ∧ (i - st) / st % 2 = 0 ∧ (i - st) / st + 1 = i / st := by
  have h1 : st ≤ i := by
    rcases Nat.lt_or_ge i st with q | q
    · rw [Nat.div_eq_of_lt q] at h; simp at h
    · exact q
  have h2 : i / st = (i - st) / st + 1 := by
    have := Nat.add_div_right (i - st) hs
    rw [Nat.sub_add_cancel h1] at this
    exact this
  exact ⟨h1, by omega, h2.symm⟩
theorem mid_odd {st j : Nat} {l : List Int} (hs : 0 < st) (h : j / st % 2 = 1) : mid st l (j + 1) = mid st l j := by
  unfold mid
  refine List.map_congr_left fun i hi => ?_
  have : low st i ≠ j := fun z => by
    unfold low at z
    split at z
    · rename_i q; subst z; omega
    · rename_i q
      obtain ⟨_, q2, _⟩ := odd_block hs (show i / st % 2 = 1 by omega)
      rw [z] at q2; omega
  by_cases q : low st i < j
  · rw [if_pos q, if_pos (by omega)]
  · rw [if_neg q, if_neg (by omega)]
theorem even_step {st j : Nat} (hs : 0 < st) : (j + st) / st = j / st + 1 := Nat.add_div_right j hs
theorem mid_even {st j : Nat} {l : List Int} (hs : 0 < st) (h : j / st % 2 = 0) (hj : j + st < l.length) : mid st l (j + 1) = ((mid st l j).set j (l.getD j 0 + l.getD (j + st) 0)).set (j + st) (l.getD j 0 - l.getD (j + st) 0) := by
  apply List.ext_getElem?
  intro i
  by_cases hi : i < l.length
  · rw [mid_get hi]
    by_cases e1 : i = j + st
    · subst e1
      rw [List.getElem?_set_self (by simp; omega)]
      have q : (j + st) / st % 2 = 1 := by rw [even_step hs]; omega
      have q1 : low st (j + st) = j := by unfold low; rw [if_neg (by omega)]; omega
      rw [q1, if_pos (by omega)]
      unfold pv
      rw [if_neg (by omega), Nat.add_sub_cancel]
    · rw [List.getElem?_set_ne (fun z => e1 z.symm)]
      by_cases e2 : i = j
      · subst e2
        rw [List.getElem?_set_self (by simp; omega)]
        have q1 : low st i = i := by unfold low; rw [if_pos h]
        rw [q1, if_pos (by omega)]
        unfold pv
        rw [if_pos h]
      · rw [List.getElem?_set_ne (fun z => e2 z.symm), mid_get hi]
        have : low st i ≠ j := fun z => by
          unfold low at z
          split at z
          · exact e2 z
          · rename_i q
            obtain ⟨q1, _, _⟩ := odd_block hs (show i / st % 2 = 1 by omega)
            omega
        by_cases q : low st i < j
        · rw [if_pos q, if_pos (by omega)]
        · rw [if_neg q, if_neg (by omega)]
  · rw [List.getElem?_eq_none (by simp; omega), List.getElem?_eq_none (by simp; omega)]
theorem mid_j {st j : Nat} {l : List Int} (h : j / st % 2 = 0) (hj : j < l.length) : (mid st l j)[j]? = some (l.getD j 0) := by
  rw [mid_get hj]
  have : low st j = j := by unfold low; rw [if_pos h]
  rw [this, if_neg (by omega)]
theorem mid_js {st j : Nat} {l : List Int} (hs : 0 < st) (h : j / st % 2 = 0) (hj : j + st < l.length) : (mid st l j)[j + st]? = some (l.getD (j + st) 0) := by
  rw [mid_get hj]
  have q : (j + st) / st % 2 = 1 := by rw [even_step hs]; omega
  have : low st (j + st) = j := by unfold low; rw [if_neg (by omega)]; omega
  rw [this, if_neg (by omega)]
/-- a pass over two blocks, and the rest -/
theorem pass_app {st : Nat} {a b r : List Int} (hs : 0 < st) (ha : a.length = st) (hb : b.length = st) : pass st (a ++ (b ++ r)) = adds a b ++ (subs a b ++ pass st r) := by
  apply List.ext_getElem?
  intro i
  have la : (adds a b).length = st := by simp [adds, ha, hb]
  have ls : (subs a b).length = st := by simp [subs, ha, hb]
  have g : ∀ k, (a ++ (b ++ r)).getD k 0 = if k < st then a.getD k 0 else if k < 2 * st then b.getD (k - st) 0 else r.getD (k - 2 * st) 0 := fun k => by
    simp only [List.getD_eq_getElem?_getD]
    by_cases h1 : k < st
    · rw [if_pos h1, List.getElem?_append_left (by omega)]
    · rw [if_neg h1, List.getElem?_append_right (by omega)]
      by_cases h2 : k < 2 * st
      · rw [if_pos h2, List.getElem?_append_left (by omega), ha]
      · rw [if_neg h2, List.getElem?_append_right (by omega), ha, hb, show k - st - st = k - 2 * st by omega]
  have lp : (pass st (a ++ (b ++ r))).length = 2 * st + r.length := by simp [pass, ha, hb]; omega
  by_cases hi : i < 2 * st + r.length
  · have e : (pass st (a ++ (b ++ r)))[i]? = some (pv st (a ++ (b ++ r)) i) := by
      simp only [pass, List.getElem?_map]
      rw [List.getElem?_range (by simp [ha, hb]; omega)]; rfl
    rw [e]
    have ga : ∀ k, k < st → a[k]? = some (a.getD k 0) := fun k hk => by rw [List.getD_eq_getElem?_getD, List.getElem?_eq_getElem (by omega)]; rfl
    have gb : ∀ k, k < st → b[k]? = some (b.getD k 0) := fun k hk => by rw [List.getD_eq_getElem?_getD, List.getElem?_eq_getElem (by omega)]; rfl
    by_cases h1 : i < st
    · rw [List.getElem?_append_left (by omega)]
      have q : i / st % 2 = 0 := by rw [Nat.div_eq_of_lt h1]
      simp only [pv, if_pos q, g, if_pos h1, if_neg (show ¬ i + st < st by omega), if_pos (show i + st < 2 * st by omega), Nat.add_sub_cancel]
      simp only [adds, List.getElem?_map, List.getElem?_zip_eq_some, List.zip, List.getElem?_zipWith, ga i h1, gb i h1, Option.map_some]
    · rw [List.getElem?_append_right (by omega), la]
      by_cases h2 : i < 2 * st
      · rw [List.getElem?_append_left (by omega)]
        have q : i / st = 1 := by
          have := even_step (j := i - st) hs
          rw [Nat.sub_add_cancel (by omega), Nat.div_eq_of_lt (show i - st < st by omega)] at this
          exact this
        simp only [pv, q, g, if_neg h1, if_pos h2, if_pos (show i - st < st by omega)]
        rw [if_neg (by decide)]
        simp only [subs, List.getElem?_map, List.zip, List.getElem?_zipWith, ga (i - st) (by omega), gb (i - st) (by omega), Option.map_some]
      · rw [List.getElem?_append_right (by omega), ls]
        have e2 : (pass st r)[i - st - st]? = some (pv st r (i - st - st)) := by
          simp only [pass, List.getElem?_map]
          rw [List.getElem?_range (by omega)]; rfl
        rw [e2]
        have q : i / st = (i - st - st) / st + 2 := by
          have h3 := even_step (j := i - st) hs
          have h4 := even_step (j := i - st - st) hs
          rw [Nat.sub_add_cancel (by omega)] at h3 h4
          omega
        have q2 : i / st % 2 = (i - st - st) / st % 2 := by omega
        unfold pv
        by_cases h5 : (i - st - st) / st % 2 = 0
        · rw [if_pos h5, if_pos (by omega)]
          simp only [g, if_neg h1, if_neg h2, if_neg (show ¬ i + st < st by omega), if_neg (show ¬ i + st < 2 * st by omega)]
          rw [show i - 2 * st = i - st - st by omega, show i + st - 2 * st = i - st - st + st by omega]
        · rw [if_neg h5, if_neg (by omega)]
          obtain ⟨h6, _, _⟩ := odd_block hs (show (i - st - st) / st % 2 = 1 by omega)
          simp only [g, if_neg h1, if_neg h2, if_neg (show ¬ i - st < st by omega), if_neg (show ¬ i - st < 2 * st by omega)]
          rw [show i - st - 2 * st = i - st - st - st by omega, show i - 2 * st = i - st - st by omega]
  · rw [List.getElem?_eq_none (by omega), List.getElem?_eq_none (by simp [la, ls, pass]; omega)]
/-- blocks of 2^t, each transformed -/
def cw (t : Nat) : Nat → List Int → List Int
  | 0, _ => []
  | m + 1, l => wht t (l.take (2 ^ t)) ++ cw t m (l.drop (2 ^ t))
theorem cw_pass (t : Nat) : ∀ (m : Nat) (l : List Int), l.length = m * 2 ^ (t + 1) → pass (2 ^ t) (cw t (2 * m) l) = cw (t + 1) m l
  | 0, l, _ => by simp [cw, pass]
  | m + 1, l, h => by
    have e : 2 ^ (t + 1) = 2 ^ t + 2 ^ t := by rw [Nat.pow_succ]; omega
    have h0 : l.length = m * 2 ^ (t + 1) + 2 ^ (t + 1) := by rw [h, Nat.add_mul, Nat.one_mul]
    have l1 : (l.take (2 ^ t)).length = 2 ^ t := by rw [List.length_take]; omega
    have l2 : ((l.drop (2 ^ t)).take (2 ^ t)).length = 2 ^ t := by rw [List.length_take, List.length_drop]; omega
    have p : 0 < 2 ^ t := Nat.two_pow_pos t
    rw [show 2 * (m + 1) = 2 * m + 1 + 1 by omega]
    simp only [cw]
    rw [pass_app p (wht_len l1) (wht_len l2), List.drop_drop, ← e, cw_pass t m (l.drop (2 ^ (t + 1))) (by rw [List.length_drop]; omega)]
    simp only [wht]
    rw [List.take_take, List.drop_take, Nat.min_eq_left (by omega), show 2 ^ (t + 1) - 2 ^ t = 2 ^ t by omega]
    simp
theorem cw_0 : ∀ (m : Nat) (l : List Int), l.length = m → cw 0 m l = l
  | 0, l, h => by rw [List.length_eq_zero_iff.mp h]; rfl
  | m + 1, [], h => by simp at h
  | m + 1, a :: l, h => by
    have := cw_0 m l (by simpa using h)
    simp [cw, wht, this]
theorem cw_1 (n : Nat) (l : List Int) (h : l.length = 2 ^ n) : cw n 1 l = wht n l := by
  simp only [cw, List.append_nil]
  rw [List.take_of_length_le (by omega)]
theorem cw_len (t : Nat) : ∀ (m : Nat) (l : List Int), l.length = m * 2 ^ t → (cw t m l).length = m * 2 ^ t
  | 0, _, _ => by simp [cw]
  | m + 1, l, h => by
    have h0 : l.length = m * 2 ^ t + 2 ^ t := by rw [h, Nat.add_mul, Nat.one_mul]
    simp only [cw, List.length_append]
    rw [wht_len (by rw [List.length_take]; omega), cw_len t m _ (by rw [List.length_drop]; omega), Nat.add_mul, Nat.one_mul]; omega

theorem pair_room {st m j : Nat} (hs : 0 < st) (h : j / st % 2 = 0) (hj : j < 2 * m * st) : j + st < 2 * m * st := by
  have h1 : j / st < 2 * m := (Nat.div_lt_iff_lt_mul hs).mpr hj
  have h2 : j / st + 2 ≤ 2 * m := by omega
  have h3 : j < (j / st + 1) * st := by
    have := Nat.div_add_mod j st
    have := Nat.mod_lt j hs
    have e : (j / st + 1) * st = st * (j / st) + st := by rw [Nat.add_mul, Nat.one_mul, Nat.mul_comm]
    omega
  have h4 : (j / st + 2) * st ≤ 2 * m * st := Nat.mul_le_mul_right st h2
  have e : (j / st + 2) * st = (j / st + 1) * st + st := by rw [show j / st + 2 = (j / st + 1) + 1 by omega, Nat.add_mul (j / st + 1), Nat.one_mul]
  omega
theorem spread_pass (G G' : Nat → FR) (y0 : Sl) (st m : Nat) (l : List Int) (hs : 0 < st) (hs2 : st ≤ 1000) (hl : l.length = 2 * m * st) :
    forD (bName 3) (spread_out_b1 G G') (upTo 0 l.length) [y0, .ow (.lst (iL l)), .fr (.int st), .un, .un, .un] = .ok .nx [y0, .ow (.lst (iL (pass st l))), .fr (.int st), .un, .un, .un] := by
  obtain ⟨ρ', h1, rfl⟩ := for_nth (b := bName 3) (body := spread_out_b1 G G') (ds := upTo 0 l.length) (ρ := [y0, .ow (.lst (iL l)), .fr (.int st), .un, .un, .un]) (P := fun j ρ => ρ = [y0, .ow (.lst (iL (mid st l j))), .fr (.int st), .un, .un, .un]) (by rw [mid_0]) (by
    rintro j d ρ hd rfl
    obtain ⟨hj, e⟩ := List.getElem?_eq_some_iff.mp hd
    have hj : j < l.length := by simpa using hj
    have e : d = .int j := by rw [← e]; simp [upTo]
    subst e
    have d1 := op_div_i (i := (j : Int)) (j := (st : Int)) (by omega) (by omega)
    have d2 := op_mod_i (i := ((j / st : Nat) : Int)) (j := 2) (by decide)
    have e3 : ((j : Int) / (st : Int)) = ((j / st : Nat) : Int) := by simp
    rw [e3] at d1
    have e4 : (((j / st : Nat) : Int) % 2) = ((j / st % 2 : Nat) : Int) := by simp
    rw [e4] at d2
    refine ⟨_, .inl ?_, rfl⟩
    by_cases h : j / st % 2 = 0
    · have hr := pair_room hs h (by rw [← hl]; exact hj)
      rw [← hl] at hr
      have g1 := ix_lst (get_iL (mid_j h hj))
      have g2 := ix_lst (get_iL (mid_js hs h hr))
      have n1 := ixN_nat hj
      have n2 := ixN_nat hr
      rw [mid_even hs h hr]
      rw [h] at d2
      have ec : (j : Int) + (st : Int) = ((j + st : Nat) : Int) := by simp
      simp [-ix_lst_nn, step_app, spread_out_b1, seqD_app, cmpI_app, d1, d2, -Int.natCast_ediv, -Int.natCast_add, ec, g1, g2, n1, n2, set_iL]
    · rw [mid_odd hs (by omega)]
      have h' : j / st % 2 = 1 := by omega
      rw [h'] at d2
      simp [step_app, spread_out_b1, seqD_app, cmpI_app, d1, d2, -Int.natCast_ediv])
  rw [upTo_len, mid_all] at h1
  exact h1

theorem spread_k (k n : Nat) (l : List Int) (hn : n ≤ 9) (hl : l.length = 2 ^ n) : Fk (k + 2) 14 [.fr (.lst (iL l))] = .ok (.lst (iL (wht n l)), true) [.un] := by
  have h9 := pow_le hn
  have h := while_run (c := spread_out_w1 (Fk (k + 1)) (Fk k)) (body := spread_out_b2 (Fk (k + 1)) (Fk k)) (st := fun j => [.fr (.lst (iL l)), .ow (.lst (iL (cw j (2 ^ (n - j)) l))), .fr (.int (2 ^ j : Nat)), .un, .un, .un]) (n := n) 0 fuel (Nat.zero_le _) (by unfold fuel; omega) (fun j hj => by
      have e1 : l.length = 2 ^ (n - j) * 2 ^ j := by rw [hl, ← Nat.pow_add]; congr 1; omega
      have lc : (cw j (2 ^ (n - j)) l).length = 2 ^ n := by rw [cw_len j _ l e1, ← e1, hl]
      have e2 : 2 ^ (n - j) = 2 * 2 ^ (n - (j + 1)) := by rw [show n - j = (n - (j + 1)) + 1 by omega, Nat.pow_succ]; omega
      have lt : 2 ^ j < 2 ^ n := Nat.pow_lt_pow_right (by decide) hj
      have p := spread_pass (Fk (k + 1)) (Fk k) (.fr (.lst (iL l))) (2 ^ j) (2 ^ (n - (j + 1))) (cw j (2 ^ (n - j)) l) (Nat.two_pow_pos j) (by omega) (by rw [lc, ← e2, ← Nat.pow_add]; congr 1; omega)
      rw [lc] at p
      have cp := cw_pass j (2 ^ (n - (j + 1))) l (by rw [hl, ← Nat.pow_add]; congr 1; omega)
      rw [← e2] at cp
      rw [cp] at p
      have m : fOp .Mult (.int 2) (.int (2 ^ j : Nat)) = some (.int (2 * (2 ^ j : Nat)), false) := op_mul_l (by decide) (by decide)
      have m2 : (2 : Int) * (2 ^ j : Nat) = (2 ^ (j + 1) : Nat) := by rw [Nat.pow_succ]; simp; omega
      rw [m2] at m
      have bd := bnd_small (n := ((2 ^ n : Nat) : Int)) (by omega) (by omega)
      have lt' : ((2 ^ j : Nat) : Int) < (2 ^ n : Nat) := by omega
      generalize (2 ^ j : Nat) = S at *
      generalize (2 ^ n : Nat) = N at *
      generalize (2 ^ (j + 1) : Nat) = S2 at *
      exact ⟨by simp [spread_out_w1, lc, lt'], by simp [spread_out_b2, seqD_app, forS_app, lc, bd, p, m]⟩) (by
      have lc : (cw n (2 ^ (n - n)) l).length = 2 ^ n := by rw [cw_len n _ l (by rw [hl, Nat.sub_self, Nat.pow_zero, Nat.one_mul]), Nat.sub_self, Nat.pow_zero, Nat.one_mul]
      rw [Nat.sub_self, Nat.pow_zero] at lc ⊢
      generalize (2 ^ n : Nat) = N at *
      simp [spread_out_w1, lc])
  have e0 : cw 0 (2 ^ (n - 0)) l = l := cw_0 _ _ (by rw [hl]; rfl)
  have e1 : cw n (2 ^ (n - n)) l = wht n l := by rw [Nat.sub_self, Nat.pow_zero]; exact cw_1 n l hl
  rw [e0, e1] at h
  rw [F_spread_out]
  simp [fnD_app, d_spread_out, seqD_app]
  rw [show ((2 ^ 0 : Nat) : Int) = 1 from rfl] at h
  rw [h]
  simp
def sg (bs : List Int) : List Int := bs.map fun b => 1 - 2 * b
@[simp] theorem sg_len {bs : List Int} : (sg bs).length = bs.length := by simp [sg]
theorem spectrum_k (k n : Nat) (bs : List Int) (hn : n ≤ 5) (hl : bs.length = 2 ^ n) : Fk (k + 4) 16 [.fr (tab n bs)] = .ok (.tup (iL (wht n (sg bs))), false) [.un] := by
  have h5 := pow_le hn
  have m : ∀ z, fOp .Mult (.int 2) (.int z) = some (.int (2 * z), false) := fun z => op_mul_l (by decide) (by decide)
  have h := lc_map (it := itV (una (fAtt okA "bits") (.var 0))) (b := bName 1) (e := spectrum_of_e1 (Fk (k + 2)) (Fk (k + 1))) (vs := [1]) (ρ := [.fr (tab n bs), .un]) D.int (fun b => .int (1 - 2 * b)) bs (by simp [iL_def]) (by omega) (by simp) fun b hb => by
    simp [turn_app, spectrum_of_e1, m]
  rw [show (bs.map fun b => D.int (1 - 2 * b)) = iL (sg bs) by simp [sg, iL_def, Function.comp_def]] at h
  have s : Fk (k + 3) 15 [.fr (tab n bs)] = .ok (.lst (iL (wht n (sg bs))), true) [.un] := by
    rw [F_spectrum_of]
    simp [fnD_app, d_spectrum_of, usr_app, handR_app, h, spread_k k n (sg bs) (by omega) (by simp [hl])]
  rw [F_spectrum]
  simp [fnD_app, d_spectrum, usr_app, handR_app, s]

theorem rows_of_k (k n : Nat) (bs : List Int) (b : Int) (hn : n ≤ 5) (hl : bs.length = 2 ^ n) : Fk (k + 4) 11 [.fr (tab n bs), .fr (.int b)] = .ok (.lst (((rowsL n).filter fun r => decide (wL bs r = b)).map rD), true) [.un, .un] := by
  have h5 := pow_le hn
  have h := lc_filt (it := itV (usr 1 (Fk (k + 3) 3) [.exp ((una (fAtt okA "letters") (.var 0)))])) (b := bName 2) (c := rows_of_t1 (Fk (k + 3)) (Fk (k + 2))) (e := rows_of_e1 (Fk (k + 3)) (Fk (k + 2))) (vs := [2]) (ρ := [.fr (tab n bs), .fr (.int b), .un])
    rD rD (fun r => decide (wL bs r = b)) (rowsL n) (by simp [usr_app, handR_app, rows_k (k + 1) n (by omega)]) (by rw [rowsL_len]; omega) (by simp) fun r hr => by
      by_cases e : wL bs r = b <;> simp [turnF_app, rows_of_t1, rows_of_e1, cmpI_app, usr_app, handR_app, worth_at_k k hr hl, e]
  rw [F_rows_of]
  simp [fnD_app, d_rows_of, h]

theorem bits_of {out : List D} (h : ∀ y ∈ out, y = .int 0 ∨ y = .int 1) : ∃ bs, out = iL bs ∧ Bits bs := by
  induction out with
  | nil => exact ⟨[], rfl, by intro b hb; simp at hb⟩
  | cons y out ih =>
    obtain ⟨bs, rfl, h2⟩ := ih fun z hz => h z (List.mem_cons_of_mem _ hz)
    rcases h y List.mem_cons_self with rfl | rfl
    · exact ⟨0 :: bs, rfl, fun b hb => by rcases List.mem_cons.mp hb with rfl | hb; exact .inl rfl; exact h2 b hb⟩
    · exact ⟨1 :: bs, rfl, fun b hb => by rcases List.mem_cons.mp hb with rfl | hb; exact .inr rfl; exact h2 b hb⟩
theorem ints_of_out {out : List D} {p : Int → Prop} (h : ∀ y ∈ out, ∃ i, y = .int i ∧ p i) : ∃ l, out = iL l ∧ ∀ i ∈ l, p i := by
  induction out with
  | nil => exact ⟨[], rfl, by intro b hb; simp at hb⟩
  | cons y out ih =>
    obtain ⟨l, rfl, h2⟩ := ih fun z hz => h z (List.mem_cons_of_mem _ hz)
    obtain ⟨i, rfl, h3⟩ := h y List.mem_cons_self
    exact ⟨i :: l, rfl, fun b hb => by rcases List.mem_cons.mp hb with rfl | hb; exact h3; exact h2 b hb⟩
theorem band_nn {a b : Int} (ha : 0 ≤ a) (hb : 0 ≤ b) : ∃ c, Builtin.bitAnd a b = c ∧ 0 ≤ c ∧ c ≤ a := by
  obtain ⟨x, rfl⟩ := Int.eq_ofNat_of_zero_le ha
  obtain ⟨y, rfl⟩ := Int.eq_ofNat_of_zero_le hb
  refine ⟨((x &&& y : Nat) : Int), ?_, by omega, by have := @Nat.and_le_left x y; omega⟩
  unfold Builtin.bitAnd
  simp
@[simp] theorem op_band {i j : Int} : fOp .BitAnd (.int i) (.int j) = some (.int (Builtin.bitAnd i j), false) := by simp [fOp, fAnd, onI, cAll, vI]

def xb (a b : Int) : Int := (a + b) % 2
theorem xb_bit {a b : Int} (ha : a = 0 ∨ a = 1) (hb : b = 0 ∨ b = 1) : xb a b = 0 ∨ xb a b = 1 := by
  rcases ha with rfl | rfl <;> rcases hb with rfl | rfl <;> decide
theorem xb_comm (a b : Int) : xb a b = xb b a := by unfold xb; rw [Int.add_comm]
theorem xb_asc {a b c : Int} (ha : a = 0 ∨ a = 1) (hb : b = 0 ∨ b = 1) (hc : c = 0 ∨ c = 1) : xb (xb a b) c = xb a (xb b c) := by
  rcases ha with rfl | rfl <;> rcases hb with rfl | rfl <;> rcases hc with rfl | rfl <;> decide
theorem xb_zero {a : Int} (ha : a = 0 ∨ a = 1) : xb a 0 = a := by rcases ha with rfl | rfl <;> decide
theorem xb_self {a : Int} (ha : a = 0 ∨ a = 1) : xb a a = 0 := by rcases ha with rfl | rfl <;> decide
theorem xb_inj {a c b : Int} (ha : a = 0 ∨ a = 1) (hc : c = 0 ∨ c = 1) (hb : b = 0 ∨ b = 1) : xb a b = xb c b ↔ a = c := by
  rcases ha with rfl | rfl <;> rcases hb with rfl | rfl <;> rcases hc with rfl | rfl <;> decide
def gt (l : List Int) (i : Int) : Int := l.getD i.toNat 0
theorem gt_nat (l : List Int) (j : Nat) : gt l (j : Int) = l.getD j 0 := rfl
theorem gt_bit {l : List Int} (h : Bits l) (i : Int) : gt l i = 0 ∨ gt l i = 1 := by
  unfold gt
  rw [List.getD_eq_getElem?_getD]
  cases e : l[i.toNat]? with
  | none => exact .inl rfl
  | some b => exact h b (List.mem_of_getElem? e)
theorem gt_mem {l : List Int} {j : Nat} (h : j < l.length) : gt l (j : Int) ∈ l := by
  rw [gt_nat, List.getD_eq_getElem?_getD, List.getElem?_eq_getElem h]; exact List.getElem_mem h
theorem mem_gt {l : List Int} {x : Int} (h : x ∈ l) : ∃ j : Nat, j < l.length ∧ gt l (j : Int) = x := by
  obtain ⟨j, hj, e⟩ := List.getElem_of_mem h
  exact ⟨j, hj, by rw [gt_nat, List.getD_eq_getElem?_getD, List.getElem?_eq_getElem hj]; exact e⟩
theorem ext_gt {a b : List Int} {n : Nat} (ha : a.length = n) (hb : b.length = n) (h : ∀ j : Nat, j < n → gt a (j : Int) = gt b (j : Int)) : a = b := by
  refine List.ext_getElem (by rw [ha, hb]) fun j h1 h2 => ?_
  have := h j (by omega)
  rw [gt_nat, gt_nat, List.getD_eq_getElem?_getD, List.getD_eq_getElem?_getD, List.getElem?_eq_getElem h1, List.getElem?_eq_getElem h2] at this
  exact this
def rgI (n : Nat) : List Int := (List.range n).map fun (k : Nat) => (k : Int)
theorem rgI_len (n : Nat) : (rgI n).length = n := by simp [rgI]
theorem rgI_gt {n j : Nat} (h : j < n) : gt (rgI n) (j : Int) = j := by
  rw [gt_nat, List.getD_eq_getElem?_getD]; simp [rgI, h]
theorem rgI_mem {n : Nat} {i : Int} (h : i ∈ rgI n) : 0 ≤ i ∧ i < n := by
  simp only [rgI, List.mem_map, List.mem_range] at h
  obtain ⟨k, h1, rfl⟩ := h
  omega
theorem rgI_nd (n : Nat) : (rgI n).Nodup := by
  unfold rgI List.Nodup
  rw [List.pairwise_map]
  exact List.nodup_range.imp fun h e => h (by omega)
theorem map_rg {n : Nat} {l : List Int} (h : l.length = n) : (rgI n).map (gt l) = l := by
  refine ext_gt (n := n) (by simp [rgI_len]) h fun j hj => ?_
  rw [gt_nat, List.getD_eq_getElem?_getD]
  simp [rgI, hj]
structure Mp (n : Nat) (o f : List Int) (b : Int) : Prop where
  pm : o.Perm (rgI n)
  fl : f.length = n
  fb : Bits f
  bb : b = 0 ∨ b = 1
theorem Mp.ol {n : Nat} {o f : List Int} {b : Int} (h : Mp n o f b) : o.length = n := by rw [h.pm.length_eq, rgI_len]
theorem Mp.om {n : Nat} {o f : List Int} {b i : Int} (h : Mp n o f b) (hi : i ∈ o) : 0 ≤ i ∧ i < n := rgI_mem (h.pm.mem_iff.mp hi)
/-- the place of a letter -/
theorem Mp.at {n : Nat} {o f : List Int} {b : Int} (h : Mp n o f b) {j : Nat} (hj : j < n) : ∃ i : Nat, i < n ∧ gt o (j : Int) = (i : Int) := by
  have := h.om (gt_mem (l := o) (j := j) (by rw [h.ol]; exact hj))
  exact ⟨(gt o (j : Int)).toNat, by omega, by omega⟩
theorem Mp.on {n : Nat} {o f : List Int} {b : Int} (h : Mp n o f b) {i : Nat} (hi : i < n) : ∃ j : Nat, j < n ∧ gt o (j : Int) = (i : Int) := by
  have : (i : Int) ∈ o := h.pm.mem_iff.mpr (by simp [rgI]; exact ⟨i, hi, rfl⟩)
  obtain ⟨j, hj, e⟩ := mem_gt this
  exact ⟨j, by rw [h.ol] at hj; exact hj, e⟩
def act (o f r : List Int) : List Int := (o.zip f).map fun p => xb (gt r p.1) p.2
theorem zip_gt {o f : List Int} {n : Nat} (ho : o.length = n) (hf : f.length = n) (g : Int × Int → Int) {j : Nat} (hj : j < n) : gt ((o.zip f).map g) (j : Int) = g (gt o (j : Int), gt f (j : Int)) := by
  rw [gt_nat, gt_nat, gt_nat, List.getD_eq_getElem?_getD, List.getD_eq_getElem?_getD, List.getD_eq_getElem?_getD, List.getElem?_eq_getElem (show j < ((o.zip f).map g).length by simp [ho, hf, hj]),
    List.getElem?_eq_getElem (show j < o.length by omega), List.getElem?_eq_getElem (show j < f.length by omega)]
  simp
theorem map_gt {o : List Int} {n : Nat} (ho : o.length = n) (g : Int → Int) {j : Nat} (hj : j < n) : gt (o.map g) (j : Int) = g (gt o (j : Int)) := by
  rw [gt_nat, gt_nat, List.getD_eq_getElem?_getD, List.getD_eq_getElem?_getD, List.getElem?_eq_getElem (show j < (o.map g).length by simp [ho, hj]), List.getElem?_eq_getElem (show j < o.length by omega)]
  simp
theorem act_len {n : Nat} {o f : List Int} {b : Int} (h : Mp n o f b) (r : List Int) : (act o f r).length = n := by simp [act, h.ol, h.fl]
theorem act_gt {n : Nat} {o f : List Int} {b : Int} (h : Mp n o f b) (r : List Int) {j : Nat} (hj : j < n) : gt (act o f r) (j : Int) = xb (gt r (gt o (j : Int))) (gt f (j : Int)) := zip_gt h.ol h.fl _ hj
theorem act_bits {o f r : List Int} (hf : Bits f) (hr : Bits r) : Bits (act o f r) := fun x hx => by
  simp only [act, List.mem_map] at hx
  obtain ⟨p, hp, rfl⟩ := hx
  exact xb_bit (gt_bit hr _) (hf _ (List.of_mem_zip hp).2)
theorem mem_rowsL : ∀ {n : Nat} {r : List Int}, r.length = n → Bits r → r ∈ rowsL n
  | 0, r, h, hb => by
    have := List.eq_nil_of_length_eq_zero h
    subst this; simp [rowsL]
  | n + 1, [], h, hb => by simp at h
  | n + 1, c :: r, h, hb => by
    have ih := mem_rowsL (n := n) (r := r) (by simpa using h) fun b hb' => hb b (List.mem_cons_of_mem _ hb')
    rw [rowsL_succ, List.mem_append]
    rcases hb c List.mem_cons_self with rfl | rfl
    · exact .inl (List.mem_map.mpr ⟨r, ih, rfl⟩)
    · exact .inr (List.mem_map.mpr ⟨r, ih, rfl⟩)
theorem act_row {n : Nat} {o f r : List Int} {b : Int} (h : Mp n o f b) (hr : r ∈ rowsL n) : act o f r ∈ rowsL n :=
  mem_rowsL (act_len h r) (act_bits h.fb (rowsL_mem hr).2)
def bo (o p : List Int) : List Int := o.map (gt p)
def bf (o f g : List Int) : List Int := (o.zip f).map fun q => xb q.2 (gt g q.1)
theorem bo_len {n : Nat} {o f p : List Int} {b : Int} (h : Mp n o f b) : (bo o p).length = n := by simp [bo, h.ol]
theorem bf_len {n : Nat} {o f g : List Int} {b : Int} (h : Mp n o f b) : (bf o f g).length = n := by simp [bf, h.ol, h.fl]
theorem bf_gt {n : Nat} {o f g : List Int} {b : Int} (h : Mp n o f b) {j : Nat} (hj : j < n) : gt (bf o f g) (j : Int) = xb (gt f (j : Int)) (gt g (gt o (j : Int))) := zip_gt h.ol h.fl _ hj
theorem bo_gt {n : Nat} {o f p : List Int} {b : Int} (h : Mp n o f b) {j : Nat} (hj : j < n) : gt (bo o p) (j : Int) = gt p (gt o (j : Int)) := map_gt h.ol _ hj
theorem beh_mp {n : Nat} {o f p g : List Int} {b c : Int} (h : Mp n o f b) (k : Mp n p g c) : Mp n (bo o p) (bf o f g) (xb b c) where
  pm := by
    have := h.pm.map (gt p)
    rw [map_rg k.ol] at this
    exact this.trans k.pm
  fl := bf_len h
  fb := fun x hx => by
    simp only [bf, List.mem_map] at hx
    obtain ⟨q, hq, rfl⟩ := hx
    exact xb_bit (h.fb _ (List.of_mem_zip hq).2) (gt_bit k.fb _)
  bb := xb_bit h.bb k.bb
theorem act_act {n : Nat} {o f p g r : List Int} {b c : Int} (h : Mp n o f b) (k : Mp n p g c) (hr : r ∈ rowsL n) : act o f (act p g r) = act (bo o p) (bf o f g) r := by
  refine ext_gt (n := n) (act_len h _) (act_len (beh_mp h k) _) fun j hj => ?_
  obtain ⟨i, hi, e⟩ := h.at hj
  rw [act_gt h _ hj, act_gt (beh_mp h k) _ hj, bo_gt h hj, bf_gt h hj, e, act_gt k _ hi, xb_asc (gt_bit (rowsL_mem hr).2 _) (gt_bit k.fb _) (gt_bit h.fb _), xb_comm (gt g _)]
theorem beh_asc {n : Nat} {o f p g q e : List Int} {b c d : Int} (h : Mp n o f b) (k : Mp n p g c) (l : Mp n q e d) :
    bo (bo o p) q = bo o (bo p q) ∧ bf (bo o p) (bf o f g) e = bf o f (bf p g e) ∧ xb (xb b c) d = xb b (xb c d) := by
  refine ⟨ext_gt (n := n) (bo_len (beh_mp h k)) (bo_len h) fun j hj => ?_, ext_gt (n := n) (bf_len (beh_mp h k)) (bf_len h) fun j hj => ?_, xb_asc h.bb k.bb l.bb⟩
  · obtain ⟨i, hi, ei⟩ := h.at hj
    rw [bo_gt (beh_mp h k) hj, bo_gt h hj, bo_gt h hj, ei, bo_gt k hi]
  · obtain ⟨i, hi, ei⟩ := h.at hj
    rw [bf_gt (beh_mp h k) hj, bf_gt h hj, bf_gt h hj, bo_gt h hj, ei, bf_gt k hi, xb_asc (gt_bit h.fb _) (gt_bit k.fb _) (gt_bit l.fb _)]
/-- taken back -/
structure Iv (n : Nat) (o f io jf : List Int) : Prop where
  il : io.length = n
  jl : jf.length = n
  ie : ∀ j : Nat, j < n → gt io (gt o (j : Int)) = (j : Int)
  je : ∀ j : Nat, j < n → gt jf (gt o (j : Int)) = gt f (j : Int)
theorem Iv.mp {n : Nat} {o f io jf : List Int} {b : Int} (h : Mp n o f b) (v : Iv n o f io jf) : Mp n io jf b where
  pm := by
    have e : o.map (gt io) = rgI n := ext_gt (n := n) (by simp [h.ol]) (rgI_len n) fun j hj => by rw [map_gt h.ol _ hj, v.ie j hj, rgI_gt hj]
    have := (h.pm.map (gt io)).symm
    rw [map_rg v.il, e] at this
    exact this
  fl := v.jl
  fb := fun x hx => by
    obtain ⟨k, hk, rfl⟩ := mem_gt hx
    rw [v.jl] at hk
    obtain ⟨j, hj, e⟩ := h.on hk
    rw [← e, v.je j hj]
    exact gt_bit h.fb _
  bb := h.bb
def zs (n : Nat) : List Int := List.replicate n 0
theorem zs_gt (n : Nat) (i : Int) : gt (zs n) i = 0 := by
  unfold gt zs
  rw [List.getD_eq_getElem?_getD, List.getElem?_replicate]
  split <;> rfl
theorem Iv.left {n : Nat} {o f io jf : List Int} {b : Int} (h : Mp n o f b) (v : Iv n o f io jf) : bo o io = rgI n ∧ bf o f jf = zs n ∧ xb b b = 0 := by
  refine ⟨ext_gt (n := n) (bo_len h) (rgI_len n) fun j hj => ?_, ext_gt (n := n) (bf_len h) (by simp [zs]) fun j hj => ?_, xb_self h.bb⟩
  · rw [bo_gt h hj, v.ie j hj, rgI_gt hj]
  · rw [bf_gt h hj, v.je j hj, xb_self (gt_bit h.fb _), zs_gt]
theorem Iv.right {n : Nat} {o f io jf : List Int} {b : Int} (h : Mp n o f b) (v : Iv n o f io jf) : bo io o = rgI n ∧ bf io jf f = zs n ∧ xb b b = 0 := by
  have m := v.mp h
  refine ⟨ext_gt (n := n) (bo_len m) (rgI_len n) fun k hk => ?_, ext_gt (n := n) (bf_len m) (by simp [zs]) fun k hk => ?_, xb_self h.bb⟩
  · obtain ⟨j, hj, e⟩ := h.on hk
    rw [bo_gt m hk, rgI_gt hk, ← e, v.ie j hj]
  · obtain ⟨j, hj, e⟩ := h.on hk
    rw [bf_gt m hk, zs_gt, ← e, v.ie j hj, v.je j hj, xb_self (gt_bit h.fb _)]
theorem Iv.twice {n : Nat} {o f io jf io2 jf2 : List Int} {b : Int} (h : Mp n o f b) (v : Iv n o f io jf) (w : Iv n io jf io2 jf2) : io2 = o ∧ jf2 = f := by
  have m := v.mp h
  refine ⟨ext_gt (n := n) w.il h.ol fun j hj => ?_, ext_gt (n := n) w.jl h.fl fun j hj => ?_⟩
  · obtain ⟨k, hk, e⟩ := h.at hj
    have := w.ie k hk
    rw [← e, v.ie j hj] at this
    exact this
  · obtain ⟨k, hk, e⟩ := h.at hj
    have := w.je k hk
    rw [← e, v.ie j hj, v.je j hj] at this
    exact this
def mb (n : Nat) (o f : List Int) (b : Int) (bs : List Int) : List Int := (rowsL n).map fun r => xb (wL bs (act o f r)) b
theorem wL_bit {bs : List Int} (h : Bits bs) (r : List Int) : wL bs r = 0 ∨ wL bs r = 1 := gt_bit h _
theorem mb_len (n : Nat) (o f : List Int) (b : Int) (bs : List Int) : (mb n o f b bs).length = 2 ^ n := by simp [mb, rowsL_len]
theorem mb_bits {n : Nat} {o f bs : List Int} {b : Int} (hb : b = 0 ∨ b = 1) (h : Bits bs) : Bits (mb n o f b bs) := fun x hx => by
  simp only [mb, List.mem_map] at hx
  obtain ⟨r, _, rfl⟩ := hx
  exact xb_bit (wL_bit h _) hb
theorem wL_mb {n : Nat} {o f bs r : List Int} {b : Int} (hr : r ∈ rowsL n) : wL (mb n o f b bs) r = xb (wL bs (act o f r)) b := by
  obtain ⟨i, hi⟩ := List.getElem?_of_mem hr
  have h1 := rows_num hi
  unfold wL
  rw [h1, List.getD_eq_getElem?_getD]
  simp [mb, hi, wL]
theorem mb_ext {n : Nat} {as bs : List Int} (ha : as.length = 2 ^ n) (hb : bs.length = 2 ^ n) (h : ∀ r ∈ rowsL n, wL as r = wL bs r) : as = bs := by
  refine List.ext_getElem (by rw [ha, hb]) fun i h1 h2 => ?_
  have hi : i < (rowsL n).length := by rw [rowsL_len]; omega
  have e : (rowsL n)[i]? = some ((rowsL n)[i]) := List.getElem?_eq_getElem hi
  have := h _ (List.mem_of_getElem? e)
  have h3 := (wL_at e ha).2
  have h4 := (wL_at e hb).2
  rw [List.getElem?_eq_getElem h1] at h3
  rw [List.getElem?_eq_getElem h2] at h4
  rw [Option.some.inj h3, Option.some.inj h4, this]
theorem mb_mb {n : Nat} {o f p g bs : List Int} {b c : Int} (h : Mp n o f b) (k : Mp n p g c) (hb : Bits bs) : mb n p g c (mb n o f b bs) = mb n (bo o p) (bf o f g) (xb b c) bs := by
  refine mb_ext (mb_len ..) (mb_len ..) fun r hr => ?_
  rw [wL_mb hr, wL_mb hr, wL_mb (act_row k hr), act_act h k hr, xb_asc (wL_bit hb _) h.bb k.bb]
theorem act_id {n : Nat} {r : List Int} (hr : r ∈ rowsL n) : act (rgI n) (zs n) r = r := by
  have z : (zs n).length = n := by simp [zs]
  refine ext_gt (n := n) (by simp [act, rgI_len, z]) (rowsL_mem hr).1 fun j hj => ?_
  have := zip_gt (rgI_len n) z (fun p => xb (gt r p.1) p.2) hj
  unfold act
  rw [this, rgI_gt hj, zs_gt]
  exact xb_zero (gt_bit (rowsL_mem hr).2 _)
theorem mb_id {n : Nat} {bs : List Int} (hl : bs.length = 2 ^ n) (hb : Bits bs) : mb n (rgI n) (zs n) 0 bs = bs := by
  refine mb_ext (mb_len ..) hl fun r hr => ?_
  rw [wL_mb hr, act_id hr, xb_zero (wL_bit hb _)]

theorem rowsL_nd (n : Nat) : (rowsL n).Nodup := by
  rw [List.nodup_iff_pairwise_ne, List.pairwise_iff_getElem]
  intro i j hi hj hij e
  have h1 := rows_num (n := n) (i := i) (r := (rowsL n)[i]) (List.getElem?_eq_getElem hi)
  have h2 := rows_num (n := n) (i := j) (r := (rowsL n)[j]) (List.getElem?_eq_getElem hj)
  rw [e] at h1
  omega
theorem perm_of_inv {α : Type} [BEq α] [LawfulBEq α] {l : List α} (nd : l.Nodup) {f g : α → α} (hf : ∀ x ∈ l, f x ∈ l) (hg : ∀ x ∈ l, g x ∈ l) (fg : ∀ x ∈ l, f (g x) = x) (gf : ∀ x ∈ l, g (f x) = x) : (l.map f).Perm l := by
  rw [List.perm_iff_count]
  intro a
  by_cases ha : a ∈ l
  · have e : (l.map f).count a = l.count (g a) := by
      rw [List.count_eq_countP, List.countP_map, List.count_eq_countP]
      refine List.countP_congr fun x hx => ?_
      simp only [Function.comp, beq_iff_eq]
      constructor
      · intro h; rw [← h, gf x hx]
      · intro h; rw [h, fg a ha]
    rw [e, nd.count, nd.count]
    simp [ha, hg a ha]
  · rw [List.count_eq_zero.mpr ha, List.count_eq_zero.mpr]
    intro h
    obtain ⟨x, hx, rfl⟩ := List.mem_map.mp h
    exact ha (hf x hx)
theorem rows_act {n : Nat} {o f io jf : List Int} {b : Int} (h : Mp n o f b) (v : Iv n o f io jf) : ((rowsL n).map (act o f)).Perm (rowsL n) := by
  have m := v.mp h
  refine perm_of_inv (g := act io jf) (rowsL_nd n) (fun x hx => act_row h hx) (fun x hx => act_row m hx) (fun x hx => ?_) fun x hx => ?_
  · rw [act_act h m hx, (v.left h).1, (v.left h).2.1, act_id hx]
  · rw [act_act m h hx, (v.right h).1, (v.right h).2.1, act_id hx]
def farL (as bs : List Int) : Nat := ((as.zip bs).filter fun p => decide (p.1 ≠ p.2)).length
theorem zip_rowsL {n : Nat} {a b : List Int} (ha : a.length = 2 ^ n) (hb : b.length = 2 ^ n) : a.zip b = (rowsL n).map fun r => (wL a r, wL b r) := by
  refine List.ext_getElem (by simp [ha, hb, rowsL_len]) fun i h1 h2 => ?_
  have hi : i < (rowsL n).length := by simpa using h2
  have e : (rowsL n)[i]? = some ((rowsL n)[i]) := List.getElem?_eq_getElem hi
  have h3 := (wL_at e ha).2
  have h4 := (wL_at e hb).2
  have i1 : i < a.length := by rw [rowsL_len] at hi; omega
  have i2 : i < b.length := by rw [rowsL_len] at hi; omega
  rw [List.getElem?_eq_getElem i1] at h3
  rw [List.getElem?_eq_getElem i2] at h4
  rw [List.getElem_zip, List.getElem_map, Option.some.inj h3, Option.some.inj h4]
theorem far_mb {n : Nat} {o f io jf as bs : List Int} {b : Int} (h : Mp n o f b) (v : Iv n o f io jf) (ha : as.length = 2 ^ n) (hb : bs.length = 2 ^ n) (ca : Bits as) (cb : Bits bs) : farL (mb n o f b as) (mb n o f b bs) = farL as bs := by
  unfold farL
  rw [zip_rowsL (mb_len ..) (mb_len ..), zip_rowsL ha hb, List.filter_map, List.filter_map, List.length_map, List.length_map]
  have := ((rows_act h v).filter ((fun p : Int × Int => decide (p.1 ≠ p.2)) ∘ fun r => (wL as r, wL bs r))).length_eq
  rw [← this, List.filter_map, List.length_map]
  congr 1
  refine List.filter_congr fun r hr => ?_
  show decide (wL (mb n o f b as) r ≠ wL (mb n o f b bs) r) = decide (wL as (act o f r) ≠ wL bs (act o f r))
  rw [decide_eq_decide, wL_mb hr, wL_mb hr]
  exact not_congr (xb_inj (wL_bit ca _) (wL_bit cb _) h.bb)

-- of def 25
def wt : Nat → D → Prop
  | 0, x => ∃ i, x = .int i
  | m + 1, x => (∃ i, x = .int i) ∨ ∃ xs, x = .tup xs ∧ xs.length ≤ 100000 ∧ ∀ y ∈ xs, wt m y
theorem wt_int (m : Nat) (i : Int) : wt m (.int i) := by cases m with | zero => exact ⟨i, rfl⟩ | succ m => exact .inl ⟨i, rfl⟩
theorem wt_ints (m : Nat) {l : List Int} (h : l.length ≤ 100000) : wt (m + 1) (.tup (iL l)) := .inr ⟨_, rfl, by simpa using h, fun y hy => by
  obtain ⟨i, _, rfl⟩ := List.mem_map.mp hy
  exact wt_int _ _⟩
theorem zip_self {α : Type} (l : List α) : l.zip l = l.map fun i => (i, i) := by induction l <;> simp_all
theorem isI_k (k : Nat) (i : Int) : Fk (k + 2) 25 [.fr (.int i), .fr (.int i)] = .ok (.bl true, false) [.un, .un] := by
  rw [F__law_is]
  simp [fnD_app, d__law_is, seqD_app, fIsi, tagD, isi, isiT, isiTy, tagL, tyL, cmpI_app]
theorem is_bl_k (k : Nat) (a b : Bool) : Fk (k + 2) 25 [.fr (.bl a), .fr (.bl b)] = .ok (.bl (decide (a = b)), false) [.un, .un] := by
  rw [F__law_is]
  simp [fnD_app, d__law_is, seqD_app, fIsi, tagD, isi, isiT, isiTy, tagL, tyL, cmpI_app]
theorem zipd_self (xs : List D) : zipd xs xs = xs.map fun x => .tup [x, x] := by
  have := zipd_map (fun x : D => x) (fun x : D => x) xs xs
  rw [List.map_id', zip_self, List.map_map] at this
  exact this
theorem is_wt : ∀ (m k : Nat) {x : D}, wt m x → Fk (k + 2 + m) 25 [.fr x, .fr x] = .ok (.bl true, false) [.un, .un]
  | 0, k, x, h => by obtain ⟨i, rfl⟩ := h; exact isI_k k i
  | m + 1, k, x, h => by
    rcases h with ⟨i, rfl⟩ | ⟨xs, rfl, hl, hw⟩
    · rw [show k + 2 + (m + 1) = (k + (m + 1)) + 2 by omega]
      exact isI_k (k + (m + 1)) i
    rw [show k + 2 + (m + 1) = (k + m + 1) + 2 by omega, F__law_is]
    have g : lcD (itC fZip2 [(varD 0), (varD 1)]) (bTup [(bName 2), (bName 3)]) yesT (_law_is_e1 (Fk (k + m + 2)) (Fk (k + m + 1))) [2, 3] [.fr (.tup xs), .fr (.tup xs), .un, .un, .un] = .ok (.lst (xs.map fun _ => .bl true), true) [.fr (.tup xs), .fr (.tup xs), .un, .un, .un] := by
      rw [lc_map (fun x => .tup [x, x]) (fun _ => .bl true) xs (by simp [fZip2, seqK, zipd_self]) (by omega) (by simp) fun y hy => by
        have := is_wt m k (hw y hy)
        rw [show k + 2 + m = k + m + 2 by omega] at this
        simp [turn_app, _law_is_e1, usr_app, handR_app, this]]
    have al := fAll_map xs (fun _ => true)
    simp [fnD_app, d__law_is, seqD_app, fIsi, tagD, isi, isiT, isiTy, tagL, tyL, cmpI_app, g, al]

def addR (x y : List Int) : List Int := (x.zip y).map fun p => i1 (decide (p.1 ≠ p.2))
theorem i1_bit (b : Bool) : i1 b = 0 ∨ i1 b = 1 := by cases b <;> simp [i1]
theorem addR_row {n : Nat} {x y : List Int} (hx : x ∈ rowsL n) (hy : y ∈ rowsL n) : addR x y ∈ rowsL n := mem_rowsL (by simp [addR, (rowsL_mem hx).1, (rowsL_mem hy).1]) fun b hb => by
  obtain ⟨p, _, rfl⟩ := List.mem_map.mp hb
  exact i1_bit _
theorem addR_comm : ∀ x y : List Int, addR x y = addR y x
  | [], y => by simp [addR]
  | _ :: _, [] => by simp [addR]
  | a :: x, b :: y => by
    have := addR_comm x y
    simp only [addR, List.zip_cons_cons, List.map_cons] at this ⊢
    rw [this]
    by_cases h : a = b
    · simp [h]
    · simp [h, Ne.symm h]
theorem addR_addR : ∀ {x y : List Int}, x.length = y.length → Bits x → Bits y → addR x (addR x y) = y
  | [], [], _, _, _ => rfl
  | a :: x, b :: y, h, hx, hy => by
    have ih := addR_addR (x := x) (y := y) (by simpa using h) (fun c hc => hx c (List.mem_cons_of_mem _ hc)) fun c hc => hy c (List.mem_cons_of_mem _ hc)
    have ha := hx a List.mem_cons_self
    have hb := hy b List.mem_cons_self
    simp only [addR, List.zip_cons_cons, List.map_cons] at ih ⊢
    rw [ih]
    rcases ha with rfl | rfl <;> rcases hb with rfl | rfl <;> simp [i1]
theorem addR_zero {n : Nat} {x : List Int} (hx : x ∈ rowsL n) : addR x (zs n) = x := by
  obtain ⟨h1, h2⟩ := rowsL_mem hx
  have key : ∀ x : List Int, Bits x → addR x (List.replicate x.length 0) = x := by
    intro x
    induction x with
    | nil => intro _; rfl
    | cons a x ih =>
      intro h
      have := ih fun c hc => h c (List.mem_cons_of_mem _ hc)
      simp only [addR, List.length_cons, List.replicate_succ, List.zip_cons_cons, List.map_cons] at this ⊢
      rw [this]
      rcases h a List.mem_cons_self with rfl | rfl <;> simp [i1]
  have := key x h2
  rw [h1] at this
  exact this

theorem summed_k (k : Nat) {n : Nat} {x y : List Int} (hx : x ∈ rowsL n) (hy : y ∈ rowsL n) (hn : n ≤ 10) : Fk (k + 2) 13 [.fr (rD x), .fr (rD y)] = .ok (rD (addR x y), false) [.un, .un] := by
  obtain ⟨h1, h2⟩ := rowsL_mem hx
  obtain ⟨h3, h4⟩ := rowsL_mem hy
  have m : ∀ z, fOp .Mod (.int z) (.int 2) = some (.int (z % 2), false) := fun z => op_mod_i (by decide)
  rw [F_summed]
  simp only [fnD_app, d_summed]
  simp
  rw [lc_map (fun p : Int × Int => .tup [.int p.1, .int p.2]) (fun p => .int (i1 (decide (p.1 ≠ p.2)))) (x.zip y) (by simp [rD, fZip2, seqK, zipd_map, iL_def]) (by simp; omega) (by simp) fun p hp => by
    obtain ⟨p1, p2⟩ := List.of_mem_zip hp
    rcases h2 _ p1 with e1 | e1 <;> rcases h4 _ p2 with e2 | e2 <;> simp [turn_app, summed_e1, e1, e2, m, i1]]
  simp [addR, rD, iL_def, Function.comp_def]

def dotR (x y : List Int) : Int := sumL (x.zip y) fun p => p.1 * p.2
def evL (n : Nat) (r : List Int) (b : Int) : List Int := (rowsL n).map fun x => (b + dotR r x) % 2
theorem evL_bits (n : Nat) (r : List Int) (b : Int) : Bits (evL n r b) := fun x hx => by
  obtain ⟨y, _, rfl⟩ := List.mem_map.mp hx
  omega
theorem evL_len (n : Nat) (r : List Int) (b : Int) : (evL n r b).length = 2 ^ n := by simp [evL, rowsL_len]
def evs2 (n : Nat) : List (List Int) := (rowsL n).flatMap fun r => [evL n r 0, evL n r 1]
theorem evs2_len (n : Nat) : (evs2 n).length = 2 * 2 ^ n := by
  unfold evs2
  have : ∀ l : List (List Int), (l.flatMap fun r => [evL n r 0, evL n r 1]).length = 2 * l.length := by
    intro l
    induction l with
    | nil => rfl
    | cons a l ih => rw [List.flatMap_cons, List.length_append, ih]; simp; omega
  rw [this, rowsL_len]
def nrP (bs : List Int) (e : List Int) : Int := ((e.zip bs).filter fun p => decide (p.1 ≠ p.2)).length
def nrD (bs : List Int) (e : List Int) : D := .tup [.int (nrP bs e), .tup (iL e)]
theorem nr_ti (bs : List Int) (l : List (List Int)) : tiAll (l.map (nrD bs)) = true := tiAll_pairs (nrP bs) id l
/-- the least number -/
theorem near_min (n : Nat) (bs : List Int) : ∃ e, (e ∈ evs2 n ∧ ∀ x ∈ evs2 n, nrP bs e ≤ nrP bs x) ∧ fMin2 [.lst ((evs2 n).map (nrD bs))] = some (nrD bs e, false) := by
  have ne : evs2 n ≠ [] := List.ne_nil_of_length_pos (by rw [evs2_len]; have := Nat.pow_pos (n := n) (show 0 < 2 by decide); omega)
  obtain ⟨m, h1, h2, h3⟩ := minT_ok (l := (evs2 n).map (nrD bs)) (by simpa using ne) (nr_ti bs _)
  obtain ⟨e, he, rfl⟩ := List.mem_map.mp h2
  refine ⟨e, ⟨he, fun x hx => leD_fst (h3 _ (List.mem_map_of_mem hx))⟩, fBest_t ?_ rfl (nr_ti bs _) h1⟩
  cases h : evs2 n with
  | nil => exact absurd h ne
  | cons a l => rfl
noncomputable def nearE (n : Nat) (bs : List Int) : List Int := Classical.choose (near_min n bs)
theorem nearE_min (n : Nat) (bs : List Int) : fMin2 [.lst ((evs2 n).map (nrD bs))] = some (nrD bs (nearE n bs), false) := (Classical.choose_spec (near_min n bs)).2
theorem nearE_least (n : Nat) (bs : List Int) : nearE n bs ∈ evs2 n ∧ ∀ x ∈ evs2 n, nrP bs (nearE n bs) ≤ nrP bs x := (Classical.choose_spec (near_min n bs)).1
/-- what is told -/
noncomputable def nearD (n : Nat) (bs : List Int) : D := .tup [.int (nrP bs (nearE n bs)), .tup ((((evs2 n).filter fun e => decide (nrP bs e = nrP bs (nearE n bs))).map rD).mergeSort leD)]

theorem even_table_k (k : Nat) {n : Nat} (hn : n ≤ 5) {r : List Int} (hr : r ∈ rowsL n) {b : Int} (hb : b = 0 ∨ b = 1) : Fk (k + 3) 17 [.fr (.int n), .fr (rD r), .fr (.int b)] = .ok (.tup (iL (evL n r b)), false) [.un, .un, .un] := by
  have h32 := pow_le hn
  have m : ∀ z, fOp .Mod (.int z) (.int 2) = some (.int (z % 2), false) := fun z => op_mod_i (by decide)
  obtain ⟨h1, h2⟩ := rowsL_mem hr
  rw [F_even_table]
  simp only [fnD_app, d_even_table]
  simp
  rw [lc_int rD (fun x => (b + dotR r x) % 2) (rowsL n) (by simp [usr_app, handR_app, rows_k k n (by omega)]) (by rw [rowsL_len]; omega) (by simp) fun x hx => by
    obtain ⟨h3, h4⟩ := rowsL_mem hx
    simp [turn_app, even_table_e2]
    rw [lc_int (fun p : Int × Int => .tup [.int p.1, .int p.2]) (fun p => p.1 * p.2) (r.zip x) (by simp [rD, fZip2, seqK, zipd_map, iL_def]) (by simp; omega) (by simp) fun p hp => by
      obtain ⟨p1, p2⟩ := List.of_mem_zip hp
      have ml := op_mul_l (i := p.1) (j := p.2) (by rcases h2 _ p1 with e | e <;> omega) (by rcases h2 _ p1 with e | e <;> omega)
      simp [turn_app, even_table_e1, ml]]
    have sm := fSum_iL ((r.zip x).map fun p => p.1 * p.2)
    simp [sm, m, dotR, sumL]]
  simp [evL]

theorem for_apM {b : Bn} {body : Sm} {α : Type} (enc : α → D) (g : α → List D) (st : List D → En) (c : Nat) : ∀ (l : List α) (acc : List D), acc.length + c * l.length ≤ 1000000 → (∀ x ∈ l, (g x).length = c) → (∀ x ∈ l, ∀ acc, acc.length + c ≤ 1000000 → step b body (enc x) (st acc) = .ok .nx (st (acc ++ g x))) →
    forD b body (l.map enc) (st acc) = .ok .nx (st (acc ++ l.flatMap g))
  | [], acc, _, _, _ => by simp only [List.map_nil, List.flatMap_nil, List.append_nil]; rfl
  | x :: l, acc, hl, hc, h => by
    have hx := hc x List.mem_cons_self
    simp only [List.length_cons, Nat.mul_add, Nat.mul_one] at hl
    rw [List.map_cons, forD_nx (.inl (h x List.mem_cons_self acc (by omega))), for_apM enc g st c l (acc ++ g x) (by simp [hx]; omega) (fun y hy => hc y (List.mem_cons_of_mem _ hy)) fun y hy => h y (List.mem_cons_of_mem _ hy)]
    simp
theorem lc_frz {it : En → R (List D)} {b : Bn} {c : En → R Bool} {e : En → R (D × Bool)} {vs : List Nat} {ρ ρ1 : En} {ds : List D} (h1 : it ρ = .ok ds ρ1) (h2 : it ρ1 = .ok ds ρ1) : lcD it b c e vs ρ = lcD it b c e vs ρ1 := by
  rw [lcD_app, lcD_app, h1, h2]

theorem nr_step (k : Nat) {n : Nat} (hn : n ≤ 5) {bs r : List Int} (hr : r ∈ rowsL n) {b : Int} (hb : b = 0 ∨ b = 1) (hl : bs.length = 2 ^ n) (acc : List D) (ha : acc.length < 1000000) :
    step (bName 3) (nearest_even_b1 (Fk (k + 4)) (Fk (k + 3))) (.int b) [.fr (tab n bs), .ow (.lst acc), .fr (rD r), .un, .un, .un, .un, .un, .un] = .ok .nx [.fr (tab n bs), .ow (.lst (acc ++ [nrD bs (evL n r b)])), .fr (rD r), .un, .un, .un, .un, .un, .un] := by
  have h32 := pow_le hn
  have el := evL_len n r b
  have ev := even_table_k (k + 1) hn hr hb
  have q := lc_filt (it := itC fZip2 [(varD 4), (una (fAtt okA "bits") (.var 0))]) (b := bTup [(bName 6), (bName 7)]) (c := nearest_even_t1 (Fk (k + 4)) (Fk (k + 3))) (e := nearest_even_e1 (Fk (k + 4)) (Fk (k + 3))) (vs := [6, 7]) (ρ := [.fr (tab n bs), .ow (.lst acc), .fr (rD r), .fr (.int b), .fr (.tup (iL (evL n r b))), .un, .un, .un, .un])
    (fun p : Int × Int => .tup [.int p.1, .int p.2]) (fun _ => .int 1) (fun p => decide (p.1 ≠ p.2)) ((evL n r b).zip bs) (by simp [fZip2, seqK, zipd_map, iL_def]) (by simp; omega) (by simp) fun p hp => by
      by_cases e : p.1 = p.2 <;> simp [turnF_app, nearest_even_t1, nearest_even_e1, cmpI_app, e]
  have ln : (((evL n r b).zip bs).filter fun p => decide (p.1 ≠ p.2)).length ≤ 1000000 := by
    have := List.length_filter_le (fun p : Int × Int => decide (p.1 ≠ p.2)) ((evL n r b).zip bs)
    simp only [List.length_zip] at this; omega
  simp [step_app, nearest_even_b1, seqD_app, usr_app, handR_app, ev, q, ha, nrD, nrP]
theorem nearest_even_k (k : Nat) {n : Nat} (hn : n ≤ 5) {bs : List Int} (hl : bs.length = 2 ^ n) : Fk (k + 5) 18 [.fr (tab n bs)] = .ok (nearD n bs, false) [.un] := by
  have h32 := pow_le hn
  have rl := rowsL_len n
  have rk := rows_k (k + 2) n (by omega)
  have g := for_apM (b := bName 2) (body := nearest_even_b2 (Fk (k + 4)) (Fk (k + 3))) rD (fun r => [nrD bs (evL n r 0), nrD bs (evL n r 1)]) (fun a => [.fr (tab n bs), .ow (.lst a), .un, .un, .un, .un, .un, .un, .un]) 2 (rowsL n) [] (by simp [rl]; omega) (by simp) fun r hr acc ha => by
    have s1 := nr_step k hn hr (b := 0) (.inl rfl) hl acc (by omega)
    have s2 := nr_step k hn hr (b := 1) (.inr rfl) hl (acc ++ [nrD bs (evL n r 0)]) (by simp; omega)
    have f : forD (bName 3) (nearest_even_b1 (Fk (k + 4)) (Fk (k + 3))) [.int 0, .int 1] [.fr (tab n bs), .ow (.lst acc), .fr (rD r), .un, .un, .un, .un, .un, .un] = .ok .nx [.fr (tab n bs), .ow (.lst (acc ++ [nrD bs (evL n r 0), nrD bs (evL n r 1)])), .fr (rD r), .un, .un, .un, .un, .un, .un] := by
      rw [forD_nx (.inl s1), forD_nx (.inl s2), List.append_assoc]
      rfl
    simp [step_app, nearest_even_b2, forS_app, f]
  have fl : (rowsL n).flatMap (fun r => [nrD bs (evL n r 0), nrD bs (evL n r 1)]) = (evs2 n).map (nrD bs) := by simp [evs2, List.map_flatMap]
  rw [fl, List.nil_append] at g
  have mn := nearE_min n bs
  have q := lc_filt (it := itV (varD 1)) (b := bTup [(bName 8), (bName 4)]) (c := nearest_even_t2 (Fk (k + 4)) (Fk (k + 3))) (e := nearest_even_e2 (Fk (k + 4)) (Fk (k + 3))) (vs := [4, 8]) (ρ := [.fr (tab n bs), .fr (.lst ((evs2 n).map (nrD bs))), .un, .un, .un, .fr (.int (nrP bs (nearE n bs))), .un, .un, .un])
    (nrD bs) rD (fun e => decide (nrP bs e = nrP bs (nearE n bs))) (evs2 n) (by simp) (by rw [evs2_len]; omega) (by simp) fun e he => by
      by_cases h : nrP bs e = nrP bs (nearE n bs) <;> simp [turnF_app, nearest_even_t2, nearest_even_e2, cmpI_app, nrD, h, rD]
  have q' := (lc_frz (it := itV (varD 1)) (ρ := [.fr (tab n bs), .ow (.lst ((evs2 n).map (nrD bs))), .un, .un, .un, .fr (.int (nrP bs (nearE n bs))), .un, .un, .un]) (ds := (evs2 n).map (nrD bs)) (ρ1 := [.fr (tab n bs), .fr (.lst ((evs2 n).map (nrD bs))), .un, .un, .un, .fr (.int (nrP bs (nearE n bs))), .un, .un, .un]) (by simp) (by simp)).trans q
  have st := sorted_ti (d := .lst (((evs2 n).filter fun e => decide (nrP bs e = nrP bs (nearE n bs))).map rD)) rfl (tiAll_rows _)
  rw [F_nearest_even]
  simp only [fnD_app, d_nearest_even]
  simp [seqD_app, forS_app, usr_app, handR_app, rk, g, mn, q', st, nrD, nearD]

def rwN (n i : Nat) : List Int := (rowsL n).getD i []
theorem rows_range (n : Nat) : rowsL n = (List.range (2 ^ n)).map (rwN n) := by
  refine List.ext_getElem (by simp [rowsL_len]) fun i h1 h2 => ?_
  simp [rwN, List.getD_eq_getElem?_getD, List.getElem?_eq_getElem h1]
theorem rwN_mem {n i : Nat} (h : i < 2 ^ n) : rwN n i ∈ rowsL n := by
  have : i < (rowsL n).length := by rw [rowsL_len]; exact h
  simp [rwN, List.getD_eq_getElem?_getD, List.getElem?_eq_getElem this]

def pcF : Nat → Nat → Int
  | 0, _ => 0
  | f + 1, m => if m = 0 then 0 else ((m % 2 : Nat) : Int) + pcF f (m / 2)
theorem pc_step : ∀ j < 64, 0 < j → pcF 10 j = ((j % 2 : Nat) : Int) + pcF 10 (j / 2) := by decide +kernel
theorem even_fact : ∀ n < 6, ∀ lot < 2 ^ n, ∀ i < 2 ^ n, pcF 10 (i &&& lot) % 2 = (0 + dotR (rwN n lot) (rwN n i)) % 2 := by decide +kernel
theorem band_nat (i j : Nat) : Builtin.bitAnd (i : Int) (j : Int) = ((i &&& j : Nat) : Int) := rfl
theorem land_lt {i j n : Nat} (h : i < 2 ^ n) : (i &&& j) < 2 ^ n := Nat.lt_of_le_of_lt Nat.and_le_left h
theorem ones_pc (k : Nat) {m : Nat} (h1 : m < 64) : Fk (k + 2) 29 [.fr (.int m)] = .ok (.int (pcF 10 m), false) [.un] := by
  obtain ⟨ρ', q1, v, q2, _, q3⟩ := while_inv (c := _law_ones_w1 (Fk (k + 1)) (Fk k)) (body := _law_ones_b1 (Fk (k + 1)) (Fk k)) (P := fun j ρ => ∃ v : Int, ρ = [.fr (.int j), .fr (.int v)] ∧ j < 64 ∧ v + pcF 10 j = pcF 10 m) fuel m [.fr (.int m), .fr (.int 0)] (by unfold fuel; omega) ⟨0, rfl, h1, by omega⟩ (by
    rintro j ρ ⟨v, rfl, hj64, hv⟩
    by_cases hj : 0 < j
    · have d := op_div_i (i := (j : Int)) (j := 2) (by decide) (by decide)
      have m := op_mod_i (i := (j : Int)) (j := 2) (by decide)
      refine ⟨true, _, by simp [_law_ones_w1, hj]; rfl, ?_⟩
      rw [if_pos rfl]
      refine ⟨[.fr (.int (j / 2 : Nat)), .fr (.int (v + j % 2))], j / 2, ?_, by omega, _, rfl, by omega, ?_⟩
      · simp [_law_ones_b1, d, m]
      · have := pc_step j hj64 hj
        omega
    · have : j = 0 := by omega
      subst this
      exact ⟨false, _, by simp [_law_ones_w1]; rfl, by rw [if_neg Bool.false_ne_true]; exact ⟨v, rfl, by omega, hv⟩⟩)
  subst q2
  have z : pcF 10 0 = 0 := by decide
  rw [z, Int.add_zero] at q3
  subst q3
  rw [F__law_ones]
  simp [fnD_app, d__law_ones, seqD_app, q1]

theorem dot_bits {x : List Int} {n : Nat} {r : List Int} : ((1 : Int) + dotR r x) % 2 = 1 - (0 + dotR r x) % 2 := by omega
theorem law_turned_k (k : Nat) {n : Nat} (hn : n ≤ 5) (r : List Int) : Fk (k + 2) 32 [.fr (.tup (iL (evL n r 0)))] = .ok (.tup (iL (evL n r 1)), false) [.un] := by
  have h32 := pow_le hn
  rw [F__law_turned]
  simp only [fnD_app, d__law_turned]
  simp
  rw [lc_int (fun x => .int ((0 + dotR r x) % 2)) (fun x => (1 + dotR r x) % 2) (rowsL n) (by simp [evL, iL_def, Function.comp_def]) (by rw [rowsL_len]; omega) (by simp) fun x hx => by
    have := dot_bits (x := x) (n := n) (r := r)
    simp only [Int.zero_add] at this
    simp [turn_app, _law_turned_e1, this]]
  simp [evL]

theorem law_evens_k (k : Nat) {n : Nat} (hn : n ≤ 5) : ∃ o, Fk (k + 4) 34 [.fr (.int n)] = .ok (.lst ((evs2 n).map rD), o) [.un] := by
  have h32 := pow_le hn
  have sh := shl1 n (by omega)
  have bn := bnd_small (n := ((2 ^ n : Nat) : Int)) (Int.le_trans (by decide) (Int.natCast_nonneg _)) (Int.le_trans (Int.ofNat_le.mpr h32) (by decide))
  have pw : ((2 : Int) ^ n) = ((2 ^ n : Nat) : Int) := by simp
  rw [pw] at sh
  have g := for_apM (b := bName 2) (body := _law_evens_b1 (Fk (k + 3)) (Fk (k + 2))) (fun i : Nat => .int (0 + i)) (fun i => [rD (evL n (rwN n i) 0), rD (evL n (rwN n i) 1)]) (fun a => [.fr (.int n), .ow (.lst a), .un, .un, .un]) 2 (List.range (2 ^ n)) [] (by simp; omega) (by simp) fun i hi acc ha => by
    have hi : i < 2 ^ n := by simpa using hi
    have tk := law_turned_k (k + 1) hn (rwN n i)
    have q := lc_int (it := itC fRange1 [(bin (fOp .LShift) (.exp ((conD (.int 1)))) (.var 0))]) (b := bName 4) (e := _law_evens_e1 (Fk (k + 3)) (Fk (k + 2))) (vs := [4]) (ρ := [.fr (.int n), .ow (.lst acc), .fr (.int i), .un, .un]) (fun j : Nat => .int (0 + j)) (fun j => (0 + dotR (rwN n i) (rwN n j)) % 2) (List.range (2 ^ n)) (by simp [sh, bn, upTo, -Int.natCast_pow]) (by simp; omega) (by simp) fun j hj => by
      have hj : j < 2 ^ n := by simpa using hj
      have m := op_mod_i (i := pcF 10 (j &&& i)) (j := 2) (by decide)
      have ef := even_fact n (by omega) i hi j hj
      rw [ef] at m
      have on := ones_pc (k + 1) (m := j &&& i) (by have := land_lt (i := j) (j := i) hj; omega)
      simp [turn_app, _law_evens_e1, usr_app, handR_app, band_nat, on, m]
    have e0 : (List.range (2 ^ n)).map (fun j => (0 + dotR (rwN n i) (rwN n j)) % 2) = evL n (rwN n i) 0 := by
      rw [evL, rows_range, List.map_map]; rfl
    rw [e0] at q
    simp only [rD] at tk ⊢
    simp [step_app, _law_evens_b1, seqD_app, usr_app, handR_app, q, tk, ha]
  have fl : (List.range (2 ^ n)).flatMap (fun i => [rD (evL n (rwN n i) 0), rD (evL n (rwN n i) 1)]) = (evs2 n).map rD := by
    unfold evs2
    rw [List.map_flatMap]
    conv => rhs; rw [rows_range, List.flatMap_map]
    rfl
  rw [fl, List.nil_append] at g
  have ut : upTo 0 (2 ^ n) = (List.range (2 ^ n)).map fun i : Nat => .int (0 + i) := rfl
  rw [← ut] at g
  rw [F__law_evens]
  simp only [fnD_app, d__law_evens]
  exact ⟨true, by simp [seqD_app, forS_app, sh, bn, g, -Int.natCast_pow]⟩

theorem nr_comm : ∀ a b : List Int, ((a.zip b).filter fun p => decide (p.1 ≠ p.2)).length = ((b.zip a).filter fun p => decide (p.1 ≠ p.2)).length
  | [], b => by simp
  | _ :: _, [] => by simp
  | x :: a, y :: b => by
    have := nr_comm a b
    by_cases h : x = y
    · simp [List.filter_cons, h] at this ⊢
      exact this
    · have h' : ¬ y = x := fun z => h z.symm
      simp [List.filter_cons, h, h'] at this ⊢
      exact this
theorem law_nearest_k (k : Nat) {n : Nat} (hn : n ≤ 5) {bs : List Int} (hl : bs.length = 2 ^ n) : Fk (k + 5) 35 [.fr (.int n), .fr (.tup (iL bs))] = .ok (nearD n bs, false) [.un, .un] := by
  have h32 := pow_le hn
  have el := evs2_len n
  obtain ⟨o, ek⟩ := law_evens_k k hn
  have q1 := lc_map (it := itV (usr 1 (Fk (k + 4) 34) [.var 0])) (b := bName 4) (e := _law_nearest_e2 (Fk (k + 4)) (Fk (k + 3))) (vs := [4]) (ρ := [.fr (.int n), .fr (.tup (iL bs)), .un, .un, .un, .un, .un, .un]) rD (nrD bs) (evs2 n) (by simp [usr_app, handR_app, ek]) (by omega) (by simp) fun e he => by
    have q := lc_filt (it := itC fZip2 [(varD 1), (varD 4)]) (b := bTup [(bName 5), (bName 6)]) (c := _law_nearest_t1 (Fk (k + 4)) (Fk (k + 3))) (e := _law_nearest_e1 (Fk (k + 4)) (Fk (k + 3))) (vs := [5, 6]) (ρ := [.fr (.int n), .fr (.tup (iL bs)), .un, .un, .fr (rD e), .un, .un, .un])
      (fun p : Int × Int => .tup [.int p.1, .int p.2]) (fun _ => .int 1) (fun p => decide (p.1 ≠ p.2)) (bs.zip e) (by simp [fZip2, rD, seqK, zipd_map, iL_def]) (by simp; omega) (by simp) fun p hp => by
        by_cases h : p.1 = p.2 <;> simp [turnF_app, _law_nearest_t1, _law_nearest_e1, cmpI_app, h]
    have nc := nr_comm bs e
    simp only [ne_eq, decide_not] at nc
    simp only [turn_app, _law_nearest_e2]
    simp [q, nrD, nrP, nc]
    rfl
  have mn := nearE_min n bs
  have q := lc_filt (it := itV (varD 2)) (b := bTup [(bName 7), (bName 4)]) (c := _law_nearest_t2 (Fk (k + 4)) (Fk (k + 3))) (e := _law_nearest_e3 (Fk (k + 4)) (Fk (k + 3))) (vs := [4, 7]) (ρ := [.fr (.int n), .fr (.tup (iL bs)), .fr (.lst ((evs2 n).map (nrD bs))), .fr (.int (nrP bs (nearE n bs))), .un, .un, .un, .un])
    (nrD bs) rD (fun e => decide (nrP bs e = nrP bs (nearE n bs))) (evs2 n) (by simp) (by omega) (by simp) fun e he => by
      by_cases h : nrP bs e = nrP bs (nearE n bs) <;> simp [turnF_app, _law_nearest_t2, _law_nearest_e3, cmpI_app, nrD, h, rD]
  have st := sorted_ti (d := .lst (((evs2 n).filter fun e => decide (nrP bs e = nrP bs (nearE n bs))).map rD)) rfl (tiAll_rows _)
  have ix : fIx (nrD bs (nearE n bs)) (.int 0) = some (.int (nrP bs (nearE n bs)), false) := by simp [nrD]
  rw [F__law_nearest]
  simp only [fnD_app, d__law_nearest]
  simp [seqD_app, q1, mn, ix, q, st, nearD]

def absI (i : Int) : Int := if i < 0 then -i else i
theorem dd_one {l : List Int} (a : Int) (h : ∀ x ∈ a :: l, absI x = absI a) : (dd ((a :: l).map absI)).length = 1 := by
  have p := dd_perm (l := (a :: l).map absI) (m := [absI a]) (by simp) (by
    intro x
    constructor
    · intro hx; simp at hx; subst hx; simp
    · intro hx
      obtain ⟨y, hy, rfl⟩ := List.mem_map.mp hx
      simp [h y hy])
  rw [← p.length_eq]; rfl
theorem one_dd {l : List Int} (a : Int) (h : (dd ((a :: l).map absI)).length = 1) : ∀ x ∈ a :: l, absI x = absI a := by
  obtain ⟨c, hc⟩ : ∃ c, dd ((a :: l).map absI) = [c] := List.length_eq_one_iff.mp h
  have m : ∀ x ∈ a :: l, absI x = c := fun x hx => by
    have : absI x ∈ dd ((a :: l).map absI) := mem_dd.mpr (List.mem_map_of_mem hx)
    rw [hc] at this
    simpa using this
  intro x hx
  rw [m x hx, m a List.mem_cons_self]
def flatB (n : Nat) (bs : List Int) : Bool := (wht n (sg bs)).all fun x => decide (absI x = absI ((wht n (sg bs)).getD 0 0))
theorem flat_dd {n : Nat} {bs : List Int} (hl : bs.length = 2 ^ n) : flatB n bs = decide (((dd ((wht n (sg bs)).map absI)).length : Int) = 1) := by
  have wl := wht_len (n := n) (l := sg bs) (by simp [sg, hl])
  unfold flatB
  cases h : wht n (sg bs) with
  | nil => rw [h] at wl; have := Nat.pow_pos (n := n) (show 0 < 2 by decide); simp at wl; omega
  | cons a l =>
    rw [Bool.eq_iff_iff, List.all_eq_true]
    simp only [decide_eq_true_eq, List.getD_cons_zero]
    constructor
    · intro q; have := dd_one a q; omega
    · intro q; exact one_dd a (by omega)
theorem spectrum_of_k (k n : Nat) (bs : List Int) (hn : n ≤ 5) (hl : bs.length = 2 ^ n) : Fk (k + 3) 15 [.fr (tab n bs)] = .ok (.lst (iL (wht n (sg bs))), true) [.un] := by
  have h5 := pow_le hn
  have m : ∀ z, fOp .Mult (.int 2) (.int z) = some (.int (2 * z), false) := fun z => op_mul_l (by decide) (by decide)
  have h := lc_map (it := itV (una (fAtt okA "bits") (.var 0))) (b := bName 1) (e := spectrum_of_e1 (Fk (k + 2)) (Fk (k + 1))) (vs := [1]) (ρ := [.fr (tab n bs), .un]) D.int (fun b => .int (1 - 2 * b)) bs (by simp [iL_def]) (by omega) (by simp) fun b hb => by
    simp [turn_app, spectrum_of_e1, m]
  rw [show (bs.map fun b => D.int (1 - 2 * b)) = iL (sg bs) by simp [sg, iL_def, Function.comp_def]] at h
  rw [F_spectrum_of]
  simp [fnD_app, d_spectrum_of, usr_app, handR_app, h, spread_k k n (sg bs) (by omega) (by simp [hl])]
theorem flat_k (k : Nat) {n : Nat} {bs : List Int} (hn : n ≤ 5) (hl : bs.length = 2 ^ n) : Fk (k + 4) 19 [.fr (tab n bs)] = .ok (.bl (flatB n bs), false) [.un] := by
  have h5 := pow_le hn
  have wl := wht_len (n := n) (l := sg bs) (by simp [sg, hl])
  have p0 := Nat.pow_pos (n := n) (show 0 < 2 by decide)
  have sp := spectrum_of_k k n bs hn hl
  have ix : fIx (.lst (iL (wht n (sg bs)))) (.int 0) = some (.int ((wht n (sg bs)).getD 0 0), false) := by
    refine ix_lst (i := 0) (get_iL ?_)
    rw [List.getD_eq_getElem?_getD, List.getElem?_eq_getElem (by omega)]; rfl
  have q := lc_map (it := itV (varD 1)) (b := bName 2) (e := flat_e1 (Fk (k + 3)) (Fk (k + 2))) (vs := [2]) (ρ := [.fr (tab n bs), .fr (.lst (iL (wht n (sg bs)))), .un]) D.int (fun x => .bl (decide (absI x = absI ((wht n (sg bs)).getD 0 0)))) (wht n (sg bs)) (by simp [iL_def]) (by omega) (by simp) fun x hx => by
    simp [-ix_lst_nn, -List.getD_eq_getElem?_getD, turn_app, flat_e1, cmpI_app, ix, absI]
    first | rfl | (congr 1)
  have al := fAll_map (wht n (sg bs)) fun x => decide (absI x = absI ((wht n (sg bs)).getD 0 0))
  rw [F_flat]
  simp only [fnD_app, d_flat]
  simp [-List.getD_eq_getElem?_getD, seqD_app, usr_app, handR_app, sp, q, al, flatB]

def talI (n : Nat) (bs : List Int) (i : Nat) : Int := sumL ((rowsL n).filter fun r => decide (wL bs r = 1)) fun r => r.getD i 0
def talL (n : Nat) (bs : List Int) : List Int := (((rowsL n).filter fun r => decide (wL bs r = 1)).length : Int) :: (List.range n).map (talI n bs)
theorem row_ix {n i : Nat} {r : List Int} (hr : r ∈ rowsL n) (hi : i < n) : fIx (rD r) (.int i) = some (.int (r.getD i 0), false) := by
  obtain ⟨h1, h2⟩ := rowsL_mem hr
  refine ix_tup' (get_iL ?_)
  rw [List.getD_eq_getElem?_getD, List.getElem?_eq_getElem (by omega)]; rfl
theorem tallies_of_k (k : Nat) {n : Nat} {bs : List Int} (hn : n ≤ 5) (hl : bs.length = 2 ^ n) : Fk (k + 5) 20 [.fr (tab n bs)] = .ok (.tup (iL (talL n bs)), false) [.un] := by
  have h5 := pow_le hn
  have rl := rowsL_len n
  have bn := bnd_small (n := (n : Int)) (by omega) (by omega)
  have lf := List.length_filter_le (fun r => decide (wL bs r = 1)) (rowsL n)
  have ro := rows_of_k k n bs 1 hn hl
  have q := lc_int (it := itC fRange1 [(una (fAtt okA "letters") (.var 0))]) (b := bName 2) (e := tallies_of_e2 (Fk (k + 4)) (Fk (k + 3))) (vs := [2]) (ρ := [.fr (tab n bs), .fr (.lst (((rowsL n).filter fun r => decide (wL bs r = 1)).map rD)), .un, .un]) (fun i : Nat => .int (0 + i)) (talI n bs) (List.range n) (by simp [bn, upTo]) (by simp; omega) (by simp) fun i hi => by
    have hi : i < n := by simpa using hi
    have q := lc_int (it := itV (varD 1)) (b := bName 3) (e := tallies_of_e1 (Fk (k + 4)) (Fk (k + 3))) (vs := [3]) (ρ := [.fr (tab n bs), .fr (.lst (((rowsL n).filter fun r => decide (wL bs r = 1)).map rD)), .fr (.int i), .un]) rD (fun r => r.getD i 0) ((rowsL n).filter fun r => decide (wL bs r = 1)) (by simp) (by omega) (by simp) fun r hr => by
      have ix := row_ix (List.mem_filter.mp hr).1 hi
      simp only [rD] at ix
      simp [-ix_tup_nn, -List.getD_eq_getElem?_getD, turn_app, tallies_of_e1, rD, ix]
    have sm := fSum_iL (((rowsL n).filter fun r => decide (wL bs r = 1)).map fun r => r.getD i 0)
    simp only [turn_app, tallies_of_e2]
    simp [-List.getD_eq_getElem?_getD, q, sm, talI, sumL]
  have ad := add_tup (xs := [.int ((((rowsL n).filter fun r => decide (wL bs r = 1)).length : Nat) : Int)]) (ys := iL ((List.range n).map (talI n bs))) (by simp; omega)
  rw [F_tallies_of]
  simp only [fnD_app, d_tallies_of]
  simp [seqD_app, usr_app, handR_app, ro, q, talL, ad]
theorem tallies_k (k : Nat) {n : Nat} {bs : List Int} (hn : n ≤ 5) (hl : bs.length = 2 ^ n) : Fk (k + 6) 21 [.fr (tab n bs)] = .ok (.tup (iL (talL n bs)), false) [.un] := by
  rw [F_tallies]
  simp [fnD_app, d_tallies, usr_app, handR_app, tallies_of_k k hn hl]

def flip (l : List Int) : List Int := l.map fun b => 1 - b
theorem flip_bits {l : List Int} (h : Bits l) : Bits (flip l) := fun b hb => by
  obtain ⟨c, hc, rfl⟩ := List.mem_map.mp hb
  rcases h c hc with rfl | rfl
  · exact .inr rfl
  · exact .inl rfl
@[simp] theorem flip_len {l : List Int} : (flip l).length = l.length := by simp [flip]
def zw (c : Int → Int → Int) (as bs : List Int) : List Int := (as.zip bs).map fun p => c p.1 p.2
theorem zw_bits {c : Int → Int → Int} {as bs : List Int} (ha : Bits as) (hb : Bits bs) (h : ∀ a b, (a = 0 ∨ a = 1) → (b = 0 ∨ b = 1) → c a b = 0 ∨ c a b = 1) : Bits (zw c as bs) := fun z hz => by
  obtain ⟨⟨a, b⟩, h1, rfl⟩ := List.mem_map.mp hz
  obtain ⟨h2, h3⟩ := List.of_mem_zip h1
  exact h a b (ha a h2) (hb b h3)
theorem zw_len {c : Int → Int → Int} {as bs : List Int} {n : Nat} (ha : as.length = n) (hb : bs.length = n) : (zw c as bs).length = n := by simp [zw, ha, hb]
theorem zip_iL (as bs : List Int) : zipd (iL as) (iL bs) = (as.zip bs).map fun p => .tup [.int p.1, .int p.2] := zipd_map _ _ _ _
theorem zw_iL (c : Int → Int → Int) (as bs : List Int) : ((as.zip bs).map fun p => D.int (c p.1 p.2)) = iL (zw c as bs) := by simp [iL_def, zw]

theorem check_alike_k (k n : Nat) (bs cs : List Int) : Fk (k + 2) 12 [.fr (tab n bs), .fr (tab n cs)] = .ok (.non, false) [.un, .un] := by
  rw [F_check_alike]
  simp [fnD_app, d_check_alike, cmpI_app]

-- of def 31
theorem law_number_k (k : Nat) (r : List Int) : Fk (k + 2) 27 [.fr (rD r)] = .ok (.int (numI r), false) [.un] := by
  rw [F__law_number, show d__law_number = d_number_of from rfl]
  have := number_of_k k r
  rw [F_number_of] at this
  exact this
theorem law_worth_k (k : Nat) {n : Nat} {r : List Int} {bs : List Int} (hr : r ∈ rowsL n) (hl : bs.length = 2 ^ n) : Fk (k + 3) 31 [.fr (.tup (iL bs)), .fr (rD r)] = .ok (.int (wL bs r), false) [.un, .un] := by
  have h := ix_row hr hl
  rw [F__law_worth]
  simp [fnD_app, d__law_worth, usr_app, handR_app, law_number_k, h]

def onesL (n : Nat) (bs : List Int) : List (List Int) := (rowsL n).filter fun r => decide (wL bs r = 1)
def metI (n : Nat) (as bs : List Int) (s : List Int) : Int := sumL (onesL n as) fun x => wL bs (addR x s)
def metL (n : Nat) (as bs : List Int) : List Int := (rowsL n).map (metI n as bs)
theorem metL_len (n : Nat) (as bs : List Int) : (metL n as bs).length = 2 ^ n := by simp [metL, rowsL_len]
theorem onesL_le (n : Nat) (bs : List Int) : (onesL n bs).length ≤ 2 ^ n := by
  have := List.length_filter_le (fun r => decide (wL bs r = 1)) (rowsL n)
  rw [rowsL_len] at this
  exact this
theorem onesL_mem {n : Nat} {bs x : List Int} (h : x ∈ onesL n bs) : x ∈ rowsL n ∧ wL bs x = 1 := by
  have := List.mem_filter.mp h
  exact ⟨this.1, by simpa using this.2⟩
theorem fill_set {l : List Int} {j : Nat} {v : Int} (h : l[j]? = some v) : (l.take j ++ List.replicate (l.length - j) 0).set j v = l.take (j + 1) ++ List.replicate (l.length - (j + 1)) 0 := by
  obtain ⟨hj, _⟩ := List.getElem?_eq_some_iff.mp h
  rw [show l.length - j = (l.length - (j + 1)) + 1 by omega, List.replicate_succ, List.set_append_right _ _ (by simp; omega), List.take_add_one, h]
  simp [Nat.min_eq_left (Nat.le_of_lt hj)]
theorem sum_ones {n : Nat} {bs : List Int} (hb : Bits bs) : sumL (rowsL n) (wL bs) = (onesL n bs).length := by
  unfold onesL
  rw [len_filter]
  refine sumL_congr fun x _ => ?_
  rcases wL_bit hb x with e | e <;> simp [e, i1]
theorem rows_add {n : Nat} {x : List Int} (hx : x ∈ rowsL n) : ((rowsL n).map (addR x)).Perm (rowsL n) := by
  have h1 := rowsL_mem hx
  exact perm_of_inv (g := addR x) (rowsL_nd n) (fun y hy => addR_row hx hy) (fun y hy => addR_row hx hy) (fun y hy => addR_addR (by rw [h1.1, (rowsL_mem hy).1]) h1.2 (rowsL_mem hy).2) fun y hy => addR_addR (by rw [h1.1, (rowsL_mem hy).1]) h1.2 (rowsL_mem hy).2
theorem perm_sum {l m : List Int} (p : l.Perm m) : l.sum = m.sum := by
  induction p with
  | nil => rfl
  | cons x _ ih => simp [ih]
  | swap x y l => simp; omega
  | trans _ _ h1 h2 => exact h1.trans h2
theorem sumL_const {α : Type} (c : Int) (l : List α) : (sumL l fun _ => c) = l.length * c := by
  induction l with
  | nil => simp [sumL]
  | cons a l ih => rw [sumL_cons, ih, List.length_cons]; simp [Int.add_mul, Int.add_comm]
theorem met_sum {n : Nat} {bs : List Int} (hb : Bits bs) : (metL n bs bs).sum = (onesL n bs).length * (onesL n bs).length := by
  have e : (metL n bs bs).sum = sumL (rowsL n) fun s => sumL (onesL n bs) fun x => wL bs (addR x s) := rfl
  rw [e, sumL_swap]
  have : ∀ x ∈ onesL n bs, (sumL (rowsL n) fun s => wL bs (addR x s)) = (onesL n bs).length := fun x hx => by
    have hx := (onesL_mem hx).1
    rw [← sum_ones hb]
    have := sumL_map (addR x) (rowsL n) (wL bs)
    rw [← this]
    unfold sumL
    exact perm_sum ((rows_add hx).map (wL bs))
  rw [sumL_congr this, sumL_const]
theorem row_zero (n : Nat) : (rowsL n)[0]? = some (zs n) := by
  induction n with
  | zero => rfl
  | succ n ih =>
    rw [rowsL_succ, List.getElem?_append_left (by rw [List.length_map, rowsL_len]; exact Nat.pow_pos (by decide)), List.getElem?_map, ih]
    rfl
theorem met_zero {n : Nat} {bs : List Int} : (metL n bs bs)[0]? = some ((onesL n bs).length : Int) := by
  rw [metL, List.getElem?_map, row_zero]
  simp only [Option.map_some, metI]
  congr 1
  rw [sumL_congr (g := fun _ => 1) fun x hx => by rw [addR_zero (onesL_mem hx).1]; exact (onesL_mem hx).2]
  rw [sumL_const, Int.mul_one]

theorem met_k (k : Nat) {n : Nat} {as bs : List Int} (hn : n ≤ 5) (ha : as.length = 2 ^ n) (hl : bs.length = 2 ^ n) : Fk (k + 5) 22 [.fr (tab n as), .fr (tab n bs)] = .ok (.tup (iL (metL n as bs)), false) [.un, .un] := by
  have h32 := pow_le hn
  have ml := metL_len n as bs
  have ol := onesL_le n as
  have ck := check_alike_k (k + 2) n as bs
  have ro := rows_of_k k n as 1 hn ha
  rw [show (rowsL n).filter (fun r => decide (wL as r = 1)) = onesL n as from rfl] at ro
  have rk := rows_k (k + 2) n (by omega)
  have rp := rep_l (xs := [.int 0]) (k := ((rowsL n).length : Int)) (by omega) (by rw [rowsL_len]; omega) (by simp)
  have tm : timesD ((rowsL n).length : Int) [.int 0] = iL (List.replicate (2 ^ n) 0) := by
    rw [rowsL_len]
    unfold timesD
    rw [Int.toNat_natCast]
    generalize 2 ^ n = N
    induction N with
    | zero => rfl
    | succ N ih => rw [List.replicate_succ, List.flatten_cons, ih]; rfl
  rw [tm] at rp
  obtain ⟨ρ', q, rfl⟩ := for_nth (b := bName 5) (body := met_b1 (Fk (k + 4)) (Fk (k + 3))) (ds := (rowsL n).map rD) (ρ := [.fr (tab n as), .fr (tab n bs), .fr (.lst ((rowsL n).map rD)), .fr (.lst ((onesL n as).map rD)), .ow (.lst (iL (List.replicate (2 ^ n) 0))), .un, .un])
    (P := fun j ρ => ρ = [.fr (tab n as), .fr (tab n bs), .fr (.lst ((rowsL n).map rD)), .fr (.lst ((onesL n as).map rD)), .ow (.lst (iL ((metL n as bs).take j ++ List.replicate ((metL n as bs).length - j) 0))), .un, .un]) (by rw [ml]; rfl) (by
    rintro j d ρ hd rfl
    rw [List.getElem?_map] at hd
    obtain ⟨r, hr, rfl⟩ := Option.map_eq_some_iff.mp hd
    have hm : r ∈ rowsL n := List.mem_of_getElem? hr
    obtain ⟨hj, _⟩ := List.getElem?_eq_some_iff.mp hr
    rw [rowsL_len] at hj
    have no := number_of_k (k + 2) r
    rw [rows_num hr] at no
    have mj : (metL n as bs)[j]? = some (metI n as bs r) := by rw [metL, List.getElem?_map, hr]; rfl
    have fs := fill_set mj
    refine ⟨_, .inl ?_, rfl⟩
    rw [← fs]
    generalize hz : (metL n as bs).take j ++ List.replicate ((metL n as bs).length - j) 0 = z
    have zl : z.length = 2 ^ n := by rw [← hz]; simp; omega
    have ix := ixN_nat (n := z.length) (j := j) (by omega)
    have q := lc_int (it := itV (varD 3)) (b := bName 6) (e := met_e1 (Fk (k + 4)) (Fk (k + 3))) (vs := [6]) (ρ := [.fr (tab n as), .fr (tab n bs), .fr (.lst ((rowsL n).map rD)), .fr (.lst ((onesL n as).map rD)), .ow (.lst (iL z)), .fr (rD r), .un]) rD (fun x => wL bs (addR x r)) (onesL n as) (by simp) (by omega) (by simp) fun x hx => by
      have hx := (onesL_mem hx).1
      simp [turn_app, met_e1, usr_app, handR_app, summed_k (k + 2) hx hm (by omega), worth_at_k (k + 1) (addR_row hx hm) hl]
    have sm := fSum_iL ((onesL n as).map fun x => wL bs (addR x r))
    simp [step_app, met_b1, usr_app, handR_app, q, sm, no, ix, set_iL, metI, sumL])
  rw [List.length_map, rowsL_len, List.take_of_length_le (by omega), show (metL n as bs).length - 2 ^ n = 0 by omega] at q
  simp only [List.replicate_zero, List.append_nil] at q
  rw [F_met]
  simp only [fnD_app, d_met]
  simp [seqD_app, usr_app, handR_app, forS_app, ck, ro, rk, rp, q]

theorem law_added_k (k : Nat) {n : Nat} {x y : List Int} (hx : x ∈ rowsL n) (hy : y ∈ rowsL n) (hn : n ≤ 10) : Fk (k + 2) 33 [.fr (rD x), .fr (rD y)] = .ok (rD (addR x y), false) [.un, .un] := by
  obtain ⟨h1, h2⟩ := rowsL_mem hx
  obtain ⟨h3, h4⟩ := rowsL_mem hy
  rw [F__law_added]
  simp only [fnD_app, d__law_added]
  simp
  rw [lc_map (fun p : Int × Int => .tup [.int p.1, .int p.2]) (fun p => .int (i1 (decide (p.1 ≠ p.2)))) (x.zip y) (by simp [rD, fZip2, seqK, zipd_map, iL_def]) (by simp; omega) (by simp) fun p hp => by
    by_cases e : p.1 = p.2 <;> simp [turn_app, _law_added_e1, cmpI_app, e, i1]]
  simp [addR, rD, iL_def, Function.comp_def]
theorem law_met_k (k : Nat) {n : Nat} {as bs : List Int} (hn : n ≤ 5) (ha : as.length = 2 ^ n) (hl : bs.length = 2 ^ n) (cb : Bits bs) : Fk (k + 5) 36 [.fr (.int n), .fr (.tup (iL as)), .fr (.tup (iL bs))] = .ok (.tup (iL (metL n as bs)), false) [.un, .un, .un] := by
  have h32 := pow_le hn
  have rl := rowsL_len n
  have rk := law_rows_k (k + 2) n (by omega)
  have g := for_apA (b := bName 4) (body := _law_met_b1 (Fk (k + 4)) (Fk (k + 3))) rD (fun s => .int (metI n as bs s)) (fun a => [.fr (.int n), .fr (.tup (iL as)), .fr (.tup (iL bs)), .ow (.lst a), .un, .un, .un]) (rowsL n) [] (by rw [rl]; simp; omega) fun s hs acc hacc => by
    have lf := List.length_filter_le (fun x => decide (wL as x = 1) && decide (wL bs (addR x s) = 1)) (rowsL n)
    have q := lc_filt (it := itV (usr 1 (Fk (k + 4) 26) [.var 0])) (b := bName 6) (c := _law_met_t1 (Fk (k + 4)) (Fk (k + 3))) (e := _law_met_e1 (Fk (k + 4)) (Fk (k + 3))) (vs := [6]) (ρ := [.fr (.int n), .fr (.tup (iL as)), .fr (.tup (iL bs)), .ow (.lst acc), .fr (rD s), .un, .un])
      rD rD (fun x => decide (wL as x = 1) && decide (wL bs (addR x s) = 1)) (rowsL n) (by simp [usr_app, handR_app, rk]) (by omega) (by simp) fun x hx => by
        have w1 := law_worth_k (k + 1) hx ha
        have w2 := law_worth_k (k + 1) (addR_row hx hs) hl
        have ad := law_added_k (k + 2) hx hs (by omega)
        by_cases e1 : wL as x = 1 <;> by_cases e2 : wL bs (addR x s) = 1 <;> simp [turnF_app, _law_met_t1, _law_met_e1, cmpI_app, usr_app, handR_app, w1, w2, ad, e1, e2]
    have len : (((rowsL n).filter fun x => decide (wL as x = 1) && decide (wL bs (addR x s) = 1)).length : Int) = metI n as bs s := by
      unfold metI onesL
      rw [len_filter, sumL_filter]
      refine sumL_congr fun x _ => ?_
      rcases wL_bit cb (addR x s) with e | e <;> by_cases e1 : wL as x = 1 <;> simp [i1, e, e1]
    rw [← len]
    simp [-List.filter_filter, step_app, _law_met_b1, seqD_app, q, hacc]
  rw [List.nil_append, map_iL] at g
  rw [F__law_met]
  simp only [fnD_app, d__law_met]
  simp [seqD_app, usr_app, handR_app, forS_app, rk, g, metL]

theorem is_int_k (k : Nat) (i : Int) : Fk (k + 2) 25 [.fr (.int i), .fr (.int i)] = .ok (.bl true, false) [.un, .un] := by
  rw [F__law_is]
  simp [fnD_app, d__law_is, seqD_app, fIsi, tagD, isi, isiT, isiTy, tagL, tyL, cmpI_app]
theorem zip_same (l : List Int) : l.zip l = l.map fun i => (i, i) := by induction l <;> simp_all
theorem is_ints_k (k : Nat) (l : List Int) (hl : l.length ≤ 1000) : Fk (k + 3) 25 [.fr (.tup (iL l)), .fr (.tup (iL l))] = .ok (.bl true, false) [.un, .un] := by
  have h := lc_map (it := itC fZip2 [(varD 0), (varD 1)]) (b := bTup [(bName 2), (bName 3)]) (e := _law_is_e1 (Fk (k + 2)) (Fk (k + 1))) (vs := [2, 3]) (ρ := [.fr (.tup (iL l)), .fr (.tup (iL l)), .un, .un, .un])
    (fun i => .tup [.int i, .int i]) (fun i => .bl true) l (by simp [fZip2, seqK, iL_def, zipd_map, zip_same, Function.comp_def]) (by omega) (by simp) fun i hi => by
      simp [turn_app, _law_is_e1, usr_app, handR_app, is_int_k]
  have a := fAll_map l fun _ => true
  rw [F__law_is]
  simp [fnD_app, d__law_is, seqD_app, fIsi, tagD, isi, isiT, isiTy, tagL, tyL, cmpI_app, h, a]

theorem ones_k (k : Nat) {m : Int} (h0 : 0 ≤ m) (h1 : m ≤ 1000) : ∃ v, Fk (k + 2) 29 [.fr (.int m)] = .ok (.int v, false) [.un] := by
  obtain ⟨ρ', q1, v, q2⟩ := while_inv (c := _law_ones_w1 (Fk (k + 1)) (Fk k)) (body := _law_ones_b1 (Fk (k + 1)) (Fk k)) (P := fun j ρ => ∃ v, ρ = [.fr (.int j), .fr (.int v)]) fuel m.toNat [.fr (.int m), .fr (.int 0)] (by unfold fuel; omega) ⟨0, by rw [Int.toNat_of_nonneg h0]⟩ (by
    rintro j ρ ⟨v, rfl⟩
    by_cases hj : 0 < j
    · have d := op_div_i (i := (j : Int)) (j := 2) (by decide) (by decide)
      have m := op_mod_i (i := (j : Int)) (j := 2) (by decide)
      refine ⟨true, _, by simp [_law_ones_w1, hj]; rfl, ?_⟩
      rw [if_pos rfl]
      refine ⟨[.fr (.int (j / 2 : Nat)), .fr (.int (v + j % 2))], j / 2, ?_, by omega, _, rfl⟩
      simp [_law_ones_b1, d, m]
    · have : j = 0 := by omega
      subst this
      exact ⟨false, _, by simp [_law_ones_w1]; rfl, by rw [if_neg Bool.false_ne_true]; exact ⟨v, rfl⟩⟩)
  subst q2
  refine ⟨v, ?_⟩
  rw [F__law_ones]
  simp [fnD_app, d__law_ones, seqD_app, q1]

theorem bits_k (k n : Nat) {d : D} (h : Hand d) (h1 : 1 ≤ n) (h5 : n ≤ 5) : ∃ d' bs, Hand d' ∧ Bits bs ∧ bs.length = 2 ^ n ∧ Fk (k + 4) 28 [.ln d, .fr (.int n)] = .ok (.tup (iL bs), false) [.ln d', .un] := by
  have h32 := pow_le h5
  obtain ⟨d1, w, H1, a1, b1, e1⟩ := law_draw_k (k + 1) h (many := 5) (by decide) (by decide)
  have s := shl1 n (by omega)
  have ez : (2 : Int) ^ n = ((2 ^ n : Nat) : Int) := by simp
  rw [ez] at s
  have bn := bnd_small (n := (n : Int)) (by omega) (by omega)
  have pz := Nat.two_pow_pos n
  rw [F__law_bits]
  generalize hN : 2 ^ n = N at *
  have bd := bnd_small (n := (N : Int)) (by omega) (by omega)
  by_cases w0 : w = 0
  · obtain ⟨out, ρ', q1, q2, q3, d', H', q4⟩ := lc_ex (it := itC fRange1 [varD 2]) (b := bName 10) (e := _law_bits_e1 (Fk (k + 3)) (Fk (k + 2))) (vs := [10]) (ρ := [.ln d1, .fr (.int n), .fr (.int N), .fr (.int w), .un, .un, .un, .un, .un, .un, .un, .un, .un, .un, .un, .un]) (ρ1 := [.ln d1, .fr (.int n), .fr (.int N), .fr (.int w), .un, .un, .un, .un, .un, .un, .un, .un, .un, .un, .un, .un]) (ds := upTo 0 N)
      (P := fun ρ => ∃ d', Hand d' ∧ ρ = [.ln d', .fr (.int n), .fr (.int N), .fr (.int w), .un, .un, .un, .un, .un, .un, .un, .un, .un, .un, .un, .un]) (Q := fun y => y = .int 0 ∨ y = .int 1) (by simp [bd]) (by simp; omega) ⟨d1, H1, by simp⟩ (by
        rintro x _ ρ ⟨d', H', rfl⟩
        obtain ⟨d3, v3, H3, a3, b3, e3⟩ := law_draw_k (k + 1) H' (many := 2) (by decide) (by decide)
        refine ⟨.int v3, _, ?_, ?_, d3, H3, rfl⟩
        · simp [turn_app, _law_bits_e1, usr_app, handR_app, e3]
        · rcases (show v3 = 0 ∨ v3 = 1 by omega) with rfl | rfl <;> simp)
    obtain ⟨bs, rfl, hb⟩ := bits_of q3
    subst q4 w0
    refine ⟨d', bs, H', hb, by simpa using q2, ?_⟩
    simp at q1
    simp [fnD_app, d__law_bits, seqD_app, usr_app, handR_app, e1, s, cmpI_app, q1]
  by_cases w1 : w = 1
  · obtain ⟨out, ρ', q1, q2, q3, d2, H2, q4⟩ := lc_ex (it := itC fRange1 [varD 1]) (b := bName 11) (e := _law_bits_e2 (Fk (k + 3)) (Fk (k + 2))) (vs := [11]) (ρ := [.ln d1, .fr (.int n), .fr (.int N), .fr (.int w), .un, .un, .un, .un, .un, .un, .un, .un, .un, .un, .un, .un]) (ρ1 := [.ln d1, .fr (.int n), .fr (.int N), .fr (.int w), .un, .un, .un, .un, .un, .un, .un, .un, .un, .un, .un, .un]) (ds := upTo 0 n)
      (P := fun ρ => ∃ d', Hand d' ∧ ρ = [.ln d', .fr (.int n), .fr (.int N), .fr (.int w), .un, .un, .un, .un, .un, .un, .un, .un, .un, .un, .un, .un]) (Q := fun y => ∃ i, y = .int i ∧ (-2 ≤ i ∧ i ≤ 2)) (by simp [bn]) (by simp; omega) ⟨d1, H1, by simp⟩ (by
        rintro x _ ρ ⟨d', H', rfl⟩
        obtain ⟨d3, v3, H3, a3, b3, e3⟩ := law_draw_k (k + 1) H' (many := 5) (by decide) (by decide)
        refine ⟨.int (v3 - 2), _, ?_, ⟨_, rfl, by omega⟩, d3, H3, rfl⟩
        simp [turn_app, _law_bits_e2, usr_app, handR_app, e3])
    obtain ⟨ws, rfl, hw⟩ := ints_of_out q3
    subst q4
    obtain ⟨d3, bar, H3, a3, b3, e3⟩ := law_draw_k (k + 1) H2 (many := 6) (by decide) (by decide)
    have rw := law_rows_k (k + 1) n (by omega)
    have lws : ws.length = n := by simpa using q2
    have g := lc_int (it := itV (usr 1 (Fk (k + 3) 26) [.var 1])) (b := bName 12) (e := _law_bits_e4 (Fk (k + 3)) (Fk (k + 2))) (vs := [12]) (ρ := [.ln d3, .fr (.int n), .fr (.int N), .fr (.int w), .fr (.lst (iL ws)), .fr (.int (bar - 2)), .un, .un, .un, .un, .un, .un, .un, .un, .un, .un])
      rD (fun r => i1 (decide (bar - 2 ≤ sumL (ws.zip r) fun p => p.1 * p.2))) (rowsL n) (by simp [usr_app, handR_app, rw]) (by rw [rowsL_len]; omega) (by simp) fun r hr => by
        obtain ⟨r1, r2⟩ := rowsL_mem hr
        have g := lc_map (it := itC fZip2 [(varD 4), (varD 12)]) (b := bTup [(bName 13), (bName 14)]) (e := _law_bits_e3 (Fk (k + 3)) (Fk (k + 2))) (vs := [13, 14]) (ρ := [.ln d3, .fr (.int n), .fr (.int N), .fr (.int w), .fr (.lst (iL ws)), .fr (.int (bar - 2)), .un, .un, .un, .un, .un, .un, .fr (rD r), .un, .un, .un])
          (fun p => .tup [.int p.1, .int p.2]) (fun p => .int (p.1 * p.2)) (ws.zip r) (by simp [fZip2, seqK, rD, zipd_map, iL_def]) (by simp; omega) (by simp) fun p hp => by
            obtain ⟨p1, p2⟩ := List.of_mem_zip hp
            have := hw _ p1
            have m := op_mul_l (i := p.1) (j := p.2) (by omega) (by omega)
            simp [turn_app, _law_bits_e3, m]
        have sm : fSum [.lst ((ws.zip r).map fun p => .int (p.1 * p.2))] = some (.int (sumL (ws.zip r) fun p => p.1 * p.2), false) := fSum_map _ _
        by_cases c : bar - 2 ≤ sumL (ws.zip r) fun p => p.1 * p.2 <;> simp [turn_app, _law_bits_e4, g, sm, c, i1]
    refine ⟨d3, (rowsL n).map fun r => i1 (decide (bar - 2 ≤ sumL (ws.zip r) fun p => p.1 * p.2)), H3, fun b hb => ?_, by simp [rowsL_len, hN], ?_⟩
    · obtain ⟨r, _, rfl⟩ := List.mem_map.mp hb
      unfold i1; split <;> simp
    subst w1
    simp at q1
    simp [fnD_app, d__law_bits, seqD_app, usr_app, handR_app, e1, s, cmpI_app, q1, e3, g]
  by_cases w2 : w = 2
  · obtain ⟨d2, c, H2, a2, b2, e2⟩ := law_draw_k (k + 1) H1 (many := 3) (by decide) (by decide)
    have bc := bnd_small (n := 1 + c) (by omega) (by omega)
    obtain ⟨out, ρ', q1, q2, q3, d3, H3, q4⟩ := lc_ex (it := itC fRange1 [(bin (fOp .Add) (.exp ((conD (.int 1)))) (.exp ((usr 2 (Fk (k + 3) 24) [.var 0, .exp ((conD (.int 3)))]))))]) (b := bName 10) (e := _law_bits_e5 (Fk (k + 3)) (Fk (k + 2))) (vs := [10]) (ρ := [.ln d1, .fr (.int n), .fr (.int N), .fr (.int w), .un, .un, .un, .un, .un, .un, .un, .un, .un, .un, .un, .un]) (ρ1 := [.ln d2, .fr (.int n), .fr (.int N), .fr (.int w), .un, .un, .un, .un, .un, .un, .un, .un, .un, .un, .un, .un]) (ds := upTo 0 (1 + c).toNat)
      (P := fun ρ => ∃ d', Hand d' ∧ ρ = [.ln d', .fr (.int n), .fr (.int N), .fr (.int w), .un, .un, .un, .un, .un, .un, .un, .un, .un, .un, .un, .un]) (Q := fun y => ∃ i, y = .int i ∧ (0 ≤ i ∧ i < N)) (by simp [usr_app, handR_app, e2, bc]) (by simp; omega) ⟨d2, H2, by simp⟩ (by
        rintro x _ ρ ⟨d', H', rfl⟩
        obtain ⟨d3, v3, H3, a3, b3, e3⟩ := law_draw_k (k + 1) H' (many := (N : Int)) (by omega) (by omega)
        refine ⟨.int v3, _, ?_, ⟨_, rfl, by omega⟩, d3, H3, rfl⟩
        simp [turn_app, _law_bits_e5, usr_app, handR_app, e3])
    obtain ⟨ls, rfl, hls⟩ := ints_of_out q3
    subst q4
    have lls : ls.length ≤ 3 := by simp at q2; omega
    have g := lc_int (it := itC fRange1 [varD 2]) (b := bName 15) (e := _law_bits_e7 (Fk (k + 3)) (Fk (k + 2))) (vs := [15]) (ρ := [.ln d3, .fr (.int n), .fr (.int N), .fr (.int w), .un, .un, .fr (.lst (iL ls)), .un, .un, .un, .un, .un, .un, .un, .un, .un])
      (fun (i : Nat) => D.int (0 + i)) (fun i => i1 (ls.any fun l => decide (Builtin.bitAnd (i : Nat) l = l))) (List.range N) (by simp [bd, upTo]) (by simp; omega) (by simp) fun i hi => by
        have g := lc_map (it := itV (varD 6)) (b := bName 7) (e := _law_bits_e6 (Fk (k + 3)) (Fk (k + 2))) (vs := [7]) (ρ := [.ln d3, .fr (.int n), .fr (.int N), .fr (.int w), .un, .un, .fr (.lst (iL ls)), .un, .un, .un, .un, .un, .un, .un, .un, .fr (.int i)])
          D.int (fun l => .bl (decide (Builtin.bitAnd (i : Nat) l = l))) ls (by simp [iL_def]) (by omega) (by simp) fun l hl => by
            simp [turn_app, _law_bits_e6, cmpI_app]
        have an := fAny_map ls fun l => decide (Builtin.bitAnd (i : Nat) l = l)
        simp [turn_app, _law_bits_e7, g, an, i1]
    refine ⟨d3, (List.range N).map fun (i : Nat) => i1 (ls.any fun l => decide (Builtin.bitAnd (i : Nat) l = l)), H3, fun b hb => ?_, by simp, ?_⟩
    · obtain ⟨r, _, rfl⟩ := List.mem_map.mp hb
      unfold i1; split <;> simp
    subst w2
    simp at q1
    simp [fnD_app, d__law_bits, seqD_app, usr_app, handR_app, e1, s, cmpI_app, q1, g]
  by_cases w3 : w = 3
  · obtain ⟨d2, c, H2, a2, b2, e2⟩ := law_draw_k (k + 1) H1 (many := (N : Int)) (by omega) (by omega)
    obtain ⟨d3, t, H3, a3, b3, e3⟩ := law_draw_k (k + 1) H2 (many := 2) (by decide) (by decide)
    have on : ∀ i : Nat, i < N → ∃ v, Fk (k + 1 + 2) 29 [.fr (.int (Builtin.bitAnd (i : Int) c))] = .ok (.int v, false) [.un] := fun i hi => by
      obtain ⟨z, hz, z0, z1⟩ := band_nn (a := (i : Int)) (b := c) (by omega) a2
      rw [hz]
      exact ones_k (k + 1) z0 (by omega)
    have on' : ∃ f : Nat → Int, ∀ i : Nat, i < N → Fk (k + 1 + 2) 29 [.fr (.int (Builtin.bitAnd (i : Int) c))] = .ok (.int (f i), false) [.un] := by
      refine ⟨fun i => if hi : i < N then (on i hi).choose else 0, fun i hi => ?_⟩
      simp only [dif_pos hi]
      exact (on i hi).choose_spec
    obtain ⟨f, hf⟩ := on'
    have m : ∀ z, fOp .Mod (.int z) (.int 2) = some (.int (z % 2), false) := fun z => op_mod_i (by decide)
    have g := lc_int (it := itC fRange1 [varD 2]) (b := bName 15) (e := _law_bits_e8 (Fk (k + 3)) (Fk (k + 2))) (vs := [15]) (ρ := [.ln d3, .fr (.int n), .fr (.int N), .fr (.int w), .un, .un, .un, .fr (.int c), .fr (.int t), .un, .un, .un, .un, .un, .un, .un])
      (fun (i : Nat) => D.int (0 + i)) (fun i => (f i + t) % 2) (List.range N) (by simp [bd, upTo]) (by simp; omega) (by simp) fun i hi => by
        have hi : i < N := by simpa using hi
        have := hf i hi
        simp [turn_app, _law_bits_e8, usr_app, handR_app, this, m]
    refine ⟨d3, (List.range N).map fun (i : Nat) => (f i + t) % 2, H3, fun b hb => ?_, by simp, ?_⟩
    · obtain ⟨r, _, rfl⟩ := List.mem_map.mp hb
      omega
    subst w3
    simp [fnD_app, d__law_bits, seqD_app, usr_app, handR_app, e1, s, cmpI_app, e2, e3, g]
  obtain ⟨d2, c, H2, a2, b2, e2⟩ := law_draw_k (k + 1) H1 (many := 4) (by decide) (by decide)
  obtain ⟨out, ρ', q1, q2, q3, d', H', q4⟩ := lc_ex (it := itC fRange1 [varD 2]) (b := bName 10) (e := _law_bits_e9 (Fk (k + 3)) (Fk (k + 2))) (vs := [10]) (ρ := [.ln d2, .fr (.int n), .fr (.int N), .fr (.int w), .un, .un, .un, .un, .un, .fr (.int (1 + c)), .un, .un, .un, .un, .un, .un]) (ρ1 := [.ln d2, .fr (.int n), .fr (.int N), .fr (.int w), .un, .un, .un, .un, .un, .fr (.int (1 + c)), .un, .un, .un, .un, .un, .un]) (ds := upTo 0 N)
      (P := fun ρ => ∃ d', Hand d' ∧ ρ = [.ln d', .fr (.int n), .fr (.int N), .fr (.int w), .un, .un, .un, .un, .un, .fr (.int (1 + c)), .un, .un, .un, .un, .un, .un]) (Q := fun y => y = .int 0 ∨ y = .int 1) (by simp [bd]) (by simp; omega) ⟨d2, H2, by simp⟩ (by
        rintro x _ ρ ⟨d', H', rfl⟩
        obtain ⟨d3, v3, H3, a3, b3, e3⟩ := law_draw_k (k + 1) H' (many := 1 + c + 1) (by omega) (by omega)
        refine ⟨.int (if v3 = 0 then 1 else 0), _, ?_, ?_, d3, H3, rfl⟩
        · simp [turn_app, _law_bits_e9, cmpI_app, usr_app, handR_app, e3]
        · by_cases z : v3 = 0 <;> simp [z])
  obtain ⟨bs, rfl, hb⟩ := bits_of q3
  subst q4
  refine ⟨d', bs, H', hb, by simpa using q2, ?_⟩
  simp at q1
  simp [fnD_app, d__law_bits, seqD_app, usr_app, handR_app, e1, s, cmpI_app, w0, w1, w2, w3, e2, q1]

-- of def 30
theorem law_table_k (k : Nat) {d : D} (h : Hand d) {most : Int} (hm : most = 4 ∨ most = 5) : ∃ d', ∃ n : Nat, ∃ bs, Hand d' ∧ 1 ≤ n ∧ n ≤ 5 ∧ Bits bs ∧ bs.length = 2 ^ n ∧ Fk (k + 5) 30 [.ln d, .fr (.int most)] = .ok (.tup [.int n, .tup (iL bs)], false) [.ln d', .un] := by
  obtain ⟨d1, v, H1, a1, b1, e1⟩ := law_draw_k (k + 2) h (many := most) (by omega) (by omega)
  obtain ⟨n, hn⟩ : ∃ n : Nat, 1 + v = n := ⟨(1 + v).toNat, by omega⟩
  obtain ⟨d2, bs, H2, hb, hl, e2⟩ := bits_k k n H1 (by omega) (by omega)
  refine ⟨d2, n, bs, H2, by omega, by omega, hb, hl, ?_⟩
  rw [F__law_table]
  simp [fnD_app, d__law_table, seqD_app, usr_app, handR_app, e1, hn, e2]

theorem wt_rows {l : List (List Int)} (h : l.length ≤ 100000) (hr : ∀ r ∈ l, r.length ≤ 100000) : wt 2 (.tup (l.map rD)) := .inr ⟨_, rfl, by simpa using h, fun y hy => by
  obtain ⟨r, hr', rfl⟩ := List.mem_map.mp hy
  exact wt_ints 0 (hr r hr')⟩
theorem evs2_mem {n : Nat} {e : List Int} (h : e ∈ evs2 n) : e.length = 2 ^ n := by
  obtain ⟨r, _, he⟩ := List.mem_flatMap.mp h
  simp at he
  rcases he with rfl | rfl <;> exact evL_len ..
theorem near_wt {n : Nat} (hn : n ≤ 5) (bs : List Int) : wt 3 (nearD n bs) := by
  have h32 := pow_le hn
  refine .inr ⟨_, rfl, by simp, fun y hy => ?_⟩
  simp only [List.mem_cons, List.not_mem_nil, or_false] at hy
  rcases hy with rfl | rfl
  · exact wt_int _ _
  · refine .inr ⟨_, rfl, ?_, fun y hy => ?_⟩
    · rw [List.length_mergeSort, List.length_map]
      have := List.length_filter_le (fun e => decide (nrP bs e = nrP bs (nearE n bs))) (evs2 n)
      have := evs2_len n
      omega
    · rw [List.mem_mergeSort] at hy
      obtain ⟨e, he, rfl⟩ := List.mem_map.mp hy
      have := evs2_mem (List.mem_filter.mp he).1
      exact wt_ints 0 (by omega)
theorem tal_len {n : Nat} {bs : List Int} {i : Nat} : (((onesL n bs).filter fun r => decide (r.getD i 0 = 1)).length : Int) = talI n bs i := by
  rw [len_filter]
  unfold talI
  refine sumL_congr fun r hr => ?_
  have hb := (rowsL_mem (onesL_mem hr).1).2
  have : r.getD i 0 = 0 ∨ r.getD i 0 = 1 := by
    rw [List.getD_eq_getElem?_getD]
    cases h : r[i]? with
    | none => exact .inl rfl
    | some b => exact hb b (List.mem_of_getElem? h)
  rcases this with e | e <;> simp [-List.getD_eq_getElem?_getD, e, i1]
set_option pp.maxSteps 3000 in
theorem law_turn (k : Nat) {S d t : D} (h : Hand d) : ∃ d', Hand d' ∧ step (bName 2) (law_b1 (Fk (k + 7)) (Fk (k + 6))) t [.fr S, .ow d, .un, .un, .un, .un, .un, .un, .un, .un, .un, .un, .un] = .ok .nx [.fr S, .ow d', .un, .un, .un, .un, .un, .un, .un, .un, .un, .un, .un] := by
  obtain ⟨d1, n, bs, H1, h1, h5, hb, hl, e1⟩ := law_table_k (k + 2) h (most := 4) (by simp)
  obtain ⟨d', cs, H', cb, cl, e2⟩ := bits_k (k + 3) n H1 h1 h5
  have h32 := pow_le h5
  refine ⟨d', H', ?_⟩
  have bn := bnd_small (n := (n : Int)) (by omega) (by omega)
  have nw1 := fun ρ ρ' he => new_k k n bs h1 h5 hb hl (as := [(varD 3), (varD 4)]) (ρ := ρ) (ρ' := ρ') he
  have nw2 := fun ρ ρ' he => new_k k n cs h1 h5 cb cl (as := [(varD 3), (varD 6)]) (ρ := ρ) (ρ' := ρ') he
  have ne := nearest_even_k (k + 2) h5 hl
  have ln := law_nearest_k (k + 2) h5 hl
  have i1' : Fk (k + 7) 25 [.fr (nearD n bs), .fr (nearD n bs)] = .ok (.bl true, false) [.un, .un] := is_wt 3 (k + 2) (near_wt h5 bs)
  have fl := flat_k (k + 3) h5 hl
  rw [flat_dd hl] at fl
  have sp := spectrum_k (k + 3) n bs h5 hl
  have wl := wht_len (n := n) (l := sg bs) (by simp [hl])
  have q1 := lc_int (it := itV (usr 1 (Fk (k + 7) 16) [.var 5])) (b := bName 10) (e := law_e1 (Fk (k + 7)) (Fk (k + 6))) (vs := [10]) (ρ := [.fr S, .ow d', .fr t, .fr (.int n), .fr (.tup (iL bs)), .fr (tab n bs), .fr (.tup (iL cs)), .un, .un, .un, .un, .un, .un]) D.int absI (wht n (sg bs)) (by simp [usr_app, handR_app, sp, iL_def]) (by omega) (by simp) fun x hx => by
    simp [turn_app, law_e1, absI]
  have ls := fLenSet_ints (l := (wht n (sg bs)).map absI) (by rw [List.length_map, wl]; omega)
  have ib := is_bl_k (k + 5) (decide (((dd ((wht n (sg bs)).map absI)).length : Int) = 1)) (decide (((dd ((wht n (sg bs)).map absI)).length : Int) = 1))
  rw [decide_eq_true rfl] at ib
  have rw' := law_rows_k (k + 5) n (by omega)
  have rl := rowsL_len n
  have q2 := lc_filt (it := itV (usr 1 (Fk (k + 7) 26) [.var 3])) (b := bName 11) (c := law_t1 (Fk (k + 7)) (Fk (k + 6))) (e := law_e2 (Fk (k + 7)) (Fk (k + 6))) (vs := [11]) (ρ := [.fr S, .ow d', .fr t, .fr (.int n), .fr (.tup (iL bs)), .fr (tab n bs), .fr (.tup (iL cs)), .un, .un, .un, .un, .un, .un]) rD rD (fun r => decide (wL bs r = 1)) (rowsL n) (by simp [usr_app, handR_app, rw']) (by omega) (by simp) fun r hr => by
    have w1 := law_worth_k (k + 4) hr hl
    by_cases e : wL bs r = 1 <;> simp [turnF_app, law_t1, law_e2, cmpI_app, usr_app, handR_app, w1, e]
  rw [show (rowsL n).filter (fun r => decide (wL bs r = 1)) = onesL n bs from rfl] at q2
  have ol := onesL_le n bs
  have q3 := lc_int (it := itC fRange1 [(varD 3)]) (b := bName 12) (e := law_e4 (Fk (k + 7)) (Fk (k + 6))) (vs := [12]) (ρ := [.fr S, .ow d', .fr t, .fr (.int n), .fr (.tup (iL bs)), .fr (tab n bs), .fr (.tup (iL cs)), .fr (.lst ((onesL n bs).map rD)), .un, .un, .un, .un, .un]) (fun i : Nat => .int (0 + i)) (talI n bs) (List.range n) (by simp [bn, upTo]) (by simp; omega) (by simp) fun i hi => by
    have hi : i < n := by simpa using hi
    have q := lc_filt (it := itV (varD 7)) (b := bName 11) (c := law_t2 (Fk (k + 7)) (Fk (k + 6))) (e := law_e3 (Fk (k + 7)) (Fk (k + 6))) (vs := [11]) (ρ := [.fr S, .ow d', .fr t, .fr (.int n), .fr (.tup (iL bs)), .fr (tab n bs), .fr (.tup (iL cs)), .fr (.lst ((onesL n bs).map rD)), .un, .un, .un, .un, .fr (.int i)]) rD rD (fun r => decide (r.getD i 0 = 1)) (onesL n bs) (by simp) (by omega) (by simp) fun r hr => by
      have ix := row_ix (onesL_mem hr).1 hi
      simp only [rD] at ix
      by_cases e : r.getD i 0 = 1 <;> simp [-ix_tup_nn, -List.getD_eq_getElem?_getD, turnF_app, law_t2, law_e3, cmpI_app, rD, ix, e]
    have tl := tal_len (n := n) (bs := bs) (i := i)
    simp only [turn_app, law_e4]
    simp [-List.getD_eq_getElem?_getD, q, tl]
  have ad := add_tup (xs := [.int ((onesL n bs).length : Int)]) (ys := iL ((List.range n).map (talI n bs))) (by simp; omega)
  have tk := tallies_k (k + 1) h5 hl
  have i2' : Fk (k + 7) 25 [.fr (.tup (iL (talL n bs))), .fr (.tup (iL (talL n bs)))] = .ok (.bl true, false) [.un, .un] := is_wt 1 (k + 4) (wt_ints 0 (by simp [talL]; omega))
  have ml := metL_len n
  have mk := met_k (k + 2) h5 hl cl
  have lm := law_met_k (k + 2) h5 hl cl cb
  have i3' : Fk (k + 7) 25 [.fr (.tup (iL (metL n bs cs))), .fr (.tup (iL (metL n bs cs)))] = .ok (.bl true, false) [.un, .un] := is_wt 1 (k + 4) (wt_ints 0 (by rw [ml]; omega))
  have mm := met_k (k + 2) h5 hl hl
  have m0 : fIx (.tup (iL (metL n bs bs))) (.int 0) = some (.int ((onesL n bs).length : Int), false) := ix_tup' (i := 0) (get_iL (met_zero (n := n) (bs := bs)))
  have ms := fSumA_t (l := metL n bs bs)
  rw [met_sum hb] at ms
  have mu := op_mul_l (i := ((onesL n bs).length : Int)) (j := (onesL n bs).length) (by omega) (by omega)
  rw [step_app]
  simp only [law_b1]
  rw [show talL n bs = ((onesL n bs).length : Int) :: (List.range n).map (talI n bs) from rfl, iL_cons] at i2' tk
  simp [-ix_tup_nn, e1, e2, seqD_app, usr_app, handR_app, cmpI_app, nw1, nw2, ne, ln, i1', fl, q1, ls, ib, q2, q3, ad, tk, i2', mk, lm, i3', mm, m0, ms, mu]

theorem even_const : (∀ e ∈ evs2 2, 1 ≤ nrP [0, 0, 0, 1] e) ∧ (∃ e ∈ evs2 2, nrP [0, 0, 0, 1] e = 1) ∧ ((evs2 2).filter fun e => decide (nrP [0, 0, 0, 1] e = 1)).length = 4 := by decide +kernel
theorem lawD (ns : List Int) (hl : ns.length ≤ 63) : ∃ ρ, Fk 20 37 [.fr (.rdl (ns.map D.int))] = .ok (.bl true, false) ρ := by
  obtain ⟨d, H, e⟩ := law_hand_k 17 ns hl
  obtain ⟨_, q1, d', H', rfl⟩ := for_inv (b := bName 2) (body := law_b1 (Fk 19) (Fk 18)) (ds := upTo 0 3) (ρ := [.fr (.rdl (iL ns)), .ow d, .un, .un, .un, .un, .un, .un, .un, .un, .un, .un, .un]) (P := fun ρ => ∃ d, Hand d ∧ ρ = [.fr (.rdl (iL ns)), .ow d, .un, .un, .un, .un, .un, .un, .un, .un, .un, .un, .un]) ⟨d, H, rfl⟩ (by
    rintro t _ ρ ⟨d, H, rfl⟩
    obtain ⟨d', H', q⟩ := law_turn 12 (S := .rdl (iL ns)) (t := t) H
    exact ⟨_, .inl q, d', H', rfl⟩)
  have bd := bnd_small (n := 3) (by decide) (by decide)
  have nt := fun (ρ : En) => new_k 12 2 [0, 0, 0, 1] (by decide) (by decide) (by intro b hb; simp at hb; omega) rfl (as := [(conD (.int 2)), (tupD [(conD (.int 0)), (conD (.int 0)), (conD (.int 0)), (conD (.int 1))])]) (ρ := ρ) (ρ' := ρ) (by simp)
  have ne := nearest_even_k 14 (n := 2) (bs := [0, 0, 0, 1]) (by decide) rfl
  obtain ⟨c1, ⟨e0, he0, c2⟩, c3⟩ := even_const
  have nr : nrP [0, 0, 0, 1] (nearE 2 [0, 0, 0, 1]) = 1 := by
    obtain ⟨a, b⟩ := nearE_least 2 [0, 0, 0, 1]
    have := c1 _ a
    have := b e0 he0
    omega
  have nl : ((((evs2 2).filter fun e => decide (nrP [0, 0, 0, 1] e = nrP [0, 0, 0, 1] (nearE 2 [0, 0, 0, 1]))).map rD).mergeSort leD).length = 4 := by
    rw [nr, List.length_mergeSort, List.length_map, c3]
  have i0 : fIx (nearD 2 [0, 0, 0, 1]) (.int 0) = some (.int 1, false) := by
    rw [nearD, nr]; simp
  have i1 : fIx (nearD 2 [0, 0, 0, 1]) (.int 1) = some (.tup ((((evs2 2).filter fun e => decide (nrP [0, 0, 0, 1] e = nrP [0, 0, 0, 1] (nearE 2 [0, 0, 0, 1]))).map rD).mergeSort leD), false) := by
    rw [nearD]; exact ix_tup' (i := 1) rfl
  have fl := flat_k 15 (n := 2) (bs := [0, 0, 0, 1]) (by decide) rfl
  rw [show flatB 2 [0, 0, 0, 1] = true from by decide +kernel] at fl
  have tk := tallies_k 13 (n := 2) (bs := [0, 0, 0, 1]) (by decide) rfl
  rw [show talL 2 [0, 0, 0, 1] = [1, 1, 1] from by decide +kernel] at tk
  have eq := dEq_iL (l := [1, 1, 1]) (m := [1, 1, 1])
  simp only [iL_cons, iL_nil] at eq
  have is1 : fCmp .Is (.bl true) (.bl true) = some (.bl true, false) := rfl
  refine ⟨[.un], ?_⟩
  show Fk 20 37 [.fr (.rdl (iL ns))] = _
  rw [show Fk 20 37 = _ from F_law 18]
  simp only [fnD_app, d_law]
  simp [seqD_app, usr_app, handR_app, e, forS_app, bd, q1, nt, ne, i0, i1, nl, fl, tk, cmpI_app, eq, is1]

end PF.k30

namespace PF.k30
open PySem PySem.Spec L2 PF
structure Hd (w : World) (K : PySem.W.Frag) (mg : Str → Option Value) (cs : List (Addr × Addr)) (ad : Nat → Addr) (TT : List NdefX.NTab) : Prop where
  T : ∀ fn F0, Tab w K mg cs ⟨ad, fn, F0, TT⟩
  h0 : ∃ f fd, Fun K "is_integer" "is_integer" s_is_integer f fd ∧ mg "is_integer" = some (.ref f) ∧ PySem.W.keepIn K (.ref f) = true
  h1 : ∃ f fd, Fun K "is_within" "is_within" s_is_within f fd ∧ mg "is_within" = some (.ref f) ∧ PySem.W.keepIn K (.ref f) = true
  h2 : ∃ f fd, Fun K "is_tuple" "is_tuple" s_is_tuple f fd ∧ mg "is_tuple" = some (.ref f) ∧ PySem.W.keepIn K (.ref f) = true
  h3 : ∃ f fd, Fun K "rows" "rows" s_rows f fd ∧ mg "rows" = some (.ref f) ∧ PySem.W.keepIn K (.ref f) = true
  h4 : ∃ f fd, Fun K "number_of" "number_of" s_number_of f fd ∧ mg "number_of" = some (.ref f) ∧ PySem.W.keepIn K (.ref f) = true
  h5 : ∃ f fd, Fun K "is_bit" "is_bit" s_is_bit f fd ∧ mg "is_bit" = some (.ref f) ∧ PySem.W.keepIn K (.ref f) = true
  h6 : ∃ f fd, Fun K "are_bits" "are_bits" s_are_bits f fd ∧ mg "are_bits" = some (.ref f) ∧ PySem.W.keepIn K (.ref f) = true
  h7 : ∃ f fd, Fun K "is_count" "is_count" s_is_count f fd ∧ mg "is_count" = some (.ref f) ∧ PySem.W.keepIn K (.ref f) = true
  h8 : ∃ f fd, Fun K "__init__" "Table.__init__" s_Table___init__ f fd ∧ mg "Table" = some (.ref (ad 0)) ∧ Mk K (ad 0) f
  h9 : ∃ f fd, Fun K "__eq__" "Table.__eq__" s_Table___eq__ f fd ∧ PySem.W.findIn K (.ref (ad 0)) "__eq__" = some (some (.ref f)) ∧ PySem.W.isFn K (.ref f) = true ∧ PySem.W.findIn K (.ref (ad 0)) "__ne__" = some (some (.builtin "object.__ne__")) ∧ PySem.W.mroIn K (ad 0) (.type "object") = some true
  h10 : ∃ f fd, Fun K "worth_at" "worth_at" s_worth_at f fd ∧ mg "worth_at" = some (.ref f) ∧ PySem.W.keepIn K (.ref f) = true
  h11 : ∃ f fd, Fun K "rows_of" "rows_of" s_rows_of f fd ∧ mg "rows_of" = some (.ref f) ∧ PySem.W.keepIn K (.ref f) = true
  h12 : ∃ f fd, Fun K "check_alike" "check_alike" s_check_alike f fd ∧ mg "check_alike" = some (.ref f) ∧ PySem.W.keepIn K (.ref f) = true
  h13 : ∃ f fd, Fun K "summed" "summed" s_summed f fd ∧ mg "summed" = some (.ref f) ∧ PySem.W.keepIn K (.ref f) = true
  h14 : ∃ f fd, Fun K "spread_out" "spread_out" s_spread_out f fd ∧ mg "spread_out" = some (.ref f) ∧ PySem.W.keepIn K (.ref f) = true
  h15 : ∃ f fd, Fun K "spectrum_of" "spectrum_of" s_spectrum_of f fd ∧ mg "spectrum_of" = some (.ref f) ∧ PySem.W.keepIn K (.ref f) = true
  h16 : ∃ f fd, Fun K "spectrum" "spectrum" s_spectrum f fd ∧ mg "spectrum" = some (.ref f) ∧ PySem.W.keepIn K (.ref f) = true
  h17 : ∃ f fd, Fun K "even_table" "even_table" s_even_table f fd ∧ mg "even_table" = some (.ref f) ∧ PySem.W.keepIn K (.ref f) = true
  h18 : ∃ f fd, Fun K "nearest_even" "nearest_even" s_nearest_even f fd ∧ mg "nearest_even" = some (.ref f) ∧ PySem.W.keepIn K (.ref f) = true
  h19 : ∃ f fd, Fun K "flat" "flat" s_flat f fd ∧ mg "flat" = some (.ref f) ∧ PySem.W.keepIn K (.ref f) = true
  h20 : ∃ f fd, Fun K "tallies_of" "tallies_of" s_tallies_of f fd ∧ mg "tallies_of" = some (.ref f) ∧ PySem.W.keepIn K (.ref f) = true
  h21 : ∃ f fd, Fun K "tallies" "tallies" s_tallies f fd ∧ mg "tallies" = some (.ref f) ∧ PySem.W.keepIn K (.ref f) = true
  h22 : ∃ f fd, Fun K "met" "met" s_met f fd ∧ mg "met" = some (.ref f) ∧ PySem.W.keepIn K (.ref f) = true
  h23 : ∃ f fd, Fun K "_law_hand" "_law_hand" s__law_hand f fd ∧ mg "_law_hand" = some (.ref f) ∧ PySem.W.keepIn K (.ref f) = true
  h24 : ∃ f fd, Fun K "_law_draw" "_law_draw" s__law_draw f fd ∧ mg "_law_draw" = some (.ref f) ∧ PySem.W.keepIn K (.ref f) = true
  h25 : ∃ f fd, Fun K "_law_is" "_law_is" s__law_is f fd ∧ mg "_law_is" = some (.ref f) ∧ PySem.W.keepIn K (.ref f) = true
  h26 : ∃ f fd, Fun K "_law_rows" "_law_rows" s__law_rows f fd ∧ mg "_law_rows" = some (.ref f) ∧ PySem.W.keepIn K (.ref f) = true
  h27 : ∃ f fd, Fun K "_law_number" "_law_number" s__law_number f fd ∧ mg "_law_number" = some (.ref f) ∧ PySem.W.keepIn K (.ref f) = true
  h28 : ∃ f fd, Fun K "_law_bits" "_law_bits" s__law_bits f fd ∧ mg "_law_bits" = some (.ref f) ∧ PySem.W.keepIn K (.ref f) = true
  h29 : ∃ f fd, Fun K "_law_ones" "_law_ones" s__law_ones f fd ∧ mg "_law_ones" = some (.ref f) ∧ PySem.W.keepIn K (.ref f) = true
  h30 : ∃ f fd, Fun K "_law_table" "_law_table" s__law_table f fd ∧ mg "_law_table" = some (.ref f) ∧ PySem.W.keepIn K (.ref f) = true
  h31 : ∃ f fd, Fun K "_law_worth" "_law_worth" s__law_worth f fd ∧ mg "_law_worth" = some (.ref f) ∧ PySem.W.keepIn K (.ref f) = true
  h32 : ∃ f fd, Fun K "_law_turned" "_law_turned" s__law_turned f fd ∧ mg "_law_turned" = some (.ref f) ∧ PySem.W.keepIn K (.ref f) = true
  h33 : ∃ f fd, Fun K "_law_added" "_law_added" s__law_added f fd ∧ mg "_law_added" = some (.ref f) ∧ PySem.W.keepIn K (.ref f) = true
  h34 : ∃ f fd, Fun K "_law_evens" "_law_evens" s__law_evens f fd ∧ mg "_law_evens" = some (.ref f) ∧ PySem.W.keepIn K (.ref f) = true
  h35 : ∃ f fd, Fun K "_law_nearest" "_law_nearest" s__law_nearest f fd ∧ mg "_law_nearest" = some (.ref f) ∧ PySem.W.keepIn K (.ref f) = true
  h36 : ∃ f fd, Fun K "_law_met" "_law_met" s__law_met f fd ∧ mg "_law_met" = some (.ref f) ∧ PySem.W.keepIn K (.ref f) = true
  h37 : ∃ f fd, Fun K "law" "law" s_law f fd ∧ mg "law" = some (.ref f) ∧ PySem.W.keepIn K (.ref f) = true
theorem lv_bad {w : World} {K : PySem.W.Frag} {mg : Str → Option Value} {cs : List (Addr × Addr)} {ad : Nat → Addr} {TT : List NdefX.NTab} (h : Hd w K mg cs ad TT) {base : Heap} {fn : Addr} {F0 : Hp} {k : Nat} : Lv w K mg base ⟨ad, fn, F0, TT⟩ k fun _ => noF where
  f0 := by obtain ⟨f, fd, F, h1, h2⟩ := h.h0; exact ⟨f, fd, _, fnG_bad, h1, h2, (F.binds (ps := ["thing"]) fun _ _ _ _ _ _ us hl => match us, hl with | [_], _ => rfl)⟩
  f1 := by obtain ⟨f, fd, F, h1, h2⟩ := h.h1; exact ⟨f, fd, _, fnG_bad, h1, h2, (F.binds (ps := ["thing", "low", "high"]) fun _ _ _ _ _ _ us hl => match us, hl with | [_, _, _], _ => rfl)⟩
  f2 := by obtain ⟨f, fd, F, h1, h2⟩ := h.h2; exact ⟨f, fd, _, fnG_bad, h1, h2, (F.binds (ps := ["thing", "least", "most"]) fun _ _ _ _ _ _ us hl => match us, hl with | [_, _, _], _ => rfl)⟩
  f3 := by obtain ⟨f, fd, F, h1, h2⟩ := h.h3; exact ⟨f, fd, _, fnG_bad, h1, h2, (F.binds (ps := ["letters"]) fun _ _ _ _ _ _ us hl => match us, hl with | [_], _ => rfl)⟩
  f4 := by obtain ⟨f, fd, F, h1, h2⟩ := h.h4; exact ⟨f, fd, _, fnG_bad, h1, h2, (F.binds (ps := ["row"]) fun _ _ _ _ _ _ us hl => match us, hl with | [_], _ => rfl)⟩
  f5 := by obtain ⟨f, fd, F, h1, h2⟩ := h.h5; exact ⟨f, fd, _, fnG_bad, h1, h2, (F.binds (ps := ["thing"]) fun _ _ _ _ _ _ us hl => match us, hl with | [_], _ => rfl)⟩
  f6 := by obtain ⟨f, fd, F, h1, h2⟩ := h.h6; exact ⟨f, fd, _, fnG_bad, h1, h2, (F.binds (ps := ["thing", "many"]) fun _ _ _ _ _ _ us hl => match us, hl with | [_, _], _ => rfl)⟩
  f7 := by obtain ⟨f, fd, F, h1, h2⟩ := h.h7; exact ⟨f, fd, _, fnG_bad, h1, h2, (F.binds (ps := ["thing"]) fun _ _ _ _ _ _ us hl => match us, hl with | [_], _ => rfl)⟩
  n8 := by obtain ⟨f, fd, F, h1, h2⟩ := h.h8; exact ⟨f, fd, _, fnG_bad, h1, h2, (F.binds (ps := ["self", "letters", "bits"]) fun _ _ _ _ _ _ us hl => match us, hl with | [_, _, _], _ => rfl)⟩
  e9 := by obtain ⟨f, fd, F, h1, h2, h3, h4⟩ := h.h9; exact ⟨⟨f, fd, _, fnG_bad, h1, h2, (F.binds (ps := ["self", "other"]) fun _ _ _ _ _ _ us hl => match us, hl with | [_, _], _ => rfl)⟩, h3, h4⟩
  f10 := by obtain ⟨f, fd, F, h1, h2⟩ := h.h10; exact ⟨f, fd, _, fnG_bad, h1, h2, (F.binds (ps := ["table", "row"]) fun _ _ _ _ _ _ us hl => match us, hl with | [_, _], _ => rfl)⟩
  f11 := by obtain ⟨f, fd, F, h1, h2⟩ := h.h11; exact ⟨f, fd, _, fnG_bad, h1, h2, (F.binds (ps := ["table", "bit"]) fun _ _ _ _ _ _ us hl => match us, hl with | [_, _], _ => rfl)⟩
  f12 := by obtain ⟨f, fd, F, h1, h2⟩ := h.h12; exact ⟨f, fd, _, fnG_bad, h1, h2, (F.binds (ps := ["one", "other"]) fun _ _ _ _ _ _ us hl => match us, hl with | [_, _], _ => rfl)⟩
  f13 := by obtain ⟨f, fd, F, h1, h2⟩ := h.h13; exact ⟨f, fd, _, fnG_bad, h1, h2, (F.binds (ps := ["x", "y"]) fun _ _ _ _ _ _ us hl => match us, hl with | [_, _], _ => rfl)⟩
  f14 := by obtain ⟨f, fd, F, h1, h2⟩ := h.h14; exact ⟨f, fd, _, fnG_bad, h1, h2, (F.binds (ps := ["numbers"]) fun _ _ _ _ _ _ us hl => match us, hl with | [_], _ => rfl)⟩
  f15 := by obtain ⟨f, fd, F, h1, h2⟩ := h.h15; exact ⟨f, fd, _, fnG_bad, h1, h2, (F.binds (ps := ["table"]) fun _ _ _ _ _ _ us hl => match us, hl with | [_], _ => rfl)⟩
  f16 := by obtain ⟨f, fd, F, h1, h2⟩ := h.h16; exact ⟨f, fd, _, fnG_bad, h1, h2, (F.binds (ps := ["table"]) fun _ _ _ _ _ _ us hl => match us, hl with | [_], _ => rfl)⟩
  f17 := by obtain ⟨f, fd, F, h1, h2⟩ := h.h17; exact ⟨f, fd, _, fnG_bad, h1, h2, (F.binds (ps := ["letters", "row", "bit"]) fun _ _ _ _ _ _ us hl => match us, hl with | [_, _, _], _ => rfl)⟩
  f18 := by obtain ⟨f, fd, F, h1, h2⟩ := h.h18; exact ⟨f, fd, _, fnG_bad, h1, h2, (F.binds (ps := ["table"]) fun _ _ _ _ _ _ us hl => match us, hl with | [_], _ => rfl)⟩
  f19 := by obtain ⟨f, fd, F, h1, h2⟩ := h.h19; exact ⟨f, fd, _, fnG_bad, h1, h2, (F.binds (ps := ["table"]) fun _ _ _ _ _ _ us hl => match us, hl with | [_], _ => rfl)⟩
  f20 := by obtain ⟨f, fd, F, h1, h2⟩ := h.h20; exact ⟨f, fd, _, fnG_bad, h1, h2, (F.binds (ps := ["table"]) fun _ _ _ _ _ _ us hl => match us, hl with | [_], _ => rfl)⟩
  f21 := by obtain ⟨f, fd, F, h1, h2⟩ := h.h21; exact ⟨f, fd, _, fnG_bad, h1, h2, (F.binds (ps := ["table"]) fun _ _ _ _ _ _ us hl => match us, hl with | [_], _ => rfl)⟩
  f22 := by obtain ⟨f, fd, F, h1, h2⟩ := h.h22; exact ⟨f, fd, _, fnG_bad, h1, h2, (F.binds (ps := ["one", "other"]) fun _ _ _ _ _ _ us hl => match us, hl with | [_, _], _ => rfl)⟩
  f23 := by obtain ⟨f, fd, F, h1, h2⟩ := h.h23; exact ⟨f, fd, _, fnG_bad, h1, h2, (F.binds (ps := ["script"]) fun _ _ _ _ _ _ us hl => match us, hl with | [_], _ => rfl)⟩
  f24 := by obtain ⟨f, fd, F, h1, h2⟩ := h.h24; exact ⟨f, fd, _, fnG_bad, h1, h2, (F.binds (ps := ["hand", "sides"]) fun _ _ _ _ _ _ us hl => match us, hl with | [_, _], _ => rfl)⟩
  f25 := by obtain ⟨f, fd, F, h1, h2⟩ := h.h25; exact ⟨f, fd, _, fnG_bad, h1, h2, (F.binds (ps := ["one", "other"]) fun _ _ _ _ _ _ us hl => match us, hl with | [_, _], _ => rfl)⟩
  f26 := by obtain ⟨f, fd, F, h1, h2⟩ := h.h26; exact ⟨f, fd, _, fnG_bad, h1, h2, (F.binds (ps := ["letters"]) fun _ _ _ _ _ _ us hl => match us, hl with | [_], _ => rfl)⟩
  f27 := by obtain ⟨f, fd, F, h1, h2⟩ := h.h27; exact ⟨f, fd, _, fnG_bad, h1, h2, (F.binds (ps := ["row"]) fun _ _ _ _ _ _ us hl => match us, hl with | [_], _ => rfl)⟩
  f28 := by obtain ⟨f, fd, F, h1, h2⟩ := h.h28; exact ⟨f, fd, _, fnG_bad, h1, h2, (F.binds (ps := ["hand", "letters"]) fun _ _ _ _ _ _ us hl => match us, hl with | [_, _], _ => rfl)⟩
  f29 := by obtain ⟨f, fd, F, h1, h2⟩ := h.h29; exact ⟨f, fd, _, fnG_bad, h1, h2, (F.binds (ps := ["number"]) fun _ _ _ _ _ _ us hl => match us, hl with | [_], _ => rfl)⟩
  f30 := by obtain ⟨f, fd, F, h1, h2⟩ := h.h30; exact ⟨f, fd, _, fnG_bad, h1, h2, (F.binds (ps := ["hand", "most"]) fun _ _ _ _ _ _ us hl => match us, hl with | [_, _], _ => rfl)⟩
  f31 := by obtain ⟨f, fd, F, h1, h2⟩ := h.h31; exact ⟨f, fd, _, fnG_bad, h1, h2, (F.binds (ps := ["bits", "row"]) fun _ _ _ _ _ _ us hl => match us, hl with | [_, _], _ => rfl)⟩
  f32 := by obtain ⟨f, fd, F, h1, h2⟩ := h.h32; exact ⟨f, fd, _, fnG_bad, h1, h2, (F.binds (ps := ["row"]) fun _ _ _ _ _ _ us hl => match us, hl with | [_], _ => rfl)⟩
  f33 := by obtain ⟨f, fd, F, h1, h2⟩ := h.h33; exact ⟨f, fd, _, fnG_bad, h1, h2, (F.binds (ps := ["one", "other"]) fun _ _ _ _ _ _ us hl => match us, hl with | [_, _], _ => rfl)⟩
  f34 := by obtain ⟨f, fd, F, h1, h2⟩ := h.h34; exact ⟨f, fd, _, fnG_bad, h1, h2, (F.binds (ps := ["letters"]) fun _ _ _ _ _ _ us hl => match us, hl with | [_], _ => rfl)⟩
  f35 := by obtain ⟨f, fd, F, h1, h2⟩ := h.h35; exact ⟨f, fd, _, fnG_bad, h1, h2, (F.binds (ps := ["letters", "bits"]) fun _ _ _ _ _ _ us hl => match us, hl with | [_, _], _ => rfl)⟩
  f36 := by obtain ⟨f, fd, F, h1, h2⟩ := h.h36; exact ⟨f, fd, _, fnG_bad, h1, h2, (F.binds (ps := ["letters", "one", "other"]) fun _ _ _ _ _ _ us hl => match us, hl with | [_, _, _], _ => rfl)⟩
  f37 := by obtain ⟨f, fd, F, h1, h2⟩ := h.h37; exact ⟨f, fd, _, fnG_bad, h1, h2, (F.binds (ps := ["script"]) fun _ _ _ _ _ _ us hl => match us, hl with | [_], _ => rfl)⟩
theorem lv_step {w : World} {K : PySem.W.Frag} {mg : Str → Option Value} {cs : List (Addr × Addr)} {ad : Nat → Addr} {TT : List NdefX.NTab} (h : Hd w K mg cs ad TT) {k : Nat} {G G' G2 G3 : Nat → FR} (A3 : ∀ base fn F0, TabsB mg cs base → Lv w K mg base ⟨ad, fn, F0, TT⟩ (k + 3) G) (A2 : ∀ base fn F0, TabsB mg cs base → Lv w K mg base ⟨ad, fn, F0, TT⟩ (k + 2) G') (A1 : ∀ base fn F0, TabsB mg cs base → Lv w K mg base ⟨ad, fn, F0, TT⟩ (k + 1) G2) (A0 : ∀ base fn F0, TabsB mg cs base → Lv w K mg base ⟨ad, fn, F0, TT⟩ k G3) {base : Heap} {fn : Addr} {F0 : Hp} (tb : TabsB mg cs base) : Lv w K mg base ⟨ad, fn, F0, TT⟩ (k + 4) (stepF G G' G2 G3) where
  f0 := by obtain ⟨f, fd, F, h1, h2⟩ := h.h0; exact ⟨f, fd, _, o_is_integer (h.T fn F0) (A3 base fn F0 tb) (A2 base fn F0 tb) F, h1, h2, (F.binds (ps := ["thing"]) fun _ _ _ _ _ _ us hl => match us, hl with | [_], _ => rfl)⟩
  f1 := by obtain ⟨f, fd, F, h1, h2⟩ := h.h1; exact ⟨f, fd, _, o_is_within (h.T fn F0) (A3 base fn F0 tb) (A2 base fn F0 tb) F, h1, h2, (F.binds (ps := ["thing", "low", "high"]) fun _ _ _ _ _ _ us hl => match us, hl with | [_, _, _], _ => rfl)⟩
  f2 := by obtain ⟨f, fd, F, h1, h2⟩ := h.h2; exact ⟨f, fd, _, o_is_tuple (h.T fn F0) (A3 base fn F0 tb) (A2 base fn F0 tb) F, h1, h2, (F.binds (ps := ["thing", "least", "most"]) fun _ _ _ _ _ _ us hl => match us, hl with | [_, _, _], _ => rfl)⟩
  f3 := by obtain ⟨f, fd, F, h1, h2⟩ := h.h3; exact ⟨f, fd, _, o_rows (h.T fn F0) (A3 base fn F0 tb) (A2 base fn F0 tb) F, h1, h2, (F.binds (ps := ["letters"]) fun _ _ _ _ _ _ us hl => match us, hl with | [_], _ => rfl)⟩
  f4 := by obtain ⟨f, fd, F, h1, h2⟩ := h.h4; exact ⟨f, fd, _, o_number_of (h.T fn F0) (A3 base fn F0 tb) (A2 base fn F0 tb) F, h1, h2, (F.binds (ps := ["row"]) fun _ _ _ _ _ _ us hl => match us, hl with | [_], _ => rfl)⟩
  f5 := by obtain ⟨f, fd, F, h1, h2⟩ := h.h5; exact ⟨f, fd, _, o_is_bit (h.T fn F0) (A3 base fn F0 tb) (A2 base fn F0 tb) F, h1, h2, (F.binds (ps := ["thing"]) fun _ _ _ _ _ _ us hl => match us, hl with | [_], _ => rfl)⟩
  f6 := by obtain ⟨f, fd, F, h1, h2⟩ := h.h6; exact ⟨f, fd, _, o_are_bits (h.T fn F0) (A3 base fn F0 tb) (A2 base fn F0 tb) F, h1, h2, (F.binds (ps := ["thing", "many"]) fun _ _ _ _ _ _ us hl => match us, hl with | [_, _], _ => rfl)⟩
  f7 := by obtain ⟨f, fd, F, h1, h2⟩ := h.h7; exact ⟨f, fd, _, o_is_count (h.T fn F0) (A3 base fn F0 tb) (A2 base fn F0 tb) F, h1, h2, (F.binds (ps := ["thing"]) fun _ _ _ _ _ _ us hl => match us, hl with | [_], _ => rfl)⟩
  n8 := by obtain ⟨f, fd, F, h1, h2⟩ := h.h8; exact ⟨f, fd, _, o_Table___init__ (h.T fn F0) (A3 base fn F0 tb) (A2 base fn F0 tb) F, h1, h2, (F.binds (ps := ["self", "letters", "bits"]) fun _ _ _ _ _ _ us hl => match us, hl with | [_, _, _], _ => rfl)⟩
  e9 := by obtain ⟨f, fd, F, h1, h2, h3, h4⟩ := h.h9; exact ⟨⟨f, fd, _, o_Table___eq__ (h.T fn F0) (A3 base fn F0 tb) (A2 base fn F0 tb) F, h1, h2, (F.binds (ps := ["self", "other"]) fun _ _ _ _ _ _ us hl => match us, hl with | [_, _], _ => rfl)⟩, h3, h4⟩
  f10 := by obtain ⟨f, fd, F, h1, h2⟩ := h.h10; exact ⟨f, fd, _, o_worth_at (h.T fn F0) (A3 base fn F0 tb) (A2 base fn F0 tb) F, h1, h2, (F.binds (ps := ["table", "row"]) fun _ _ _ _ _ _ us hl => match us, hl with | [_, _], _ => rfl)⟩
  f11 := by obtain ⟨f, fd, F, h1, h2⟩ := h.h11; exact ⟨f, fd, _, o_rows_of (h.T fn F0) (A3 base fn F0 tb) (A2 base fn F0 tb) F, h1, h2, (F.binds (ps := ["table", "bit"]) fun _ _ _ _ _ _ us hl => match us, hl with | [_, _], _ => rfl)⟩
  f12 := by obtain ⟨f, fd, F, h1, h2⟩ := h.h12; exact ⟨f, fd, _, o_check_alike (h.T fn F0) (A3 base fn F0 tb) (A2 base fn F0 tb) F, h1, h2, (F.binds (ps := ["one", "other"]) fun _ _ _ _ _ _ us hl => match us, hl with | [_, _], _ => rfl)⟩
  f13 := by obtain ⟨f, fd, F, h1, h2⟩ := h.h13; exact ⟨f, fd, _, o_summed (h.T fn F0) (A3 base fn F0 tb) (A2 base fn F0 tb) F, h1, h2, (F.binds (ps := ["x", "y"]) fun _ _ _ _ _ _ us hl => match us, hl with | [_, _], _ => rfl)⟩
  f14 := by obtain ⟨f, fd, F, h1, h2⟩ := h.h14; exact ⟨f, fd, _, o_spread_out (h.T fn F0) (A3 base fn F0 tb) (A2 base fn F0 tb) F, h1, h2, (F.binds (ps := ["numbers"]) fun _ _ _ _ _ _ us hl => match us, hl with | [_], _ => rfl)⟩
  f15 := by obtain ⟨f, fd, F, h1, h2⟩ := h.h15; exact ⟨f, fd, _, o_spectrum_of (h.T fn F0) (A3 base fn F0 tb) (A2 base fn F0 tb) F, h1, h2, (F.binds (ps := ["table"]) fun _ _ _ _ _ _ us hl => match us, hl with | [_], _ => rfl)⟩
  f16 := by obtain ⟨f, fd, F, h1, h2⟩ := h.h16; exact ⟨f, fd, _, o_spectrum (h.T fn F0) (A3 base fn F0 tb) (A2 base fn F0 tb) F, h1, h2, (F.binds (ps := ["table"]) fun _ _ _ _ _ _ us hl => match us, hl with | [_], _ => rfl)⟩
  f17 := by obtain ⟨f, fd, F, h1, h2⟩ := h.h17; exact ⟨f, fd, _, o_even_table (h.T fn F0) (A3 base fn F0 tb) (A2 base fn F0 tb) F, h1, h2, (F.binds (ps := ["letters", "row", "bit"]) fun _ _ _ _ _ _ us hl => match us, hl with | [_, _, _], _ => rfl)⟩
  f18 := by obtain ⟨f, fd, F, h1, h2⟩ := h.h18; exact ⟨f, fd, _, o_nearest_even (h.T fn F0) (A3 base fn F0 tb) (A2 base fn F0 tb) F, h1, h2, (F.binds (ps := ["table"]) fun _ _ _ _ _ _ us hl => match us, hl with | [_], _ => rfl)⟩
  f19 := by obtain ⟨f, fd, F, h1, h2⟩ := h.h19; exact ⟨f, fd, _, o_flat (h.T fn F0) (A3 base fn F0 tb) (A2 base fn F0 tb) F, h1, h2, (F.binds (ps := ["table"]) fun _ _ _ _ _ _ us hl => match us, hl with | [_], _ => rfl)⟩
  f20 := by obtain ⟨f, fd, F, h1, h2⟩ := h.h20; exact ⟨f, fd, _, o_tallies_of (h.T fn F0) (A3 base fn F0 tb) (A2 base fn F0 tb) F, h1, h2, (F.binds (ps := ["table"]) fun _ _ _ _ _ _ us hl => match us, hl with | [_], _ => rfl)⟩
  f21 := by obtain ⟨f, fd, F, h1, h2⟩ := h.h21; exact ⟨f, fd, _, o_tallies (h.T fn F0) (A3 base fn F0 tb) (A2 base fn F0 tb) F, h1, h2, (F.binds (ps := ["table"]) fun _ _ _ _ _ _ us hl => match us, hl with | [_], _ => rfl)⟩
  f22 := by obtain ⟨f, fd, F, h1, h2⟩ := h.h22; exact ⟨f, fd, _, o_met (h.T fn F0) (A3 base fn F0 tb) (A2 base fn F0 tb) F, h1, h2, (F.binds (ps := ["one", "other"]) fun _ _ _ _ _ _ us hl => match us, hl with | [_, _], _ => rfl)⟩
  f23 := by obtain ⟨f, fd, F, h1, h2⟩ := h.h23; exact ⟨f, fd, _, o__law_hand (h.T fn F0) (A3 base fn F0 tb) (A2 base fn F0 tb) F, h1, h2, (F.binds (ps := ["script"]) fun _ _ _ _ _ _ us hl => match us, hl with | [_], _ => rfl)⟩
  f24 := by obtain ⟨f, fd, F, h1, h2⟩ := h.h24; exact ⟨f, fd, _, o__law_draw (h.T fn F0) (A3 base fn F0 tb) (A2 base fn F0 tb) F, h1, h2, (F.binds (ps := ["hand", "sides"]) fun _ _ _ _ _ _ us hl => match us, hl with | [_, _], _ => rfl)⟩
  f25 := by obtain ⟨f, fd, F, h1, h2⟩ := h.h25; exact ⟨f, fd, _, o__law_is (h.T fn F0) (A3 base fn F0 tb) (A2 base fn F0 tb) F, h1, h2, (F.binds (ps := ["one", "other"]) fun _ _ _ _ _ _ us hl => match us, hl with | [_, _], _ => rfl)⟩
  f26 := by obtain ⟨f, fd, F, h1, h2⟩ := h.h26; exact ⟨f, fd, _, o__law_rows (h.T fn F0) (A3 base fn F0 tb) (A2 base fn F0 tb) F, h1, h2, (F.binds (ps := ["letters"]) fun _ _ _ _ _ _ us hl => match us, hl with | [_], _ => rfl)⟩
  f27 := by obtain ⟨f, fd, F, h1, h2⟩ := h.h27; exact ⟨f, fd, _, o__law_number (h.T fn F0) (A3 base fn F0 tb) (A2 base fn F0 tb) F, h1, h2, (F.binds (ps := ["row"]) fun _ _ _ _ _ _ us hl => match us, hl with | [_], _ => rfl)⟩
  f28 := by obtain ⟨f, fd, F, h1, h2⟩ := h.h28; exact ⟨f, fd, _, o__law_bits (h.T fn F0) (A3 base fn F0 tb) (A2 base fn F0 tb) F, h1, h2, (F.binds (ps := ["hand", "letters"]) fun _ _ _ _ _ _ us hl => match us, hl with | [_, _], _ => rfl)⟩
  f29 := by obtain ⟨f, fd, F, h1, h2⟩ := h.h29; exact ⟨f, fd, _, o__law_ones (h.T fn F0) (A3 base fn F0 tb) (A2 base fn F0 tb) F, h1, h2, (F.binds (ps := ["number"]) fun _ _ _ _ _ _ us hl => match us, hl with | [_], _ => rfl)⟩
  f30 := by obtain ⟨f, fd, F, h1, h2⟩ := h.h30; exact ⟨f, fd, _, o__law_table (h.T fn F0) (A3 base fn F0 tb) (A2 base fn F0 tb) F, h1, h2, (F.binds (ps := ["hand", "most"]) fun _ _ _ _ _ _ us hl => match us, hl with | [_, _], _ => rfl)⟩
  f31 := by obtain ⟨f, fd, F, h1, h2⟩ := h.h31; exact ⟨f, fd, _, o__law_worth (h.T fn F0) (A3 base fn F0 tb) (A2 base fn F0 tb) F, h1, h2, (F.binds (ps := ["bits", "row"]) fun _ _ _ _ _ _ us hl => match us, hl with | [_, _], _ => rfl)⟩
  f32 := by obtain ⟨f, fd, F, h1, h2⟩ := h.h32; exact ⟨f, fd, _, o__law_turned (h.T fn F0) (A3 base fn F0 tb) (A2 base fn F0 tb) F, h1, h2, (F.binds (ps := ["row"]) fun _ _ _ _ _ _ us hl => match us, hl with | [_], _ => rfl)⟩
  f33 := by obtain ⟨f, fd, F, h1, h2⟩ := h.h33; exact ⟨f, fd, _, o__law_added (h.T fn F0) (A3 base fn F0 tb) (A2 base fn F0 tb) F, h1, h2, (F.binds (ps := ["one", "other"]) fun _ _ _ _ _ _ us hl => match us, hl with | [_, _], _ => rfl)⟩
  f34 := by obtain ⟨f, fd, F, h1, h2⟩ := h.h34; exact ⟨f, fd, _, o__law_evens (h.T fn F0) (A3 base fn F0 tb) (A2 base fn F0 tb) F, h1, h2, (F.binds (ps := ["letters"]) fun _ _ _ _ _ _ us hl => match us, hl with | [_], _ => rfl)⟩
  f35 := by obtain ⟨f, fd, F, h1, h2⟩ := h.h35; exact ⟨f, fd, _, o__law_nearest (h.T fn F0) (A3 base fn F0 tb) (A2 base fn F0 tb) F, h1, h2, (F.binds (ps := ["letters", "bits"]) fun _ _ _ _ _ _ us hl => match us, hl with | [_, _], _ => rfl)⟩
  f36 := by obtain ⟨f, fd, F, h1, h2⟩ := h.h36; exact ⟨f, fd, _, o__law_met (h.T fn F0) (A3 base fn F0 tb) (A2 base fn F0 tb) F, h1, h2, (F.binds (ps := ["letters", "one", "other"]) fun _ _ _ _ _ _ us hl => match us, hl with | [_, _, _], _ => rfl)⟩
  f37 := by obtain ⟨f, fd, F, h1, h2⟩ := h.h37; exact ⟨f, fd, _, o_law (h.T fn F0) (A3 base fn F0 tb) (A2 base fn F0 tb) F, h1, h2, (F.binds (ps := ["script"]) fun _ _ _ _ _ _ us hl => match us, hl with | [_], _ => rfl)⟩
theorem lvs {w : World} {K : PySem.W.Frag} {mg : Str → Option Value} {cs : List (Addr × Addr)} {ad : Nat → Addr} {TT : List NdefX.NTab} (h : Hd w K mg cs ad TT) : ∀ k : Nat, (∀ base fn F0, TabsB mg cs base → Lv w K mg base ⟨ad, fn, F0, TT⟩ k (Fc k)) ∧ (∀ base fn F0, TabsB mg cs base → Lv w K mg base ⟨ad, fn, F0, TT⟩ (k + 1) (Fc (k + 1))) ∧ (∀ base fn F0, TabsB mg cs base → Lv w K mg base ⟨ad, fn, F0, TT⟩ (k + 2) (Fc (k + 2))) ∧ (∀ base fn F0, TabsB mg cs base → Lv w K mg base ⟨ad, fn, F0, TT⟩ (k + 3) (Fc (k + 3)))
  | 0 => ⟨fun _ _ _ _ => by rw [Fc_0]; exact lv_bad h, fun _ _ _ _ => by rw [Fc_1]; exact lv_bad h, fun _ _ _ _ => by rw [Fc_2]; exact lv_bad h, fun _ _ _ _ => by rw [Fc_3]; exact lv_bad h⟩
  | k + 1 => by
    obtain ⟨a, b, c, d⟩ := lvs h k
    exact ⟨b, c, d, fun _ _ _ tb => by rw [show k + 1 + 3 = k + 4 from rfl, Fc_s]; exact lv_step h d c b a tb⟩
def clOf (C0 : Addr) : Nat → Addr := fun c => C0
theorem all_mk {w : World} {K : PySem.W.Frag} {h : Heap} {mg : Str → Option Value} {fa : Addr} (X : K.In h) (G : h.Ns mainGlobals mg) (hfa : mg "law" = some (.ref fa))
    {C0 : Addr}
    {f0 : Addr} {od0 an0 : Option Addr} {sl0 : Array (Option Value)} {oc0 kV0 dc0 pm0 cd0 ct0 : Value}
    {f1 : Addr} {od1 an1 : Option Addr} {sl1 : Array (Option Value)} {oc1 kV1 dc1 pm1 cd1 ct1 : Value}
    {f2 : Addr} {od2 an2 : Option Addr} {sl2 : Array (Option Value)} {oc2 kV2 dc2 pm2 cd2 ct2 : Value}
    {f3 : Addr} {od3 an3 : Option Addr} {sl3 : Array (Option Value)} {oc3 kV3 dc3 pm3 cd3 ct3 : Value}
    {f4 : Addr} {od4 an4 : Option Addr} {sl4 : Array (Option Value)} {oc4 kV4 dc4 pm4 cd4 ct4 : Value}
    {f5 : Addr} {od5 an5 : Option Addr} {sl5 : Array (Option Value)} {oc5 kV5 dc5 pm5 cd5 ct5 : Value}
    {f6 : Addr} {od6 an6 : Option Addr} {sl6 : Array (Option Value)} {oc6 kV6 dc6 pm6 cd6 ct6 : Value}
    {f7 : Addr} {od7 an7 : Option Addr} {sl7 : Array (Option Value)} {oc7 kV7 dc7 pm7 cd7 ct7 : Value}
    {f8 : Addr} {od8 an8 : Option Addr} {sl8 : Array (Option Value)} {oc8 kV8 dc8 pm8 cd8 ct8 : Value}
    {f9 : Addr} {od9 an9 : Option Addr} {sl9 : Array (Option Value)} {oc9 kV9 dc9 pm9 cd9 ct9 : Value}
    {f10 : Addr} {od10 an10 : Option Addr} {sl10 : Array (Option Value)} {oc10 kV10 dc10 pm10 cd10 ct10 : Value}
    {f11 : Addr} {od11 an11 : Option Addr} {sl11 : Array (Option Value)} {oc11 kV11 dc11 pm11 cd11 ct11 : Value}
    {f12 : Addr} {od12 an12 : Option Addr} {sl12 : Array (Option Value)} {oc12 kV12 dc12 pm12 cd12 ct12 : Value}
    {f13 : Addr} {od13 an13 : Option Addr} {sl13 : Array (Option Value)} {oc13 kV13 dc13 pm13 cd13 ct13 : Value}
    {f14 : Addr} {od14 an14 : Option Addr} {sl14 : Array (Option Value)} {oc14 kV14 dc14 pm14 cd14 ct14 : Value}
    {f15 : Addr} {od15 an15 : Option Addr} {sl15 : Array (Option Value)} {oc15 kV15 dc15 pm15 cd15 ct15 : Value}
    {f16 : Addr} {od16 an16 : Option Addr} {sl16 : Array (Option Value)} {oc16 kV16 dc16 pm16 cd16 ct16 : Value}
    {f17 : Addr} {od17 an17 : Option Addr} {sl17 : Array (Option Value)} {oc17 kV17 dc17 pm17 cd17 ct17 : Value}
    {f18 : Addr} {od18 an18 : Option Addr} {sl18 : Array (Option Value)} {oc18 kV18 dc18 pm18 cd18 ct18 : Value}
    {f19 : Addr} {od19 an19 : Option Addr} {sl19 : Array (Option Value)} {oc19 kV19 dc19 pm19 cd19 ct19 : Value}
    {f20 : Addr} {od20 an20 : Option Addr} {sl20 : Array (Option Value)} {oc20 kV20 dc20 pm20 cd20 ct20 : Value}
    {f21 : Addr} {od21 an21 : Option Addr} {sl21 : Array (Option Value)} {oc21 kV21 dc21 pm21 cd21 ct21 : Value}
    {f22 : Addr} {od22 an22 : Option Addr} {sl22 : Array (Option Value)} {oc22 kV22 dc22 pm22 cd22 ct22 : Value}
    {f23 : Addr} {od23 an23 : Option Addr} {sl23 : Array (Option Value)} {oc23 kV23 dc23 pm23 cd23 ct23 : Value}
    {f24 : Addr} {od24 an24 : Option Addr} {sl24 : Array (Option Value)} {oc24 kV24 dc24 pm24 cd24 ct24 : Value}
    {f25 : Addr} {od25 an25 : Option Addr} {sl25 : Array (Option Value)} {oc25 kV25 dc25 pm25 cd25 ct25 : Value}
    {f26 : Addr} {od26 an26 : Option Addr} {sl26 : Array (Option Value)} {oc26 kV26 dc26 pm26 cd26 ct26 : Value}
    {f27 : Addr} {od27 an27 : Option Addr} {sl27 : Array (Option Value)} {oc27 kV27 dc27 pm27 cd27 ct27 : Value}
    {f28 : Addr} {od28 an28 : Option Addr} {sl28 : Array (Option Value)} {oc28 kV28 dc28 pm28 cd28 ct28 : Value}
    {f29 : Addr} {od29 an29 : Option Addr} {sl29 : Array (Option Value)} {oc29 kV29 dc29 pm29 cd29 ct29 : Value}
    {f30 : Addr} {od30 an30 : Option Addr} {sl30 : Array (Option Value)} {oc30 kV30 dc30 pm30 cd30 ct30 : Value}
    {f31 : Addr} {od31 an31 : Option Addr} {sl31 : Array (Option Value)} {oc31 kV31 dc31 pm31 cd31 ct31 : Value}
    {f32 : Addr} {od32 an32 : Option Addr} {sl32 : Array (Option Value)} {oc32 kV32 dc32 pm32 cd32 ct32 : Value}
    {f33 : Addr} {od33 an33 : Option Addr} {sl33 : Array (Option Value)} {oc33 kV33 dc33 pm33 cd33 ct33 : Value}
    {f34 : Addr} {od34 an34 : Option Addr} {sl34 : Array (Option Value)} {oc34 kV34 dc34 pm34 cd34 ct34 : Value}
    {f35 : Addr} {od35 an35 : Option Addr} {sl35 : Array (Option Value)} {oc35 kV35 dc35 pm35 cd35 ct35 : Value}
    {f36 : Addr} {od36 an36 : Option Addr} {sl36 : Array (Option Value)} {oc36 kV36 dc36 pm36 cd36 ct36 : Value}
    {f37 : Addr} {od37 an37 : Option Addr} {sl37 : Array (Option Value)} {oc37 kV37 dc37 pm37 cd37 ct37 : Value}
    {tkMOST_LETTERS : Tok}
    (aC0 : PySem.W.nsIn K mainGlobals "Table" = some (some (.ref C0)))
    (pg0 : PySem.W.plainGet K C0 Str.empty = true)
    (hd0 : PySem.W.hasDictIn K C0 = true)
    (po0 : PySem.W.plainOver K C0 = true)
    (sa0 : PySem.W.findIn K (.ref C0) "__setattr__" = some (some (.builtin "object.__setattr__")))
    (mk0 : PySem.W.makesIn K C0 = true)
    (kc0 : PySem.W.keepIn K (.ref C0) = true)
    (xc0 : PySem.W.findIn K (.ref C0) "__class__" = some (some (.builtin "object.__class__")))
    (xm0 : PySem.W.mroIn K C0 (.type "object") = some true)
    (na0_0 : PySem.W.findIn K (.ref C0) "bits" = some none)
    (na0_1 : PySem.W.findIn K (.ref C0) "letters" = some none)
    (na0_2 : PySem.W.findIn K (.ref C0) "looked" = some none)
    (ka0_0 : PySem.W.subIn K (.ref C0) (.type "bool") = some false)
    (ka0_1 : PySem.W.subIn K (.ref C0) (.type "dict") = some false)
    (ka0_2 : PySem.W.subIn K (.ref C0) (.type "int") = some false)
    (ka0_3 : PySem.W.subIn K (.ref C0) (.type "list") = some false)
    (ka0_4 : PySem.W.subIn K (.ref C0) (.type "tuple") = some false)
    (kb0_0 : PySem.W.subIn K (.type "NoneType") (.ref C0) = some false)
    (kb0_1 : PySem.W.subIn K (.type "bool") (.ref C0) = some false)
    (kb0_2 : PySem.W.subIn K (.type "int") (.ref C0) = some false)
    (kb0_3 : PySem.W.subIn K (.type "str") (.ref C0) = some false)
    (kb0_4 : PySem.W.subIn K (.type "tuple") (.ref C0) = some false)
    (kb0_5 : PySem.W.subIn K (.type "list") (.ref C0) = some false)
    (kb0_6 : PySem.W.subIn K (.type "dict") (.ref C0) = some false)
    (ic0 : PySem.W.isClsIn K C0 = true)
    (tc0 : PySem.W.typeIn K (.ref C0) = some (.type "type"))
    (xs : PySem.W.specialIn K (.builtin "object.__class__") "__get__" = some (some (.builtin "getset_descriptor.__get__")))
    (xt : PySem.W.takesIn K (.builtin "object.__class__") = some true)
    (a0 : PySem.W.nsIn K mainGlobals "is_integer" = some (some (.ref f0)))
    (l0 : K.lookup f0 = some ⟨oc0, od0, .func (PySem.W.fnOf "is_integer" "is_integer" (defArgs s_is_integer) (defBody s_is_integer) (defScope s_is_integer) .none kV0 dc0 pm0 an0 cd0 ct0), sl0⟩)
    (c0 : PySem.W.codeIn K cd0 "is_integer" = true)
    (k0 : PySem.W.keepIn K (.ref f0) = true)
    (a1 : PySem.W.nsIn K mainGlobals "is_within" = some (some (.ref f1)))
    (l1 : K.lookup f1 = some ⟨oc1, od1, .func (PySem.W.fnOf "is_within" "is_within" (defArgs s_is_within) (defBody s_is_within) (defScope s_is_within) .none kV1 dc1 pm1 an1 cd1 ct1), sl1⟩)
    (c1 : PySem.W.codeIn K cd1 "is_within" = true)
    (k1 : PySem.W.keepIn K (.ref f1) = true)
    (a2 : PySem.W.nsIn K mainGlobals "is_tuple" = some (some (.ref f2)))
    (l2 : K.lookup f2 = some ⟨oc2, od2, .func (PySem.W.fnOf "is_tuple" "is_tuple" (defArgs s_is_tuple) (defBody s_is_tuple) (defScope s_is_tuple) .none kV2 dc2 pm2 an2 cd2 ct2), sl2⟩)
    (c2 : PySem.W.codeIn K cd2 "is_tuple" = true)
    (k2 : PySem.W.keepIn K (.ref f2) = true)
    (a3 : PySem.W.nsIn K mainGlobals "rows" = some (some (.ref f3)))
    (l3 : K.lookup f3 = some ⟨oc3, od3, .func (PySem.W.fnOf "rows" "rows" (defArgs s_rows) (defBody s_rows) (defScope s_rows) .none kV3 dc3 pm3 an3 cd3 ct3), sl3⟩)
    (c3 : PySem.W.codeIn K cd3 "rows" = true)
    (k3 : PySem.W.keepIn K (.ref f3) = true)
    (a4 : PySem.W.nsIn K mainGlobals "number_of" = some (some (.ref f4)))
    (l4 : K.lookup f4 = some ⟨oc4, od4, .func (PySem.W.fnOf "number_of" "number_of" (defArgs s_number_of) (defBody s_number_of) (defScope s_number_of) .none kV4 dc4 pm4 an4 cd4 ct4), sl4⟩)
    (c4 : PySem.W.codeIn K cd4 "number_of" = true)
    (k4 : PySem.W.keepIn K (.ref f4) = true)
    (a5 : PySem.W.nsIn K mainGlobals "is_bit" = some (some (.ref f5)))
    (l5 : K.lookup f5 = some ⟨oc5, od5, .func (PySem.W.fnOf "is_bit" "is_bit" (defArgs s_is_bit) (defBody s_is_bit) (defScope s_is_bit) .none kV5 dc5 pm5 an5 cd5 ct5), sl5⟩)
    (c5 : PySem.W.codeIn K cd5 "is_bit" = true)
    (k5 : PySem.W.keepIn K (.ref f5) = true)
    (a6 : PySem.W.nsIn K mainGlobals "are_bits" = some (some (.ref f6)))
    (l6 : K.lookup f6 = some ⟨oc6, od6, .func (PySem.W.fnOf "are_bits" "are_bits" (defArgs s_are_bits) (defBody s_are_bits) (defScope s_are_bits) .none kV6 dc6 pm6 an6 cd6 ct6), sl6⟩)
    (c6 : PySem.W.codeIn K cd6 "are_bits" = true)
    (k6 : PySem.W.keepIn K (.ref f6) = true)
    (a7 : PySem.W.nsIn K mainGlobals "is_count" = some (some (.ref f7)))
    (l7 : K.lookup f7 = some ⟨oc7, od7, .func (PySem.W.fnOf "is_count" "is_count" (defArgs s_is_count) (defBody s_is_count) (defScope s_is_count) .none kV7 dc7 pm7 an7 cd7 ct7), sl7⟩)
    (c7 : PySem.W.codeIn K cd7 "is_count" = true)
    (k7 : PySem.W.keepIn K (.ref f7) = true)
    (a8 : PySem.W.findIn K (.ref C0) "__init__" = some (some (.ref f8)))
    (i8 : PySem.W.isFn K (.ref f8) = true)
    (l8 : K.lookup f8 = some ⟨oc8, od8, .func (PySem.W.fnOf "__init__" "Table.__init__" (defArgs s_Table___init__) (defBody s_Table___init__) (defScope s_Table___init__) .none kV8 dc8 pm8 an8 cd8 ct8), sl8⟩)
    (c8 : PySem.W.codeIn K cd8 "Table.__init__" = true)
    (k8 : PySem.W.keepIn K (.ref f8) = true)
    (a9 : PySem.W.findIn K (.ref C0) "__eq__" = some (some (.ref f9)))
    (i9 : PySem.W.isFn K (.ref f9) = true)
    (n9 : PySem.W.findIn K (.ref C0) "__ne__" = some (some (.builtin "object.__ne__")))
    (l9 : K.lookup f9 = some ⟨oc9, od9, .func (PySem.W.fnOf "__eq__" "Table.__eq__" (defArgs s_Table___eq__) (defBody s_Table___eq__) (defScope s_Table___eq__) .none kV9 dc9 pm9 an9 cd9 ct9), sl9⟩)
    (c9 : PySem.W.codeIn K cd9 "Table.__eq__" = true)
    (k9 : PySem.W.keepIn K (.ref f9) = true)
    (a10 : PySem.W.nsIn K mainGlobals "worth_at" = some (some (.ref f10)))
    (l10 : K.lookup f10 = some ⟨oc10, od10, .func (PySem.W.fnOf "worth_at" "worth_at" (defArgs s_worth_at) (defBody s_worth_at) (defScope s_worth_at) .none kV10 dc10 pm10 an10 cd10 ct10), sl10⟩)
    (c10 : PySem.W.codeIn K cd10 "worth_at" = true)
    (k10 : PySem.W.keepIn K (.ref f10) = true)
    (a11 : PySem.W.nsIn K mainGlobals "rows_of" = some (some (.ref f11)))
    (l11 : K.lookup f11 = some ⟨oc11, od11, .func (PySem.W.fnOf "rows_of" "rows_of" (defArgs s_rows_of) (defBody s_rows_of) (defScope s_rows_of) .none kV11 dc11 pm11 an11 cd11 ct11), sl11⟩)
    (c11 : PySem.W.codeIn K cd11 "rows_of" = true)
    (k11 : PySem.W.keepIn K (.ref f11) = true)
    (a12 : PySem.W.nsIn K mainGlobals "check_alike" = some (some (.ref f12)))
    (l12 : K.lookup f12 = some ⟨oc12, od12, .func (PySem.W.fnOf "check_alike" "check_alike" (defArgs s_check_alike) (defBody s_check_alike) (defScope s_check_alike) .none kV12 dc12 pm12 an12 cd12 ct12), sl12⟩)
    (c12 : PySem.W.codeIn K cd12 "check_alike" = true)
    (k12 : PySem.W.keepIn K (.ref f12) = true)
    (a13 : PySem.W.nsIn K mainGlobals "summed" = some (some (.ref f13)))
    (l13 : K.lookup f13 = some ⟨oc13, od13, .func (PySem.W.fnOf "summed" "summed" (defArgs s_summed) (defBody s_summed) (defScope s_summed) .none kV13 dc13 pm13 an13 cd13 ct13), sl13⟩)
    (c13 : PySem.W.codeIn K cd13 "summed" = true)
    (k13 : PySem.W.keepIn K (.ref f13) = true)
    (a14 : PySem.W.nsIn K mainGlobals "spread_out" = some (some (.ref f14)))
    (l14 : K.lookup f14 = some ⟨oc14, od14, .func (PySem.W.fnOf "spread_out" "spread_out" (defArgs s_spread_out) (defBody s_spread_out) (defScope s_spread_out) .none kV14 dc14 pm14 an14 cd14 ct14), sl14⟩)
    (c14 : PySem.W.codeIn K cd14 "spread_out" = true)
    (k14 : PySem.W.keepIn K (.ref f14) = true)
    (a15 : PySem.W.nsIn K mainGlobals "spectrum_of" = some (some (.ref f15)))
    (l15 : K.lookup f15 = some ⟨oc15, od15, .func (PySem.W.fnOf "spectrum_of" "spectrum_of" (defArgs s_spectrum_of) (defBody s_spectrum_of) (defScope s_spectrum_of) .none kV15 dc15 pm15 an15 cd15 ct15), sl15⟩)
    (c15 : PySem.W.codeIn K cd15 "spectrum_of" = true)
    (k15 : PySem.W.keepIn K (.ref f15) = true)
    (a16 : PySem.W.nsIn K mainGlobals "spectrum" = some (some (.ref f16)))
    (l16 : K.lookup f16 = some ⟨oc16, od16, .func (PySem.W.fnOf "spectrum" "spectrum" (defArgs s_spectrum) (defBody s_spectrum) (defScope s_spectrum) .none kV16 dc16 pm16 an16 cd16 ct16), sl16⟩)
    (c16 : PySem.W.codeIn K cd16 "spectrum" = true)
    (k16 : PySem.W.keepIn K (.ref f16) = true)
    (a17 : PySem.W.nsIn K mainGlobals "even_table" = some (some (.ref f17)))
    (l17 : K.lookup f17 = some ⟨oc17, od17, .func (PySem.W.fnOf "even_table" "even_table" (defArgs s_even_table) (defBody s_even_table) (defScope s_even_table) .none kV17 dc17 pm17 an17 cd17 ct17), sl17⟩)
    (c17 : PySem.W.codeIn K cd17 "even_table" = true)
    (k17 : PySem.W.keepIn K (.ref f17) = true)
    (a18 : PySem.W.nsIn K mainGlobals "nearest_even" = some (some (.ref f18)))
    (l18 : K.lookup f18 = some ⟨oc18, od18, .func (PySem.W.fnOf "nearest_even" "nearest_even" (defArgs s_nearest_even) (defBody s_nearest_even) (defScope s_nearest_even) .none kV18 dc18 pm18 an18 cd18 ct18), sl18⟩)
    (c18 : PySem.W.codeIn K cd18 "nearest_even" = true)
    (k18 : PySem.W.keepIn K (.ref f18) = true)
    (a19 : PySem.W.nsIn K mainGlobals "flat" = some (some (.ref f19)))
    (l19 : K.lookup f19 = some ⟨oc19, od19, .func (PySem.W.fnOf "flat" "flat" (defArgs s_flat) (defBody s_flat) (defScope s_flat) .none kV19 dc19 pm19 an19 cd19 ct19), sl19⟩)
    (c19 : PySem.W.codeIn K cd19 "flat" = true)
    (k19 : PySem.W.keepIn K (.ref f19) = true)
    (a20 : PySem.W.nsIn K mainGlobals "tallies_of" = some (some (.ref f20)))
    (l20 : K.lookup f20 = some ⟨oc20, od20, .func (PySem.W.fnOf "tallies_of" "tallies_of" (defArgs s_tallies_of) (defBody s_tallies_of) (defScope s_tallies_of) .none kV20 dc20 pm20 an20 cd20 ct20), sl20⟩)
    (c20 : PySem.W.codeIn K cd20 "tallies_of" = true)
    (k20 : PySem.W.keepIn K (.ref f20) = true)
    (a21 : PySem.W.nsIn K mainGlobals "tallies" = some (some (.ref f21)))
    (l21 : K.lookup f21 = some ⟨oc21, od21, .func (PySem.W.fnOf "tallies" "tallies" (defArgs s_tallies) (defBody s_tallies) (defScope s_tallies) .none kV21 dc21 pm21 an21 cd21 ct21), sl21⟩)
    (c21 : PySem.W.codeIn K cd21 "tallies" = true)
    (k21 : PySem.W.keepIn K (.ref f21) = true)
    (a22 : PySem.W.nsIn K mainGlobals "met" = some (some (.ref f22)))
    (l22 : K.lookup f22 = some ⟨oc22, od22, .func (PySem.W.fnOf "met" "met" (defArgs s_met) (defBody s_met) (defScope s_met) .none kV22 dc22 pm22 an22 cd22 ct22), sl22⟩)
    (c22 : PySem.W.codeIn K cd22 "met" = true)
    (k22 : PySem.W.keepIn K (.ref f22) = true)
    (a23 : PySem.W.nsIn K mainGlobals "_law_hand" = some (some (.ref f23)))
    (l23 : K.lookup f23 = some ⟨oc23, od23, .func (PySem.W.fnOf "_law_hand" "_law_hand" (defArgs s__law_hand) (defBody s__law_hand) (defScope s__law_hand) .none kV23 dc23 pm23 an23 cd23 ct23), sl23⟩)
    (c23 : PySem.W.codeIn K cd23 "_law_hand" = true)
    (k23 : PySem.W.keepIn K (.ref f23) = true)
    (a24 : PySem.W.nsIn K mainGlobals "_law_draw" = some (some (.ref f24)))
    (l24 : K.lookup f24 = some ⟨oc24, od24, .func (PySem.W.fnOf "_law_draw" "_law_draw" (defArgs s__law_draw) (defBody s__law_draw) (defScope s__law_draw) .none kV24 dc24 pm24 an24 cd24 ct24), sl24⟩)
    (c24 : PySem.W.codeIn K cd24 "_law_draw" = true)
    (k24 : PySem.W.keepIn K (.ref f24) = true)
    (a25 : PySem.W.nsIn K mainGlobals "_law_is" = some (some (.ref f25)))
    (l25 : K.lookup f25 = some ⟨oc25, od25, .func (PySem.W.fnOf "_law_is" "_law_is" (defArgs s__law_is) (defBody s__law_is) (defScope s__law_is) .none kV25 dc25 pm25 an25 cd25 ct25), sl25⟩)
    (c25 : PySem.W.codeIn K cd25 "_law_is" = true)
    (k25 : PySem.W.keepIn K (.ref f25) = true)
    (a26 : PySem.W.nsIn K mainGlobals "_law_rows" = some (some (.ref f26)))
    (l26 : K.lookup f26 = some ⟨oc26, od26, .func (PySem.W.fnOf "_law_rows" "_law_rows" (defArgs s__law_rows) (defBody s__law_rows) (defScope s__law_rows) .none kV26 dc26 pm26 an26 cd26 ct26), sl26⟩)
    (c26 : PySem.W.codeIn K cd26 "_law_rows" = true)
    (k26 : PySem.W.keepIn K (.ref f26) = true)
    (a27 : PySem.W.nsIn K mainGlobals "_law_number" = some (some (.ref f27)))
    (l27 : K.lookup f27 = some ⟨oc27, od27, .func (PySem.W.fnOf "_law_number" "_law_number" (defArgs s__law_number) (defBody s__law_number) (defScope s__law_number) .none kV27 dc27 pm27 an27 cd27 ct27), sl27⟩)
    (c27 : PySem.W.codeIn K cd27 "_law_number" = true)
    (k27 : PySem.W.keepIn K (.ref f27) = true)
    (a28 : PySem.W.nsIn K mainGlobals "_law_bits" = some (some (.ref f28)))
    (l28 : K.lookup f28 = some ⟨oc28, od28, .func (PySem.W.fnOf "_law_bits" "_law_bits" (defArgs s__law_bits) (defBody s__law_bits) (defScope s__law_bits) .none kV28 dc28 pm28 an28 cd28 ct28), sl28⟩)
    (c28 : PySem.W.codeIn K cd28 "_law_bits" = true)
    (k28 : PySem.W.keepIn K (.ref f28) = true)
    (a29 : PySem.W.nsIn K mainGlobals "_law_ones" = some (some (.ref f29)))
    (l29 : K.lookup f29 = some ⟨oc29, od29, .func (PySem.W.fnOf "_law_ones" "_law_ones" (defArgs s__law_ones) (defBody s__law_ones) (defScope s__law_ones) .none kV29 dc29 pm29 an29 cd29 ct29), sl29⟩)
    (c29 : PySem.W.codeIn K cd29 "_law_ones" = true)
    (k29 : PySem.W.keepIn K (.ref f29) = true)
    (a30 : PySem.W.nsIn K mainGlobals "_law_table" = some (some (.ref f30)))
    (l30 : K.lookup f30 = some ⟨oc30, od30, .func (PySem.W.fnOf "_law_table" "_law_table" (defArgs s__law_table) (defBody s__law_table) (defScope s__law_table) .none kV30 dc30 pm30 an30 cd30 ct30), sl30⟩)
    (c30 : PySem.W.codeIn K cd30 "_law_table" = true)
    (k30 : PySem.W.keepIn K (.ref f30) = true)
    (a31 : PySem.W.nsIn K mainGlobals "_law_worth" = some (some (.ref f31)))
    (l31 : K.lookup f31 = some ⟨oc31, od31, .func (PySem.W.fnOf "_law_worth" "_law_worth" (defArgs s__law_worth) (defBody s__law_worth) (defScope s__law_worth) .none kV31 dc31 pm31 an31 cd31 ct31), sl31⟩)
    (c31 : PySem.W.codeIn K cd31 "_law_worth" = true)
    (k31 : PySem.W.keepIn K (.ref f31) = true)
    (a32 : PySem.W.nsIn K mainGlobals "_law_turned" = some (some (.ref f32)))
    (l32 : K.lookup f32 = some ⟨oc32, od32, .func (PySem.W.fnOf "_law_turned" "_law_turned" (defArgs s__law_turned) (defBody s__law_turned) (defScope s__law_turned) .none kV32 dc32 pm32 an32 cd32 ct32), sl32⟩)
    (c32 : PySem.W.codeIn K cd32 "_law_turned" = true)
    (k32 : PySem.W.keepIn K (.ref f32) = true)
    (a33 : PySem.W.nsIn K mainGlobals "_law_added" = some (some (.ref f33)))
    (l33 : K.lookup f33 = some ⟨oc33, od33, .func (PySem.W.fnOf "_law_added" "_law_added" (defArgs s__law_added) (defBody s__law_added) (defScope s__law_added) .none kV33 dc33 pm33 an33 cd33 ct33), sl33⟩)
    (c33 : PySem.W.codeIn K cd33 "_law_added" = true)
    (k33 : PySem.W.keepIn K (.ref f33) = true)
    (a34 : PySem.W.nsIn K mainGlobals "_law_evens" = some (some (.ref f34)))
    (l34 : K.lookup f34 = some ⟨oc34, od34, .func (PySem.W.fnOf "_law_evens" "_law_evens" (defArgs s__law_evens) (defBody s__law_evens) (defScope s__law_evens) .none kV34 dc34 pm34 an34 cd34 ct34), sl34⟩)
    (c34 : PySem.W.codeIn K cd34 "_law_evens" = true)
    (k34 : PySem.W.keepIn K (.ref f34) = true)
    (a35 : PySem.W.nsIn K mainGlobals "_law_nearest" = some (some (.ref f35)))
    (l35 : K.lookup f35 = some ⟨oc35, od35, .func (PySem.W.fnOf "_law_nearest" "_law_nearest" (defArgs s__law_nearest) (defBody s__law_nearest) (defScope s__law_nearest) .none kV35 dc35 pm35 an35 cd35 ct35), sl35⟩)
    (c35 : PySem.W.codeIn K cd35 "_law_nearest" = true)
    (k35 : PySem.W.keepIn K (.ref f35) = true)
    (a36 : PySem.W.nsIn K mainGlobals "_law_met" = some (some (.ref f36)))
    (l36 : K.lookup f36 = some ⟨oc36, od36, .func (PySem.W.fnOf "_law_met" "_law_met" (defArgs s__law_met) (defBody s__law_met) (defScope s__law_met) .none kV36 dc36 pm36 an36 cd36 ct36), sl36⟩)
    (c36 : PySem.W.codeIn K cd36 "_law_met" = true)
    (k36 : PySem.W.keepIn K (.ref f36) = true)
    (a37 : PySem.W.nsIn K mainGlobals "law" = some (some (.ref f37)))
    (l37 : K.lookup f37 = some ⟨oc37, od37, .func (PySem.W.fnOf "law" "law" (defArgs s_law) (defBody s_law) (defScope s_law) .none kV37 dc37 pm37 an37 cd37 ct37), sl37⟩)
    (c37 : PySem.W.codeIn K cd37 "law" = true)
    (k37 : PySem.W.keepIn K (.ref f37) = true)
    (z_abs : PySem.W.nsIn K mainGlobals "abs" = some none)
    (z_all : PySem.W.nsIn K mainGlobals "all" = some none)
    (z_any : PySem.W.nsIn K mainGlobals "any" = some none)
    (z_bool : PySem.W.nsIn K mainGlobals "bool" = some none)
    (z_dict : PySem.W.nsIn K mainGlobals "dict" = some none)
    (z_int : PySem.W.nsIn K mainGlobals "int" = some none)
    (z_isinstance : PySem.W.nsIn K mainGlobals "isinstance" = some none)
    (z_len : PySem.W.nsIn K mainGlobals "len" = some none)
    (z_list : PySem.W.nsIn K mainGlobals "list" = some none)
    (z_min : PySem.W.nsIn K mainGlobals "min" = some none)
    (z_range : PySem.W.nsIn K mainGlobals "range" = some none)
    (z_set : PySem.W.nsIn K mainGlobals "set" = some none)
    (z_sorted : PySem.W.nsIn K mainGlobals "sorted" = some none)
    (z_sum : PySem.W.nsIn K mainGlobals "sum" = some none)
    (z_tuple : PySem.W.nsIn K mainGlobals "tuple" = some none)
    (z_zip : PySem.W.nsIn K mainGlobals "zip" = some none)
    (g_MOST_LETTERS : PySem.W.nsIn K mainGlobals "MOST_LETTERS" = some (some (.int 5 tkMOST_LETTERS)))
    : ∃ (fd : FuncData) (cl : Cl) (cs : List (Addr × Addr)), (∀ p ∈ cs, h.get? p.2 = some (PySem.W.tabObj #[])) ∧ (∀ p ∈ cs, K.lookup p.2 = none) ∧ (∀ p ∈ cs, PySem.W.CodeHd h p.1 p.2) ∧ (∀ p ∈ cl.T, p.1 ∈ cs.map (·.2)) ∧ (∀ (s : Shared) (u : Value), BindsTo s fd ⟨[u], []⟩ [("script", u)]) ∧ ∀ base : Heap, K.In base → base.Ns mainGlobals mg → (∀ p ∈ cs, LamX.TabB base mg p.1 p.2) → FnG PP w K mg base 22 fa fd ["script"] (spOf K cl 1 (Fk 20 37)) := by
  have e := hfa.symm.trans (PySem.W.mg_of X G a37)
  cases e
  have F0 := fun_mk (st := s_is_integer) l0 c0 k0
  have F1 := fun_mk (st := s_is_within) l1 c1 k1
  have F2 := fun_mk (st := s_is_tuple) l2 c2 k2
  have F3 := fun_mk (st := s_rows) l3 c3 k3
  have F4 := fun_mk (st := s_number_of) l4 c4 k4
  have F5 := fun_mk (st := s_is_bit) l5 c5 k5
  have F6 := fun_mk (st := s_are_bits) l6 c6 k6
  have F7 := fun_mk (st := s_is_count) l7 c7 k7
  have F8 := fun_mk (st := s_Table___init__) l8 c8 k8
  have F9 := fun_mk (st := s_Table___eq__) l9 c9 k9
  have F10 := fun_mk (st := s_worth_at) l10 c10 k10
  have F11 := fun_mk (st := s_rows_of) l11 c11 k11
  have F12 := fun_mk (st := s_check_alike) l12 c12 k12
  have F13 := fun_mk (st := s_summed) l13 c13 k13
  have F14 := fun_mk (st := s_spread_out) l14 c14 k14
  have F15 := fun_mk (st := s_spectrum_of) l15 c15 k15
  have F16 := fun_mk (st := s_spectrum) l16 c16 k16
  have F17 := fun_mk (st := s_even_table) l17 c17 k17
  have F18 := fun_mk (st := s_nearest_even) l18 c18 k18
  have F19 := fun_mk (st := s_flat) l19 c19 k19
  have F20 := fun_mk (st := s_tallies_of) l20 c20 k20
  have F21 := fun_mk (st := s_tallies) l21 c21 k21
  have F22 := fun_mk (st := s_met) l22 c22 k22
  have F23 := fun_mk (st := s__law_hand) l23 c23 k23
  have F24 := fun_mk (st := s__law_draw) l24 c24 k24
  have F25 := fun_mk (st := s__law_is) l25 c25 k25
  have F26 := fun_mk (st := s__law_rows) l26 c26 k26
  have F27 := fun_mk (st := s__law_number) l27 c27 k27
  have F28 := fun_mk (st := s__law_bits) l28 c28 k28
  have F29 := fun_mk (st := s__law_ones) l29 c29 k29
  have F30 := fun_mk (st := s__law_table) l30 c30 k30
  have F31 := fun_mk (st := s__law_worth) l31 c31 k31
  have F32 := fun_mk (st := s__law_turned) l32 c32 k32
  have F33 := fun_mk (st := s__law_added) l33 c33 k33
  have F34 := fun_mk (st := s__law_evens) l34 c34 k34
  have F35 := fun_mk (st := s__law_nearest) l35 c35 k35
  have F36 := fun_mk (st := s__law_met) l36 c36 k36
  have F37 := fun_mk (st := s_law) l37 c37 k37
  have tAtt : ∀ c f, okA c f = true → Cls K (clOf C0 c) ∧ NoAttr K (clOf C0 c) f := fun c f hc => by
    unfold okA at hc
    simp only [Bool.or_eq_true, Bool.and_eq_true, beq_iff_eq, List.contains_iff_mem, List.mem_cons, List.not_mem_nil, or_false] at hc
    rcases hc with ⟨rfl, rfl | rfl | rfl⟩
    · exact ⟨⟨pg0, hd0, po0, sa0⟩, na0_0⟩
    · exact ⟨⟨pg0, hd0, po0, sa0⟩, na0_1⟩
    · exact ⟨⟨pg0, hd0, po0, sa0⟩, na0_2⟩
  have tCls : ∀ c, okC c = true → ClsI K (clOf C0 c) := fun c hc => by
    unfold okC at hc
    simp only [Bool.or_eq_true, beq_iff_eq] at hc
    subst hc
    · exact ⟨⟨pg0, hd0, po0, sa0⟩, xc0, xs, xt, xm0⟩
  have tI1 : ∀ c, okC c = true → ∀ b ∈ ["bool", "dict", "int", "list", "tuple"], PySem.W.kitOne K (.ref (clOf C0 c)) (.type b) = some false := fun c hc b hb => by
    unfold okC at hc
    simp only [Bool.or_eq_true, beq_iff_eq] at hc
    subst hc
    · simp only [List.mem_cons, List.not_mem_nil, or_false] at hb
      rcases hb with rfl | rfl | rfl | rfl | rfl
      · exact kit_rt (by decide +kernel) ka0_0
      · exact kit_rt (by decide +kernel) ka0_1
      · exact kit_rt (by decide +kernel) ka0_2
      · exact kit_rt (by decide +kernel) ka0_3
      · exact kit_rt (by decide +kernel) ka0_4
  have tI2 : ∀ c, okC c = true → ∀ a ∈ tagL, PySem.W.kitOne K (.type a) (.ref (clOf C0 c)) = some false := fun c hc a ha => by
    unfold okC at hc
    simp only [Bool.or_eq_true, beq_iff_eq] at hc
    subst hc
    · unfold tagL at ha
      simp only [List.mem_cons, List.not_mem_nil, or_false] at ha
      rcases ha with rfl | rfl | rfl | rfl | rfl | rfl | rfl
      · exact kit_tr ic0 tc0 kb0_0
      · exact kit_tr ic0 tc0 kb0_1
      · exact kit_tr ic0 tc0 kb0_2
      · exact kit_tr ic0 tc0 kb0_3
      · exact kit_tr ic0 tc0 kb0_4
      · exact kit_tr ic0 tc0 kb0_5
      · exact kit_tr ic0 tc0 kb0_6
  have T : ∀ (fn : Addr) (F0 : Hp), Tab w K mg [] ⟨clOf C0, fn, F0, []⟩ := fun fn F0 =>
    { z_abs := PySem.W.mg_none_of X G z_abs
      z_all := PySem.W.mg_none_of X G z_all
      z_any := PySem.W.mg_none_of X G z_any
      z_bool := PySem.W.mg_none_of X G z_bool
      z_dict := PySem.W.mg_none_of X G z_dict
      z_int := PySem.W.mg_none_of X G z_int
      z_isinstance := PySem.W.mg_none_of X G z_isinstance
      z_len := PySem.W.mg_none_of X G z_len
      z_list := PySem.W.mg_none_of X G z_list
      z_min := PySem.W.mg_none_of X G z_min
      z_range := PySem.W.mg_none_of X G z_range
      z_set := PySem.W.mg_none_of X G z_set
      z_sorted := PySem.W.mg_none_of X G z_sorted
      z_sum := PySem.W.mg_none_of X G z_sum
      z_tuple := PySem.W.mg_none_of X G z_tuple
      z_zip := PySem.W.mg_none_of X G z_zip
      g_MOST_LETTERS := ⟨(.int 5), _, PySem.W.mg_of X G g_MOST_LETTERS, rel_int, fun F => (.int _)⟩
      g_Table := PySem.W.mg_of X G aC0
      att := tAtt
      cls := tCls
      isi := isiT_ok tI1 tI2 }
  have hd : Hd w K mg [] (clOf C0) [] :=
    { T := T
      h0 := ⟨_, _, F0, PySem.W.mg_of X G a0, k0⟩
      h1 := ⟨_, _, F1, PySem.W.mg_of X G a1, k1⟩
      h2 := ⟨_, _, F2, PySem.W.mg_of X G a2, k2⟩
      h3 := ⟨_, _, F3, PySem.W.mg_of X G a3, k3⟩
      h4 := ⟨_, _, F4, PySem.W.mg_of X G a4, k4⟩
      h5 := ⟨_, _, F5, PySem.W.mg_of X G a5, k5⟩
      h6 := ⟨_, _, F6, PySem.W.mg_of X G a6, k6⟩
      h7 := ⟨_, _, F7, PySem.W.mg_of X G a7, k7⟩
      h8 := ⟨_, _, F8, PySem.W.mg_of X G aC0, ⟨mk0, a8, i8, kc0⟩⟩
      h9 := ⟨_, _, F9, a9, i9, n9, xm0⟩
      h10 := ⟨_, _, F10, PySem.W.mg_of X G a10, k10⟩
      h11 := ⟨_, _, F11, PySem.W.mg_of X G a11, k11⟩
      h12 := ⟨_, _, F12, PySem.W.mg_of X G a12, k12⟩
      h13 := ⟨_, _, F13, PySem.W.mg_of X G a13, k13⟩
      h14 := ⟨_, _, F14, PySem.W.mg_of X G a14, k14⟩
      h15 := ⟨_, _, F15, PySem.W.mg_of X G a15, k15⟩
      h16 := ⟨_, _, F16, PySem.W.mg_of X G a16, k16⟩
      h17 := ⟨_, _, F17, PySem.W.mg_of X G a17, k17⟩
      h18 := ⟨_, _, F18, PySem.W.mg_of X G a18, k18⟩
      h19 := ⟨_, _, F19, PySem.W.mg_of X G a19, k19⟩
      h20 := ⟨_, _, F20, PySem.W.mg_of X G a20, k20⟩
      h21 := ⟨_, _, F21, PySem.W.mg_of X G a21, k21⟩
      h22 := ⟨_, _, F22, PySem.W.mg_of X G a22, k22⟩
      h23 := ⟨_, _, F23, PySem.W.mg_of X G a23, k23⟩
      h24 := ⟨_, _, F24, PySem.W.mg_of X G a24, k24⟩
      h25 := ⟨_, _, F25, PySem.W.mg_of X G a25, k25⟩
      h26 := ⟨_, _, F26, PySem.W.mg_of X G a26, k26⟩
      h27 := ⟨_, _, F27, PySem.W.mg_of X G a27, k27⟩
      h28 := ⟨_, _, F28, PySem.W.mg_of X G a28, k28⟩
      h29 := ⟨_, _, F29, PySem.W.mg_of X G a29, k29⟩
      h30 := ⟨_, _, F30, PySem.W.mg_of X G a30, k30⟩
      h31 := ⟨_, _, F31, PySem.W.mg_of X G a31, k31⟩
      h32 := ⟨_, _, F32, PySem.W.mg_of X G a32, k32⟩
      h33 := ⟨_, _, F33, PySem.W.mg_of X G a33, k33⟩
      h34 := ⟨_, _, F34, PySem.W.mg_of X G a34, k34⟩
      h35 := ⟨_, _, F35, PySem.W.mg_of X G a35, k35⟩
      h36 := ⟨_, _, F36, PySem.W.mg_of X G a36, k36⟩
      h37 := ⟨_, _, F37, PySem.W.mg_of X G a37, k37⟩ }
  have bd := F37.binds (ps := ["script"]) fun _ _ _ _ _ _ us hl => match us, hl with | [_], _ => rfl
  obtain ⟨A0, A1, A2, A3⟩ := lvs hd 18
  refine ⟨_, ⟨clOf C0, 0, fun _ => none, []⟩, [], fun p hp => (by cases hp), fun p hp => (by cases hp), fun p hp => (by cases hp), by simp, fun s u => ?_, fun base kb nb tb => by rw [show Fk 20 37 = _ from F_law 18]; exact o_law (T 0 fun _ => none) (A3 base 0 (fun _ => none) tb) (A2 base 0 (fun _ => none) tb) F37⟩
  have bd := F37.binds (ps := ["script"]) fun _ _ _ _ _ _ us hl => match us, hl with | [_], _ => rfl
  exact .of_eq rfl
end PF.k30
open PySem PySem.W PyProof.Rows
set_option maxRecDepth 100000 in
set_option maxHeartbeats 0 in
theorem PySem.Challenge.cw_bittables_k30_whole_nearest_even_tallies_holds : PySem.Challenge.rw_bittables_k30_whole_nearest_even_tallies.Holds := by
  w_on; o_law; k_head; (case hw => w_witness2)
  k_fill
  refine PF.walk_GT (l := PySem.Challenge.rw_bittables_k30_whole_nearest_even_tallies) (n := 63) (k := 22) (x := "script") (g := PF.k30.Fk 20 37) rfl (by decide) rfl ⟨rfl, by decide, by decide⟩ (fun w h Y => by first | exact PySem.W.km_in_of Y | exact PySem.W.kIn_of Y) ?F PF.k30.lawD
  case F =>
    intro w mg fa h Y KX G hmg
    refine' PF.k30.all_mk KX G hmg ?aC0 ?pg0 ?hd0 ?po0 ?sa0 ?mk0 ?kc0 ?xc0 ?xm0 ?na0_0 ?na0_1 ?na0_2 ?ka0_0 ?ka0_1 ?ka0_2 ?ka0_3 ?ka0_4 ?kb0_0 ?kb0_1 ?kb0_2 ?kb0_3 ?kb0_4 ?kb0_5 ?kb0_6 ?ic0 ?tc0 ?xs ?xt ?a0 ?l0 ?c0 ?k0 ?a1 ?l1 ?c1 ?k1 ?a2 ?l2 ?c2 ?k2 ?a3 ?l3 ?c3 ?k3 ?a4 ?l4 ?c4 ?k4 ?a5 ?l5 ?c5 ?k5 ?a6 ?l6 ?c6 ?k6 ?a7 ?l7 ?c7 ?k7 ?a8 ?i8 ?l8 ?c8 ?k8 ?a9 ?i9 ?n9 ?l9 ?c9 ?k9 ?a10 ?l10 ?c10 ?k10 ?a11 ?l11 ?c11 ?k11 ?a12 ?l12 ?c12 ?k12 ?a13 ?l13 ?c13 ?k13 ?a14 ?l14 ?c14 ?k14 ?a15 ?l15 ?c15 ?k15 ?a16 ?l16 ?c16 ?k16 ?a17 ?l17 ?c17 ?k17 ?a18 ?l18 ?c18 ?k18 ?a19 ?l19 ?c19 ?k19 ?a20 ?l20 ?c20 ?k20 ?a21 ?l21 ?c21 ?k21 ?a22 ?l22 ?c22 ?k22 ?a23 ?l23 ?c23 ?k23 ?a24 ?l24 ?c24 ?k24 ?a25 ?l25 ?c25 ?k25 ?a26 ?l26 ?c26 ?k26 ?a27 ?l27 ?c27 ?k27 ?a28 ?l28 ?c28 ?k28 ?a29 ?l29 ?c29 ?k29 ?a30 ?l30 ?c30 ?k30 ?a31 ?l31 ?c31 ?k31 ?a32 ?l32 ?c32 ?k32 ?a33 ?l33 ?c33 ?k33 ?a34 ?l34 ?c34 ?k34 ?a35 ?l35 ?c35 ?k35 ?a36 ?l36 ?c36 ?k36 ?a37 ?l37 ?c37 ?k37 ?z_abs ?z_all ?z_any ?z_bool ?z_dict ?z_int ?z_isinstance ?z_len ?z_list ?z_min ?z_range ?z_set ?z_sorted ?z_sum ?z_tuple ?z_zip ?g_MOST_LETTERS
    (case aC0 => k_is); (case pg0 => k_is); (case hd0 => k_is); (case po0 => k_is); (case sa0 => k_is); (case mk0 => k_is); (case kc0 => k_is); (case xc0 => k_is)
    (case xm0 => k_is); (case na0_0 => k_is); (case na0_1 => k_is); (case na0_2 => k_is); (case ka0_0 => k_is); (case ka0_1 => k_is); (case ka0_2 => k_is); (case ka0_3 => k_is)
    (case ka0_4 => k_is); (case kb0_0 => k_is); (case kb0_1 => k_is); (case kb0_2 => k_is); (case kb0_3 => k_is); (case kb0_4 => k_is); (case kb0_5 => k_is); (case kb0_6 => k_is)
    (case ic0 => k_is); (case tc0 => k_is); (case xs => k_is); (case xt => k_is); (case a0 => k_is); (case l0 => k_is); (case c0 => k_is); (case k0 => k_is); (case a1 => k_is)
    (case l1 => k_is); (case c1 => k_is); (case k1 => k_is); (case a2 => k_is); (case l2 => k_is); (case c2 => k_is); (case k2 => k_is); (case a3 => k_is); (case l3 => k_is)
    (case c3 => k_is); (case k3 => k_is); (case a4 => k_is); (case l4 => k_is); (case c4 => k_is); (case k4 => k_is); (case a5 => k_is); (case l5 => k_is); (case c5 => k_is)
    (case k5 => k_is); (case a6 => k_is); (case l6 => k_is); (case c6 => k_is); (case k6 => k_is); (case a7 => k_is); (case l7 => k_is); (case c7 => k_is); (case k7 => k_is)
    (case a8 => k_is); (case i8 => k_is); (case l8 => k_is); (case c8 => k_is); (case k8 => k_is); (case a9 => k_is); (case i9 => k_is); (case n9 => k_is); (case l9 => k_is)
    (case c9 => k_is); (case k9 => k_is); (case a10 => k_is); (case l10 => k_is); (case c10 => k_is); (case k10 => k_is); (case a11 => k_is); (case l11 => k_is)
    (case c11 => k_is); (case k11 => k_is); (case a12 => k_is); (case l12 => k_is); (case c12 => k_is); (case k12 => k_is); (case a13 => k_is); (case l13 => k_is)
    (case c13 => k_is); (case k13 => k_is); (case a14 => k_is); (case l14 => k_is); (case c14 => k_is); (case k14 => k_is); (case a15 => k_is); (case l15 => k_is)
    (case c15 => k_is); (case k15 => k_is); (case a16 => k_is); (case l16 => k_is); (case c16 => k_is); (case k16 => k_is); (case a17 => k_is); (case l17 => k_is)
    (case c17 => k_is); (case k17 => k_is); (case a18 => k_is); (case l18 => k_is); (case c18 => k_is); (case k18 => k_is); (case a19 => k_is); (case l19 => k_is)
    (case c19 => k_is); (case k19 => k_is); (case a20 => k_is); (case l20 => k_is); (case c20 => k_is); (case k20 => k_is); (case a21 => k_is); (case l21 => k_is)
    (case c21 => k_is); (case k21 => k_is); (case a22 => k_is); (case l22 => k_is); (case c22 => k_is); (case k22 => k_is); (case a23 => k_is); (case l23 => k_is)
    (case c23 => k_is); (case k23 => k_is); (case a24 => k_is); (case l24 => k_is); (case c24 => k_is); (case k24 => k_is); (case a25 => k_is); (case l25 => k_is)
    (case c25 => k_is); (case k25 => k_is); (case a26 => k_is); (case l26 => k_is); (case c26 => k_is); (case k26 => k_is); (case a27 => k_is); (case l27 => k_is)
    (case c27 => k_is); (case k27 => k_is); (case a28 => k_is); (case l28 => k_is); (case c28 => k_is); (case k28 => k_is); (case a29 => k_is); (case l29 => k_is)
    (case c29 => k_is); (case k29 => k_is); (case a30 => k_is); (case l30 => k_is); (case c30 => k_is); (case k30 => k_is); (case a31 => k_is); (case l31 => k_is)
    (case c31 => k_is); (case k31 => k_is); (case a32 => k_is); (case l32 => k_is); (case c32 => k_is); (case k32 => k_is); (case a33 => k_is); (case l33 => k_is)
    (case c33 => k_is); (case k33 => k_is); (case a34 => k_is); (case l34 => k_is); (case c34 => k_is); (case k34 => k_is); (case a35 => k_is); (case l35 => k_is)
    (case c35 => k_is); (case k35 => k_is); (case a36 => k_is); (case l36 => k_is); (case c36 => k_is); (case k36 => k_is); (case a37 => k_is); (case l37 => k_is)
    (case c37 => k_is); (case k37 => k_is); (case z_abs => k_is); (case z_all => k_is); (case z_any => k_is); (case z_bool => k_is); (case z_dict => k_is); (case z_int => k_is)
    (case z_isinstance => k_is); (case z_len => k_is); (case z_list => k_is); (case z_min => k_is); (case z_range => k_is); (case z_set => k_is); (case z_sorted => k_is)
    (case z_sum => k_is); (case z_tuple => k_is); (case z_zip => k_is); (case g_MOST_LETTERS => k_is)
