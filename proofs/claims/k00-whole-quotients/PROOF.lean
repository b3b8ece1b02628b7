import PyProof.Rows.All
import Wide.All
import OpenK.AllK
import Wide.FinOn
import HandS.ForMost
import HandS.ForExc
import HandS.IsInst
import HandS.Wide
import HandS.WideBits
import HandS.Gcd
import HandS.Conv
import HandS.TupAny
import HandS.Zip
import HandS.Walk
import HandS.Lambda
import HandS.ExcCtx
import HandS.Hot
import HandS.HotCalls
import HandS.Defaults
import HandS.Deep
import HandS.CallLocal
import HandS.Style
import HandS.ExcOwn
import HandS.WordsExc
import HandS.ExcIs
import KE.KStateDown
import HandS.Ends
import HandS.More
import HandS.Words
import HandS.Head0
import HandS.Head1
import HandS.Head2
import HandS.Head3
import HandS.HeadEnd
import HandS.HeadHook1
import HandS.HeadHook2
import HandS.HeadHook3
import HandS.HeadHook4
import HandS.HeadWalk
import HandS.EndTab
import PySem.Challenge.RW_mapsdrawn_k00_whole_quotients
set_option Elab.async false
set_option linter.all false
set_option maxRecDepth 100000
set_option maxHeartbeats 0
set_option exponentiation.threshold 20000
/-! Ev: a reckoner over plain values. PV: value trees; Rep: how they stand in a heap; slots owned or frozen. -/
namespace Ev
open PySem PySem.Spec PyProof.Rows L2

/-- plain values: trees -/
inductive PV where
  | non | bl (b : Bool) | int (i : Int) | str (s : Str)
  | tup (xs : List PV) | lst (xs : List PV) | scr (ns : List Int) | fn (f : Str)

/-- what is fixed through a law: the written part, the module's names, the tables of code objects -/
structure Wd where
  K : PySem.W.Frag
  mg : Str → Option Value
  T : List (Addr × Str)

mutual
def Rep (W : Wd) (F : Hp) : PV → V → Prop
  | .non, v => v = .non
  | .bl b, v => v = .bl b
  | .int i, v => v = .int i
  | .str s, v => v = .str s
  | .tup xs, v => ∃ a us, v = .ref a ∧ F a = some (.tup us) ∧ Reps W F xs us
  | .lst xs, v => ∃ a us, v = .ref a ∧ F a = some (.lst us) ∧ Reps W F xs us
  | .scr ns, v => ∃ a, v = .ref a ∧ SqL W.K F a (ns.map V.int)
  | .fn f, v => ∃ a, v = .ref a ∧ W.mg f = some (.ref a)
def Reps (W : Wd) (F : Hp) : List PV → List V → Prop
  | [], us => us = []
  | x :: xs, us => ∃ u r, us = u :: r ∧ Rep W F x u ∧ Reps W F xs r
end

variable {W : Wd}

mutual
theorem Rep.mono {F F' : Hp} (h : Same F F') : ∀ {x : PV} {v : V}, Rep W F x v → Rep W F' x v
  | .non, _, r => r
  | .bl _, _, r => r
  | .int _, _, r => r
  | .str _, _, r => r
  | .tup xs, _, ⟨a, us, e, q, r⟩ => ⟨a, us, e, h _ _ q, Reps.mono h r⟩
  | .lst xs, _, ⟨a, us, e, q, r⟩ => ⟨a, us, e, h _ _ q, Reps.mono h r⟩
  | .scr ns, _, ⟨a, e, q⟩ => ⟨a, e, h.seq q⟩
  | .fn _, _, r => r
theorem Reps.mono {F F' : Hp} (h : Same F F') : ∀ {xs : List PV} {us : List V}, Reps W F xs us → Reps W F' xs us
  | [], _, r => r
  | _ :: _, _, ⟨u, r, e, h1, h2⟩ => ⟨u, r, e, Rep.mono h h1, Reps.mono h h2⟩
end
theorem Reps.length {F : Hp} : ∀ {xs : List PV} {us : List V}, Reps W F xs us → xs.length = us.length
  | [], _, r => by cases r; rfl
  | _ :: xs, _, ⟨u, r, e, _, h2⟩ => by subst e; simp [Reps.length h2]
theorem Reps.get {F : Hp} : ∀ {xs : List PV} {us : List V} {i : Nat} {x : PV}, Reps W F xs us → xs[i]? = some x → ∃ u, us[i]? = some u ∧ Rep W F x u
  | [], _, i, x, _, e => by simp at e
  | _ :: xs, _, 0, x, ⟨u, r, e, h1, h2⟩, q => by subst e; simp at q; subst q; exact ⟨u, rfl, h1⟩
  | _ :: xs, _, i + 1, x, ⟨u, r, e, h1, h2⟩, q => by
    subst e
    obtain ⟨w, a, b⟩ := Reps.get (i := i) (x := x) h2 (by simpa using q)
    exact ⟨w, by simpa using a, b⟩
theorem Reps.app {F : Hp} : ∀ {xs ys : List PV} {us ws : List V}, Reps W F xs us → Reps W F ys ws → Reps W F (xs ++ ys) (us ++ ws)
  | [], _, _, _, h, k => by cases h; exact k
  | x :: xs, ys, _, ws, ⟨u, r, e, h1, h2⟩, k => by subst e; exact ⟨u, r ++ ws, rfl, h1, Reps.app h2 k⟩
theorem Reps.take {F : Hp} : ∀ {xs : List PV} {us : List V} (n : Nat), Reps W F xs us → Reps W F (xs.take n) (us.take n)
  | _, _, 0, _ => by simp [Reps]
  | [], _, n + 1, h => by cases h; simp [Reps]
  | x :: xs, _, n + 1, ⟨u, r, e, h1, h2⟩ => by subst e; exact ⟨u, r.take n, rfl, h1, Reps.take n h2⟩
theorem Reps.drop {F : Hp} : ∀ {xs : List PV} {us : List V} (n : Nat), Reps W F xs us → Reps W F (xs.drop n) (us.drop n)
  | _, _, 0, h => by simpa using h
  | [], _, n + 1, h => by cases h; simp [Reps]
  | x :: xs, _, n + 1, ⟨u, r, e, h1, h2⟩ => by subst e; simpa using Reps.drop n h2
theorem Reps.set {F : Hp} {y : PV} {w : V} (hy : Rep W F y w) : ∀ {xs : List PV} {us : List V} (n : Nat), Reps W F xs us → Reps W F (xs.set n y) (us.set n w)
  | [], _, _, h => by cases h; simp [Reps]
  | x :: xs, _, 0, ⟨u, r, e, h1, h2⟩ => by subst e; exact ⟨w, r, rfl, hy, h2⟩
  | x :: xs, _, n + 1, ⟨u, r, e, h1, h2⟩ => by subst e; exact ⟨u, r.set n w, rfl, h1, Reps.set hy n h2⟩
theorem Reps.one {F : Hp} {x : PV} {u : V} (h : Rep W F x u) : Reps W F [x] [u] := ⟨u, [], rfl, h, rfl⟩
theorem Reps.rev {F : Hp} : ∀ {xs : List PV} {us : List V}, Reps W F xs us → Reps W F xs.reverse us.reverse
  | [], _, h => by cases h; simp [Reps]
  | x :: xs, _, ⟨u, r, e, h1, h2⟩ => by
    subst e
    rw [List.reverse_cons, List.reverse_cons]
    exact Reps.app (Reps.rev h2) (Reps.one h1)
theorem Reps.rep {F : Hp} {xs : List PV} {us : List V} (h : Reps W F xs us) : ∀ k : Nat, Reps W F (List.replicate k xs).flatten (List.replicate k us).flatten
  | 0 => by simp [Reps]
  | k + 1 => by
    rw [List.replicate_succ, List.flatten_cons, List.replicate_succ, List.flatten_cons]
    exact Reps.app h (Reps.rep h k)

/-! ### slots -/
inductive Slot where
  | un | val (x : PV) | own (x : PV)
abbrev SE := List Slot
/-- a value that comes: frozen; new and nobody else's; what the slot i holds -/
inductive RV where
  | val (x : PV) | tmp (x : PV) | bor (i : Nat)

def ObjRep (W : Wd) (F : Hp) (o : Option HO) : PV → Prop
  | .lst xs => ∃ us, o = some (.lst us) ∧ Reps W F xs us
  | _ => False
theorem ObjRep.mono {F F' : Hp} (h : Same F F') {o : Option HO} {x : PV} (r : ObjRep W F o x) : ObjRep W F' o x := by
  cases x <;> try exact r.elim
  obtain ⟨us, e, q⟩ := r
  exact ⟨us, e, q.mono h⟩
def SlotOk (W : Wd) (F H : Hp) : Slot → Option V → Prop
  | .un, _ => True
  | .val x, o => ∃ v, o = some v ∧ Rep W F x v
  | .own x, o => ∃ a, o = some (.ref a) ∧ F a = none ∧ ObjRep W F (H a) x
def OwnA (ρ : SE) (σ : L2.St) (a : Addr) : Prop := ∃ (i : Nat) (x : PV), ρ[i]? = some (.own x) ∧ σ[i]? = some (some (.ref a))

structure EnvOk (W : Wd) (F H : Hp) (ρ : SE) (σ : L2.St) : Prop where
  le : Same F H
  nt : ∀ a ps, F a ≠ some (.tbl ps)
  len : ρ.length = σ.length
  at_ : ∀ (i : Nat) (s : Slot), ρ[i]? = some s → ∃ o, σ[i]? = some o ∧ SlotOk W F H s o
  apart : ∀ (i j : Nat) (x y : PV) (a : Addr), i ≠ j → ρ[i]? = some (.own x) → ρ[j]? = some (.own y) → σ[i]? = some (some (.ref a)) → σ[j]? = some (some (.ref a)) → False

/-- nothing but a table stands at a -/
def Fresh (H : Hp) (a : Addr) : Prop := ∀ o, H a = some o → ∃ ps, o = HO.tbl ps
theorem Fresh.of {H : Hp} {a : Addr} (h : H a = none) : Fresh H a := fun o e => by rw [h] at e; cases e
theorem Fresh.no {H : Hp} {a : Addr} {o : HO} (f : Fresh H a) (h : H a = some o) (nt : ∀ ps, o ≠ .tbl ps) : False := by
  obtain ⟨ps, e⟩ := f o h
  exact nt ps e
/-- what may happen between two points of a def's body -/
structure Step (W : Wd) (F H : Hp) (ρ : SE) (σ : L2.St) (F' H' : Hp) (ρ' : SE) (σ' : L2.St) : Prop where
  le : Same F F'
  keep : ∀ a o, H a = some o → (∀ ps, o ≠ .tbl ps) → ¬ OwnA ρ σ a → H' a = some o
  live : ∀ a, Fresh H' a → Fresh H a
  new : ∀ a, F a = none → F' a ≠ none → Fresh H a ∨ OwnA ρ σ a
  own : ∀ a, OwnA ρ' σ' a → OwnA ρ σ a ∨ Fresh H a
  tabs : LamX.Tabs W.T H → LamX.Tabs W.T H'

theorem Step.refl {F H : Hp} {ρ : SE} {σ : L2.St} : Step W F H ρ σ F H ρ σ :=
  ⟨Same.refl F, fun _ _ h _ _ => h, fun _ h => h, fun _ h k => absurd h k, fun _ h => .inl h, fun h => h⟩
theorem Step.trans {F H F1 H1 F2 H2 : Hp} {ρ ρ1 ρ2 : SE} {σ σ1 σ2 : L2.St} (s : Step W F H ρ σ F1 H1 ρ1 σ1) (t : Step W F1 H1 ρ1 σ1 F2 H2 ρ2 σ2) : Step W F H ρ σ F2 H2 ρ2 σ2 where
  le := s.le.trans t.le
  keep := fun a o h hT hn => t.keep a o (s.keep a o h hT hn) hT fun hq => (s.own a hq).elim hn fun z => z.no h hT
  live := fun a h => s.live a (t.live a h)
  new := fun a h k => by
    by_cases e : F1 a = none
    · rcases t.new a e k with z | z
      · exact .inl (s.live a z)
      · exact (s.own a z).symm
    · exact s.new a h e
  own := fun a h => by
    rcases t.own a h with z | z
    · exact s.own a z
    · exact .inr (s.live a z)
  tabs := fun h => t.tabs (s.tabs h)

def RvOk (W : Wd) (F H : Hp) (ρ : SE) (σ : L2.St) : RV → V → Prop
  | .val x, v => Rep W F x v
  | .tmp x, v => ∃ a, v = .ref a ∧ F a = none ∧ ¬ OwnA ρ σ a ∧ ObjRep W F (H a) x
  | .bor i, v => σ[i]? = some (some v)
theorem ObjRep.there {F : Hp} {o : Option HO} {x : PV} (r : ObjRep W F o x) : ∃ u, o = some u ∧ ∀ ps, u ≠ .tbl ps := by
  cases x <;> try exact r.elim
  obtain ⟨us, e, q⟩ := r
  exact ⟨_, e, fun ps z => by cases z⟩
/-- what has come stays, whatever an expression does -/
theorem RvOk.stay {F H F1 H1 : Hp} {ρ ρ1 : SE} {σ : L2.St} (s : Step W F H ρ σ F1 H1 ρ1 σ) {r : RV} {v : V} (h : RvOk W F H ρ σ r v) : RvOk W F1 H1 ρ1 σ r v := by
  cases r with
  | val x => exact Rep.mono s.le h
  | bor i => exact h
  | tmp x =>
    obtain ⟨a, e, h1, h2, h3⟩ := h
    obtain ⟨u, q, nt⟩ := h3.there
    have k := s.keep a u q nt h2
    refine ⟨a, e, ?_, fun z => ?_, ?_⟩
    · cases e1 : F1 a with
      | none => rfl
      | some o =>
        rcases s.new a h1 (by rw [e1]; simp) with z | z
        · exact (z.no q nt).elim
        · exact absurd z h2
    · rcases s.own a z with z | z
      · exact h2 z
      · exact z.no q nt
    · rw [k]
      rw [q] at h3
      exact h3.mono s.le

def rd (ρ : SE) : RV → Option PV
  | .val x => some x
  | .tmp x => some x
  | .bor i => match ρ[i]? with
    | some (.val x) => some x
    | some (.own x) => some x
    | _ => none
def fz (ρ : SE) : RV → Option (SE × PV)
  | .val x => some (ρ, x)
  | .tmp x => some (ρ, x)
  | .bor i => match ρ[i]? with
    | some (.val x) => some (ρ, x)
    | some (.own x) => some (ρ.set i (.val x), x)
    | _ => none

/-- how a value may be read now -/
def RdOk (W : Wd) (F H : Hp) : PV → V → Prop
  | .lst xs, v => ∃ a us, v = .ref a ∧ H a = some (.lst us) ∧ Reps W F xs us
  | x, v => Rep W F x v
theorem RdOk.of {F H : Hp} (le : Same F H) {x : PV} {v : V} (r : Rep W F x v) : RdOk W F H x v := by
  cases x <;> try exact r
  obtain ⟨a, us, e, q, z⟩ := r
  exact ⟨a, us, e, le _ _ q, z⟩
theorem RdOk.obj {F H : Hp} {x : PV} {a : Addr} (r : ObjRep W F (H a) x) : RdOk W F H x (.ref a) := by
  cases x <;> try exact r.elim
  obtain ⟨us, e, q⟩ := r
  exact ⟨a, us, rfl, e, q⟩
theorem rd_ok {F H : Hp} {ρ : SE} {σ : L2.St} (en : EnvOk W F H ρ σ) {r : RV} {v : V} {x : PV} (h : RvOk W F H ρ σ r v) (e : rd ρ r = some x) : RdOk W F H x v := by
  cases r with
  | val y => cases e; exact RdOk.of en.le h
  | tmp y =>
    cases e
    obtain ⟨a, rfl, _, _, q⟩ := h
    exact RdOk.obj q
  | bor i =>
    have hv : σ[i]? = some (some v) := h
    unfold rd at e
    dsimp only at e
    split at e
    · rename_i z hz
      cases e
      obtain ⟨o, ho, q⟩ := en.at_ i _ hz
      rw [hv] at ho; cases ho
      obtain ⟨w, e1, q⟩ := q
      cases e1
      exact RdOk.of en.le q
    · rename_i z hz
      cases e
      obtain ⟨o, ho, q⟩ := en.at_ i _ hz
      rw [hv] at ho; cases ho
      obtain ⟨a, e1, _, q⟩ := q
      cases e1
      exact RdOk.obj q
    · cases e

/-- freezing the object at a -/
theorem frz_step {F H : Hp} {ρ : SE} {σ : L2.St} {o : HO} {a : Addr} (hF : F a = none) (hH : H a = some o) : Same F (upd F a o) ∧ (∀ b u, upd F a o b = some u → F b = some u ∨ (b = a ∧ u = o)) := by
  refine ⟨fun b u e => ?_, fun b u e => ?_⟩
  · rw [upd_ne (fun z => by rw [z, hF] at e; cases e)]
    exact e
  · by_cases hb : b = a
    · subst hb
      rw [upd_same] at e
      cases e
      exact .inr ⟨rfl, rfl⟩
    · rw [upd_ne hb] at e
      exact .inl e
theorem objRep_rep {F H : Hp} {a : Addr} {x : PV} (hF : F a = none) (r : ObjRep W F (H a) x) : ∃ o, H a = some o ∧ (∀ ps, o ≠ .tbl ps) ∧ Rep W (upd F a o) x (.ref a) := by
  cases x <;> try exact r.elim
  obtain ⟨us, e, q⟩ := r
  refine ⟨_, e, (fun ps z => by cases z), a, us, rfl, upd_same, q.mono fun b u e => ?_⟩
  rw [upd_ne (fun z => by rw [z, hF] at e; cases e)]
  exact e
theorem EnvOk.frzTmp {F H : Hp} {ρ : SE} {σ : L2.St} (en : EnvOk W F H ρ σ) {a : Addr} {o : HO} (hF : F a = none) (hH : H a = some o) (nt : ∀ ps, o ≠ .tbl ps) (no : ¬ OwnA ρ σ a) : EnvOk W (upd F a o) H ρ σ := by
  obtain ⟨h1, h2⟩ := frz_step (ρ := ρ) (σ := σ) hF hH
  refine ⟨fun b u e => ?_, fun b ps e => ?_, en.len, fun i s hs => ?_, en.apart⟩
  · rcases h2 b u e with z | ⟨rfl, rfl⟩
    · exact en.le b u z
    · exact hH
  · rcases h2 b _ e with z | ⟨rfl, z⟩
    · exact en.nt b ps z
    · exact nt ps z.symm
  · obtain ⟨v, hv, q⟩ := en.at_ i s hs
    refine ⟨v, hv, ?_⟩
    cases s with
    | un => trivial
    | val x => obtain ⟨w, e, q⟩ := q; exact ⟨w, e, q.mono h1⟩
    | own x =>
      obtain ⟨b, e, q1, q2⟩ := q
      refine ⟨b, e, ?_, q2.mono h1⟩
      rw [upd_ne]
      · exact q1
      · rintro rfl
        exact no ⟨i, x, hs, by rw [hv, e]⟩
/-- a new object that comes is new since H -/
def New (H : Hp) : RV → V → Prop
  | .tmp _, v => ∀ a, v = .ref a → Fresh H a
  | _, _ => True
theorem New.back {F H F1 H1 : Hp} {ρ ρ1 : SE} {σ σ1 : L2.St} (s : Step W F H ρ σ F1 H1 ρ1 σ1) {r : RV} {v : V} (n : New H1 r v) : New H r v := by
  cases r <;> first | trivial | exact fun a e => s.live a (n a e)
theorem set_own {ρ : SE} {i j : Nat} {y x : PV} (h : (ρ.set i (.val y))[j]? = some (.own x)) : i ≠ j ∧ ρ[j]? = some (.own x) := by
  by_cases e : i = j
  · subst e
    by_cases hi : i < ρ.length
    · rw [List.getElem?_set_self hi] at h; cases h
    · rw [List.getElem?_eq_none (by simpa using hi)] at h; cases h
  · rw [List.getElem?_set_ne e] at h
    exact ⟨e, h⟩
/-- a value is frozen: it may be kept anywhere from now on -/
theorem fz_ok {F0 H0 : Hp} {ρ0 : SE} {σ0 : L2.St} {F H : Hp} {ρ ρ' : SE} {σ : L2.St} (st : Step W F0 H0 ρ0 σ0 F H ρ σ) (en : EnvOk W F H ρ σ) {r : RV} {v : V} {x : PV} (h : RvOk W F H ρ σ r v) (nw : New H0 r v) (e : fz ρ r = some (ρ', x)) :
    ∃ F', Step W F0 H0 ρ0 σ0 F' H ρ' σ ∧ EnvOk W F' H ρ' σ ∧ Rep W F' x v ∧ ∀ y w, RvOk W F H ρ σ (.tmp y) w → ((∃ z, r = .tmp z) → w ≠ v) → RvOk W F' H ρ' σ (.tmp y) w := by
  cases r with
  | val y => cases e; exact ⟨F, st, en, h, fun _ _ h _ => h⟩
  | tmp y =>
    cases e
    obtain ⟨a, rfl, hF, no, q⟩ := h
    obtain ⟨o, hH, nt, rp⟩ := objRep_rep hF q
    obtain ⟨h1, h2⟩ := frz_step (H := H) (ρ := ρ) (σ := σ) hF hH
    refine ⟨upd F a o, ⟨st.le.trans h1, st.keep, st.live, fun b hb k => ?_, st.own, st.tabs⟩, en.frzTmp hF hH nt no, rp, fun y w ⟨b, e, g1, g2, g3⟩ hne => ⟨b, e, by rw [upd_ne (fun z => hne ⟨_, rfl⟩ (by rw [e, z]))]; exact g1, g2, g3.mono h1⟩⟩
    by_cases hba : b = a
    · subst hba
      exact .inl (nw b rfl)
    · rw [upd_ne hba] at k
      exact st.new b hb k
  | bor i =>
    have hv : σ[i]? = some (some v) := h
    unfold fz at e
    dsimp only at e
    split at e
    · rename_i z hz
      cases e
      obtain ⟨o, ho, q⟩ := en.at_ i _ hz
      rw [hv] at ho; cases ho
      obtain ⟨w, e1, q⟩ := q
      cases e1
      exact ⟨F, st, en, q, fun _ _ h _ => h⟩
    · rename_i z hz
      cases e
      obtain ⟨o, ho, q⟩ := en.at_ i _ hz
      rw [hv] at ho; cases ho
      obtain ⟨a, e1, hF, q⟩ := q
      cases e1
      obtain ⟨o, hH, nt, rp⟩ := objRep_rep hF q
      obtain ⟨h1, h2⟩ := frz_step (H := H) (ρ := ρ) (σ := σ) hF hH
      have hi : i < ρ.length := (List.getElem?_eq_some_iff.mp hz).1
      have own' : ∀ b, OwnA (ρ.set i (.val x)) σ b → OwnA ρ σ b := fun b ⟨j, y, hj, hs⟩ => ⟨j, y, (set_own hj).2, hs⟩
      refine ⟨upd F a o, ⟨st.le.trans h1, st.keep, st.live, fun b hb k => ?_, fun b hb => st.own b (own' b hb), st.tabs⟩, ⟨fun b u e => ?_, fun b ps e => ?_, by rw [List.length_set]; exact en.len, fun j s hs => ?_, fun j k y y' b hjk h3 h4 h5 h6 => ?_⟩, rp, fun y w ⟨b, e, g1, g2, g3⟩ hne => ⟨b, e, by rw [upd_ne (fun z => g2 ⟨i, x, hz, by rw [z]; exact hv⟩)]; exact g1, fun z => g2 (own' b z), g3.mono h1⟩⟩
      · by_cases hba : b = a
        · subst hba
          exact (st.own b ⟨i, x, hz, hv⟩).symm
        · rw [upd_ne hba] at k
          exact st.new b hb k
      · rcases h2 b u e with z | ⟨rfl, rfl⟩
        · exact en.le b u z
        · exact hH
      · rcases h2 b _ e with z | ⟨rfl, z⟩
        · exact en.nt b ps z
        · exact nt ps z.symm
      · by_cases hij : i = j
        · subst hij
          rw [List.getElem?_set_self hi] at hs
          cases hs
          exact ⟨_, hv, _, rfl, rp⟩
        · rw [List.getElem?_set_ne hij] at hs
          obtain ⟨u, hu, q2⟩ := en.at_ j s hs
          refine ⟨u, hu, ?_⟩
          cases s with
          | un => trivial
          | val y => obtain ⟨w, e, q⟩ := q2; exact ⟨w, e, q.mono h1⟩
          | own y =>
            obtain ⟨b, e, q3, q4⟩ := q2
            refine ⟨b, e, ?_, q4.mono h1⟩
            rw [upd_ne]
            · exact q3
            · rintro rfl
              exact en.apart i j _ _ _ hij hz hs hv (by rw [hu, e])
      · exact en.apart j k y y' b hjk (set_own h3).2 (set_own h4).2 h5 h6
    · cases e
end Ev
namespace Ev
open PySem PySem.Spec PyProof.Rows L2

/-- targets -/
inductive Tg where
  | nam (i : Nat) | nil | cons (t ts : Tg) | tup (ts : Tg)
def Tg.n : Tg → Nat
  | .cons _ ts => ts.n + 1
  | _ => 0
/-- expressions over slots; tests begin with t; iterables: it, rng, zip, enu -/
inductive E where
  | non | bl (b : Bool) | int (i : Int) | str (s : Str)
  | var (i : Nat) | glo (x : Str)
  | bin (op : Operator) (a b : E) | neg (a : E)
  | not (a : E) | and (a b : E) | or (a b : E)
  | cmp (op : CmpOp) (a b : E) | cmp2 (op op' : CmpOp) (a b c : E)
  | ite (c a b : E)
  | tup (es : E) | lst (es : E)
  | ix (a i : E) | sl (a lo hi : E) | rev (a : E)
  | call (f : Str) (es : E) | blt (f : Str) (es : E) | isi (a : E) (t : String)
  | cvr (i : Nat) (es : E)
  | pop (i : Nat) (e : E) | app (i : Nat) (e : E)
  | lc (elt : E) (tg : Tg) (it cond : E) (vs : List Nat)
  | lam (f : Str) (body : E)
  | noe | nil | cons (e es : E)
  | tv (e : E) | tn (a : E) | ta (a b : E) | to (a b : E)
  | it (e : E) | rng (a b : E) | zip (a b : E) | enu (a : E)
inductive S where
  | set (i : Nat) (e : E) | tup (g : Tg) (e : E) | par (i j : Nat) (a b : E)
  | seti (i : Nat) (k e : E)
  | expr (e : E) | ret (e : E) | if_ (c : E) (a b : S) | for_ (g : Tg) (it : E) (b : S) | while_ (c : E) (b : S)
  | raise (c : Str) | brk | cnt | nil | cons (s ss : S)

abbrev FnS := List Slot → (Bool → PV → List Slot → Prop) → (Str → Prop) → Prop
structure Tbl where
  con : Str → Option PV
  fn : Str → Option FnS
  lam : Str → Option (Option Str → Option PV)

/-! ### data -/
mutual
def toD : PV → PyData
  | .non => .none
  | .bl b => .bool b
  | .int i => .int i
  | .str s => .str s
  | .tup xs => .tuple (toDs xs)
  | .lst xs => .list (toDs xs)
  | .scr ns => .list (ns.map PyData.int)
  | .fn _ => .none
def toDs : List PV → List PyData
  | [] => []
  | x :: xs => toD x :: toDs xs
end
mutual
def dat : PV → Bool
  | .tup xs => dats xs
  | .lst xs => dats xs
  | .scr _ => false
  | .fn _ => false
  | _ => true
def dats : List PV → Bool
  | [] => true
  | x :: xs => dat x && dats xs
end
/-- may be compared -/
def cmpOk (x : PV) : Prop := dat x = true ∧ SeqAt.shaped (toD x) = true
def peq (x y : PV) : Bool := PyData.eqv (toD x) (toD y)
def flatP : PV → Bool
  | .non | .bl _ | .int _ | .str _ => true
  | _ => false

def MulOk (i j : Int) : Prop := i.natAbs.log2 + j.natAbs.log2 < 100000000
def DivOk (j : Int) : Prop := j ≠ 0 ∧ j.natAbs.log2 < 9000
def binW : Operator → PV → PV → (RV → Prop) → Prop
  | .Add, .int i, .int j, Q => Q (.val (.int (i + j)))
  | .Sub, .int i, .int j, Q => Q (.val (.int (i - j)))
  | .Mult, .int i, .int j, Q => MulOk i j ∧ Q (.val (.int (i * j)))
  | .FloorDiv, .int i, .int j, Q => DivOk j ∧ Q (.val (.int (i.fdiv j)))
  | .Mod, .int i, .int j, Q => j ≠ 0 ∧ Q (.val (.int (i.fmod j)))
  | .Pow, .int i, .int j, Q => CPow i j ∧ Q (.val (.int (i ^ j.toNat)))
  | .Add, .lst xs, .lst ys, Q => xs.length + ys.length ≤ sizeLine ∧ Q (.tmp (.lst (xs ++ ys)))
  | .Add, .tup xs, .tup ys, Q => xs.length + ys.length ≤ sizeLine ∧ Q (.val (.tup (xs ++ ys)))
  | .Add, .str a, .str b, Q => a.length + b.length ≤ sizeLine ∧ Q (.val (.str (a ++ b)))
  | .Mult, .lst xs, .int k, Q => (-(2 ^ 63) ≤ k ∧ k < 2 ^ 63 ∧ xs.length * k.toNat ≤ sizeLine) ∧ Q (.tmp (.lst (List.replicate k.toNat xs).flatten))
  | _, _, _, _ => False
def isNon : PV → Bool
  | .non => true
  | _ => false
def cmpW : CmpOp → PV → PV → (Bool → Prop) → Prop
  | .Lt, .int i, .int j, Q => Q (decide (i < j))
  | .LtE, .int i, .int j, Q => Q (decide (i ≤ j))
  | .Gt, .int i, .int j, Q => Q (decide (j < i))
  | .GtE, .int i, .int j, Q => Q (decide (j ≤ i))
  | .Eq, x, y, Q => cmpOk x ∧ cmpOk y ∧ Q (peq x y)
  | .NotEq, x, y, Q => cmpOk x ∧ cmpOk y ∧ Q (!peq x y)
  | .Is, x, .non, Q => Q (isNon x)
  | .IsNot, x, .non, Q => Q (!isNon x)
  | .In, x, .tup ys, Q => flatP x = true ∧ ys.all flatP = true ∧ Q (ys.any fun y => peq y x)
  | .NotIn, x, .tup ys, Q => flatP x = true ∧ ys.all flatP = true ∧ Q (!ys.any fun y => peq y x)
  | .In, x, .lst ys, Q => cmpOk x ∧ cmpOk (.lst ys) ∧ Q (ys.any fun y => peq y x)
  | .NotIn, x, .lst ys, Q => cmpOk x ∧ cmpOk (.lst ys) ∧ Q (!ys.any fun y => peq y x)
  | _, _, _, _ => False
def atP (xs : List PV) (i : Int) : Option PV := atI xs i
def ixW : PV → PV → (RV → Prop) → Prop
  | .lst xs, .int i, Q => ∃ x, atI xs i = some x ∧ Q (.val x)
  | .tup xs, .int i, Q => ∃ x, atI xs i = some x ∧ Q (.val x)
  | _, _, _ => False
def cutP (xs : List PV) (lo hi : Option Int) : List PV := (xs.drop (HT.sIx xs.length 0 lo)).take (HT.sIx xs.length xs.length hi - HT.sIx xs.length 0 lo)
def slW : PV → Option Int → Option Int → (RV → Prop) → Prop
  | .lst xs, lo, hi, Q => Q (.tmp (.lst (cutP xs lo hi)))
  | .tup xs, lo, hi, Q => Q (.val (.tup (cutP xs lo hi)))
  | _, _, _, _ => False
def tyN : PV → String
  | .non => "NoneType" | .bl _ => "bool" | .int _ => "int" | .str _ => "str" | .tup _ => "tuple" | .lst _ => "list" | .scr _ => "list" | .fn _ => "function"
def tyOk : PV → Bool
  | .fn _ => false
  | .scr _ => false
  | _ => true
def isiW (x : PV) (t : String) (Q : Bool → Prop) : Prop := tyOk x = true ∧ ∃ b, kitB (tyN x) t = some b ∧ Q b
def allBl : List PV → Option (List Bool)
  | [] => some []
  | .bl b :: xs => (allBl xs).map (b :: ·)
  | _ => none
def allInt : List PV → Option (List Int)
  | [] => some []
  | .int b :: xs => (allInt xs).map (b :: ·)
  | _ => none
def lenP : PV → Option Nat
  | .tup xs => some xs.length
  | .lst xs => some xs.length
  | _ => none
def bltW (f : Str) (xs : List PV) (Q : RV → Prop) : Prop :=
  if f = "len" then match xs with | [x] => (match lenP x with | some n => Q (.val (.int n)) | none => False) | _ => False
  else if f = "abs" then match xs with | [.int i] => Q (.val (.int (if i < 0 then -i else i))) | _ => False
  else if f = "int" then match xs with | [.int i] => Q (.val (.int i)) | _ => False
  else if f = "gcd" then match xs with | [.int i, .int j] => Q (.val (.int ((Nat.gcd i.natAbs j.natAbs : Nat) : Int))) | _ => False
  else if f = "list" then match xs with | [.scr ns] => Q (.tmp (.lst (ns.map PV.int))) | [.lst ys] => Q (.tmp (.lst ys)) | [.tup ys] => Q (.tmp (.lst ys)) | _ => False
  else if f = "tuple" then match xs with | [.lst ys] => Q (.val (.tup ys)) | [.tup ys] => Q (.val (.tup ys)) | _ => False
  else False

/-! ### slots that are handed on -/
def argOf (ρ : SE) : RV → Option Slot
  | .val x => some (.val x)
  | .tmp _ => none
  | .bor i => match ρ[i]? with
    | some (.val x) => some (.val x)
    | some (.own x) => some (.own x)
    | _ => none
def argsOf (ρ : SE) : List RV → Option (List Slot)
  | [] => some []
  | r :: rs => match argOf ρ r, argsOf ρ rs with
    | some s, some ss => some (s :: ss)
    | _, _ => none
/-- what the callee has left of what it was lent -/
def backs : SE → List RV → List Slot → SE
  | ρ, .bor i :: rs, s :: ss => backs (ρ.set i s) rs ss
  | ρ, _ :: rs, _ :: ss => backs ρ rs ss
  | ρ, _, _ => ρ
def loses (ρ : SE) (rs : List RV) : SE := backs ρ rs (List.replicate rs.length .un)
def bors : List RV → List Nat
  | .bor i :: rs => i :: bors rs
  | _ :: rs => bors rs
  | [] => []
def wipeE (ρ : SE) : List Nat → SE
  | [] => ρ
  | v :: vs => (wipeE ρ vs).set v .un
def restE (ρ0 ρ : SE) : List Nat → SE
  | [] => ρ
  | v :: vs => (restE ρ0 ρ vs).set v (ρ0.getD v .un)

def isOwnL (ρ : SE) (i : Nat) : Bool := match ρ[i]? with
  | some (.own (.lst _)) => true
  | _ => false
def rdK (ρ : SE) (r : RV) (Q : PV → Prop) : Prop := match rd ρ r with
  | some x => Q x
  | none => False
def fzK (ρ : SE) (r : RV) (Q : SE → PV → Prop) : Prop := match fz ρ r with
  | some (ρ', x) => Q ρ' x
  | none => False
def rdsK (ρ : SE) : List RV → (List PV → Prop) → Prop
  | [], Q => Q []
  | r :: rs, Q => rdK ρ r fun x => rdsK ρ rs fun xs => Q (x :: xs)
def loopC (step : PV → SE → (SE → Option PV → Prop) → Prop) : List PV → SE → List PV → (SE → List PV → Prop) → Prop
  | [], ρ, acc, Q => Q ρ acc
  | y :: ys, ρ, acc, Q => step y ρ fun ρ' o => match o with
    | some x => acc.length < sizeLine ∧ loopC step ys ρ' (acc ++ [x]) Q
    | none => loopC step ys ρ' acc Q
/-- a value goes to the slot i -/
def stW (i : Nat) (r : RV) (ρ : SE) (Q : SE → Prop) : Prop := match r with
  | .tmp x => Q (ρ.set i (.own x))
  | .val x => Q (ρ.set i (.val x))
  | .bor j => fzK ρ (.bor j) fun ρ2 x => Q (ρ2.set i (.val x))
/-- a lent value is frozen -/
def nbW (ρ : SE) (r : RV) (Q : SE → RV → Prop) : Prop := match r with
  | .bor j => fzK ρ (.bor j) fun ρ2 x => Q ρ2 (.val x)
  | .val x => Q ρ (.val x)
  | .tmp x => Q ρ (.tmp x)
structure Out where
  nx : SE → Prop
  rt : SE → RV → Prop
  bk : SE → Prop := fun _ => False
  ct : SE → Prop := fun _ => False
def loopF (body : PV → SE → Out → Prop) : List PV → SE → Out → Prop
  | [], ρ, D => D.nx ρ
  | y :: ys, ρ, D => body y ρ { nx := fun ρ' => loopF body ys ρ' D, ct := fun ρ' => loopF body ys ρ' D, bk := D.nx, rt := D.rt }
def loopW (test : SE → (SE → Bool → Prop) → Prop) (body : SE → Out → Prop) : Nat → SE → Out → Prop
  | 0, _, _ => False
  | n + 1, ρ, D => test ρ fun ρ1 k => if k = true then body ρ1 { nx := fun ρ' => loopW test body n ρ' D, ct := fun ρ' => loopW test body n ρ' D, bk := D.nx, rt := D.rt } else D.nx ρ1
def items : PV → Option (List PV)
  | .lst xs => some xs
  | .tup xs => some xs
  | _ => none
def same2 : PV → PV → Option (List PV × List PV)
  | .lst xs, .lst ys => some (xs, ys)
  | .tup xs, .tup ys => some (xs, ys)
  | _, _ => none
def zipP : List PV → List PV → List PV
  | x :: xs, y :: ys => .tup [x, y] :: zipP xs ys
  | _, _ => []
def enuP : Nat → List PV → List PV
  | _, [] => []
  | n, x :: xs => .tup [.int n, x] :: enuP (n + 1) xs
def rngP (a b : Int) : List PV := (List.range (b - a).toNat).map fun (k : Nat) => PV.int (a + k)

section
variable (Φ : Tbl) (par : Nat → Bool)
mutual
def wG : Tg → PV → SE → (SE → Prop) → Prop
  | .nam i, x, ρ, Q => par i = false ∧ Q (ρ.set i (.val x))
  | .tup ts, .tup xs, ρ, Q => xs.length = ts.n ∧ wGs ts xs ρ Q
  | _, _, _, _ => False
def wGs : Tg → List PV → SE → (SE → Prop) → Prop
  | .nil, [], ρ, Q => Q ρ
  | .cons t ts, x :: xs, ρ, Q => wG t x ρ fun ρ1 => wGs ts xs ρ1 Q
  | _, _, _, _ => False
end
abbrev XS := SE → Str → Prop
mutual
def wE : E → XS → SE → (SE → RV → Prop) → Prop
  | .non, _, ρ, Q => Q ρ (.val .non)
  | .bl b, _, ρ, Q => Q ρ (.val (.bl b))
  | .int i, _, ρ, Q => Q ρ (.val (.int i))
  | .str s, _, ρ, Q => Q ρ (.val (.str s))
  | .var i, _, ρ, Q => match ρ[i]? with
    | some (.val x) => Q ρ (.val x)
    | some (.own _) => Q ρ (.bor i)
    | _ => False
  | .glo x, _, ρ, Q => match Φ.con x with
    | some v => Q ρ (.val v)
    | none => False
  | .bin op a b, X, ρ, Q => wE a X ρ fun ρ1 r1 => wE b X ρ1 fun ρ2 r2 => rdK ρ2 r1 fun x => rdK ρ2 r2 fun y => binW op x y (Q ρ2)
  | .neg a, X, ρ, Q => wE a X ρ fun ρ1 r => rdK ρ1 r fun x => match x with
    | .int i => Q ρ1 (.val (.int (-i)))
    | _ => False
  | .not a, X, ρ, Q => wE a X ρ fun ρ1 r => rdK ρ1 r fun x => match x with
    | .bl k => Q ρ1 (.val (.bl (!k)))
    | _ => False
  | .and a b, X, ρ, Q => wE a X ρ fun ρ1 r => rdK ρ1 r fun x => match x with
    | .bl k => if k = true then wE b X ρ1 Q else Q ρ1 (.val (.bl false))
    | _ => False
  | .or a b, X, ρ, Q => wE a X ρ fun ρ1 r => rdK ρ1 r fun x => match x with
    | .bl k => if k = true then Q ρ1 (.val (.bl true)) else wE b X ρ1 Q
    | _ => False
  | .cmp op a b, X, ρ, Q => wE a X ρ fun ρ1 r1 => wE b X ρ1 fun ρ2 r2 => rdK ρ2 r1 fun x => rdK ρ2 r2 fun y => cmpW op x y fun k => Q ρ2 (.val (.bl k))
  | .cmp2 op op' a b c, X, ρ, Q => wE a X ρ fun ρ1 r1 => wE b X ρ1 fun ρ2 r2 => rdK ρ2 r1 fun x => rdK ρ2 r2 fun y => cmpW op x y fun k =>
      if k = true then wE c X ρ2 fun ρ3 r3 => rdK ρ3 r2 fun y' => rdK ρ3 r3 fun z => cmpW op' y' z fun k' => Q ρ3 (.val (.bl k')) else Q ρ2 (.val (.bl false))
  | .ite c a b, X, ρ, Q => wT c X ρ fun ρ1 k => if k = true then wE a X ρ1 Q else wE b X ρ1 Q
  | .tup es, X, ρ, Q => wEs es X ρ fun ρ1 xs => xs.length ≤ sizeLine ∧ Q ρ1 (.val (.tup xs))
  | .lst es, X, ρ, Q => wEs es X ρ fun ρ1 xs => xs.length ≤ sizeLine ∧ Q ρ1 (.tmp (.lst xs))
  | .ix a i, X, ρ, Q => wE a X ρ fun ρ1 r1 => wE i X ρ1 fun ρ2 r2 => rdK ρ2 r1 fun x => rdK ρ2 r2 fun y => ixW x y (Q ρ2)
  | .sl a lo hi, X, ρ, Q => wE a X ρ fun ρ1 r1 => wO lo X ρ1 fun ρ2 l => wO hi X ρ2 fun ρ3 h => rdK ρ3 r1 fun x => slW x l h (Q ρ3)
  | .rev a, X, ρ, Q => wE a X ρ fun ρ1 r => rdK ρ1 r fun x => match x with
    | .lst xs => Q ρ1 (.tmp (.lst xs.reverse))
    | _ => False
  | .call f es, X, ρ, Q => wAs es X ρ fun ρ1 rs => match Φ.fn f, argsOf ρ1 rs with
    | some S, some ss => (bors rs).Nodup ∧ S ss (fun fr x os => Q (backs ρ1 rs os) (if fr = true then .tmp x else .val x)) (fun c => X (loses ρ1 rs) c)
    | _, _ => False
  | .cvr i es, X, ρ, Q => match ρ[i]? with
    | some (.val (.fn f)) => (match Φ.fn f with
      | some S => wAs es X ρ fun ρ1 rs => match argsOf ρ1 rs with
        | some ss => (bors rs).Nodup ∧ S ss (fun fr x os => Q (backs ρ1 rs os) (if fr = true then .tmp x else .val x)) (fun c => X (loses ρ1 rs) c)
        | none => False
      | none => False)
    | _ => False
  | .blt f es, X, ρ, Q => wAs es X ρ fun ρ1 rs => rdsK ρ1 rs fun xs => bltW f xs (Q ρ1)
  | .isi a t, X, ρ, Q => wE a X ρ fun ρ1 r => rdK ρ1 r fun x => isiW x t fun k => Q ρ1 (.val (.bl k))
  | .app i e, X, ρ, Q => isOwnL ρ i = true ∧ wE e X ρ fun ρ1 r => fzK ρ1 r fun ρ2 x => match ρ2[i]? with
    | some (.own (.lst xs)) => xs.length < sizeLine ∧ Q (ρ2.set i (.own (.lst (xs ++ [x])))) (.val .non)
    | _ => False
  | .pop i e, X, ρ, Q => isOwnL ρ i = true ∧ wO e X ρ fun ρ1 o => match ρ1[i]? with
    | some (.own (.lst xs)) => (match o with
      | none => ∃ y, xs[xs.length - 1]? = some y ∧ Q (ρ1.set i (.own (.lst xs.dropLast))) (.val y)
      | some k => (-(2 ^ 63) ≤ k ∧ k < 2 ^ 63) ∧ ∃ j y, ixN xs.length k = some j ∧ xs[j]? = some y ∧ Q (ρ1.set i (.own (.lst (xs.eraseIdx j)))) (.val y))
    | _ => False
  | .lc elt tg it cond vs, X, ρ, Q => wI it X ρ fun ρ1 ys => loopC (fun y ρ2 R => wG par tg y ρ2 fun ρ3 => wT cond (fun _ _ => False) ρ3 fun ρ4 k =>
      if k = true then wE elt (fun _ _ => False) ρ4 fun ρ5 r => fzK ρ5 r fun ρ6 x => R (wipeE ρ6 vs) (some x) else R (wipeE ρ4 vs) none) ys (wipeE ρ1 vs) [] fun ρ7 acc => Q (restE ρ1 ρ7 vs) (.tmp (.lst acc))
  | .lam f b, X, ρ, Q => match Φ.lam f with
    | some g => wE b (fun ρ1 c => match g (some c) with
        | some y => Q ρ1 (.val y)
        | none => False) ρ fun ρ1 _ => match g none with
        | some y => Q ρ1 (.val y)
        | none => False
    | none => False
  | _, _, _, _ => False
def wO : E → XS → SE → (SE → Option Int → Prop) → Prop
  | .noe, _, ρ, Q => Q ρ none
  | .tv a, X, ρ, Q => wE a X ρ fun ρ1 r => rdK ρ1 r fun x => match x with
    | .int i => Q ρ1 (some i)
    | _ => False
  | _, _, _, _ => False
def wEs : E → XS → SE → (SE → List PV → Prop) → Prop
  | .nil, _, ρ, Q => Q ρ []
  | .cons e es, X, ρ, Q => wE e X ρ fun ρ1 r => fzK ρ1 r fun ρ2 x => wEs es X ρ2 fun ρ3 xs => Q ρ3 (x :: xs)
  | _, _, _, _ => False
def wAs : E → XS → SE → (SE → List RV → Prop) → Prop
  | .nil, _, ρ, Q => Q ρ []
  | .cons e es, X, ρ, Q => wE e X ρ fun ρ1 r => wAs es X ρ1 fun ρ2 rs => Q ρ2 ((match r with | .tmp x => .val x | r => r) :: rs)
  | _, _, _, _ => False
def wT : E → XS → SE → (SE → Bool → Prop) → Prop
  | .noe, _, ρ, Q => Q ρ true
  | .tn a, X, ρ, Q => wT a X ρ fun ρ1 k => Q ρ1 (!k)
  | .ta a b, X, ρ, Q => wT a X ρ fun ρ1 k => if k = true then wT b X ρ1 Q else Q ρ1 false
  | .to a b, X, ρ, Q => wT a X ρ fun ρ1 k => if k = true then Q ρ1 true else wT b X ρ1 Q
  | .tv a, X, ρ, Q => wE a X ρ fun ρ1 r => rdK ρ1 r fun x => match x with
    | .bl k => Q ρ1 k
    | _ => False
  | _, _, _, _ => False
def wI : E → XS → SE → (SE → List PV → Prop) → Prop
  | .it a, X, ρ, Q => wE a X ρ fun ρ1 r => fzK ρ1 r fun ρ2 x => match items x with
    | some xs => Q ρ2 xs
    | none => False
  | .rng a b, X, ρ, Q => wE a X ρ fun ρ1 r1 => wE b X ρ1 fun ρ2 r2 => rdK ρ2 r1 fun x => rdK ρ2 r2 fun y => match x, y with
    | .int i, .int j => (-(2 ^ 62) ≤ i ∧ i < 2 ^ 62 ∧ -(2 ^ 62) ≤ j ∧ j < 2 ^ 62) ∧ Q ρ2 (rngP i j)
    | _, _ => False
  | .zip a b, X, ρ, Q => wE a X ρ fun ρ1 r1 => fzK ρ1 r1 fun ρ2 x => wE b X ρ2 fun ρ3 r2 => fzK ρ3 r2 fun ρ4 y => match same2 x y with
    | some (xs, ys) => Q ρ4 (zipP xs ys)
    | none => False
  | _, _, _, _ => False
end
def wS : S → XS → SE → Out → Prop
  | .set i e, X, ρ, D => par i = false ∧ wE Φ par e X ρ fun ρ1 r => stW i r ρ1 D.nx
  | .tup g e, X, ρ, D => wE Φ par e X ρ fun ρ1 r => fzK ρ1 r fun ρ2 x => wG par g x ρ2 D.nx
  | .par i j a b, X, ρ, D => (par i = false ∧ par j = false) ∧ wE Φ par a X ρ fun ρ1 r1 => nbW ρ1 r1 fun ρ2 r1 => wE Φ par b X ρ2 fun ρ3 r2 => stW j r2 ρ3 fun ρ4 => stW i r1 ρ4 D.nx
  | .seti i k e, X, ρ, D => isOwnL ρ i = true ∧ wE Φ par e X ρ fun ρ1 r => fzK ρ1 r fun ρ2 x => wE Φ par k X ρ2 fun ρ3 rk => rdK ρ3 rk fun y => match ρ3[i]?, y with
    | some (.own (.lst xs)), .int n => ∃ j, ixN xs.length n = some j ∧ D.nx (ρ3.set i (.own (.lst (xs.set j x))))
    | _, _ => False
  | .expr e, X, ρ, D => wE Φ par e X ρ fun ρ1 _ => D.nx ρ1
  | .ret e, X, ρ, D => wE Φ par e X ρ D.rt
  | .if_ c a b, X, ρ, D => wT Φ par c X ρ fun ρ1 k => if k = true then wS a X ρ1 D else wS b X ρ1 D
  | .for_ g it b, X, ρ, D => wI Φ par it X ρ fun ρ1 ys => loopF (fun y ρ2 D' => wG par g y ρ2 fun ρ3 => wS b X ρ3 D') ys ρ1 D
  | .while_ c b, X, ρ, D => ∃ n, loopW (fun ρ1 Q => wT Φ par c X ρ1 Q) (fun ρ1 D' => wS b X ρ1 D') n ρ D
  | .raise c, X, ρ, D => X ρ c
  | .brk, _, ρ, D => D.bk ρ
  | .cnt, _, ρ, D => D.ct ρ
  | .nil, _, ρ, D => D.nx ρ
  | .cons s ss, X, ρ, D => wS s X ρ { D with nx := fun ρ1 => wS ss X ρ1 D }
end
end Ev
namespace Ev
open PySem PySem.Spec PyProof.Rows L2
variable {W : Wd}

theorem mul_x {i j : Int} (h : MulOk i j) : CMulX i j := by
  have h1 : i.natAbs < 2 ^ (i.natAbs.log2 + 1) := Nat.lt_log2_self
  have h2 : j.natAbs < 2 ^ (j.natAbs.log2 + 1) := Nat.lt_log2_self
  unfold MulOk at h
  exact mulx_ok h1 h2 (by omega)
theorem fresh_upd {H : Hp} {p a : Addr} {o : HO} (hp : H p = none) (f : Fresh (upd H p o) a) : Fresh H a := fun u e => by
  refine f u ?_
  rw [upd_ne (fun z => by rw [z, hp] at e; cases e)]
  exact e
theorem same_upd {H : Hp} {p : Addr} {o : HO} (hp : H p = none) : Same H (upd H p o) := fun b u e => by
  rw [upd_ne (fun z => by rw [z, hp] at e; cases e)]
  exact e

/-- a rule's result: a value, the frozen part and the heap behind it -/
structure Res (W : Wd) (F H : Hp) (r : RV) (v : V) (F' H' : Hp) : Prop where
  le : Same F F'
  leH : Same H H'
  sub : Same F' H'
  nt : ∀ a ps, F' a ≠ some (.tbl ps)
  new : ∀ a, F a = none → F' a ≠ none → H a = none
  tabs : LamX.Tabs W.T H → LamX.Tabs W.T H'
  rv : match r with
    | .val x => Rep W F' x v
    | .tmp x => ∃ a, v = .ref a ∧ H a = none ∧ F' a = none ∧ ObjRep W F' (H' a) x
    | .bor _ => False
theorem Res.val {F H : Hp} (le : Same F H) (nt : ∀ a ps, F a ≠ some (.tbl ps)) {x : PV} {v : V} (r : Rep W F x v) : Res W F H (.val x) v F H :=
  ⟨Same.refl F, Same.refl H, le, nt, fun _ h k => absurd h k, fun h => h, r⟩
theorem Res.lst {F H : Hp} (le : Same F H) (nt : ∀ a ps, F a ≠ some (.tbl ps)) {xs : List PV} {us : List V} {p : Addr} (hp : H p = none) (r : Reps W F xs us) : Res W F H (.tmp (.lst xs)) (.ref p) F (upd H p (.lst us)) :=
  ⟨Same.refl F, same_upd hp, le.trans (same_upd hp), nt, fun _ h k => absurd h k, fun h => h.ext (same_upd hp), p, rfl, hp, le.free hp, us, upd_same, r⟩
theorem Res.tup {F H : Hp} (le : Same F H) (nt : ∀ a ps, F a ≠ some (.tbl ps)) {xs : List PV} {us : List V} {p : Addr} (hp : H p = none) (r : Reps W F xs us) : Res W F H (.val (.tup xs)) (.ref p) (upd F p (.tup us)) (upd H p (.tup us)) := by
  have hF := le.free hp
  refine ⟨same_upd hF, same_upd hp, fun b u e => ?_, fun a ps e => ?_, fun a h k => ?_, fun h => h.ext (same_upd hp), p, us, rfl, upd_same, r.mono (same_upd hF)⟩
  · by_cases hb : b = p
    · subst hb; rw [upd_same] at e ⊢; exact e
    · rw [upd_ne hb] at e ⊢; exact le b u e
  · by_cases hb : a = p
    · subst hb; rw [upd_same] at e; cases e
    · rw [upd_ne hb] at e; exact nt a ps e
  · by_cases hb : a = p
    · subst hb; exact hp
    · rw [upd_ne hb] at k; exact absurd h k
/-- .. brings the state on -/
theorem Res.on {F H F' H' : Hp} {ρ : SE} {σ : L2.St} {r : RV} {v : V} (en : EnvOk W F H ρ σ) (s : Res W F H r v F' H') :
    Step W F H ρ σ F' H' ρ σ ∧ EnvOk W F' H' ρ σ ∧ RvOk W F' H' ρ σ r v ∧ New H r v := by
  have ownH : ∀ a, OwnA ρ σ a → ∃ o, H a = some o ∧ F a = none := fun a ⟨i, x, h1, h2⟩ => by
    obtain ⟨o, ho, q⟩ := en.at_ i _ h1
    rw [h2] at ho; cases ho
    obtain ⟨b, e, hF, q⟩ := q
    cases e
    obtain ⟨u, hu, _⟩ := q.there
    exact ⟨u, hu, hF⟩
  have ownF : ∀ a, OwnA ρ σ a → F' a = none := fun a h => by
    obtain ⟨o, ho, hF⟩ := ownH a h
    cases e : F' a with
    | none => rfl
    | some u =>
      have := s.new a hF (by rw [e]; simp)
      rw [ho] at this; cases this
  refine ⟨⟨s.le, fun a o h _ _ => s.leH a o h, fun a f o e => f o (s.leH a o e), fun a h k => .inl (.of (s.new a h k)), fun a h => .inl h, s.tabs⟩, ⟨s.sub, s.nt, en.len, fun i sl h => ?_, en.apart⟩, ?_, ?_⟩
  · obtain ⟨o, ho, q⟩ := en.at_ i sl h
    refine ⟨o, ho, ?_⟩
    cases sl with
    | un => trivial
    | val x => obtain ⟨w, e, q⟩ := q; exact ⟨w, e, q.mono s.le⟩
    | own x =>
      obtain ⟨a, e, hF, q⟩ := q
      obtain ⟨u, hu, _⟩ := q.there
      refine ⟨a, e, ownF a ⟨i, x, h, by rw [ho, e]⟩, ?_⟩
      rw [s.leH a u hu]
      rw [hu] at q
      exact q.mono s.le
  · have q := s.rv
    cases r with
    | val x => exact q
    | tmp x =>
      obtain ⟨a, e, h0, h1, h2⟩ := q
      refine ⟨a, e, h1, fun z => ?_, h2⟩
      obtain ⟨o, ho, _⟩ := ownH a z
      rw [h0] at ho; cases ho
    | bor i => exact q.elim
  · have q := s.rv
    cases r with
    | val x => trivial
    | tmp x =>
      obtain ⟨a, e, h0, _⟩ := q
      intro b eb
      rw [e] at eb; cases eb
      exact .of h0
    | bor i => exact q.elim

/-! ### reading -/
theorem RdOk.int {F H : Hp} {i : Int} {v : V} (r : RdOk W F H (.int i) v) : v = .int i := r
theorem RdOk.seqL {F H : Hp} {xs : List PV} {v : V} (r : RdOk W F H (.lst xs) v) : ∃ a us, v = .ref a ∧ H a = some (.lst us) ∧ Reps W F xs us := r
theorem RdOk.seqT {F H : Hp} (le : Same F H) {xs : List PV} {v : V} (r : RdOk W F H (.tup xs) v) : ∃ a us, v = .ref a ∧ H a = some (.tup us) ∧ Reps W F xs us := by
  obtain ⟨a, us, e, h, q⟩ := r
  exact ⟨a, us, e, le _ _ h, q⟩
mutual
theorem Rep.dp {F H : Hp} (le : Same F H) : ∀ {x : PV} {v : V}, dat x = true → Rep W F x v → Dp W.K H v (toD x)
  | .non, _, _, r => by cases r; exact .non
  | .bl b, _, _, r => by cases r; exact .bl b
  | .int i, _, _, r => by cases r; exact .int i
  | .str s, _, _, r => by cases r; exact .str s
  | .tup xs, _, d, ⟨a, us, e, q, r⟩ => by subst e; exact .tup (.of (le _ _ q)) (Reps.dp le (by simpa [dat] using d) r)
  | .lst xs, _, d, ⟨a, us, e, q, r⟩ => by subst e; exact .lst (.of (le _ _ q)) (Reps.dp le (by simpa [dat] using d) r)
  | .scr _, _, d, _ => by simp [dat] at d
  | .fn _, _, d, _ => by simp [dat] at d
theorem Reps.dp {F H : Hp} (le : Same F H) : ∀ {xs : List PV} {us : List V}, dats xs = true → Reps W F xs us → DpAll W.K H us (toDs xs)
  | [], _, _, r => by cases r; exact .nil
  | x :: xs, _, d, ⟨u, r, e, h1, h2⟩ => by
    subst e
    have d' : dat x = true ∧ dats xs = true := by simpa [dats] using d
    exact .cons (Rep.dp le d'.1 h1) (Reps.dp le d'.2 h2)
end
theorem RdOk.dp {F H : Hp} (le : Same F H) {x : PV} {v : V} (d : dat x = true) (r : RdOk W F H x v) : Dp W.K H v (toD x) := by
  cases x <;> try exact Rep.dp le d r
  obtain ⟨a, us, e, q, r⟩ := r
  subst e
  exact .lst (.of q) (Reps.dp le (by simpa [dat] using d) r)
theorem RdOk.flat {F H : Hp} {x : PV} {v : V} (f : flatP x = true) (r : RdOk W F H x v) : Rep W F x v := by
  cases x with
  | lst xs => simp [flatP] at f
  | _ => exact r
theorem RdOk.isNon {F H : Hp} {x : PV} {v : V} (r : RdOk W F H x v) : decide (v = .non) = isNon x := by
  cases x with
  | non => cases r; rfl
  | bl b => cases r; rfl
  | int b => cases r; rfl
  | str b => cases r; rfl
  | tup xs => obtain ⟨a, us, rfl, _⟩ := r; rfl
  | lst xs => obtain ⟨a, us, rfl, _⟩ := r; rfl
  | scr xs => obtain ⟨a, rfl, _⟩ := r; rfl
  | fn xs => obtain ⟨a, rfl, _⟩ := r; rfl
theorem flat_rep {F : Hp} {x : PV} {v : V} (f : flatP x = true) (r : Rep W F x v) : flatV v = true ∧ ∀ y w, flatP y = true → Rep W F y w → eqV w v = peq y x := by
  cases x <;> first
    | (cases f; done)
    | (cases r
       refine ⟨rfl, fun y w fy ry => ?_⟩
       cases y <;> first
         | (cases fy; done)
         | (cases ry; simp [eqV, peq, toD, PyData.eqv]))
theorem flat_reps {F : Hp} {x : PV} {v : V} (f : flatP x = true) (r : Rep W F x v) : ∀ {ys : List PV} {us : List V}, ys.all flatP = true → Reps W F ys us → us.all flatV = true ∧ inV v us = ys.any fun y => peq y x
  | [], _, _, h => by cases h; simp [inV]
  | y :: ys, _, fy, ⟨u, rr, e, h1, h2⟩ => by
    subst e
    have fy' : flatP y = true ∧ ys.all flatP = true := by simpa using fy
    obtain ⟨k1, k2⟩ := flat_reps f r fy'.2 h2
    refine ⟨by simp [k1, (flat_rep fy'.1 h1).1], ?_⟩
    unfold inV at k2 ⊢
    rw [List.any_cons, List.any_cons, k2, (flat_rep f r).2 y u fy'.1 h1]
theorem any_toD (x : PV) : ∀ ys : List PV, (toDs ys).any (fun z => PyData.eqv z (toD x)) = ys.any fun y => peq y x
  | [] => rfl
  | y :: ys => by
    simp only [toDs, List.any_cons, any_toD x ys]
    rfl

/-! ### operators -/
section
variable {X : Cx} (hK : X.K = W.K)
/-- what a rule by plain values asks of the values x, y -/
def rPv (W : Wd) (f : PV → PV → (RV → Prop) → Prop) : R2 := fun x y H Q => ∃ (F : Hp) (px py : PV) (Kq : RV → Prop), Same F H ∧ (∀ a ps, F a ≠ some (.tbl ps)) ∧ RdOk W F H px x ∧ RdOk W F H py y ∧ f px py Kq ∧
  ∀ r v F' H', Kq r → Res W F H r v F' H' → Q v H'
theorem op_fdivZ : OpR X (binaryOp .FloorDiv) (rI (fun _ j => DivOk j) fun i j => .int (i.fdiv j)) := opI fun i j _ _ _ _ _ hc q =>
  floordiv_int hc.1 q (.inl (PyProof.noPylong_of_log2 hc.2))
theorem opr_bin (op : Operator) : OpR X (binaryOp op) (rPv W (binW op)) := by
  intro pins s σ H x y v u Q I rx ry h
  obtain ⟨F, px, py, Kq, le, nt, hx, hy, hw, k⟩ := h
  unfold binW at hw
  split at hw <;> try exact hw.elim
  · cases hx; cases hy
    exact op_add pins s σ H _ _ v u Q I rx ry ⟨_, _, rfl, rfl, k _ _ F H hw (.val le nt rfl)⟩
  · cases hx; cases hy
    exact op_sub pins s σ H _ _ v u Q I rx ry ⟨_, _, rfl, rfl, k _ _ F H hw (.val le nt rfl)⟩
  · cases hx; cases hy
    exact op_mulX pins s σ H _ _ v u Q I rx ry ⟨_, _, rfl, rfl, mul_x hw.1, k _ _ F H hw.2 (.val le nt rfl)⟩
  · cases hx; cases hy
    exact op_fdivZ pins s σ H _ _ v u Q I rx ry ⟨_, _, rfl, rfl, hw.1, k _ _ F H hw.2 (.val le nt rfl)⟩
  · cases hx; cases hy
    exact op_modN pins s σ H _ _ v u Q I rx ry ⟨_, _, rfl, rfl, hw.1, k _ _ F H hw.2 (.val le nt rfl)⟩
  · cases hx; cases hy
    exact op_pow pins s σ H _ _ v u Q I rx ry ⟨_, _, rfl, rfl, hw.1, k _ _ F H hw.2 (.val le nt rfl)⟩
  · obtain ⟨a, us, rfl, ha, ra⟩ := hx
    obtain ⟨b, ws, rfl, hb, rb⟩ := hy
    exact op_cat pins s σ H _ _ v u Q I rx ry ⟨a, b, us, ws, rfl, rfl, ha, hb, by rw [← ra.length, ← rb.length]; exact hw.1, fun p hp => k _ _ F _ hw.2 (.lst le nt hp (ra.app rb))⟩
  · obtain ⟨a, us, rfl, ha, ra⟩ := hx
    obtain ⟨b, ws, rfl, hb, rb⟩ := hy
    refine op_catA pins s σ H _ _ v u Q I rx ry ⟨a, b, us, ws, rfl, rfl, .of (le _ _ ha), .of (le _ _ hb), by rw [← ra.length, ← rb.length]; exact hw.1, fun e => ?_, fun e e2 => ?_, fun e e2 p hp => k _ _ _ _ hw.2 (.tup le nt hp (ra.app rb))⟩
    · refine k _ _ F H hw.2 (.val le nt ⟨b, ws, rfl, hb, ?_⟩)
      have := ra.app rb
      rw [e] at this
      exact this
    · refine k _ _ F H hw.2 (.val le nt ⟨a, us, rfl, ha, ?_⟩)
      have := ra.app rb
      rw [e2, List.append_nil] at this
      exact this
  · cases hx; cases hy
    exact op_add_str pins s σ H _ _ v u Q I rx ry ⟨_, _, rfl, rfl, hw.1, k _ _ F H hw.2 (.val le nt rfl)⟩
  · obtain ⟨a, us, rfl, ha, ra⟩ := hx
    cases hy
    exact op_rep pins s σ H _ _ v u Q I rx ry ⟨a, _, us, rfl, rfl, ha, hw.1.1, hw.1.2.1, by rw [← ra.length]; exact hw.1.2.2, fun p hp => k _ _ F _ hw.2 (.lst le nt hp (ra.rep _))⟩
def bW (f : PV → PV → (Bool → Prop) → Prop) : PV → PV → (RV → Prop) → Prop := fun x y Q => f x y fun b => Q (.val (.bl b))
theorem opr_cmp (hK : X.K = W.K) (hu : X.A.units + 65 < cLine) (op : CmpOp) : OpR X (compareOp op) (rPv W (bW (cmpW op))) := by
  intro pins s σ H x y v u Q I rx ry h
  obtain ⟨F, px, py, Kq, le, nt, hx, hy, hw, k⟩ := h
  have fin : ∀ b, Kq (.val (.bl b)) → Q (.bl b) H := fun b q => k _ _ F H q (.val le nt rfl)
  unfold bW cmpW at hw
  split at hw <;> try exact hw.elim
  · cases hx; cases hy
    exact op_lt pins s σ H _ _ v u Q I rx ry ⟨_, _, rfl, rfl, fin _ hw⟩
  · cases hx; cases hy
    exact op_le pins s σ H _ _ v u Q I rx ry ⟨_, _, rfl, rfl, fin _ hw⟩
  · cases hx; cases hy
    exact op_gt pins s σ H _ _ v u Q I rx ry ⟨_, _, rfl, rfl, fin _ hw⟩
  · cases hx; cases hy
    exact op_ge pins s σ H _ _ v u Q I rx ry ⟨_, _, rfl, rfl, fin _ hw⟩
  · refine op_eqD (by omega) pins s σ H _ _ v u Q I rx ry ⟨_, _, ?_, ?_, hw.1.2, hw.2.1.2, fin _ hw.2.2⟩
    · rw [hK]; exact hx.dp le hw.1.1
    · rw [hK]; exact hy.dp le hw.2.1.1
  · refine op_neD (by omega) pins s σ H _ _ v u Q I rx ry ⟨_, _, ?_, ?_, hw.1.2, hw.2.1.2, fin _ hw.2.2⟩
    · rw [hK]; exact hx.dp le hw.1.1
    · rw [hK]; exact hy.dp le hw.2.1.1
  · cases hy
    exact op_isN pins s σ H _ _ v u Q I rx ry ⟨rfl, by rw [hx.isNon]; exact fin _ hw⟩
  · cases hy
    exact op_notN pins s σ H _ _ v u Q I rx ry ⟨rfl, by rw [hx.isNon]; exact fin _ hw⟩
  · obtain ⟨a, us, rfl, ha, ra⟩ := hy
    obtain ⟨f1, f2, hw⟩ := hw
    have hx' := hx.flat f1
    obtain ⟨k1, k2⟩ := flat_reps f1 hx' f2 ra
    refine op_in_seq pins s σ H _ _ v u Q I rx ry ⟨a, us, rfl, .inr (.of (le _ _ ha)), (flat_rep f1 hx').1, k1, ?_⟩
    rw [if_neg Bool.false_ne_true, k2]
    exact fin _ hw
  · obtain ⟨a, us, rfl, ha, ra⟩ := hy
    obtain ⟨f1, f2, hw⟩ := hw
    have hx' := hx.flat f1
    obtain ⟨k1, k2⟩ := flat_reps f1 hx' f2 ra
    refine op_notIn_seq pins s σ H _ _ v u Q I rx ry ⟨a, us, rfl, .inr (.of (le _ _ ha)), (flat_rep f1 hx').1, k1, ?_⟩
    rw [if_pos rfl, k2]
    exact fin _ hw
  · refine op_inD hu pins s σ H _ _ v u Q I rx ry ⟨_, toDs _, ?_, ?_, hw.1.2, by have := hw.2.1.2; simpa [toD] using this, ?_⟩
    · rw [hK]; exact hx.dp le hw.1.1
    · rw [hK]; have := hy.dp le hw.2.1.1; simpa [toD] using this
    · rw [any_toD]; exact fin _ hw.2.2
  · refine op_notInD hu pins s σ H _ _ v u Q I rx ry ⟨_, toDs _, ?_, ?_, hw.1.2, by have := hw.2.1.2; simpa [toD] using this, ?_⟩
    · rw [hK]; exact hx.dp le hw.1.1
    · rw [hK]; have := hy.dp le hw.2.1.1; simpa [toD] using this
    · rw [any_toD]; exact fin _ hw.2.2
end
end Ev
namespace Ev
open PySem PySem.Spec PyProof.Rows L2
variable {W : Wd}

abbrev EX := Str → Hp → Prop
/-- a wish about exceptions, in the layer's own form -/
def xk (W : Wd) (E0 : EX) : XK := fun cls d H => ∃ c C, W.mg c = some (.ref C) ∧ cls = .ref C ∧ d = none ∧ E0 c H
/-- from here to a wish about what has come -/
def OkK (W : Wd) (F H : Hp) (ρ : SE) (σ : L2.St) (Kp : SE → RV → Prop) (Q : VK) : Prop :=
  ∀ ρ' r v F' H', Kp ρ' r → Step W F H ρ σ F' H' ρ' σ → EnvOk W F' H' ρ' σ → RvOk W F' H' ρ' σ r v → New H r v → Q v H'
def OkX (W : Wd) (F H : Hp) (ρ : SE) (σ : L2.St) (X : XS) (E0 : EX) : Prop :=
  ∀ ρ' c F' H', X ρ' c → Step W F H ρ σ F' H' ρ' σ → EnvOk W F' H' ρ' σ → E0 c H'
theorem OkX.step {F H : Hp} {ρ : SE} {σ : L2.St} {X : XS} {E0 : EX} (h : OkX W F H ρ σ X E0) {F' H' : Hp} {ρ' : SE} (s : Step W F H ρ σ F' H' ρ' σ) : OkX W F' H' ρ' σ X E0 :=
  fun ρ2 c F2 H2 hx s2 e2 => h ρ2 c F2 H2 hx (s.trans s2) e2

section
variable (W : Wd) (Φ : Tbl) (par : Nat → Bool) (E0 : EX)
def tE (m : E) : TE := fun σ H Q => ∃ F ρ X Kp, EnvOk W F H ρ σ ∧ LamX.Tabs W.T H ∧ wE Φ par m X ρ Kp ∧ OkK W F H ρ σ Kp Q ∧ OkX W F H ρ σ X E0
def tT (m : E) : TT := fun σ H Q => ∃ F ρ X Kp, EnvOk W F H ρ σ ∧ LamX.Tabs W.T H ∧ wT Φ par m X ρ Kp ∧
  (∀ ρ' k F' H', Kp ρ' k → Step W F H ρ σ F' H' ρ' σ → EnvOk W F' H' ρ' σ → Q k H') ∧ OkX W F H ρ σ X E0
/-- arguments that are kept: frozen all -/
def tEs (m : E) : TA := fun σ H Q => ∃ F ρ X Kp, EnvOk W F H ρ σ ∧ LamX.Tabs W.T H ∧ wEs Φ par m X ρ Kp ∧
  (∀ ρ' xs vs F' H', Kp ρ' xs → Step W F H ρ σ F' H' ρ' σ → EnvOk W F' H' ρ' σ → Reps W F' xs vs → Q vs H') ∧ OkX W F H ρ σ X E0
def RvsOk (W : Wd) (F H : Hp) (ρ : SE) (σ : L2.St) : List RV → List V → Prop
  | [], vs => vs = []
  | r :: rs, vs => ∃ v ws, vs = v :: ws ∧ (RvOk W F H ρ σ r v ∧ ∀ x, r ≠ .tmp x) ∧ RvsOk W F H ρ σ rs ws
/-- arguments that are handed on -/
def tAs (m : E) : TA := fun σ H Q => ∃ F ρ X Kp, EnvOk W F H ρ σ ∧ LamX.Tabs W.T H ∧ wAs Φ par m X ρ Kp ∧
  (∀ ρ' rs vs F' H', Kp ρ' rs → Step W F H ρ σ F' H' ρ' σ → EnvOk W F' H' ρ' σ → RvsOk W F' H' ρ' σ rs vs → Q vs H') ∧ OkX W F H ρ σ X E0
def tO (m : E) : TO := fun σ H Q => ∃ F ρ X Kp, EnvOk W F H ρ σ ∧ LamX.Tabs W.T H ∧ wO Φ par m X ρ Kp ∧
  (∀ ρ' o F' H', Kp ρ' o → Step W F H ρ σ F' H' ρ' σ → EnvOk W F' H' ρ' σ → Q o H') ∧ OkX W F H ρ σ X E0
end
theorem PE.imp {X : Cx} {e : Expr} {t t' : TE} (h : PE X e t) (i : ∀ σ H Q, t' σ H Q → t σ H Q) : PE X e t' := ⟨fun pins s σ H Q I q => h.run pins s σ H Q I (i _ _ _ q)⟩
theorem PT.imp {X : Cx} {e : Expr} {t t' : TT} (h : PT X e t) (i : ∀ σ H Q, t' σ H Q → t σ H Q) : PT X e t' := ⟨fun pins s σ H Q I q => h.run pins s σ H Q I (i _ _ _ q)⟩
theorem PW.imp {X : Cx} {e : Expr} {t t' : TT} (h : PW X e t) (i : ∀ σ H Q, t' σ H Q → t σ H Q) : PW X e t' := ⟨fun w pins s σ H Q I q => h.run w pins s σ H Q I (i _ _ _ q)⟩
theorem PA.imp {X : Cx} {es : List Expr} {t t' : TA} (h : PA X es t) (i : ∀ σ H Q, t' σ H Q → t σ H Q) : PA X es t' := ⟨fun pos pins s σ H Q I q => h.run pos pins s σ H Q I (i _ _ _ q)⟩

section
variable {Φ : Tbl} {par : Nat → Bool} {E0 : EX}
/-- run a part, go on -/
theorem go {m : E} {F H : Hp} {ρ : SE} {σ : L2.St} {X : XS} {Kp : SE → RV → Prop} {Q : VK} (en : EnvOk W F H ρ σ) (tb : LamX.Tabs W.T H) (hw : wE Φ par m X ρ Kp) (hx : OkX W F H ρ σ X E0)
    (k : ∀ ρ' r v F' H', Kp ρ' r → Step W F H ρ σ F' H' ρ' σ → EnvOk W F' H' ρ' σ → LamX.Tabs W.T H' → RvOk W F' H' ρ' σ r v → New H r v → OkX W F' H' ρ' σ X E0 → Q v H') : tE W Φ par E0 m σ H Q :=
  ⟨F, ρ, X, Kp, en, tb, hw, fun ρ' r v F' H' h s e r' n => k ρ' r v F' H' h s e (s.tabs tb) r' n (hx.step s), hx⟩
theorem goT {m : E} {F H : Hp} {ρ : SE} {σ : L2.St} {X : XS} {Kp : SE → Bool → Prop} {Q : Bool → Hp → Prop} (en : EnvOk W F H ρ σ) (tb : LamX.Tabs W.T H) (hw : wT Φ par m X ρ Kp) (hx : OkX W F H ρ σ X E0)
    (k : ∀ ρ' r F' H', Kp ρ' r → Step W F H ρ σ F' H' ρ' σ → EnvOk W F' H' ρ' σ → LamX.Tabs W.T H' → OkX W F' H' ρ' σ X E0 → Q r H') : tT W Φ par E0 m σ H Q :=
  ⟨F, ρ, X, Kp, en, tb, hw, fun ρ' r F' H' h s e => k ρ' r F' H' h s e (s.tabs tb) (hx.step s), hx⟩
theorem rdK_ok {F H : Hp} {ρ : SE} {σ : L2.St} (en : EnvOk W F H ρ σ) {r : RV} {v : V} (h : RvOk W F H ρ σ r v) {Q : PV → Prop} (q : rdK ρ r Q) : ∃ x, RdOk W F H x v ∧ rd ρ r = some x ∧ Q x := by
  unfold rdK at q
  split at q
  · rename_i x e
    exact ⟨x, rd_ok en h e, e, q⟩
  · exact q.elim
theorem fzK_ok2 {F0 H0 : Hp} {ρ0 : SE} {σ0 : L2.St} {F H : Hp} {ρ : SE} {σ : L2.St} (st : Step W F0 H0 ρ0 σ0 F H ρ σ) (en : EnvOk W F H ρ σ) {r : RV} {v : V} (h : RvOk W F H ρ σ r v) (nw : New H0 r v) {Q : SE → PV → Prop} (q : fzK ρ r Q) :
    ∃ F' ρ' x, Step W F0 H0 ρ0 σ0 F' H ρ' σ ∧ EnvOk W F' H ρ' σ ∧ Rep W F' x v ∧ Q ρ' x ∧ ∀ y w, RvOk W F H ρ σ (.tmp y) w → ((∃ z, r = .tmp z) → w ≠ v) → RvOk W F' H ρ' σ (.tmp y) w := by
  unfold fzK at q
  split at q
  · rename_i ρ' x e
    obtain ⟨F', s, e', rp, o⟩ := fz_ok st en h nw e
    exact ⟨F', ρ', x, s, e', rp, q, o⟩
  · exact q.elim
theorem fzK_ok {F0 H0 : Hp} {ρ0 : SE} {σ0 : L2.St} {F H : Hp} {ρ : SE} {σ : L2.St} (st : Step W F0 H0 ρ0 σ0 F H ρ σ) (en : EnvOk W F H ρ σ) {r : RV} {v : V} (h : RvOk W F H ρ σ r v) (nw : New H0 r v) {Q : SE → PV → Prop} (q : fzK ρ r Q) :
    ∃ F' ρ' x, Step W F0 H0 ρ0 σ0 F' H ρ' σ ∧ EnvOk W F' H ρ' σ ∧ Rep W F' x v ∧ Q ρ' x := by
  obtain ⟨F', ρ', x, s, e, r, q, _⟩ := fzK_ok2 st en h nw q
  exact ⟨F', ρ', x, s, e, r, q⟩
/-- a rule's result is the answer -/
theorem fin {F0 H0 : Hp} {ρ0 : SE} {F H : Hp} {ρ : SE} {σ : L2.St} {Kp : SE → RV → Prop} {Q : VK} (st : Step W F0 H0 ρ0 σ F H ρ σ) (en : EnvOk W F H ρ σ) (hk : OkK W F0 H0 ρ0 σ Kp Q) {r : RV} {v : V} {F' H' : Hp} (h : Kp ρ r) (s : Res W F H r v F' H') : Q v H' := by
  obtain ⟨s1, e1, r1, n1⟩ := s.on en
  exact hk ρ r v F' H' h (st.trans s1) e1 r1 (n1.back st)
theorem fin0 {F0 H0 : Hp} {ρ0 : SE} {F H : Hp} {ρ : SE} {σ : L2.St} {Kp : SE → RV → Prop} {Q : VK} (st : Step W F0 H0 ρ0 σ F H ρ σ) (en : EnvOk W F H ρ σ) (hk : OkK W F0 H0 ρ0 σ Kp Q) {x : PV} {v : V} (h : Kp ρ (.val x)) (s : Rep W F x v) : Q v H :=
  fin st en hk h (.val en.le en.nt s)

def onBl (P : Bool → Prop) : RV → Prop
  | .val (.bl k) => P k
  | _ => False
theorem onBl_ok {P : Bool → Prop} {r : RV} (h : onBl P r) : ∃ k, r = .val (.bl k) ∧ P k := by
  unfold onBl at h
  split at h
  · exact ⟨_, rfl, h⟩
  · exact h.elim
/-! ### constants, names -/
section
variable {X : Cx} {pos : Pos}
theorem ev_const {e : Expr} {x : PV} {v : V} {m : E} (h : PE X e (tC v)) (hm : ∀ Xs ρ Q, wE Φ par m Xs ρ Q → Q ρ (.val x)) (r : ∀ F, Rep W F x v) : PE X e (tE W Φ par E0 m) :=
  PE.imp h fun σ H Q ⟨F, ρ, Xs, Kp, en, tb, hw, hk, hx⟩ => fin0 .refl en hk (hm _ _ _ hw) (r F)
theorem ev_var {i : Nat} {x : Str} (hN : X.N[i]? = some x) (hv : Vis X.env.scope x) (hd : (x == ("__debug__" : Str)) = false) (hcd : (x == ("__classdict__" : Str)) = false) : PE X (.Name x pos) (tE W Φ par E0 (.var i)) :=
  PE.imp (pe_var hN hv hd hcd) fun σ H Q ⟨F, ρ, Xs, Kp, en, tb, hw, hk, hx⟩ => by
    unfold wE at hw
    split at hw
    · rename_i y hy
      obtain ⟨o, ho, q⟩ := en.at_ i _ hy
      obtain ⟨v, e, rp⟩ := q
      subst e
      exact ⟨v, ho, fin0 .refl en hk hw rp⟩
    · rename_i y hy
      obtain ⟨o, ho, q⟩ := en.at_ i _ hy
      obtain ⟨a, e, hF, rp⟩ := q
      subst e
      exact ⟨_, ho, hk ρ (.bor i) _ F H hw .refl en ho trivial⟩
    · exact hw.elim

/-! ### operators -/
variable {a b c : Expr} {ma mb mc : E}
theorem ev_op2 {r : R2} {f : PV → PV → (RV → Prop) → Prop} {e : Expr} {m : E} (h : PE X e (tOp (rPv W f) (tE W Φ par E0 ma) (tE W Φ par E0 mb)))
    (hm : ∀ Xs ρ Q, wE Φ par m Xs ρ Q → wE Φ par ma Xs ρ fun ρ1 r1 => wE Φ par mb Xs ρ1 fun ρ2 r2 => rdK ρ2 r1 fun x => rdK ρ2 r2 fun y => f x y (Q ρ2)) : PE X e (tE W Φ par E0 m) :=
  PE.imp h fun σ H Q ⟨F, ρ, Xs, Kp, en, tb, hw, hk, hx⟩ => by
    refine go en tb (hm _ _ _ hw) hx fun ρ1 r1 v1 F1 H1 h1 s1 e1 t1 rv1 n1 x1 => ?_
    refine go e1 t1 h1 x1 fun ρ2 r2 v2 F2 H2 h2 s2 e2 t2 rv2 n2 x2 => ?_
    obtain ⟨x, hx', _, q⟩ := rdK_ok e2 (rv1.stay s2) h2
    obtain ⟨y, hy', _, q⟩ := rdK_ok e2 rv2 q
    exact ⟨F2, x, y, _, e2.le, e2.nt, hx', hy', q, fun r v F' H' hq hr => fin (s1.trans s2) e2 hk hq hr⟩
theorem ev_bin {op : Operator} (ha : PE X a (tE W Φ par E0 ma)) (hb : PE X b (tE W Φ par E0 mb)) : PE X (.BinOp a op b pos) (tE W Φ par E0 (.bin op ma mb)) :=
  ev_op2 (r := rPv W (binW op)) (pe_op (opr_bin op) ha hb) fun Xs ρ Q hw => by unfold wE at hw; exact hw
theorem ev_cmp {op : CmpOp} (hK : X.K = W.K) (hu : X.A.units + 65 < cLine) (ha : PE X a (tE W Φ par E0 ma)) (hb : PE X b (tE W Φ par E0 mb)) (hm : behindInMarks op b = false) : PE X (.Compare a [op] [b] pos) (tE W Φ par E0 (.cmp op ma mb)) :=
  ev_op2 (r := rPv W (bW (cmpW op))) (pe_cmpR (opr_cmp hK hu op) ha hb hm) fun Xs ρ Q hw => by unfold wE at hw; exact hw
theorem ev_neg (ha : PE X a (tE W Φ par E0 ma)) : PE X (.UnaryOp .USub a pos) (tE W Φ par E0 (.neg ma)) :=
  PE.imp (pe_un un_neg ha) fun σ H Q ⟨F, ρ, Xs, Kp, en, tb, hw, hk, hx⟩ => by
    unfold wE at hw
    refine go en tb hw hx fun ρ1 r1 v1 F1 H1 h1 s1 e1 t1 rv1 n1 x1 => ?_
    obtain ⟨x, hx', _, q⟩ := rdK_ok e1 rv1 h1
    split at q
    · cases hx'
      exact ⟨_, rfl, fin0 s1 e1 hk q rfl⟩
    · exact q.elim
theorem ev_not (ha : PE X a (tE W Φ par E0 ma)) : PE X (.UnaryOp .Not a pos) (tE W Φ par E0 (.not ma)) :=
  PE.imp (pe_not ha) fun σ H Q ⟨F, ρ, Xs, Kp, en, tb, hw, hk, hx⟩ => by
    unfold wE at hw
    refine go en tb hw hx fun ρ1 r1 v1 F1 H1 h1 s1 e1 t1 rv1 n1 x1 => ?_
    obtain ⟨x, hx', _, q⟩ := rdK_ok e1 rv1 h1
    split at q
    · cases hx'
      exact ⟨_, rfl, fin0 s1 e1 hk q rfl⟩
    · exact q.elim
theorem ev_one {op : BoolOp} {m : E} (ha : PE X a (tE W Φ par E0 m)) : PE X (.BoolOp op [a] pos) (tE W Φ par E0 m) := pe_one ha
theorem ev_and {rest : List Expr} (ha : PE X a (tE W Φ par E0 ma)) (hb : PE X (.BoolOp .And (b :: rest) pos) (tE W Φ par E0 mb)) : PE X (.BoolOp .And (a :: b :: rest) pos) (tE W Φ par E0 (.and ma mb)) :=
  PE.imp (pe_and ha hb) fun σ H Q ⟨F, ρ, Xs, Kp, en, tb, hw, hk, hx⟩ => by
    unfold wE at hw
    refine go en tb hw hx fun ρ1 r1 v1 F1 H1 h1 s1 e1 t1 rv1 n1 x1 => ?_
    obtain ⟨x, hx', _, q⟩ := rdK_ok e1 rv1 h1
    split at q
    · rename_i k _
      cases hx'
      refine ⟨k, rfl, ?_⟩
      cases k with
      | true =>
        rw [if_pos rfl] at q ⊢
        exact go e1 t1 q x1 fun ρ2 r2 v2 F2 H2 h2 s2 e2 t2 rv2 n2 x2 => hk _ _ _ _ _ h2 (s1.trans s2) e2 rv2 (n2.back s1)
      | false =>
        rw [if_neg Bool.false_ne_true] at q ⊢
        exact fin0 s1 e1 hk q rfl
    · exact q.elim
theorem ev_or {rest : List Expr} (ha : PE X a (tE W Φ par E0 ma)) (hb : PE X (.BoolOp .Or (b :: rest) pos) (tE W Φ par E0 mb)) : PE X (.BoolOp .Or (a :: b :: rest) pos) (tE W Φ par E0 (.or ma mb)) :=
  PE.imp (pe_or ha hb) fun σ H Q ⟨F, ρ, Xs, Kp, en, tb, hw, hk, hx⟩ => by
    unfold wE at hw
    refine go en tb hw hx fun ρ1 r1 v1 F1 H1 h1 s1 e1 t1 rv1 n1 x1 => ?_
    obtain ⟨x, hx', _, q⟩ := rdK_ok e1 rv1 h1
    split at q
    · rename_i k _
      cases hx'
      refine ⟨k, rfl, ?_⟩
      cases k with
      | true =>
        rw [if_pos rfl] at q ⊢
        exact fin0 s1 e1 hk q rfl
      | false =>
        rw [if_neg Bool.false_ne_true] at q ⊢
        exact go e1 t1 q x1 fun ρ2 r2 v2 F2 H2 h2 s2 e2 t2 rv2 n2 x2 => hk _ _ _ _ _ h2 (s1.trans s2) e2 rv2 (n2.back s1)
    · exact q.elim
theorem cmp2_imp {op op' : CmpOp} {σ : L2.St} {H : Hp} {Q : VK} (h : tE W Φ par E0 (.cmp2 op op' ma mb mc) σ H Q) : tChain (rPv W (bW (cmpW op))) (rPv W (bW (cmpW op'))) (tE W Φ par E0 ma) (tE W Φ par E0 mb) (tE W Φ par E0 mc) σ H Q := by
  obtain ⟨F, ρ, Xs, Kp, en, tb, hw, hk, hx⟩ := h
  unfold wE at hw
  refine go en tb hw hx fun ρ1 r1 v1 F1 H1 h1 s1 e1 t1 rv1 n1 x1 => ?_
  refine go e1 t1 h1 x1 fun ρ2 r2 v2 F2 H2 h2 s2 e2 t2 rv2 n2 x2 => ?_
  obtain ⟨x, hx', _, q⟩ := rdK_ok e2 (rv1.stay s2) h2
  obtain ⟨y, hy', _, q⟩ := rdK_ok e2 rv2 q
  refine ⟨F2, x, y, onBl fun k => if k = true then wE Φ par mc Xs ρ2 fun ρ3 r3 => rdK ρ3 r2 fun y' => rdK ρ3 r3 fun z => cmpW op' y' z fun k' => Kp ρ3 (.val (.bl k')) else Kp ρ2 (.val (.bl false)), e2.le, e2.nt, hx', hy', q, fun r v F' H' hq hr => ?_⟩
  obtain ⟨k, er, hq2⟩ := onBl_ok hq
  subst er
  obtain ⟨s3, e3, r3, _⟩ := hr.on e2
  have s3' := (s1.trans s2).trans s3
  refine ⟨k, r3, ?_⟩
  cases k with
  | true =>
    rw [if_pos rfl] at hq2 ⊢
    refine go e3 (s3'.tabs tb) hq2 (hx.step s3') fun ρ4 r4 v4 F4 H4 h4 s4 e4 t4 rv4 n4 x4 => ?_
    obtain ⟨y', hy2, _, q⟩ := rdK_ok e4 ((rv2.stay s3).stay s4) h4
    obtain ⟨z, hz2, _, q⟩ := rdK_ok e4 rv4 q
    exact ⟨F4, y', z, onBl fun k' => Kp ρ4 (.val (.bl k')), e4.le, e4.nt, hy2, hz2, q, fun r v F' H' hq hr => by
      obtain ⟨k, er, hq2⟩ := onBl_ok hq
      subst er
      exact fin (s3'.trans s4) e4 hk hq2 hr⟩
  | false =>
    rw [if_neg Bool.false_ne_true] at hq2 ⊢
    exact fin0 s3' e3 hk hq2 rfl
/-- a chain of two comparisons -/
theorem ev_cmp2 {op op' : CmpOp} (hK : X.K = W.K) (hu : X.A.units + 65 < cLine) (ha : PE X a (tE W Φ par E0 ma)) (hb : PE X b (tE W Φ par E0 mb)) (hc : PE X c (tE W Φ par E0 mc)) (hm' : lastMarks [op, op'] [b, c] = false) :
    PE X (.Compare a [op, op'] [b, c] pos) (tE W Φ par E0 (.cmp2 op op' ma mb mc)) :=
  PE.imp (pe_chain (opr_cmp hK hu op) (opr_cmp hK hu op') ha hb hc hm') fun σ H Q h => cmp2_imp h
/-! ### if-expressions, tests -/
theorem ev_ite (hc : PT X c (tT W Φ par E0 mc)) (ha : PE X a (tE W Φ par E0 ma)) (hb : PE X b (tE W Φ par E0 mb)) : PE X (.IfExp c a b pos) (tE W Φ par E0 (.ite mc ma mb)) :=
  PE.imp (pe_ifExp hc ha hb) fun σ H Q ⟨F, ρ, Xs, Kp, en, tb, hw, hk, hx⟩ => by
    unfold wE at hw
    refine goT en tb hw hx fun ρ1 k F1 H1 h1 s1 e1 t1 x1 => ?_
    cases k with
    | true =>
      rw [if_pos rfl] at h1 ⊢
      exact go e1 t1 h1 x1 fun ρ2 r2 v2 F2 H2 h2 s2 e2 t2 rv2 n2 x2 => hk _ _ _ _ _ h2 (s1.trans s2) e2 rv2 (n2.back s1)
    | false =>
      rw [if_neg Bool.false_ne_true] at h1 ⊢
      exact go e1 t1 h1 x1 fun ρ2 r2 v2 F2 H2 h2 s2 e2 t2 rv2 n2 x2 => hk _ _ _ _ _ h2 (s1.trans s2) e2 rv2 (n2.back s1)
theorem et_not (ha : PT X a (tT W Φ par E0 ma)) : PT X (.UnaryOp .Not a pos) (tT W Φ par E0 (.tn ma)) :=
  PT.imp (pt_not ha) fun σ H Q ⟨F, ρ, Xs, Kp, en, tb, hw, hk, hx⟩ => by
    unfold wT at hw
    exact goT en tb hw hx fun ρ1 k F1 H1 h1 s1 e1 t1 x1 => hk _ _ _ _ h1 s1 e1
theorem ew_and {rest : List Expr} (ha : PT X a (tT W Φ par E0 ma)) (hb : PW X (.BoolOp .And (b :: rest) pos) (tT W Φ par E0 mb)) : PW X (.BoolOp .And (a :: b :: rest) pos) (tT W Φ par E0 (.ta ma mb)) :=
  PW.imp (pw_and ha hb) fun σ H Q ⟨F, ρ, Xs, Kp, en, tb, hw, hk, hx⟩ => by
    unfold wT at hw
    refine goT en tb hw hx fun ρ1 k F1 H1 h1 s1 e1 t1 x1 => ?_
    cases k with
    | true =>
      rw [if_pos rfl] at h1 ⊢
      exact goT e1 t1 h1 x1 fun ρ2 k2 F2 H2 h2 s2 e2 t2 x2 => hk _ _ _ _ h2 (s1.trans s2) e2
    | false =>
      rw [if_neg Bool.false_ne_true] at h1 ⊢
      exact hk _ _ _ _ h1 s1 e1
theorem ew_or {rest : List Expr} (ha : PT X a (tT W Φ par E0 ma)) (hb : PW X (.BoolOp .Or (b :: rest) pos) (tT W Φ par E0 mb)) : PW X (.BoolOp .Or (a :: b :: rest) pos) (tT W Φ par E0 (.to ma mb)) :=
  PW.imp (pw_or ha hb) fun σ H Q ⟨F, ρ, Xs, Kp, en, tb, hw, hk, hx⟩ => by
    unfold wT at hw
    refine goT en tb hw hx fun ρ1 k F1 H1 h1 s1 e1 t1 x1 => ?_
    cases k with
    | true =>
      rw [if_pos rfl] at h1 ⊢
      exact hk _ _ _ _ h1 s1 e1
    | false =>
      rw [if_neg Bool.false_ne_true] at h1 ⊢
      exact goT e1 t1 h1 x1 fun ρ2 k2 F2 H2 h2 s2 e2 t2 x2 => hk _ _ _ _ h2 (s1.trans s2) e2
/-- an expression as a test -/
theorem et_val_imp {e : Expr} {m : E} (h : PT X e (tB (tE W Φ par E0 m))) : PT X e (tT W Φ par E0 (.tv m)) :=
  PT.imp h fun σ H Q ⟨F, ρ, Xs, Kp, en, tb, hw, hk, hx⟩ => by
    unfold wT at hw
    refine go en tb hw hx fun ρ1 r1 v1 F1 H1 h1 s1 e1 t1 rv1 n1 x1 => ?_
    obtain ⟨x, hx', _, q⟩ := rdK_ok e1 rv1 h1
    split at q
    · cases hx'
      exact ⟨_, rfl, hk _ _ _ _ q s1 e1⟩
    · exact q.elim
end
end
end Ev
namespace Ev
open PySem PySem.Spec PyProof.Rows L2
variable {W : Wd} {Φ : Tbl} {par : Nat → Bool} {E0 : EX} {X : Cx} {pos : Pos} {a b c e : Expr} {es : List Expr} {ma mb mc m ms : E}

/-! ### displays -/
theorem eas_nil : PA X [] (tEs W Φ par E0 .nil) :=
  PA.imp pa_nil fun σ H Q ⟨F, ρ, Xs, Kp, en, tb, hw, hk, hx⟩ => by
    unfold wEs at hw
    exact hk _ _ _ _ _ hw .refl en rfl
theorem eas_cons (ha : PE X e (tE W Φ par E0 m)) (hr : PA X es (tEs W Φ par E0 ms)) (hs : starEach (e :: es) X.env = (false, eval e X.env) :: starEach es X.env) : PA X (e :: es) (tEs W Φ par E0 (.cons m ms)) :=
  PA.imp (pa_cons ha hr hs) fun σ H Q ⟨F, ρ, Xs, Kp, en, tb, hw, hk, hx⟩ => by
    unfold wEs at hw
    refine go en tb hw hx fun ρ1 r1 v1 F1 H1 h1 s1 e1 t1 rv1 n1 x1 => ?_
    obtain ⟨F2, ρ2, x, s2, e2, rp, q⟩ := fzK_ok s1 e1 rv1 n1 h1
    refine ⟨F2, ρ2, Xs, _, e2, t1, q, fun ρ3 xs vs F3 H3 h3 s3 e3 r3 => ?_, hx.step s2⟩
    exact hk _ _ _ _ _ h3 (s2.trans s3) e3 ⟨v1, vs, rfl, rp.mono s3.le, r3⟩
theorem ev_tup {k : Nat} (ha : PA X es (tEs W Φ par E0 ms)) : PE X (.Tuple es k pos) (tE W Φ par E0 (.tup ms)) :=
  PE.imp (pe_tup ha) fun σ H Q ⟨F, ρ, Xs, Kp, en, tb, hw, hk, hx⟩ => by
    unfold wE at hw
    refine ⟨F, ρ, Xs, _, en, tb, hw, fun ρ1 xs vs F1 H1 h1 s1 e1 r1 => ⟨by rw [← r1.length]; exact h1.1, fun p hp => ?_⟩, hx⟩
    exact fin s1 e1 hk h1.2 (.tup e1.le e1.nt hp r1)
theorem ev_lst (ha : PA X es (tEs W Φ par E0 ms)) : PE X (.List es pos) (tE W Φ par E0 (.lst ms)) :=
  PE.imp (pe_lst ha) fun σ H Q ⟨F, ρ, Xs, Kp, en, tb, hw, hk, hx⟩ => by
    unfold wE at hw
    refine ⟨F, ρ, Xs, _, en, tb, hw, fun ρ1 xs vs F1 H1 h1 s1 e1 r1 => ⟨by rw [← r1.length]; exact h1.1, fun p hp => ?_⟩, hx⟩
    exact fin s1 e1 hk h1.2 (.lst e1.le e1.nt hp r1)

/-! ### arguments -/
theorem RvsOk.stay {F H F1 H1 : Hp} {ρ ρ1 : SE} {σ : L2.St} (s : Step W F H ρ σ F1 H1 ρ1 σ) : ∀ {rs : List RV} {vs : List V}, RvsOk W F H ρ σ rs vs → RvsOk W F1 H1 ρ1 σ rs vs
  | [], _, h => h
  | r :: rs, _, ⟨v, ws, e, h1, h2⟩ => ⟨v, ws, e, ⟨h1.1.stay s, h1.2⟩, RvsOk.stay s h2⟩
theorem ear_nil : PA X [] (tAs W Φ par E0 .nil) :=
  PA.imp pa_nil fun σ H Q ⟨F, ρ, Xs, Kp, en, tb, hw, hk, hx⟩ => by
    unfold wAs at hw
    exact hk _ _ _ _ _ hw .refl en rfl
theorem ear_cons (ha : PE X e (tE W Φ par E0 m)) (hr : PA X es (tAs W Φ par E0 ms)) (hs : starEach (e :: es) X.env = (false, eval e X.env) :: starEach es X.env) : PA X (e :: es) (tAs W Φ par E0 (.cons m ms)) :=
  PA.imp (pa_cons ha hr hs) fun σ H Q ⟨F, ρ, Xs, Kp, en, tb, hw, hk, hx⟩ => by
    unfold wAs at hw
    refine go en tb hw hx fun ρ1 r1 v1 F1 H1 h1 s1 e1 t1 rv1 n1 x1 => ?_
    cases r1 with
    | val x =>
      refine ⟨F1, ρ1, Xs, _, e1, t1, h1, fun ρ3 xs vs F3 H3 h3 s3 e3 r3 => ?_, x1⟩
      exact hk _ _ _ _ _ h3 (s1.trans s3) e3 ⟨v1, vs, rfl, ⟨rv1.stay s3, fun _ z => by cases z⟩, r3⟩
    | bor i =>
      refine ⟨F1, ρ1, Xs, _, e1, t1, h1, fun ρ3 xs vs F3 H3 h3 s3 e3 r3 => ?_, x1⟩
      exact hk _ _ _ _ _ h3 (s1.trans s3) e3 ⟨v1, vs, rfl, ⟨rv1.stay s3, fun _ z => by cases z⟩, r3⟩
    | tmp x =>
      obtain ⟨F2, s2, e2, rp, _⟩ := fz_ok (x := x) (ρ' := ρ1) s1 e1 rv1 n1 rfl
      refine ⟨F2, ρ1, Xs, _, e2, t1, h1, fun ρ3 xs vs F3 H3 h3 s3 e3 r3 => ?_, hx.step s2⟩
      exact hk _ _ _ _ _ h3 (s2.trans s3) e3 ⟨v1, vs, rfl, ⟨rp.mono s3.le, fun _ z => by cases z⟩, r3⟩

/-! ### items, slices -/
theorem atI_rep {F : Hp} {xs : List PV} {us : List V} (r : Reps W F xs us) {i : Int} {x : PV} (h : atI xs i = some x) : ∃ v, atI us i = some v ∧ Rep W F x v := by
  unfold atI at h ⊢
  rw [← r.length]
  cases e : ixN xs.length i with
  | none => rw [e] at h; cases h
  | some j =>
    rw [e] at h
    exact r.get (i := j) h
theorem ev_ix (hK : X.K = W.K) (ha : PE X a (tE W Φ par E0 ma)) (hb : PE X b (tE W Φ par E0 mb)) (hs : PlainIx b) : PE X (.Subscript a b pos) (tE W Φ par E0 (.ix ma mb)) := by
  refine ev_op2 (r := rPv W ixW) (f := ixW) (pe_ix ?_ ha hb hs) fun Xs ρ Q hw => by unfold wE at hw; exact hw
  intro value slice pins s σ H x y v u Q I rx ry h
  obtain ⟨F, px, py, Kq, le, nt, hx, hy, hw, k⟩ := h
  unfold ixW at hw
  split at hw
  · obtain ⟨p, us, rfl, hp, rp⟩ := hx
    cases hy
    obtain ⟨z, hz, q⟩ := hw
    obtain ⟨w, hw1, hw2⟩ := atI_rep rp hz
    exact ix_list value slice pins s σ H _ _ v u Q I rx ry ⟨p, us, _, w, rfl, rfl, .of hp, hw1, k _ _ F H q (.val le nt hw2)⟩
  · obtain ⟨p, us, rfl, hp, rp⟩ := hx
    cases hy
    obtain ⟨z, hz, q⟩ := hw
    obtain ⟨w, hw1, hw2⟩ := atI_rep rp hz
    exact ix_tup value slice pins s σ H _ _ v u Q I rx ry ⟨p, us, _, w, rfl, rfl, .of (le _ _ hp), hw1, k _ _ F H q (.val le nt hw2)⟩
  · exact hw.elim
theorem eo_none : PO X none (tO W Φ par E0 .noe) := ⟨fun pins s σ H Q I ⟨F, ρ, Xs, Kp, en, tb, hw, hk, hx⟩ => po_none.run pins s σ H Q I (by
  unfold wO at hw
  exact hk _ _ _ _ hw .refl en)⟩
theorem eo_some (ha : PE X e (tE W Φ par E0 m)) : PO X (some e) (tO W Φ par E0 (.tv m)) := ⟨fun pins s σ H Q I ⟨F, ρ, Xs, Kp, en, tb, hw, hk, hx⟩ => (po_some ha).run pins s σ H Q I (by
  unfold wO at hw
  refine go en tb hw hx fun ρ1 r1 v1 F1 H1 h1 s1 e1 t1 rv1 n1 x1 => ?_
  obtain ⟨x, hx', _, q⟩ := rdK_ok e1 rv1 h1
  split at q
  · cases hx'
    exact ⟨_, rfl, hk _ _ _ _ q s1 e1⟩
  · exact q.elim)⟩
theorem cut_rep {F : Hp} {xs : List PV} {us : List V} (r : Reps W F xs us) (lo hi : Option Int) : Reps W F (cutP xs lo hi) (cutV us lo hi) := by
  unfold cutP cutV
  rw [← r.length]
  exact (r.drop _).take _
theorem cut_whole {F : Hp} {xs : List PV} {us : List V} (r : Reps W F xs us) {lo hi : Option Int} (h : HT.sIx us.length 0 lo = 0 ∧ HT.sIx us.length us.length hi = us.length) : cutP xs lo hi = xs := by
  unfold cutP
  rw [r.length, h.1, h.2, List.drop_zero, Nat.sub_zero, ← r.length, List.take_length]
def rSlP (W : Wd) : V → Option Int → Option Int → Hp → VK → Prop := fun x lo hi H Q => ∃ (F : Hp) (px : PV) (Kq : RV → Prop), Same F H ∧ (∀ a ps, F a ≠ some (.tbl ps)) ∧ RdOk W F H px x ∧ slW px lo hi Kq ∧
  ∀ r v F' H', Kq r → Res W F H r v F' H' → Q v H'
theorem ev_sl {lo hi : Option Expr} {ml mh : E} {p2 : Pos} (ha : PE X a (tE W Φ par E0 ma)) (hl : PO X lo (tO W Φ par E0 ml)) (hh : PO X hi (tO W Φ par E0 mh)) : PE X (.Subscript a (.Slice lo hi none p2) pos) (tE W Φ par E0 (.sl ma ml mh)) := by
  refine PE.imp (pe_slice (r := rSlP W) ?_ ha hl hh) fun σ H Q ⟨F, ρ, Xs, Kp, en, tb, hw, hk, hx⟩ => ?_
  · intro pins s σ H x v vl vu lo hi sl Q I rx hs pl pu h
    obtain ⟨F, px, Kq, le, nt, hx, hw, k⟩ := h
    unfold slW at hw
    split at hw
    · obtain ⟨p, us, rfl, hp, rp⟩ := hx
      exact sl_list pins s σ H _ v vl vu lo hi sl Q I rx hs pl pu ⟨p, us, rfl, .of hp, fun q hq => k _ _ F _ hw (.lst le nt hq (cut_rep rp lo hi))⟩
    · obtain ⟨p, us, rfl, hp, rp⟩ := hx
      refine sl_tupA pins s σ H _ v vl vu lo hi sl Q I rx hs pl pu ⟨p, us, rfl, .of (le _ _ hp), fun hwh => ?_, fun _ q hq => k _ _ _ _ hw (.tup le nt hq (cut_rep rp lo hi))⟩
      refine k _ _ F H hw (.val le nt ?_)
      rw [cut_whole rp hwh]
      exact ⟨p, us, rfl, hp, rp⟩
    · exact hw.elim
  · unfold wE at hw
    refine go en tb hw hx fun ρ1 r1 v1 F1 H1 h1 s1 e1 t1 rv1 n1 x1 => ?_
    refine ⟨F1, ρ1, Xs, _, e1, t1, h1, fun ρ2 l F2 H2 h2 s2 e2 => ?_, x1⟩
    refine ⟨F2, ρ2, Xs, _, e2, s2.tabs t1, h2, fun ρ3 h F3 H3 h3 s3 e3 => ?_, x1.step s2⟩
    obtain ⟨x, hx', _, q⟩ := rdK_ok e3 ((rv1.stay s2).stay s3) h3
    exact ⟨F3, x, _, e3.le, e3.nt, hx', q, fun r v F' H' hq hr => fin ((s1.trans s2).trans s3) e3 hk hq hr⟩
theorem ev_rev {k : Nat} {p1 p2 p3 : Pos} (ha : PE X a (tE W Φ par E0 ma)) : PE X (.Subscript a (.Slice none none (some (.UnaryOp .USub (.Constant (.int 1) k p1) p2)) p3) pos) (tE W Φ par E0 (.rev ma)) :=
  PE.imp (pe_revL ha) fun σ H Q ⟨F, ρ, Xs, Kp, en, tb, hw, hk, hx⟩ => by
    unfold wE at hw
    refine go en tb hw hx fun ρ1 r1 v1 F1 H1 h1 s1 e1 t1 rv1 n1 x1 => ?_
    obtain ⟨x, hx', _, q⟩ := rdK_ok e1 rv1 h1
    split at q
    · obtain ⟨p, us, rfl, hp, rp⟩ := hx'
      exact ⟨p, us, rfl, .of hp, fun q' hq' => fin s1 e1 hk q (.lst e1.le e1.nt hq' rp.rev)⟩
    · exact q.elim

/-! ### built-ins -/
theorem rdsK_ok {F H : Hp} {ρ : SE} {σ : L2.St} (en : EnvOk W F H ρ σ) : ∀ {rs : List RV} {vs : List V}, RvsOk W F H ρ σ rs vs → ∀ {Q : List PV → Prop}, rdsK ρ rs Q → ∃ xs, Paired (RdOk W F H) xs vs ∧ Q xs
  | [], _, h, Q, q => by cases h; exact ⟨[], .nil, q⟩
  | r :: rs, _, ⟨v, ws, e, h1, h2⟩, Q, q => by
    subst e
    obtain ⟨x, hx, _, q⟩ := rdK_ok en h1.1 q
    obtain ⟨xs, hxs, q⟩ := rdsK_ok en h2 q
    exact ⟨x :: xs, .cons hx hxs, q⟩
def rBl (W : Wd) (f : List PV → (RV → Prop) → Prop) : List V → Hp → VK → Prop := fun vs H Q => ∃ (F : Hp) (xs : List PV) (Kq : RV → Prop), Same F H ∧ (∀ a ps, F a ≠ some (.tbl ps)) ∧ Paired (RdOk W F H) xs vs ∧ f xs Kq ∧
  ∀ r v F' H', Kq r → Res W F H r v F' H' → Q v H'
theorem ev_blt_of {f : Str} {e' : Expr} (h : PE X e' (tCB (rBl W (bltW f)) (tAs W Φ par E0 ms))) : PE X e' (tE W Φ par E0 (.blt f ms)) :=
  PE.imp h fun σ H Q ⟨F, ρ, Xs, Kp, en, tb, hw, hk, hx⟩ => by
    unfold wE at hw
    refine ⟨F, ρ, Xs, _, en, tb, hw, fun ρ1 rs vs F1 H1 h1 s1 e1 r1 => ?_, hx⟩
    obtain ⟨xs, hxs, q⟩ := rdsK_ok e1 r1 h1
    exact ⟨F1, xs, _, e1.le, e1.nt, hxs, q, fun r v F' H' hq hr => fin s1 e1 hk hq hr⟩
theorem paired1 {α β : Type} {G : α → β → Prop} {x : α} {vs : List β} (h : Paired G [x] vs) : ∃ v, vs = [v] ∧ G x v := by
  cases h with
  | cons h1 h2 => cases h2; exact ⟨_, rfl, h1⟩
theorem paired2 {α β : Type} {G : α → β → Prop} {x y : α} {vs : List β} (h : Paired G [x, y] vs) : ∃ v w, vs = [v, w] ∧ G x v ∧ G y w := by
  cases h with
  | cons h1 h2 =>
    obtain ⟨w, rfl, h3⟩ := paired1 h2
    exact ⟨_, _, rfl, h1, h3⟩
theorem cr_len (hK : X.K = W.K) : CallR X (.builtin "len") (rBl W (bltW "len")) := by
  intro pins s σ H xs us Q I r ⟨F, ps, Kq, le, nt, hp, hw, k⟩
  unfold bltW at hw
  rw [if_pos rfl] at hw
  split at hw
  · rename_i x
    obtain ⟨v, rfl, hv⟩ := paired1 hp
    cases x <;> simp only [lenP] at hw
    · obtain ⟨a, us, rfl, ha, ra⟩ := hv
      refine call_len pins s σ H _ _ Q I r ⟨_, us.length, rfl, .inr ⟨us, .of (le _ _ ha), rfl⟩, ?_⟩
      rw [← ra.length]
      exact k _ _ F H hw (.val le nt rfl)
    · obtain ⟨a, us, rfl, ha, ra⟩ := hv
      refine call_len pins s σ H _ _ Q I r ⟨_, us.length, rfl, .inl ⟨us, .of ha, rfl⟩, ?_⟩
      rw [← ra.length]
      exact k _ _ F H hw (.val le nt rfl)
  · exact hw.elim
theorem cr_abs : CallR X (.builtin "abs") (rBl W (bltW "abs")) := by
  intro pins s σ H xs us Q I r ⟨F, ps, Kq, le, nt, hp, hw, k⟩
  unfold bltW at hw
  rw [if_neg (by decide), if_pos rfl] at hw
  split at hw
  · obtain ⟨v, rfl, hv⟩ := paired1 hp
    cases hv
    exact call_abs pins s σ H _ _ Q I r ⟨_, rfl, k _ _ F H hw (.val le nt rfl)⟩
  · exact hw.elim
theorem cr_int : CallR X (.type "int") (rBl W (bltW "int")) := by
  intro pins s σ H xs us Q I r ⟨F, ps, Kq, le, nt, hp, hw, k⟩
  unfold bltW at hw
  rw [if_neg (by decide), if_neg (by decide), if_pos rfl] at hw
  split at hw
  · obtain ⟨v, rfl, hv⟩ := paired1 hp
    cases hv
    exact call_int1 pins s σ H _ _ Q I r (.inl ⟨_, rfl, k _ _ F H hw (.val le nt rfl)⟩)
  · exact hw.elim
theorem cr_gcdP : CallR X (.builtin "math.gcd") (rBl W (bltW "gcd")) := by
  intro pins s σ H xs us Q I r ⟨F, ps, Kq, le, nt, hp, hw, k⟩
  unfold bltW at hw
  rw [if_neg (by decide), if_neg (by decide), if_neg (by decide), if_pos rfl] at hw
  split at hw
  · obtain ⟨v, w, rfl, hv, hv2⟩ := paired2 hp
    cases hv; cases hv2
    exact cr_gcd pins s σ H _ _ Q I r ⟨_, _, rfl, k _ _ F H hw (.val le nt rfl)⟩
  · exact hw.elim
theorem reps_ints {F : Hp} : ∀ ns : List Int, Reps W F (ns.map PV.int) (ns.map V.int)
  | [] => rfl
  | n :: ns => ⟨_, _, rfl, rfl, reps_ints ns⟩
theorem cr_list (hK : X.K = W.K) : CallR X (.type "list") (rBl W (bltW "list")) := by
  intro pins s σ H xs us Q I r ⟨F, ps, Kq, le, nt, hp, hw, k⟩
  unfold bltW at hw
  rw [if_neg (by decide), if_neg (by decide), if_neg (by decide), if_neg (by decide), if_pos rfl] at hw
  split at hw
  · obtain ⟨v, rfl, hv⟩ := paired1 hp
    obtain ⟨a, rfl, ha⟩ := hv
    exact call_list_of pins s σ H _ _ Q I r ⟨a, _, rfl, .inl (by rw [hK]; exact le.seq ha), fun l hl => k _ _ F _ hw (.lst le nt hl (reps_ints _))⟩
  · obtain ⟨v, rfl, hv⟩ := paired1 hp
    obtain ⟨a, us, rfl, ha, ra⟩ := hv
    exact call_list_of pins s σ H _ _ Q I r ⟨a, _, rfl, .inl (.of ha), fun l hl => k _ _ F _ hw (.lst le nt hl ra)⟩
  · obtain ⟨v, rfl, hv⟩ := paired1 hp
    obtain ⟨a, us, rfl, ha, ra⟩ := hv
    exact call_list_of pins s σ H _ _ Q I r ⟨a, _, rfl, .inr (.of (le _ _ ha)), fun l hl => k _ _ F _ hw (.lst le nt hl ra)⟩
  · exact hw.elim
theorem cr_tuple : CallR X (.type "tuple") (rBl W (bltW "tuple")) := by
  intro pins s σ H xs us Q I r ⟨F, ps, Kq, le, nt, hp, hw, k⟩
  unfold bltW at hw
  rw [if_neg (by decide), if_neg (by decide), if_neg (by decide), if_neg (by decide), if_neg (by decide), if_pos rfl] at hw
  split at hw
  · obtain ⟨v, rfl, hv⟩ := paired1 hp
    obtain ⟨a, us, rfl, ha, ra⟩ := hv
    exact call_tuple_of pins s σ H _ _ Q I r ⟨a, _, rfl, .inl ⟨.of ha, fun l hl => k _ _ _ _ hw (.tup le nt hl ra)⟩⟩
  · obtain ⟨v, rfl, hv⟩ := paired1 hp
    obtain ⟨a, us, rfl, ha, ra⟩ := hv
    exact call_tuple_of pins s σ H _ _ Q I r ⟨a, _, rfl, .inr ⟨.of (le _ _ ha), k _ _ F H hw (.val le nt ⟨a, us, rfl, ha, ra⟩)⟩⟩
  · exact hw.elim
/-- isinstance(a, T), T a built-in class -/
theorem RdOk.ty {F H : Hp} (le : Same F H) {K : PySem.W.Frag} {x : PV} {v : V} (r : RdOk W F H x v) (hx : tyOk x = true) : TyX K H v (.type (tyN x)) := by
  cases x with
  | non => cases r; exact .base .non
  | bl b => cases r; exact .base (.bl b)
  | int i => cases r; exact .base (.int i)
  | str s => cases r; exact .base (.str s)
  | tup xs => obtain ⟨a, us, rfl, h, _⟩ := r; exact .base (.tup (le _ _ h))
  | lst xs => obtain ⟨a, us, rfl, h, _⟩ := r; exact .base (.lst h)
  | scr ns => cases hx
  | fn f => cases hx
theorem ev_isi {t : Str} {T : String} {p p2 : Pos} (hg : Gl X "isinstance") (hm : X.mg "isinstance" = none) (hg2 : Gl X t) (hm2 : X.mg t = none) (hv2 : bootBuiltins t = some (.type T)) (hn2 : t ≠ "__name__") (hd2 : (t == ("__debug__" : Str)) = false)
    (ha : PE X a (tE W Φ par E0 ma)) (hs : starEach [a, .Name t p2] X.env = (false, eval a X.env) :: starEach [.Name t p2] X.env) :
    PE X (.Call (.Name "isinstance" p) [a, .Name t p2] [] pos) (tE W Φ par E0 (.isi ma T)) := by
  have h2 : PE X (.Name t p2) (tC (.ty T)) := pe_bltn hg2 hm2 hv2 rfl hn2 hd2
  refine PE.imp (pe_callB call_isi hg hm (by decide +kernel) (pa_cons ha (pa_cons h2 pa_nil) hs) (by decide) (by decide) hs (by rfl)) fun σ H Q ⟨F, ρ, Xs, Kp, en, tb, hw, hk, hx⟩ => ?_
  unfold wE at hw
  refine go en tb hw hx fun ρ1 r1 v1 F1 H1 h1 s1 e1 t1 rv1 n1 x1 => ?_
  obtain ⟨x, hx', _, q⟩ := rdK_ok e1 rv1 h1
  obtain ⟨q1, k, q2, q3⟩ := q
  exact ⟨v1, .ty T, _, _, k, rfl, .ty T, RdOk.ty e1.le hx' q1, kit_ty q2, fin0 s1 e1 hk q3 rfl⟩
end Ev
namespace Ev
open PySem PySem.Spec PyProof.Rows L2
variable {W : Wd} {Φ : Tbl} {par : Nat → Bool} {E0 : EX} {X : Cx} {pos : Pos} {e : Expr} {es : List Expr} {m ms : E}

def lostAll (ss : List Slot) : List Slot := List.replicate ss.length .un
def rvOf (fr : Bool) (x : PV) : RV := if fr = true then .tmp x else .val x
/-- a def's promise, by plain values -/
def spOf (W : Wd) (S : FnS) : Sp := fun vs H Q E => ∃ (F : Hp) (ss : List Slot) (Kp : Bool → PV → List Slot → Prop) (Xk : Str → Prop), EnvOk W F H ss (vs.map some) ∧ LamX.Tabs W.T H ∧ S ss Kp Xk ∧
  (∀ fr x os v F' H', Kp fr x os → Step W F H ss (vs.map some) F' H' os (vs.map some) → EnvOk W F' H' os (vs.map some) → RvOk W F' H' os (vs.map some) (rvOf fr x) v → New H (rvOf fr x) v → Q v H') ∧
  (∀ c F' H', Xk c → Step W F H ss (vs.map some) F' H' (lostAll ss) (vs.map some) → EnvOk W F' H' (lostAll ss) (vs.map some) → ∀ C, W.mg c = some (.ref C) → E (.ref C) none H')

theorem argsOf_len {ρ : SE} : ∀ {rs : List RV} {ss : List Slot}, argsOf ρ rs = some ss → ss.length = rs.length
  | [], ss, h => by cases h; rfl
  | r :: rs, ss, h => by
    unfold argsOf at h
    split at h
    · rename_i s ss' h1 h2
      cases h
      simp [argsOf_len h2]
    · cases h
theorem args_at {ρ : SE} {F H : Hp} {σ : L2.St} : ∀ {rs : List RV} {ss : List Slot} {vs : List V}, argsOf ρ rs = some ss → RvsOk W F H ρ σ rs vs → vs.length = rs.length ∧ ∀ (k : Nat) (s : Slot), ss[k]? = some s →
    ∃ r v, rs[k]? = some r ∧ vs[k]? = some v ∧ argOf ρ r = some s ∧ RvOk W F H ρ σ r v
  | [], ss, vs, h, q => by cases h; cases q; exact ⟨rfl, fun k s e => by simp at e⟩
  | r :: rs, ss, _, h, ⟨v, ws, e, h1, h2⟩ => by
    subst e
    unfold argsOf at h
    split at h
    · rename_i s ss' g1 g2
      cases h
      obtain ⟨l, ih⟩ := args_at g2 h2
      refine ⟨by simp [l], fun k s' hk => ?_⟩
      cases k with
      | zero => simp at hk; subst hk; exact ⟨r, v, rfl, rfl, g1, h1.1⟩
      | succ k => simpa using ih k s' (by simpa using hk)
    · cases h
theorem bors_mem : ∀ {rs : List RV} {k i : Nat}, rs[k]? = some (.bor i) → i ∈ bors rs
  | [], k, i, h => by simp at h
  | r :: rs, 0, i, h => by simp at h; subst h; simp [bors]
  | r :: rs, k + 1, i, h => by
    have := bors_mem (rs := rs) (k := k) (i := i) (by simpa using h)
    cases r <;> simp [bors, this]
theorem bors_inj : ∀ {rs : List RV} {k l i : Nat}, (bors rs).Nodup → rs[k]? = some (.bor i) → rs[l]? = some (.bor i) → k = l
  | [], k, l, i, _, h, _ => by simp at h
  | r :: rs, 0, 0, i, _, _, _ => rfl
  | r :: rs, 0, l + 1, i, n, h, g => by
    simp at h; subst h
    have := bors_mem (rs := rs) (k := l) (i := i) (by simpa using g)
    simp [bors, this] at n
  | r :: rs, k + 1, 0, i, n, h, g => by
    simp at g; subst g
    have := bors_mem (rs := rs) (k := k) (i := i) (by simpa using h)
    simp [bors, this] at n
  | r :: rs, k + 1, l + 1, i, n, h, g => by
    have n' : (bors rs).Nodup := by cases r <;> first | exact n | exact (List.nodup_cons.mp n).2
    rw [bors_inj (rs := rs) (k := k) (l := l) (i := i) n' (by simpa using h) (by simpa using g)]
theorem argOf_own {ρ : SE} {r : RV} {x : PV} (h : argOf ρ r = some (.own x)) : ∃ i, r = .bor i ∧ ρ[i]? = some (.own x) := by
  unfold argOf at h
  split at h
  · cases h
  · cases h
  · split at h
    · cases h
    · rename_i y hy
      cases h
      exact ⟨_, rfl, hy⟩
    · cases h
section
variable {F H : Hp} {ρ : SE} {σ : L2.St} {rs : List RV} {ss : List Slot} {vs : List V}
theorem args_own (ha : argsOf ρ rs = some ss) (hr : RvsOk W F H ρ σ rs vs) {a : Addr} (h : OwnA ss (vs.map some) a) : ∃ (k i : Nat) (x : PV), rs[k]? = some (.bor i) ∧ ρ[i]? = some (.own x) ∧ σ[i]? = some (some (.ref a)) := by
  obtain ⟨k, x, h1, h2⟩ := h
  obtain ⟨r, v, e1, e2, e3, e4⟩ := (args_at ha hr).2 k _ h1
  obtain ⟨i, rfl, hi⟩ := argOf_own e3
  rw [List.getElem?_map, e2] at h2
  cases h2
  exact ⟨k, i, x, e1, hi, e4⟩
theorem args_env (en : EnvOk W F H ρ σ) (ha : argsOf ρ rs = some ss) (hr : RvsOk W F H ρ σ rs vs) (nd : (bors rs).Nodup) : EnvOk W F H ss (vs.map some) := by
  obtain ⟨hl, hat⟩ := args_at ha hr
  refine ⟨en.le, en.nt, by rw [List.length_map, hl]; exact argsOf_len ha, fun k s hk => ?_, fun k l x y a hkl h1 h2 h3 h4 => ?_⟩
  · obtain ⟨r, v, e1, e2, e3, e4⟩ := hat k s hk
    refine ⟨some v, by rw [List.getElem?_map, e2]; rfl, ?_⟩
    cases r with
    | val x => cases e3; exact ⟨v, rfl, e4⟩
    | tmp x => cases e3
    | bor i =>
      have hv : σ[i]? = some (some v) := e4
      unfold argOf at e3
      dsimp only at e3
      split at e3
      · rename_i y hy
        cases e3
        obtain ⟨o, ho, q⟩ := en.at_ i _ hy
        rw [hv] at ho; cases ho; exact q
      · rename_i y hy
        cases e3
        obtain ⟨o, ho, q⟩ := en.at_ i _ hy
        rw [hv] at ho; cases ho; exact q
      · cases e3
  · obtain ⟨r, v, e1, e2, e3, e4⟩ := hat k _ h1
    obtain ⟨r', v', e1', e2', e3', e4'⟩ := hat l _ h2
    obtain ⟨i, rfl, hi⟩ := argOf_own e3
    obtain ⟨j, rfl, hj⟩ := argOf_own e3'
    rw [List.getElem?_map, e2] at h3
    rw [List.getElem?_map, e2'] at h4
    cases h3; cases h4
    have hij : i ≠ j := fun z => hkl (bors_inj nd e1 (by rw [z]; exact e1'))
    exact en.apart i j x y a hij hi hj e4 e4'
theorem backs_len : ∀ {rs : List RV} {os : List Slot} {ρ : SE}, (backs ρ rs os).length = ρ.length
  | [], _, _ => by unfold backs; rfl
  | .bor i :: rs, [], _ => by simp [backs]
  | .val x :: rs, [], _ => by simp [backs]
  | .tmp x :: rs, [], _ => by simp [backs]
  | .bor i :: rs, s :: os, ρ => by unfold backs; rw [backs_len, List.length_set]
  | .val x :: rs, s :: os, ρ => by unfold backs; exact backs_len
  | .tmp x :: rs, s :: os, ρ => by unfold backs; exact backs_len
theorem backs_at : ∀ {rs : List RV} {os : List Slot} {ρ : SE} {i : Nat} {s : Slot}, (bors rs).Nodup → os.length = rs.length → (backs ρ rs os)[i]? = some s → (i ∉ bors rs ∧ ρ[i]? = some s) ∨ ∃ k : Nat, rs[k]? = some (.bor i) ∧ os[k]? = some s
  | [], _, _, _, _, _, _, h => by unfold backs at h; exact .inl ⟨by simp [bors], h⟩
  | .bor i :: rs, [], _, _, _, _, l, _ => by simp at l
  | .val x :: rs, [], _, _, _, _, l, _ => by simp at l
  | .tmp x :: rs, [], _, _, _, _, l, _ => by simp at l
  | .val x :: rs, s :: os, ρ, i, s', n, l, h => by
    unfold backs at h
    rcases backs_at (rs := rs) n (by simpa using l) h with z | ⟨k, z⟩
    · exact .inl z
    · exact .inr ⟨k + 1, by simpa using z⟩
  | .tmp x :: rs, s :: os, ρ, i, s', n, l, h => by
    unfold backs at h
    rcases backs_at (rs := rs) n (by simpa using l) h with z | ⟨k, z⟩
    · exact .inl z
    · exact .inr ⟨k + 1, by simpa using z⟩
  | .bor j :: rs, s :: os, ρ, i, s', n, l, h => by
    unfold backs at h
    have n' : j ∉ bors rs ∧ (bors rs).Nodup := List.nodup_cons.mp n
    rcases backs_at (rs := rs) n'.2 (by simpa using l) h with ⟨z1, z2⟩ | ⟨k, z⟩
    · by_cases e : j = i
      · subst e
        by_cases hj : j < ρ.length
        · rw [List.getElem?_set_self hj] at z2
          cases z2
          exact .inr ⟨0, rfl, rfl⟩
        · rw [List.getElem?_eq_none (by simpa using hj)] at z2; cases z2
      · rw [List.getElem?_set_ne e] at z2
        exact .inl ⟨fun q => (List.mem_cons.mp q).elim (fun q => e q.symm) z1, z2⟩
    · exact .inr ⟨k + 1, by simpa using z⟩
/-- behind a call the caller's state is a state again -/
theorem back_ok (en : EnvOk W F H ρ σ) (ha : argsOf ρ rs = some ss) (hr : RvsOk W F H ρ σ rs vs) (nd : (bors rs).Nodup) {F' H' : Hp} {os : List Slot} (st : Step W F H ss (vs.map some) F' H' os (vs.map some)) (eo : EnvOk W F' H' os (vs.map some)) :
    Step W F H ρ σ F' H' (backs ρ rs os) σ ∧ EnvOk W F' H' (backs ρ rs os) σ ∧ ∀ {r : RV} {v : V}, (∀ i, r ≠ .bor i) → RvOk W F' H' os (vs.map some) r v → New H r v → RvOk W F' H' (backs ρ rs os) σ r v := by
  obtain ⟨hl, hat⟩ := args_at ha hr
  have lo : os.length = rs.length := by rw [eo.len, List.length_map, hl]
  have rsv : ∀ (k i : Nat), rs[k]? = some (.bor i) → ∃ v, vs[k]? = some v ∧ σ[i]? = some (some v) := fun k i h => by
    have hk : k < ss.length := by rw [argsOf_len ha]; exact (List.getElem?_eq_some_iff.mp h).1
    obtain ⟨r, v, e1, e2, e3, e4⟩ := hat k ss[k] (by simp [hk])
    rw [h] at e1; cases e1
    exact ⟨v, e2, e4⟩
  have toρ : ∀ a, OwnA ss (vs.map some) a → OwnA ρ σ a := fun a h => by
    obtain ⟨k, i, x, h1, h2, h3⟩ := args_own ha hr h
    exact ⟨i, x, h2, h3⟩
  have there : ∀ (i : Nat) (x : PV) (a : Addr), ρ[i]? = some (.own x) → σ[i]? = some (some (.ref a)) → ∃ u, H a = some u ∧ (∀ ps, u ≠ .tbl ps) ∧ F a = none ∧ ObjRep W F (H a) x := fun i x a h1 h2 => by
    obtain ⟨o, ho, b, e, hF, q⟩ := en.at_ i _ h1
    rw [h2] at ho; cases ho; cases e
    obtain ⟨u, hu, nt⟩ := q.there
    exact ⟨u, hu, nt, hF, q⟩
  -- a slot that was not lent
  have other : ∀ (i : Nat) (x : PV) (a : Addr), i ∉ bors rs → ρ[i]? = some (.own x) → σ[i]? = some (some (.ref a)) → ¬ OwnA ss (vs.map some) a := fun i x a h1 h2 h3 h => by
    obtain ⟨k, j, y, g1, g2, g3⟩ := args_own ha hr h
    have : i ≠ j := fun z => h1 (by rw [z]; exact bors_mem g1)
    exact en.apart i j x y a this h2 g2 h3 g3
  have ownb : ∀ a, OwnA (backs ρ rs os) σ a → OwnA os (vs.map some) a ∨ ∃ (i : Nat) (x : PV), i ∉ bors rs ∧ ρ[i]? = some (.own x) ∧ σ[i]? = some (some (.ref a)) := fun a ⟨i, x, h1, h2⟩ => by
    rcases backs_at nd lo h1 with ⟨z1, z2⟩ | ⟨k, z1, z2⟩
    · exact .inr ⟨i, x, z1, z2, h2⟩
    · obtain ⟨v, e1, e2⟩ := rsv k i z1
      rw [h2] at e2; cases e2
      exact .inl ⟨k, x, z2, by rw [List.getElem?_map, e1]; rfl⟩
  refine ⟨⟨st.le, fun a o h nt no => st.keep a o h nt fun z => no (toρ a z), st.live, fun a h k => (st.new a h k).imp id (toρ a), fun a h => ?_, st.tabs⟩, ⟨eo.le, eo.nt, by rw [backs_len]; exact en.len, fun i s hs => ?_, fun i j x y a hij h1 h2 h3 h4 => ?_⟩, fun {r v} nb rv nw => ?_⟩
  · rcases ownb a h with z | ⟨i, x, z1, z2, z3⟩
    · exact (st.own a z).imp (toρ a) id
    · exact .inl ⟨i, x, z2, z3⟩
  · rcases backs_at nd lo hs with ⟨z1, z2⟩ | ⟨k, z1, z2⟩
    · obtain ⟨o, ho, q⟩ := en.at_ i s z2
      refine ⟨o, ho, ?_⟩
      cases s with
      | un => trivial
      | val x => obtain ⟨w, e, q⟩ := q; exact ⟨w, e, q.mono st.le⟩
      | own x =>
        obtain ⟨a, e, hF, q⟩ := q
        obtain ⟨u, hu, nt⟩ := q.there
        have na := other i x a z1 z2 (by rw [ho, e])
        refine ⟨a, e, ?_, ?_⟩
        · cases e1 : F' a with
          | none => rfl
          | some w =>
            rcases st.new a hF (by rw [e1]; simp) with z | z
            · exact (z.no hu nt).elim
            · exact absurd z na
        · rw [st.keep a u hu nt na]
          rw [hu] at q
          exact q.mono st.le
    · obtain ⟨v, e1, e2⟩ := rsv k i z1
      obtain ⟨o, ho, q⟩ := eo.at_ k s z2
      rw [List.getElem?_map, e1] at ho
      cases ho
      exact ⟨some v, e2, q⟩
  · have key : ∀ (i j : Nat) (x y : PV), i ∉ bors rs → ρ[i]? = some (.own x) → σ[i]? = some (some (.ref a)) → (∃ k : Nat, rs[k]? = some (.bor j) ∧ os[k]? = some (.own y)) → σ[j]? = some (some (.ref a)) → False := fun i j x y z1 z2 z3 ⟨k, z4, z5⟩ z6 => by
      obtain ⟨v, e1, e2⟩ := rsv k j z4
      rw [z6] at e2; cases e2
      obtain ⟨u, hu, nt, _⟩ := there i x a z2 z3
      rcases st.own a ⟨k, y, z5, by rw [List.getElem?_map, e1]; rfl⟩ with z | z
      · exact other i x a z1 z2 z3 z
      · exact z.no hu nt
    rcases backs_at nd lo h1 with ⟨z1, z2⟩ | ⟨k, z1, z2⟩
    · rcases backs_at nd lo h2 with ⟨y1, y2⟩ | ⟨l, y1, y2⟩
      · exact en.apart i j x y a hij z2 y2 h3 h4
      · exact key i j x y z1 z2 h3 ⟨l, y1, y2⟩ h4
    · rcases backs_at nd lo h2 with ⟨y1, y2⟩ | ⟨l, y1, y2⟩
      · exact key j i y x y1 y2 h4 ⟨k, z1, z2⟩ h3
      · obtain ⟨v, e1, e2⟩ := rsv k i z1
        obtain ⟨v', e1', e2'⟩ := rsv l j y1
        rw [h3] at e2; cases e2
        rw [h4] at e2'; cases e2'
        have hkl : k ≠ l := fun z => by
          subst z
          rw [z1] at y1; cases y1
          exact hij rfl
        exact eo.apart k l x y a hkl z2 y2 (by rw [List.getElem?_map, e1]; rfl) (by rw [List.getElem?_map, e1']; rfl)
  · cases r with
    | val x => exact rv
    | bor i => exact absurd rfl (nb i)
    | tmp x =>
      obtain ⟨a, e, hF, no, q⟩ := rv
      refine ⟨a, e, hF, fun z => ?_, q⟩
      rcases ownb a z with z | ⟨i, x, z1, z2, z3⟩
      · exact no z
      · obtain ⟨u, hu, nt, _⟩ := there i x a z2 z3
        exact (nw a e).no hu nt
end
theorem rvOf_nb (fr : Bool) (x : PV) : ∀ i, rvOf fr x ≠ .bor i := fun i z => by
  unfold rvOf at z
  split at z <;> cases z
/-- what is known of a def that is called -/
structure Callee (X : Cx) (W : Wd) (f : Str) (S : FnS) (E0 : EX) : Prop where
  ex : ∃ (k : Nat) (a : Addr) (fd : FuncData) (ps : List Str), FnOk X.prog X.w X.K X.mg X.base (L2N.CX X.prog X.w) k a fd ps (spOf W S) ∧ Room k X.A ∧ W.mg f = some (.ref a) ∧ PySem.W.keepIn X.K (.ref a) = true ∧ Binds X.K fd ps [] ∧ Passes (L2N.CX X.prog X.w) X (xk W E0)
theorem call_sp {S : FnS} {F0 H0 : Hp} {ρ0 : SE} {F H : Hp} {ρ : SE} {σ : L2.St} {Xs : XS} {Kp : SE → RV → Prop} {Q : VK} (s0 : Step W F0 H0 ρ0 σ F H ρ σ) (en : EnvOk W F H ρ σ) (tb : LamX.Tabs W.T H) (hk : OkK W F0 H0 ρ0 σ Kp Q) (hx : OkX W F0 H0 ρ0 σ Xs E0)
    {rs : List RV} {ss : List Slot} {vs : List V} (hr : RvsOk W F H ρ σ rs vs) (ha : argsOf ρ rs = some ss) (nd : (bors rs).Nodup) (hS : S ss (fun fr x os => Kp (backs ρ rs os) (rvOf fr x)) (fun c => Xs (loses ρ rs) c)) :
    spOf W S vs H Q (xk W E0) := by
  refine ⟨F, ss, _, _, args_env en ha hr nd, tb, hS, fun fr x os v F' H' h st eo rv nw => ?_, fun c F' H' h st eo C hC => ?_⟩
  · obtain ⟨s1, e1, r1⟩ := back_ok en ha hr nd st eo
    exact hk _ _ _ _ _ h (s0.trans s1) e1 (r1 (rvOf_nb fr x) rv nw) (nw.back s0)
  · obtain ⟨s1, e1, _⟩ := back_ok en ha hr nd st eo
    have e : lostAll ss = List.replicate rs.length .un := by unfold lostAll; rw [argsOf_len ha]
    rw [e] at s1 e1
    exact ⟨c, C, hC, rfl, rfl, hx _ c F' H' h (s0.trans s1) e1⟩
/-- f(..), f a def of the text -/
theorem ev_call {f : Str} {S : FnS} {p : Pos} (hmg : X.mg = W.mg) (hS : Φ.fn f = some S) (hc : Callee X W f S E0) (hg : Gl X f) (hd : (f == ("__debug__" : Str)) = false) (ha : PA X (e :: es) (tAs W Φ par E0 ms)) (he : starEach (e :: es) X.env = (false, eval e X.env) :: starEach es X.env) (hpl : (backTo pos (starEach es X.env)).any (·.1) = false) :
    PE X (.Call (.Name f p) (e :: es) [] pos) (tE W Φ par E0 (.call f ms)) := by
  refine ⟨fun pins s σ H Q I ⟨F, ρ, Xs, Kp, en, tb, hw, hk, hx⟩ => ?_⟩
  unfold wE at hw
  obtain ⟨k, a, fd, ps, G, hr, hm, kp, hb, hpass⟩ := hc.ex
  refine (pe_call (dvs := []) G hr hg (by rw [hmg]; exact hm) kp hb .nil hpass ha hd he hpl).run pins s σ H Q I ⟨F, ρ, Xs, _, en, tb, hw, fun ρ1 rs vs F1 H1 h1 s1 e1 r1 => ?_, hx⟩
  rw [hS] at h1
  split at h1
  · rename_i S' ss g1 g2
    cases g1
    rw [List.append_nil]
    exact call_sp s1 e1 (s1.tabs tb) hk hx r1 g2 h1.1 h1.2
  · exact h1.elim
theorem ev_call0 {f : Str} {S : FnS} {p : Pos} (hmg : X.mg = W.mg) (hS : Φ.fn f = some S) (hc : Callee X W f S E0) (hg : Gl X f) (hd : (f == ("__debug__" : Str)) = false) :
    PE X (.Call (.Name f p) [] [] pos) (tE W Φ par E0 (.call f .nil)) := by
  refine ⟨fun pins s σ H Q I ⟨F, ρ, Xs, Kp, en, tb, hw, hk, hx⟩ => ?_⟩
  unfold wE at hw
  unfold wAs at hw
  obtain ⟨k, a, fd, ps, G, hr, hm, kp, hb, hpass⟩ := hc.ex
  refine (pe_call0 (dvs := []) G hr hg (by rw [hmg]; exact hm) kp hb .nil hpass hd).run pins s σ H Q I ?_
  rw [hS] at hw
  split at hw
  · rename_i S' ss g1 g2
    cases g1
    exact call_sp (rs := []) (vs := []) .refl en tb hk hx rfl g2 hw.1 hw.2
  · exact hw.elim
/-- x(..), x a name that holds a def of the text -/
theorem ev_cvr {i : Nat} {x : Str} {p : Pos} (hmg : X.mg = W.mg) (hc : ∀ f S, Φ.fn f = some S → Callee X W f S E0) (hN : X.N[i]? = some x) (hv : Vis X.env.scope x) (hd : (x == ("__debug__" : Str)) = false) (hcd : (x == ("__classdict__" : Str)) = false)
    (ha : PA X (e :: es) (tAs W Φ par E0 ms)) (he : starEach (e :: es) X.env = (false, eval e X.env) :: starEach es X.env) (hpl : (backTo pos (starEach es X.env)).any (·.1) = false) :
    PE X (.Call (.Name x p) (e :: es) [] pos) (tE W Φ par E0 (.cvr i ms)) := by
  refine ⟨fun pins s σ H Q I ⟨F, ρ, Xs, Kp, en, tb, hw, hk, hx⟩ => ?_⟩
  unfold wE at hw
  -- which def the slot holds is told ahead of the arguments
  split at hw
  · rename_i f hf
    split at hw
    · rename_i S hS
      obtain ⟨k, a, fd, ps, G, hr, hm, kp, hb, hpass⟩ := (hc f S hS).ex
      obtain ⟨o, ho, v, e1, a', e2, hm'⟩ := en.at_ i _ hf
      subst e1; subst e2
      rw [hm] at hm'; cases hm'
      refine (pe_callL (dvs := []) G hr hN hv kp hb .nil hpass ha hd hcd he hpl).run pins s σ H Q I ⟨ho, F, ρ, Xs, _, en, tb, hw, fun ρ1 rs vs F1 H1 h1 s1 e1 r1 => ?_, hx⟩
      split at h1
      · rename_i ss g2
        rw [List.append_nil]
        exact call_sp s1 e1 (s1.tabs tb) hk hx r1 g2 h1.1 h1.2
      · exact h1.elim
    · exact hw.elim
  · exact hw.elim
end Ev
namespace Ev
open PySem PySem.Spec PyProof.Rows L2
variable {W : Wd} {Φ : Tbl} {par : Nat → Bool} {E0 : EX} {X : Cx} {pos : Pos} {e : Expr} {es : List Expr} {m ms : E}

/-! ### stores -/
theorem set_cases {α : Type} {l : List α} {i j : Nat} {s t : α} (h : (l.set i t)[j]? = some s) : (j = i ∧ s = t ∧ i < l.length) ∨ (j ≠ i ∧ l[j]? = some s) := by
  by_cases e : i = j
  · subst e
    by_cases hi : i < l.length
    · rw [List.getElem?_set_self hi] at h
      cases h
      exact .inl ⟨rfl, rfl, hi⟩
    · rw [List.getElem?_eq_none (by simpa using hi)] at h; cases h
  · rw [List.getElem?_set_ne e] at h
    exact .inr ⟨fun z => e z.symm, h⟩
theorem put_own_back {ρ : SE} {σ : L2.St} {i : Nat} {x : PV} {u : Option V} {a : Addr} (h : OwnA (ρ.set i (.val x)) (σ.set i u) a) : OwnA ρ σ a := by
  obtain ⟨j, y, h1, h2⟩ := h
  rcases set_cases h1 with ⟨_, e, _⟩ | ⟨hj, h1⟩
  · cases e
  · rcases set_cases h2 with ⟨e, _⟩ | ⟨_, h2⟩
    · exact absurd e hj
    · exact ⟨j, y, h1, h2⟩
theorem put_ok {F0 H0 : Hp} {ρ0 : SE} {σ0 : L2.St} {F H : Hp} {ρ : SE} {σ : L2.St} (st : Step W F0 H0 ρ0 σ0 F H ρ σ) (en : EnvOk W F H ρ σ) {x : PV} {v : V} (i : Nat) (r : Rep W F x v) :
    Step W F0 H0 ρ0 σ0 F H (ρ.set i (.val x)) (σ.set i (some v)) ∧ EnvOk W F H (ρ.set i (.val x)) (σ.set i (some v)) := by
  refine ⟨⟨st.le, st.keep, st.live, st.new, fun a h => st.own a (put_own_back h), st.tabs⟩, en.le, en.nt, by rw [List.length_set, List.length_set]; exact en.len, fun j s hs => ?_, fun j k y z a hjk h1 h2 h3 h4 => ?_⟩
  · rcases set_cases hs with ⟨e, e2, hi⟩ | ⟨hj, h1⟩
    · subst e; subst e2
      exact ⟨_, by rw [List.getElem?_set_self (by rw [← en.len]; exact hi)], v, rfl, r⟩
    · obtain ⟨o, ho, q⟩ := en.at_ j s h1
      exact ⟨o, by rw [List.getElem?_set_ne (Ne.symm hj)]; exact ho, q⟩
  · rcases set_cases h1 with ⟨_, e, _⟩ | ⟨hj, h1⟩
    · cases e
    · rcases set_cases h2 with ⟨_, e, _⟩ | ⟨hk, h2⟩
      · cases e
      · rw [List.getElem?_set_ne (Ne.symm hj)] at h3
        rw [List.getElem?_set_ne (Ne.symm hk)] at h4
        exact en.apart j k y z a hjk h1 h2 h3 h4
theorem putO_ok {F0 H0 : Hp} {ρ0 : SE} {σ0 : L2.St} {F H : Hp} {ρ : SE} {σ : L2.St} (st : Step W F0 H0 ρ0 σ0 F H ρ σ) (en : EnvOk W F H ρ σ) {x : PV} {v : V} (i : Nat) (r : RvOk W F H ρ σ (.tmp x) v) (nw : New H0 (.tmp x) v) :
    Step W F0 H0 ρ0 σ0 F H (ρ.set i (.own x)) (σ.set i (some v)) ∧ EnvOk W F H (ρ.set i (.own x)) (σ.set i (some v)) := by
  obtain ⟨a, e, hF, no, q⟩ := r
  subst e
  have back : ∀ b, OwnA (ρ.set i (.own x)) (σ.set i (some (.ref a))) b → b = a ∨ OwnA ρ σ b := fun b ⟨j, y, h1, h2⟩ => by
    rcases set_cases h1 with ⟨e, _, hi⟩ | ⟨hj, h1⟩
    · subst e
      rw [List.getElem?_set_self (by rw [← en.len]; exact hi)] at h2
      cases h2
      exact .inl rfl
    · rw [List.getElem?_set_ne (Ne.symm hj)] at h2
      exact .inr ⟨j, y, h1, h2⟩
  refine ⟨⟨st.le, st.keep, st.live, st.new, fun b h => ?_, st.tabs⟩, en.le, en.nt, by rw [List.length_set, List.length_set]; exact en.len, fun j s hs => ?_, fun j k y z b hjk h1 h2 h3 h4 => ?_⟩
  · rcases back b h with z | z
    · subst z; exact .inr (nw b rfl)
    · exact st.own b z
  · rcases set_cases hs with ⟨e, e2, hi⟩ | ⟨hj, h1⟩
    · subst e; subst e2
      exact ⟨_, by rw [List.getElem?_set_self (by rw [← en.len]; exact hi)], a, rfl, hF, q⟩
    · obtain ⟨o, ho, q⟩ := en.at_ j s h1
      exact ⟨o, by rw [List.getElem?_set_ne (Ne.symm hj)]; exact ho, q⟩
  · rcases set_cases h1 with ⟨e1, _, hi⟩ | ⟨hj, h1⟩
    · subst e1
      rcases set_cases h2 with ⟨e, _, _⟩ | ⟨hk, h2⟩
      · exact hjk e.symm
      · rw [List.getElem?_set_self (by rw [← en.len]; exact hi)] at h3
        cases h3
        rw [List.getElem?_set_ne (Ne.symm hk)] at h4
        exact no ⟨k, z, h2, h4⟩
    · have h1' := h1
      rcases set_cases h2 with ⟨e, _, hi⟩ | ⟨hk, h2⟩
      · subst e
        rw [List.getElem?_set_self (by rw [← en.len]; exact hi)] at h4
        cases h4
        rw [List.getElem?_set_ne (Ne.symm hj)] at h3
        exact no ⟨j, y, h1', h3⟩
      · rw [List.getElem?_set_ne (Ne.symm hj)] at h3
        rw [List.getElem?_set_ne (Ne.symm hk)] at h4
        exact en.apart j k y z b hjk h1 h2 h3 h4

/-! ### targets -/
def Tg.sl : Tg → List Nat
  | .nam i => [i]
  | .nil => []
  | .cons t ts => t.sl ++ ts.sl
  | .tup ts => ts.sl
/-- the slots that were stored to -/
structure Put (par : Nat → Bool) (l : List Nat) (σ σ' : L2.St) : Prop where
  len : σ'.length = σ.length
  not : ∀ i, i ∉ l → σ'[i]? = σ[i]?
  par : ∀ i, par i = true → σ'[i]? = σ[i]?
theorem Put.refl {l : List Nat} {σ : L2.St} : Put par l σ σ := ⟨rfl, fun _ _ => rfl, fun _ _ => rfl⟩
def tG (W : Wd) (par : Nat → Bool) (g : Tg) : TG := fun v σ H Q => ∃ F ρ x Kp, EnvOk W F H ρ σ ∧ Rep W F x v ∧ wG par g x ρ Kp ∧ ∀ ρ' σ', Kp ρ' → Step W F H ρ σ F H ρ' σ' → EnvOk W F H ρ' σ' → Put par g.sl σ σ' → Q σ' H
def tGs (W : Wd) (par : Nat → Bool) (g : Tg) : TGs := fun vs σ H Q => ∃ F ρ xs Kp, EnvOk W F H ρ σ ∧ Reps W F xs vs ∧ wGs par g xs ρ Kp ∧ ∀ ρ' σ', Kp ρ' → Step W F H ρ σ F H ρ' σ' → EnvOk W F H ρ' σ' → Put par g.sl σ σ' → Q σ' H
theorem PG.imp {t t' : TG} (h : PG X e t) (i : ∀ v σ H Q, t' v σ H Q → t v σ H Q) : PG X e t' := ⟨fun pins s σ H v u Q I r q => h.run pins s σ H v u Q I r (i _ _ _ _ q)⟩
theorem PGs.imp {t t' : TGs} (h : PGs X es t) (i : ∀ v σ H Q, t' v σ H Q → t v σ H Q) : PGs X es t' := ⟨fun pins s σ H v u Q I r q => h.run pins s σ H v u Q I r (i _ _ _ _ q)⟩
theorem eg_nam {i : Nat} {x : Str} (hN : X.N.Nodup) (hi : X.N[i]? = some x) (hx : Loc X.env.scope x) (hf : X.fn x = true ∨ X.env.scope.names.lookup x = some .local) : PG X (.Name x pos) (tG W par (.nam i)) :=
  PG.imp (pg_name hN hi hx hf) fun v σ H Q ⟨F, ρ, x, Kp, en, r, hw, k⟩ => by
    unfold wG at hw
    obtain ⟨s, e⟩ := put_ok .refl en i r
    refine k _ _ hw.2 s e ⟨List.length_set, fun j hj => List.getElem?_set_ne (fun z => hj (by simp [Tg.sl, z])), fun j hj => List.getElem?_set_ne fun z => ?_⟩
    subst z
    rw [hw.1] at hj; cases hj
theorem egs_nil : PGs X [] (tGs W par .nil) :=
  PGs.imp pgs_nil fun v σ H Q ⟨F, ρ, x, Kp, en, r, hw, k⟩ => by
    cases x with
    | nil =>
      unfold wGs at hw
      exact ⟨r, k _ _ hw .refl en .refl⟩
    | cons y ys => unfold wGs at hw; exact hw.elim
theorem egs_cons {g gs : Tg} (h1 : PG X e (tG W par g)) (h2 : PGs X es (tGs W par gs)) (hs : (assignEach (e :: es) X.env).map (·.2) = assign e X.env :: (assignEach es X.env).map (·.2)) : PGs X (e :: es) (tGs W par (.cons g gs)) :=
  PGs.imp (pgs_cons h1 h2 hs) fun vs σ H Q ⟨F, ρ, xs, Kp, en, r, hw, k⟩ => by
    cases xs with
    | nil => unfold wGs at hw; exact hw.elim
    | cons y ys =>
      unfold wGs at hw
      obtain ⟨u, us, e1, r1, r2⟩ := r
      refine ⟨u, us, e1, F, ρ, y, _, en, r1, hw, fun ρ1 σ1 h1 s1 e1 p1 => ?_⟩
      refine ⟨F, ρ1, ys, Kp, e1, r2, h1, fun ρ2 σ2 h2 s2 e2 p2 => k _ _ h2 (s1.trans s2) e2 ⟨p2.len.trans p1.len, fun i hi => ?_, fun i hi => (p2.par i hi).trans (p1.par i hi)⟩⟩
      have hi' : i ∉ g.sl ∧ i ∉ gs.sl := by simpa [Tg.sl] using hi
      exact (p2.not i hi'.2).trans (p1.not i hi'.1)
theorem eg_tup {k : Nat} {g : Tg} (hK : X.K = W.K) (hc : X.calm = true) (h : PGs X es (tGs W par g)) (hn : (assignEach es X.env).length = g.n) (hst : (assignEach es X.env).findIdx? (·.1) = none) : PG X (.Tuple es k pos) (tG W par (.tup g)) :=
  PG.imp (pg_tup hc h hn hst) fun v σ H Q ⟨F, ρ, x, Kp, en, r, hw, k⟩ => by
    cases x with
    | tup xs =>
      unfold wG at hw
      obtain ⟨a, us, e, hF, rr⟩ := r
      exact ⟨a, us, e, .of (en.le _ _ hF), by rw [← rr.length]; exact hw.1, F, ρ, xs, Kp, en, rr, hw.2, k⟩
    | _ => unfold wG at hw; exact hw.elim
end Ev
namespace Ev
open PySem PySem.Spec PyProof.Rows L2
variable {W : Wd} {Φ : Tbl} {par : Nat → Bool} {E0 : EX} {X : Cx} {pos : Pos} {e : Expr} {es : List Expr} {m ms : E}

/-! ### slots forgotten for a while -/
theorem wipeE_len (ρ : SE) : ∀ vs : List Nat, (wipeE ρ vs).length = ρ.length
  | [] => rfl
  | v :: vs => by unfold wipeE; rw [List.length_set, wipeE_len ρ vs]
theorem wipeE_own {ρ : SE} {i : Nat} {x : PV} : ∀ {vs : List Nat}, (wipeE ρ vs)[i]? = some (.own x) → ρ[i]? = some (.own x) ∧ i ∉ vs
  | [], h => ⟨h, by simp⟩
  | v :: vs, h => by
    unfold wipeE at h
    rcases set_cases h with ⟨_, e, _⟩ | ⟨hi, h⟩
    · cases e
    · obtain ⟨h1, h2⟩ := wipeE_own h
      exact ⟨h1, fun z => (List.mem_cons.mp z).elim hi h2⟩
theorem wipeE_at {ρ : SE} {i : Nat} {s : Slot} : ∀ {vs : List Nat}, (wipeE ρ vs)[i]? = some s → (s = .un ∧ i < ρ.length) ∨ (ρ[i]? = some s ∧ i ∉ vs)
  | [], h => .inr ⟨h, by simp⟩
  | v :: vs, h => by
    unfold wipeE at h
    rcases set_cases h with ⟨e0, e, hl⟩ | ⟨hi, h⟩
    · rw [wipeE_len] at hl
      exact .inl ⟨e, by rw [e0]; exact hl⟩
    · rcases wipeE_at h with z | ⟨h1, h2⟩
      · exact .inl z
      · exact .inr ⟨h1, fun z => (List.mem_cons.mp z).elim hi h2⟩
theorem wipeE_keep {ρ : SE} {i : Nat} {s : Slot} : ∀ {vs : List Nat}, i ∉ vs → ρ[i]? = some s → (wipeE ρ vs)[i]? = some s
  | [], _, h => h
  | v :: vs, hi, h => by
    unfold wipeE
    rw [List.getElem?_set_ne fun z => hi (by simp [z])]
    exact wipeE_keep (fun z => hi (List.mem_cons_of_mem _ z)) h
theorem wipe_at {σ : L2.St} {i : Nat} : ∀ {vs : List Nat}, i ∉ vs → (wipe σ vs)[i]? = σ[i]?
  | [], _ => rfl
  | v :: vs, hi => by
    unfold wipe
    rw [List.getElem?_set_ne fun z => hi (by simp [z])]
    exact wipe_at fun z => hi (List.mem_cons_of_mem _ z)
theorem wipe_eq {σ σ' : L2.St} (hl : σ'.length = σ.length) : ∀ {vs : List Nat}, (∀ i, i ∉ vs → σ'[i]? = σ[i]?) → wipe σ' vs = wipe σ vs := fun {vs} h => by
  refine List.ext_getElem? fun i => ?_
  by_cases hi : i ∈ vs
  · have key : ∀ (τ : L2.St) (ws : List Nat), i ∈ ws → (wipe τ ws)[i]? = if i < τ.length then some none else none := fun τ ws => by
      induction ws with
      | nil => intro z; cases z
      | cons w ws ih =>
        intro z
        unfold wipe
        by_cases e : w = i
        · subst e
          by_cases hl : w < (wipe τ ws).length
          · rw [List.getElem?_set_self hl]
            rw [wipe_length] at hl
            rw [if_pos hl]
          · rw [List.getElem?_eq_none (by simpa using hl)]
            rw [wipe_length] at hl
            rw [if_neg hl]
        · rw [List.getElem?_set_ne e]
          exact ih ((List.mem_cons.mp z).resolve_left fun q => e q.symm)
    rw [key _ _ hi, key _ _ hi, hl]
  · rw [wipe_at hi, wipe_at hi, h i hi]
theorem wipe_ok {F0 H0 : Hp} {ρ0 : SE} {σ0 : L2.St} {F H : Hp} {ρ : SE} {σ : L2.St} (st : Step W F0 H0 ρ0 σ0 F H ρ σ) (en : EnvOk W F H ρ σ) (vs : List Nat) :
    Step W F0 H0 ρ0 σ0 F H (wipeE ρ vs) (wipe σ vs) ∧ EnvOk W F H (wipeE ρ vs) (wipe σ vs) := by
  have back : ∀ (i : Nat) (x : PV) (a : Addr), (wipeE ρ vs)[i]? = some (.own x) → (wipe σ vs)[i]? = some (some (.ref a)) → ρ[i]? = some (.own x) ∧ σ[i]? = some (some (.ref a)) := fun i x a h1 h2 => by
    obtain ⟨h3, h4⟩ := wipeE_own h1
    rw [wipe_at h4] at h2
    exact ⟨h3, h2⟩
  refine ⟨⟨st.le, st.keep, st.live, st.new, fun a ⟨i, x, h1, h2⟩ => ?_, st.tabs⟩, en.le, en.nt, by rw [wipeE_len, wipe_length]; exact en.len, fun i s hs => ?_, fun i j x y a hij h1 h2 h3 h4 => ?_⟩
  · obtain ⟨h3, h4⟩ := back i x a h1 h2
    exact st.own a ⟨i, x, h3, h4⟩
  · rcases wipeE_at hs with ⟨z, hl⟩ | ⟨h1, h2⟩
    · subst z
      have : i < (wipe σ vs).length := by rw [wipe_length, ← en.len]; exact hl
      exact ⟨(wipe σ vs)[i], by simp [this], trivial⟩
    · obtain ⟨o, ho, q⟩ := en.at_ i s h1
      exact ⟨o, by rw [wipe_at h2]; exact ho, q⟩
  · obtain ⟨g1, g2⟩ := back i x a h1 h3
    obtain ⟨g3, g4⟩ := back j y a h2 h4
    exact en.apart i j x y a hij g1 g3 g2 g4
theorem restE_len (ρ0 ρ : SE) : ∀ vs : List Nat, (restE ρ0 ρ vs).length = ρ.length
  | [] => rfl
  | v :: vs => by unfold restE; rw [List.length_set, restE_len ρ0 ρ vs]
theorem restE_at {ρ0 ρ : SE} {i : Nat} {s : Slot} : ∀ {vs : List Nat}, (restE ρ0 ρ vs)[i]? = some s → (i ∈ vs ∧ s = ρ0.getD i .un) ∨ (i ∉ vs ∧ ρ[i]? = some s)
  | [], h => .inr ⟨by simp, h⟩
  | v :: vs, h => by
    unfold restE at h
    rcases set_cases h with ⟨e0, e, hl⟩ | ⟨hi, h⟩
    · subst e0; exact .inl ⟨by simp, e⟩
    · rcases restE_at h with ⟨z1, z2⟩ | ⟨z1, z2⟩
      · exact .inl ⟨List.mem_cons_of_mem _ z1, z2⟩
      · exact .inr ⟨fun q => (List.mem_cons.mp q).elim hi z1, z2⟩
/-- behind a block: its own names are forgotten, the slots stand as ahead of it -/
theorem rest_ok {F1 H1 : Hp} {ρ1 : SE} {σ : L2.St} (e1 : EnvOk W F1 H1 ρ1 σ) {vs : List Nat} {F H : Hp} {ρ : SE} (st : Step W F1 H1 (wipeE ρ1 vs) (wipe σ vs) F H ρ (wipe σ vs)) (en : EnvOk W F H ρ (wipe σ vs)) :
    Step W F1 H1 ρ1 σ F H (restE ρ1 ρ vs) σ ∧ EnvOk W F H (restE ρ1 ρ vs) σ ∧ ∀ a, ¬ OwnA ρ (wipe σ vs) a → Fresh H1 a → ¬ OwnA (restE ρ1 ρ vs) σ a := by
  have wown : ∀ a, OwnA (wipeE ρ1 vs) (wipe σ vs) a → OwnA ρ1 σ a := fun a ⟨i, x, h1, h2⟩ => by
    obtain ⟨h3, h4⟩ := wipeE_own h1
    rw [wipe_at h4] at h2
    exact ⟨i, x, h3, h2⟩
  have there : ∀ (i : Nat) (x : PV) (a : Addr), ρ1[i]? = some (.own x) → σ[i]? = some (some (.ref a)) → ∃ u, H1 a = some u ∧ (∀ ps, u ≠ .tbl ps) ∧ F1 a = none ∧ ObjRep W F1 (H1 a) x := fun i x a h1 h2 => by
    obtain ⟨o, ho, b, e, hF, q⟩ := e1.at_ i _ h1
    rw [h2] at ho; cases ho; cases e
    obtain ⟨u, hu, nt⟩ := q.there
    exact ⟨u, hu, nt, hF, q⟩
  have getD : ∀ {i : Nat} {s : Slot}, s = ρ1.getD i .un → (∃ x, s = .own x) ∨ (∃ x, s = .val x) → ρ1[i]? = some s := fun {i s} h q => by
    rw [List.getD_eq_getElem?_getD] at h
    cases e : ρ1[i]? with
    | none =>
      rw [e] at h
      have : s = .un := h
      subst this
      rcases q with ⟨_, z⟩ | ⟨_, z⟩ <;> cases z
    | some t =>
      rw [e] at h
      have : s = t := h
      rw [this]
  -- a slot put aside is nobody's within the block
  have aside : ∀ (i : Nat) (x : PV) (a : Addr), i ∈ vs → ρ1[i]? = some (.own x) → σ[i]? = some (some (.ref a)) → ¬ OwnA (wipeE ρ1 vs) (wipe σ vs) a := fun i x a hi h1 h2 ⟨j, y, h3, h4⟩ => by
    obtain ⟨h5, h6⟩ := wipeE_own h3
    rw [wipe_at h6] at h4
    exact e1.apart i j x y a (fun z => h6 (by rw [← z]; exact hi)) h1 h5 h2 h4
  have ownR : ∀ a, OwnA (restE ρ1 ρ vs) σ a → OwnA ρ (wipe σ vs) a ∨ ∃ (i : Nat) (x : PV), i ∈ vs ∧ ρ1[i]? = some (.own x) ∧ σ[i]? = some (some (.ref a)) := fun a ⟨i, x, h1, h2⟩ => by
    rcases restE_at h1 with ⟨z1, z2⟩ | ⟨z1, z2⟩
    · exact .inr ⟨i, x, z1, getD z2 (.inl ⟨x, rfl⟩), h2⟩
    · exact .inl ⟨i, x, z2, by rw [wipe_at z1]; exact h2⟩
  refine ⟨⟨st.le, fun a o h nt no => st.keep a o h nt fun z => no (wown a z), st.live, fun a h k => (st.new a h k).imp id (wown a), fun a h => ?_, st.tabs⟩, ⟨en.le, en.nt, ?_, fun i s hs => ?_, fun i j x y a hij h1 h2 h3 h4 => ?_⟩, fun a no f h => ?_⟩
  · rcases ownR a h with z | ⟨i, x, z1, z2, z3⟩
    · exact (st.own a z).imp (wown a) id
    · exact .inl ⟨i, x, z2, z3⟩
  · rw [restE_len, en.len, wipe_length]
  · rcases restE_at hs with ⟨z1, z2⟩ | ⟨z1, z2⟩
    · cases s with
      | un =>
        have hl : i < (restE ρ1 ρ vs).length := (List.getElem?_eq_some_iff.mp hs).1
        rw [restE_len, en.len, wipe_length] at hl
        exact ⟨σ[i], by simp [hl], trivial⟩
      | val x =>
        obtain ⟨o, ho, w, e, q⟩ := e1.at_ i _ (getD z2 (.inr ⟨x, rfl⟩))
        exact ⟨o, ho, w, e, q.mono st.le⟩
      | own x =>
        have h1 := getD z2 (.inl ⟨x, rfl⟩)
        obtain ⟨o, ho, a, e, hF, q⟩ := e1.at_ i _ h1
        obtain ⟨u, hu, nt⟩ := q.there
        have na := aside i x a z1 h1 (by rw [ho, e])
        refine ⟨o, ho, a, e, ?_, ?_⟩
        · cases e1 : F a with
          | none => rfl
          | some w =>
            rcases st.new a hF (by rw [e1]; simp) with z | z
            · exact (z.no hu nt).elim
            · exact absurd z na
        · rw [st.keep a u hu nt na]
          rw [hu] at q
          exact q.mono st.le
    · obtain ⟨o, ho, q⟩ := en.at_ i s z2
      exact ⟨o, by rw [← wipe_at z1]; exact ho, q⟩
  · have key : ∀ (i j : Nat) (x y : PV), i ∈ vs → ρ1[i]? = some (.own x) → σ[i]? = some (some (.ref a)) → OwnA ρ (wipe σ vs) a → False := fun i j x y z1 z2 z3 z4 => by
      obtain ⟨u, hu, nt, _⟩ := there i x a z2 z3
      rcases st.own a z4 with z | z
      · exact aside i x a z1 z2 z3 z
      · exact z.no hu nt
    rcases restE_at h1 with ⟨z1, z2⟩ | ⟨z1, z2⟩
    · rcases restE_at h2 with ⟨y1, y2⟩ | ⟨y1, y2⟩
      · exact e1.apart i j x y a hij (getD z2 (.inl ⟨x, rfl⟩)) (getD y2 (.inl ⟨y, rfl⟩)) h3 h4
      · exact key i j x y z1 (getD z2 (.inl ⟨x, rfl⟩)) h3 ⟨j, y, y2, by rw [wipe_at y1]; exact h4⟩
    · rcases restE_at h2 with ⟨y1, y2⟩ | ⟨y1, y2⟩
      · exact key j i y x y1 (getD y2 (.inl ⟨y, rfl⟩)) h4 ⟨i, x, z2, by rw [wipe_at z1]; exact h3⟩
      · exact en.apart i j x y a hij z2 y2 (by rw [wipe_at z1]; exact h3) (by rw [wipe_at y1]; exact h4)
  · rcases ownR a h with z | ⟨i, x, z1, z2, z3⟩
    · exact no z
    · obtain ⟨u, hu, nt, _⟩ := there i x a z2 z3
      exact f.no hu nt

/-! ### what is walked -/
/-- at turn i comes the i-th of ys -/
def Yld (W : Wd) (F : Hp) (ys : List PV) : Nat → Hp → V → Hp → Prop := fun i H v H' => ∃ y, ys[i]? = some y ∧ ∀ F2, Same F F2 → Same F2 H → (∀ a ps, F2 a ≠ some (.tbl ps)) → ∃ F3, Res W F2 H (.val y) v F3 H'
def Serves (W : Wd) (F : Hp) (J : It) (ys : List PV) : Prop := Walk J ys.length (fun H => Same F H) (Yld W F ys)
theorem Serves.mono {F F' : Hp} {J : It} {ys : List PV} (le : Same F F') (s : Serves W F J ys) : Serves W F' J ys :=
  Walk.mono s (fun _ h => le.trans h) fun i H v H' hi h ⟨y, e, q⟩ => ⟨y, e, fun F2 l1 l2 nt => q F2 (le.trans l1) l2 nt⟩
def tI (W : Wd) (Φ : Tbl) (par : Nat → Bool) (E0 : EX) (m : E) : TI := fun σ H R => ∃ F ρ X Kp, EnvOk W F H ρ σ ∧ LamX.Tabs W.T H ∧ wI Φ par m X ρ Kp ∧
  (∀ ρ' ys F' H' J, Kp ρ' ys → Step W F H ρ σ F' H' ρ' σ → EnvOk W F' H' ρ' σ → Serves W F' J ys → R J H') ∧ OkX W F H ρ σ X E0
theorem PI.imp {tg it : Expr} {t t' : TI} (h : PI X tg it t) (i : ∀ σ H R, t' σ H R → t σ H R) : PI X tg it t' := ⟨fun pins s σ H R I q => h.run pins s σ H R I (i _ _ _ q)⟩
theorem serves_list {K : PySem.W.Frag} {F : Hp} {a : Addr} {xs : List PV} {us : List V} (hF : F a = some (.lst us)) (r : Reps W F xs us) : Serves W F (Itl K a) xs := by
  have w := walk_list (K := K) (a := a) (xs := us)
  rw [← r.length] at w
  refine Walk.mono w (fun H h => .of (h _ _ hF)) fun i H v H' hi h ⟨e, hv⟩ => ?_
  obtain ⟨u, hu, ru⟩ := r.get (i := i) (x := xs[i]) (by simp [hi])
  rw [hv] at hu; cases hu
  exact ⟨xs[i], by simp [hi], fun F2 l1 l2 nt => ⟨F2, by rw [e]; exact .val l2 nt (ru.mono l1)⟩⟩
theorem serves_tup {K : PySem.W.Frag} {F : Hp} {a : Addr} {xs : List PV} {us : List V} (hF : F a = some (.tup us)) (r : Reps W F xs us) : Serves W F (Itt K a) xs := by
  have w := walk_tup (K := K) (a := a) (xs := us)
  rw [← r.length] at w
  refine Walk.mono w (fun H h => .of (h _ _ hF)) fun i H v H' hi h ⟨e, hv⟩ => ?_
  obtain ⟨u, hu, ru⟩ := r.get (i := i) (x := xs[i]) (by simp [hi])
  rw [hv] at hu; cases hu
  exact ⟨xs[i], by simp [hi], fun F2 l1 l2 nt => ⟨F2, by rw [e]; exact .val l2 nt (ru.mono l1)⟩⟩
theorem serves_rng {F : Hp} (i j : Int) : Serves W F (Itr i (j - i).toNat) (rngP i j) := by
  have w := walk_range (lo := i) (n := (j - i).toNat)
  have el : (rngP i j).length = (j - i).toNat := by unfold rngP; simp
  rw [← el] at w ⊢
  refine Walk.mono w (fun H h => trivial) fun k H v H' hk h ⟨e, hv⟩ => ?_
  refine ⟨.int (i + k), ?_, fun F2 l1 l2 nt => ⟨F2, by rw [e]; exact .val l2 nt hv⟩⟩
  unfold rngP at hk ⊢
  rw [List.getElem?_map, List.getElem?_range (by simpa using hk)]
  rfl
theorem zipP_at : ∀ {xs ys : List PV} {i : Nat} {x y : PV}, xs[i]? = some x → ys[i]? = some y → (zipP xs ys)[i]? = some (.tup [x, y])
  | [], _, _, _, _, h, _ => by simp at h
  | _ :: _, [], _, _, _, _, h => by simp at h
  | a :: xs, b :: ys, 0, x, y, h, k => by simp at h k; subst h; subst k; rfl
  | a :: xs, b :: ys, i + 1, x, y, h, k => by
    have := zipP_at (xs := xs) (ys := ys) (i := i) (x := x) (y := y) (by simpa using h) (by simpa using k)
    simpa [zipP] using this
theorem zipP_len : ∀ xs ys : List PV, (zipP xs ys).length = min xs.length ys.length
  | [], _ => by simp [zipP]
  | _ :: _, [] => by simp [zipP]
  | x :: xs, y :: ys => by simp [zipP, zipP_len xs ys]
theorem yld_pair {F : Hp} {xs ys : List PV} {us ws : List V} (rx : Reps W F xs us) (ry : Reps W F ys ws) {i : Nat} {H H' : Hp} {v : V} (hi : i < (zipP xs ys).length) (h : YPair (fun i => us[i]?) (fun i => ws[i]?) i H v H') : Yld W F (zipP xs ys) i H v H' := by
  obtain ⟨T, x, y, e1, e2, e3, e4, e5⟩ := h
  rw [zipP_len] at hi
  have h1 : i < xs.length := by omega
  have h2 : i < ys.length := by omega
  obtain ⟨u, hu, ru⟩ := rx.get (i := i) (x := xs[i]) (by simp [h1])
  obtain ⟨w, hw, rw'⟩ := ry.get (i := i) (x := ys[i]) (by simp [h2])
  have e4' : us[i]? = some x := e4
  have e5' : ws[i]? = some y := e5
  rw [e4'] at hu; cases hu
  rw [e5'] at hw; cases hw
  subst e1; subst e3
  exact ⟨_, zipP_at (by simp [h1]) (by simp [h2]), fun F2 l1 l2 nt => ⟨_, .tup l2 nt e2 ⟨x, [y], rfl, ru.mono l1, y, [], rfl, rw'.mono l1, rfl⟩⟩⟩
theorem serves_zipL {K : PySem.W.Frag} {F : Hp} {a b : Addr} {xs ys : List PV} {us ws : List V} (hF : F a = some (.lst us)) (hG : F b = some (.lst ws)) (rx : Reps W F xs us) (ry : Reps W F ys ws) : Serves W F (Itz K a b) (zipP xs ys) :=
  Walk.mono (walk_zip (K := K) (a := a) (b := b) (xs := us) (ys := ws) (n := (zipP xs ys).length) (by rw [zipP_len, rx.length, ry.length])) (fun H h => ⟨.of (h _ _ hF), .of (h _ _ hG)⟩) fun i H v H' hi h q => yld_pair rx ry hi q
theorem walk_zipT {K : PySem.W.Frag} {a b : Addr} {xs ys : List V} {n : Nat} (hn : n = min xs.length ys.length) : Walk (RZ.ItzT K a b) n (fun H => SqT K H a xs ∧ SqT K H b ys) (YPair (fun i => xs[i]?) (fun i => ys[i]?)) := by
  refine ⟨fun i _ hi q => ⟨xs, ys, xs[i]'(by omega), ys[i]'(by omega), q.1, q.2, by simp [show i < xs.length by omega], by simp [show i < ys.length by omega]⟩, fun _ q => ⟨xs, ys, q.1, q.2, by omega⟩, fun i H v H' _ q y => ?_⟩
  obtain ⟨T, x, z, h1, h2, h3, h4, h5⟩ := y
  exact ⟨T, x, z, h1, h2, h3, h4 xs q.1, h5 ys q.2⟩
theorem serves_zipT {K : PySem.W.Frag} {F : Hp} {a b : Addr} {xs ys : List PV} {us ws : List V} (hF : F a = some (.tup us)) (hG : F b = some (.tup ws)) (rx : Reps W F xs us) (ry : Reps W F ys ws) : Serves W F (RZ.ItzT K a b) (zipP xs ys) :=
  Walk.mono (walk_zipT (K := K) (a := a) (b := b) (xs := us) (ys := ws) (n := (zipP xs ys).length) (by rw [zipP_len, rx.length, ry.length])) (fun H h => ⟨.of (h _ _ hF), .of (h _ _ hG)⟩) fun i H v H' hi h q => yld_pair rx ry hi q
/-- a list or a tuple, walked -/
theorem pi_seq {tg l : Expr} {tl : TE} (hl : PE X l tl) : PI X tg l (fun σ H R => tl σ H fun x H1 => ∃ a, x = .ref a ∧ (((∃ xs, SqL X.K H1 a xs) ∧ R (Itl X.K a) H1) ∨ ((∃ xs, SqT X.K H1 a xs) ∧ R (Itt X.K a) H1))) := by
  refine ⟨fun pins s σ H R I h => thn (hl.run pins s σ H _ I h) fun v s1 ⟨x, H1, I1, r1, a, e, q⟩ => ?_⟩
  subst e
  cases r1
  rcases q with ⟨⟨xs, hq⟩, q⟩ | ⟨⟨xs, hq⟩, q⟩
  · have hp : PE X l (fun _ H2 Q => Q (.ref a) H2) → True := fun _ => trivial
    obtain ⟨its, rv, p, hz⟩ := I1.list hq
    refine wpAny_pyIter_list p.isList ⟨_, [s1.heap.objs.size], _, Itl X.K a, H1, rfl, I1.kept (t' := s1.toks) fun b o e => Heap.get?_push_of_some _ e, turn_list a _, ⟨_, Heap.get?_push_size _ rfl, rfl, rfl⟩, fun b hb => ?_, q⟩
    cases (List.mem_singleton.mp hb)
    exact I1.fpOk (Nat.le_refl _) (I1.hok.fresh (Nat.le_refl _))
  · obtain ⟨its, rv, p, hz⟩ := I1.tuple hq
    refine wpAny_pyIter_tuple (show s1.heap.IsTuple a its.toArray from p) ⟨_, [s1.heap.objs.size], _, Itt X.K a, H1, rfl, I1.kept (t' := s1.toks) fun b o e => Heap.get?_push_of_some _ e, turn_tuple a _, ⟨_, Heap.get?_push_size _ rfl, rfl, rfl⟩, fun b hb => ?_, q⟩
    cases (List.mem_singleton.mp hb)
    exact I1.fpOk (Nat.le_refl _) (I1.hok.fresh (Nat.le_refl _))
theorem ei_it {tg : Expr} (ha : PE X e (tE W Φ par E0 m)) : PI X tg e (tI W Φ par E0 (.it m)) :=
  PI.imp (pi_seq ha) fun σ H R ⟨F, ρ, Xs, Kp, en, tb, hw, hk, hx⟩ => by
    unfold wI at hw
    refine go en tb hw hx fun ρ1 r1 v1 F1 H1 h1 s1 e1 t1 rv1 n1 x1 => ?_
    obtain ⟨F2, ρ2, x, s2, e2, rp, q⟩ := fzK_ok s1 e1 rv1 n1 h1
    cases x <;> simp only [items] at q
    · obtain ⟨a, us, rfl, hF, rr⟩ := rp
      exact ⟨a, rfl, .inr ⟨⟨us, .of (e2.le _ _ hF)⟩, hk _ _ _ _ _ q s2 e2 (serves_tup hF rr)⟩⟩
    · obtain ⟨a, us, rfl, hF, rr⟩ := rp
      exact ⟨a, rfl, .inl ⟨⟨us, .of (e2.le _ _ hF)⟩, hk _ _ _ _ _ q s2 e2 (serves_list hF rr)⟩⟩
theorem ei_rng1 {tg : Expr} {p : Pos} (hg : Gl X "range") (hm : X.mg "range" = none) (ha : PE X e (tE W Φ par E0 m)) (hs : starEach [e] X.env = [(false, eval e X.env)]) (hs' : starEach [e] X.env = (false, eval e X.env) :: starEach [] X.env) :
    PI X tg (.Call (.Name "range" p) [e] [] pos) (tI W Φ par E0 (.rng (.int 0) m)) :=
  PI.imp (pi_range1 hg hm (pa_cons ha pa_nil hs') hs) fun σ H R ⟨F, ρ, Xs, Kp, en, tb, hw, hk, hx⟩ => by
    unfold wI wE at hw
    refine go en tb hw hx fun ρ1 r1 v1 F1 H1 h1 s1 e1 t1 rv1 n1 x1 => ?_
    obtain ⟨x, hx0, ex, q⟩ := rdK_ok (r := .val (.int 0)) (v := .int 0) e1 rfl h1
    cases ex
    obtain ⟨y, hy', _, q⟩ := rdK_ok e1 rv1 q
    split at q
    · rename_i i j e0 e0'
      cases e0
      cases hy'
      refine ⟨j, rfl, q.1.2.2.1, q.1.2.2.2, ?_⟩
      have := serves_rng (W := W) (F := F1) 0 j
      rw [show j - 0 = j by omega] at this
      exact hk _ _ _ _ _ q.2 s1 e1 this
    · exact q.elim
theorem ei_rng2 {tg e2 : Expr} {m2 : E} {p : Pos} (hg : Gl X "range") (hm : X.mg "range" = none) (ha : PE X e (tE W Φ par E0 m)) (hb : PE X e2 (tE W Φ par E0 m2)) (hs : starEach [e, e2] X.env = [(false, eval e X.env), (false, eval e2 X.env)]) (hs2 : starEach [e2] X.env = [(false, eval e2 X.env)])
    (hs' : starEach [e, e2] X.env = (false, eval e X.env) :: starEach [e2] X.env) (hs2' : starEach [e2] X.env = (false, eval e2 X.env) :: starEach [] X.env) :
    PI X tg (.Call (.Name "range" p) [e, e2] [] pos) (tI W Φ par E0 (.rng m m2)) :=
  PI.imp (pi_range2 hg hm (pa_cons ha (pa_cons hb pa_nil hs2') hs') hs hs2) fun σ H R ⟨F, ρ, Xs, Kp, en, tb, hw, hk, hx⟩ => by
    unfold wI at hw
    refine go en tb hw hx fun ρ1 r1 v1 F1 H1 h1 s1 e1 t1 rv1 n1 x1 => ?_
    refine go e1 t1 h1 x1 fun ρ2 r2 v2 F2 H2 h2 s2 e2 t2 rv2 n2 x2 => ?_
    obtain ⟨x, hx', _, q⟩ := rdK_ok e2 (rv1.stay s2) h2
    obtain ⟨y, hy', _, q⟩ := rdK_ok e2 rv2 q
    split at q
    · cases hx'; cases hy'
      exact ⟨_, _, rfl, q.1, hk _ _ _ _ _ q.2 (s1.trans s2) e2 (serves_rng _ _)⟩
    · exact q.elim
theorem ei_zip {e2 : Expr} {m2 : E} {p tpos : Pos} {elts : List Expr} {kk : Nat} (hg : Gl X "zip") (hm : X.mg "zip" = none) (ha : PE X e (tE W Φ par E0 m)) (hb : PE X e2 (tE W Φ par E0 m2))
    (hs' : starEach [e, e2] X.env = (false, eval e X.env) :: starEach [e2] X.env) (hs2' : starEach [e2] X.env = (false, eval e2 X.env) :: starEach [] X.env) (hpl : (backTo pos (starEach [e2] X.env)).any (·.1) = false) :
    PI X (.Tuple elts kk tpos) (.Call (.Name "zip" p) [e, e2] [] pos) (tI W Φ par E0 (.zip m m2)) :=
  PI.imp (RZ.pi_zipA hg hm (pa_cons ha (pa_cons hb pa_nil hs2') hs') hs' hpl) fun σ H R ⟨F, ρ, Xs, Kp, en, tb, hw, hk, hx⟩ => by
    unfold wI at hw
    refine go en tb hw hx fun ρ1 r1 v1 F1 H1 h1 s1 e1 t1 rv1 n1 x1 => ?_
    obtain ⟨F2, ρ2, x, s2, e2, rp, q⟩ := fzK_ok s1 e1 rv1 n1 h1
    refine go e2 t1 q (hx.step s2) fun ρ3 r3 v3 F3 H3 h3 s3 e3 t3 rv3 n3 x3 => ?_
    obtain ⟨F4, ρ4, y, s4, e4, rp4, q⟩ := fzK_ok s3 e3 rv3 n3 h3
    have rp := rp.mono s4.le
    have s5 := s2.trans s4
    cases x <;> cases y <;> simp only [same2] at q
    · obtain ⟨a, us, rfl, hF, rr⟩ := rp
      obtain ⟨b, ws, rfl, hG, rr2⟩ := rp4
      exact ⟨a, b, us, ws, rfl, .inr ⟨.of (e4.le _ _ hF), .of (e4.le _ _ hG), hk _ _ _ _ _ q s5 e4 (serves_zipT hF hG rr rr2)⟩⟩
    · obtain ⟨a, us, rfl, hF, rr⟩ := rp
      obtain ⟨b, ws, rfl, hG, rr2⟩ := rp4
      exact ⟨a, b, us, ws, rfl, .inl ⟨.of (e4.le _ _ hF), .of (e4.le _ _ hG), hk _ _ _ _ _ q s5 e4 (serves_zipL hF hG rr rr2)⟩⟩
end Ev
namespace Ev
open PySem PySem.Spec PyProof.Rows L2
variable {W : Wd} {Φ : Tbl} {par : Nat → Bool} {E0 : EX} {X : Cx} {pos : Pos} {e : Expr} {es : List Expr} {m ms : E}

abbrev NoE : EX := fun _ _ => False
theorem ets_nil : PTs X [] (tT W Φ par E0 .noe) := ⟨fun pins s σ H Q I ⟨F, ρ, Xs, Kp, en, tb, hw, hk, hx⟩ => pts_nil.run pins s σ H Q I (by
  unfold wT at hw
  exact hk _ _ _ _ hw .refl en)⟩
/-- the list that grows is nobody's yet -/
theorem upd_env {F H : Hp} {ρ : SE} {σ : L2.St} (en : EnvOk W F H ρ σ) {D : Addr} {o : HO} (hF : F D = none) (no : ¬ OwnA ρ σ D) : EnvOk W F (upd H D o) ρ σ := by
  refine ⟨fun b u e => ?_, en.nt, en.len, fun i s hs => ?_, en.apart⟩
  · rw [upd_ne (fun z => by rw [z, hF] at e; cases e)]
    exact en.le b u e
  · obtain ⟨v, hv, q⟩ := en.at_ i s hs
    refine ⟨v, hv, ?_⟩
    cases s with
    | un => trivial
    | val x => exact q
    | own x =>
      obtain ⟨a, e, h1, h2⟩ := q
      refine ⟨a, e, h1, ?_⟩
      rw [upd_ne (fun z => no ⟨i, x, hs, by rw [hv, e, z]⟩)]
      exact h2
theorem tabs_upd {T : List (Addr × Str)} {H : Hp} {D : Addr} {us ws : List V} (h : LamX.Tabs T H) (hD : H D = some (.lst us)) : LamX.Tabs T (upd H D (.lst ws)) := fun p hp => by
  obtain ⟨ps, h1, h2, h3⟩ := h p hp
  refine ⟨ps, by rw [upd_ne (fun z => by rw [z, hD] at h1; cases h1)]; exact h1, h2, fun q cv hc => ?_⟩
  obtain ⟨c, e1, e2⟩ := h3 q cv hc
  refine ⟨c, e1, ?_⟩
  rw [upd_ne (fun z => by rw [z, hD] at e2; unfold LamX.CodeO at e2; cases e2)]
  exact e2
/-- a step, seen from a heap where D did not stand yet -/
theorem step_upd {F1 H1 : Hp} {ρ1 : SE} {σ1 : L2.St} {F H : Hp} {ρ : SE} {σ : L2.St} (st : Step W F1 H1 ρ1 σ1 F H ρ σ) {D : Addr} {us ws : List V} (hn : H1 D = none) (hD : H D = some (.lst us)) : Step W F1 H1 ρ1 σ1 F (upd H D (.lst ws)) ρ σ := by
  refine ⟨st.le, fun a o h nt no => ?_, fun a f => ?_, st.new, st.own, fun h => tabs_upd (st.tabs h) hD⟩
  · rw [upd_ne (fun z => by rw [z, hn] at h; cases h)]
    exact st.keep a o h nt no
  · by_cases ha : a = D
    · subst ha; exact .of hn
    · exact st.live a fun o e => f o (by rw [upd_ne ha]; exact e)
/-- what stands between two turns of a comprehension -/
structure Turns (W : Wd) (F1 H1 : Hp) (ρ1 : SE) (σ : L2.St) (vs : List Nat) (D : Addr) (F H : Hp) (ρ : SE) (acc : List PV) : Prop where
  st : Step W F1 H1 (wipeE ρ1 vs) (wipe σ vs) F H ρ (wipe σ vs)
  en : EnvOk W F H ρ (wipe σ vs)
  hF : F D = none
  no : ¬ OwnA ρ (wipe σ vs) D
  it : ∃ us, H D = some (.lst us) ∧ Reps W F acc us
theorem Turns.on {F1 H1 : Hp} {ρ1 : SE} {σ : L2.St} {vs : List Nat} {D : Addr} {F H : Hp} {ρ : SE} {acc : List PV} (t : Turns W F1 H1 ρ1 σ vs D F H ρ acc) (hn : H1 D = none)
    {F2 H2 : Hp} {ρ2 : SE} {σ2 : L2.St} (s : Step W F H ρ (wipe σ vs) F2 H2 ρ2 σ2) : F2 D = none ∧ ¬ OwnA ρ2 σ2 D ∧ ∃ us, H2 D = some (.lst us) ∧ Reps W F2 acc us := by
  obtain ⟨us, hD, r⟩ := t.it
  have nt : ∀ ps, HO.lst us ≠ .tbl ps := fun ps z => by cases z
  refine ⟨?_, fun z => ?_, us, s.keep _ _ hD nt t.no, r.mono s.le⟩
  · cases e : F2 D with
    | none => rfl
    | some o =>
      rcases s.new D t.hF (by rw [e]; simp) with z | z
      · exact (z.no hD nt).elim
      · exact absurd z t.no
  · rcases s.own D z with z | z
    · exact t.no z
    · exact z.no hD nt
/-- [elt for target in iter if cond] -/
theorem lc_imp {mi melt mc : E} {g : Tg} {vs : List Nat} (hg : ∀ i ∈ g.sl, i ∈ vs) {σ : L2.St} {H : Hp} {Q : VK} (h : tE W Φ par E0 (.lc melt g mi mc vs) σ H Q) :
    tLc (tI W Φ par E0 mi) (tG W par g) (tT W Φ par NoE mc) (tE W Φ par NoE melt) vs σ H Q := by
  obtain ⟨F, ρ, Xs, Kp, en, tb, hw, hk, hx⟩ := h
  unfold wE at hw
  refine ⟨F, ρ, Xs, _, en, tb, hw, fun ρ1 ys F1 H1 J h1 s1 e1 srv D hD => ?_, hx⟩
  have eF : F1 D = none := e1.le.free hD
  obtain ⟨s2, e2⟩ := wipe_ok (Step.refl (W := W) (F := F1) (H := H1) (ρ := ρ1) (σ := σ)) e1 vs
  have ownD : ∀ {ρ : SE} {σ : L2.St}, EnvOk W F1 H1 ρ σ → ¬ OwnA ρ σ D := fun {ρ σ} en ⟨i, x, q1, q2⟩ => by
    obtain ⟨o, ho, a, e, _, q⟩ := en.at_ i _ q1
    rw [q2] at ho; cases ho; cases e
    obtain ⟨u, hu, _⟩ := q.there
    rw [hD] at hu; cases hu
  have t0 : Turns W F1 H1 ρ1 σ vs D F1 (upd H1 D (.lst [])) (wipeE ρ1 vs) [] := by
    refine ⟨⟨Same.refl _, fun a o h _ _ => same_upd hD a o h, fun a f => fresh_upd hD f, fun _ h k => absurd h k, fun _ h => .inl h, fun h => h.ext (same_upd hD)⟩, upd_env e2 eF (ownD e2), eF, ownD e2, [], upd_same, rfl⟩
  refine lc_it srv (fun i H' => ∃ F' ρ' acc, Turns W F1 H1 ρ1 σ vs D F' H' ρ' acc ∧ loopC (fun y ρ2 R => wG par g y ρ2 fun ρ3 => wT Φ par mc (fun _ _ => False) ρ3 fun ρ4 k =>
      if k = true then wE Φ par melt (fun _ _ => False) ρ4 fun ρ5 r => fzK ρ5 r fun ρ6 x => R (wipeE ρ6 vs) (some x) else R (wipeE ρ4 vs) none) (ys.drop i) ρ' acc fun ρ7 acc => Kp (restE ρ1 ρ7 vs) (.tmp (.lst acc)))
    ⟨F1, wipeE ρ1 vs, [], t0, by simpa using h1⟩ (fun i H' _ ⟨F', ρ', acc, t, _⟩ => t.st.le.trans t.en.le) ?_ ?_
  · rintro i v H' H2 hi ⟨F', ρ', acc, t, hl⟩ ⟨y, hy, hyl⟩
    obtain ⟨F3, hr⟩ := hyl F' t.st.le t.en.le t.en.nt
    obtain ⟨s3, e3, r3, _⟩ := hr.on t.en
    rw [List.drop_eq_getElem_cons hi] at hl
    have ey : ys[i] = y := by rw [List.getElem?_eq_getElem hi] at hy; exact Option.some.inj hy
    rw [ey] at hl
    unfold loopC at hl
    refine ⟨F3, ρ', y, _, e3, r3, hl, fun ρ4 σ4 h4 s4 e4 p4 => ⟨?_, ?_⟩⟩
    · have := wipe_eq (vs := vs) p4.len fun i hi => p4.not i fun z => hi (hg i z)
      rw [this]
      refine wipe_eq (wipe_length _ _) fun i hi => wipe_at hi
    have ew : wipe σ4 vs = wipe σ vs := by
      rw [wipe_eq (vs := vs) p4.len fun i hi => p4.not i fun z => hi (hg i z)]
      exact wipe_eq (wipe_length _ _) fun i hi => wipe_at hi
    have s34 := s3.trans s4
    have tb3 : LamX.Tabs W.T H2 := s34.tabs (t.st.tabs (s1.tabs tb))
    refine goT (E0 := NoE) e4 tb3 h4 (fun _ _ _ _ z => z.elim) fun ρ5 k F5 H5 h5 s5 e5 t5 x5 => ?_
    cases k with
    | false =>
      rw [if_neg Bool.false_ne_true] at h5 ⊢
      have s345 := s34.trans s5
      obtain ⟨k1, k2, k3⟩ := t.on hD s345
      obtain ⟨s6, e6⟩ := wipe_ok (t.st.trans s345) e5 vs
      rw [ew] at s6 e6
      refine ⟨F5, wipeE ρ5 vs, acc, ⟨s6, e6, k1, fun z => k2 ?_, k3⟩, h5⟩
      obtain ⟨j, x, z1, z2⟩ := z
      obtain ⟨z3, z4⟩ := wipeE_own z1
      rw [← ew, wipe_at z4] at z2
      exact ⟨j, x, z3, z2⟩
    | true =>
      rw [if_pos rfl] at h5 ⊢
      refine go (E0 := NoE) e5 t5 h5 (fun _ _ _ _ z => z.elim) fun ρ6 r6 v6 F6 H6 h6 s6 e6 t6 rv6 n6 x6 => ?_
      obtain ⟨F7, ρ7, x, s7, e7, rp, q⟩ := fzK_ok s6 e6 rv6 n6 h6
      have s347 := (s34.trans s5).trans s7
      obtain ⟨k1, k2, us, k3, k4⟩ := t.on hD s347
      refine ⟨us, k3, by rw [← k4.length]; exact q.1, ?_⟩
      obtain ⟨s8, e8⟩ := wipe_ok (t.st.trans s347) e7 vs
      rw [ew] at s8 e8
      have no8 : ¬ OwnA (wipeE ρ7 vs) (wipe σ vs) D := fun z => k2 (by
        obtain ⟨j, x, z1, z2⟩ := z
        obtain ⟨z3, z4⟩ := wipeE_own z1
        rw [← ew, wipe_at z4] at z2
        exact ⟨j, x, z3, z2⟩)
      exact ⟨F7, wipeE ρ7 vs, acc ++ [x], ⟨step_upd s8 hD k3, upd_env e8 k1 no8, k1, no8, _, upd_same, k4.app (.one rp)⟩, q.2⟩
  · rintro H' ⟨F', ρ', acc, t, hl⟩
    rw [List.drop_length] at hl
    unfold loopC at hl
    obtain ⟨s9, e9, n9⟩ := rest_ok e1 t.st t.en
    refine hk _ _ _ _ _ hl (s1.trans s9) e9 ?_ ?_
    · obtain ⟨us, u1, u2⟩ := t.it
      exact ⟨D, rfl, t.hF, n9 D t.no (.of hD), us, u1, u2⟩
    · exact New.back (r := .tmp (.lst acc)) s1 fun a e => by cases e; exact .of hD
end Ev
namespace Ev
open PySem PySem.Spec PyProof.Rows L2
variable {W : Wd} {Φ : Tbl} {par : Nat → Bool} {E0 : EX} {X : Cx} {pos : Pos} {e : Expr} {es : List Expr} {m ms : E}

/-! ### statements -/
def ParS (par : Nat → Bool) (σ σ' : L2.St) : Prop := ∀ i, par i = true → σ'[i]? = σ[i]?
def OkN (W : Wd) (par : Nat → Bool) (F H : Hp) (ρ : SE) (σ : L2.St) (O : SE → Prop) (Q : L2.St → Hp → Prop) : Prop :=
  ∀ ρ' σ' F' H', O ρ' → Step W F H ρ σ F' H' ρ' σ' → EnvOk W F' H' ρ' σ' → ParS par σ σ' → Q σ' H'
def OkR (W : Wd) (par : Nat → Bool) (F H : Hp) (ρ : SE) (σ : L2.St) (O : SE → RV → Prop) (Q : VK) : Prop :=
  ∀ ρ' σ' r v F' H', O ρ' r → Step W F H ρ σ F' H' ρ' σ' → EnvOk W F' H' ρ' σ' → RvOk W F' H' ρ' σ' r v → New H r v → ParS par σ σ' → Q v H'
def OkXS (W : Wd) (F H : Hp) (ρ : SE) (σ : L2.St) (X : XS) (E0 : EX) : Prop :=
  ∀ ρ' σ' c F' H', X ρ' c → Step W F H ρ σ F' H' ρ' σ' → EnvOk W F' H' ρ' σ' → E0 c H'
structure OkD (W : Wd) (par : Nat → Bool) (E0 : EX) (F H : Hp) (ρ : SE) (σ : L2.St) (X : XS) (O : Out) (D : Ends) : Prop where
  nx : OkN W par F H ρ σ O.nx D.nx
  rt : OkR W par F H ρ σ O.rt D.rt
  bk : OkN W par F H ρ σ O.bk D.bk
  ct : OkN W par F H ρ σ O.ct D.ct
  xs : OkXS W F H ρ σ X E0
theorem ParS.trans {σ σ1 σ2 : L2.St} (a : ParS par σ σ1) (b : ParS par σ1 σ2) : ParS par σ σ2 := fun i h => (b i h).trans (a i h)
theorem ParS.refl {σ : L2.St} : ParS par σ σ := fun _ _ => rfl
section
variable {F H F1 H1 : Hp} {ρ ρ1 : SE} {σ σ1 : L2.St}
theorem OkN.step {O : SE → Prop} {Q : L2.St → Hp → Prop} (h : OkN W par F H ρ σ O Q) (s : Step W F H ρ σ F1 H1 ρ1 σ1) (p : ParS par σ σ1) : OkN W par F1 H1 ρ1 σ1 O Q :=
  fun ρ' σ' F' H' ho s' e' p' => h ρ' σ' F' H' ho (s.trans s') e' (p.trans p')
theorem OkR.step {O : SE → RV → Prop} {Q : VK} (h : OkR W par F H ρ σ O Q) (s : Step W F H ρ σ F1 H1 ρ1 σ1) (p : ParS par σ σ1) : OkR W par F1 H1 ρ1 σ1 O Q :=
  fun ρ' σ' r v F' H' ho s' e' rv nw p' => h ρ' σ' r v F' H' ho (s.trans s') e' rv (nw.back s) (p.trans p')
theorem OkXS.step {Xs : XS} (h : OkXS W F H ρ σ Xs E0) (s : Step W F H ρ σ F1 H1 ρ1 σ1) : OkXS W F1 H1 ρ1 σ1 Xs E0 := fun ρ' σ' c F' H' hx s' e' => h ρ' σ' c F' H' hx (s.trans s') e'
theorem OkXS.x {Xs : XS} (h : OkXS W F H ρ σ Xs E0) : OkX W F H ρ σ Xs E0 := fun ρ' c F' H' hx s' e' => h ρ' σ c F' H' hx s' e'
theorem OkD.step {Xs : XS} {O : Out} {D : Ends} (h : OkD W par E0 F H ρ σ Xs O D) (s : Step W F H ρ σ F1 H1 ρ1 σ1) (p : ParS par σ σ1) : OkD W par E0 F1 H1 ρ1 σ1 Xs O D :=
  ⟨h.nx.step s p, h.rt.step s p, h.bk.step s p, h.ct.step s p, h.xs.step s⟩
end
def tS (W : Wd) (Φ : Tbl) (par : Nat → Bool) (E0 : EX) (m : S) : TS := fun D σ H => ∃ F ρ X O, EnvOk W F H ρ σ ∧ LamX.Tabs W.T H ∧ wS Φ par m X ρ O ∧ OkD W par E0 F H ρ σ X O D
theorem PS.imp {st : Stmt} {t t' : TS} (h : PS X st t) (i : ∀ D σ H, t' D σ H → t D σ H) : PS X st t' := ⟨fun pins s σ H D I q => h.run pins s σ H D I (i _ _ _ q)⟩
theorem PSs.imp {st : List Stmt} {t t' : TS} (h : PSs X st t) (i : ∀ D σ H, t' D σ H → t D σ H) : PSs X st t' := ⟨fun pins s σ H D I q => h.run pins s σ H D I (i _ _ _ q)⟩
section
variable {st : Stmt} {sts : List Stmt} {ma mb mc : S}
theorem es_nil : PSs X [] (tS W Φ par E0 .nil) :=
  PSs.imp pss_nil fun D σ H ⟨F, ρ, Xs, O, en, tb, hw, hD⟩ => by
    unfold wS at hw
    exact hD.nx _ _ _ _ hw .refl en .refl
theorem es_cons (h1 : PS X st (tS W Φ par E0 ma)) (h2 : PSs X sts (tS W Φ par E0 mb)) : PSs X (st :: sts) (tS W Φ par E0 (.cons ma mb)) :=
  PSs.imp (pss_cons h1 h2) fun D σ H ⟨F, ρ, Xs, O, en, tb, hw, hD⟩ => by
    unfold wS at hw
    refine ⟨F, ρ, Xs, _, en, tb, hw, ⟨fun ρ1 σ1 F1 H1 h1 s1 e1 p1 => ?_, hD.rt, hD.bk, hD.ct, hD.xs⟩⟩
    exact ⟨F1, ρ1, Xs, O, e1, s1.tabs tb, h1, hD.step s1 p1⟩
theorem es_brk : PS X (.Break pos) (tS W Φ par E0 .brk) :=
  PS.imp ps_break fun D σ H ⟨F, ρ, Xs, O, en, tb, hw, hD⟩ => by
    unfold wS at hw
    exact hD.bk _ _ _ _ hw .refl en .refl
theorem es_cnt : PS X (.Continue pos) (tS W Φ par E0 .cnt) :=
  PS.imp ps_continue fun D σ H ⟨F, ρ, Xs, O, en, tb, hw, hD⟩ => by
    unfold wS at hw
    exact hD.ct _ _ _ _ hw .refl en .refl
theorem es_pass : PS X (.Pass pos) (tS W Φ par E0 .nil) :=
  PS.imp ps_pass fun D σ H ⟨F, ρ, Xs, O, en, tb, hw, hD⟩ => by
    unfold wS at hw
    exact hD.nx _ _ _ _ hw .refl en .refl
theorem es_expr (ha : PE X e (tE W Φ par E0 m)) (hs : swapsWith e none pos.line X.env = pure false) : PS X (.Expr e pos) (tS W Φ par E0 (.expr m)) :=
  PS.imp (ps_expr ha hs) fun D σ H ⟨F, ρ, Xs, O, en, tb, hw, hD⟩ => by
    unfold wS at hw
    exact go en tb hw hD.xs.x fun ρ1 r1 v1 F1 H1 h1 s1 e1 t1 rv1 n1 x1 => hD.nx _ _ _ _ h1 s1 e1 .refl
theorem es_ret (ha : PE X e (tE W Φ par E0 m)) : PS X (.Return (some e) pos) (tS W Φ par E0 (.ret m)) :=
  PS.imp (ps_ret ha) fun D σ H ⟨F, ρ, Xs, O, en, tb, hw, hD⟩ => by
    unfold wS at hw
    exact go en tb hw hD.xs.x fun ρ1 r1 v1 F1 H1 h1 s1 e1 t1 rv1 n1 x1 => hD.rt _ _ _ _ _ _ h1 s1 e1 rv1 n1 .refl
theorem es_if {c : Expr} {m : E} {a b : List Stmt} (hc : PT X c (tT W Φ par E0 m)) (ha : PSs X a (tS W Φ par E0 ma)) (hb : PSs X b (tS W Φ par E0 mb)) : PS X (.If c a b pos) (tS W Φ par E0 (.if_ m ma mb)) :=
  PS.imp (ps_if hc ha hb) fun D σ H ⟨F, ρ, Xs, O, en, tb, hw, hD⟩ => by
    unfold wS at hw
    refine goT en tb hw hD.xs.x fun ρ1 k F1 H1 h1 s1 e1 t1 x1 => ?_
    cases k with
    | true =>
      rw [if_pos rfl] at h1 ⊢
      exact ⟨F1, ρ1, Xs, O, e1, t1, h1, hD.step s1 .refl⟩
    | false =>
      rw [if_neg Bool.false_ne_true] at h1 ⊢
      exact ⟨F1, ρ1, Xs, O, e1, t1, h1, hD.step s1 .refl⟩
/-- a value goes to a slot -/
theorem stW_ok2 {F0 H0 : Hp} {ρ0 : SE} {σ0 : L2.St} {F H : Hp} {ρ : SE} {σ : L2.St} (st : Step W F0 H0 ρ0 σ0 F H ρ σ) (en : EnvOk W F H ρ σ) {i : Nat} {r : RV} {v : V} (rv : RvOk W F H ρ σ r v) (nw : New H0 r v) {Q : SE → Prop} (q : stW i r ρ Q) :
    ∃ F' ρ', Step W F0 H0 ρ0 σ0 F' H ρ' (σ.set i (some v)) ∧ EnvOk W F' H ρ' (σ.set i (some v)) ∧ Q ρ' ∧ Same F F' ∧ ∀ y w, RvOk W F H ρ σ (.tmp y) w → ((∃ z, r = .tmp z) → w ≠ v) → RvOk W F' H ρ' (σ.set i (some v)) (.tmp y) w := by
  unfold stW at q
  cases r with
  | tmp x =>
    obtain ⟨s, e⟩ := putO_ok st en i rv nw
    refine ⟨F, _, s, e, q, Same.refl _, fun y w ⟨b, eb, g1, g2, g3⟩ hne => ⟨b, eb, g1, fun ⟨j, z, h1, h2⟩ => ?_, g3⟩⟩
    rcases set_cases h1 with ⟨e1, _, hi⟩ | ⟨hj, h1⟩
    · subst e1
      rw [List.getElem?_set_self (by rw [← en.len]; exact hi)] at h2
      cases h2
      exact hne ⟨_, rfl⟩ eb
    · rw [List.getElem?_set_ne (Ne.symm hj)] at h2
      exact g2 ⟨j, z, h1, h2⟩
  | val x =>
    obtain ⟨s, e⟩ := put_ok st en i rv
    exact ⟨F, _, s, e, q, Same.refl _, fun y w ⟨b, e, g1, g2, g3⟩ hne => ⟨b, e, g1, fun z => g2 (put_own_back z), g3⟩⟩
  | bor j =>
    dsimp only at q
    obtain ⟨F1, ρ1, x, s1, e1, rp, q, o⟩ := fzK_ok2 (Step.refl (W := W) (F := F) (H := H) (ρ := ρ) (σ := σ)) en rv trivial q
    obtain ⟨s, e⟩ := put_ok (st.trans s1) e1 i rp
    refine ⟨F1, _, s, e, q, s1.le, fun y w h hne => ?_⟩
    obtain ⟨b, e, g1, g2, g3⟩ := o y w h fun ⟨z, ez⟩ => by cases ez
    exact ⟨b, e, g1, fun z => g2 (put_own_back z), g3⟩
theorem stW_ok {F0 H0 : Hp} {ρ0 : SE} {σ0 : L2.St} {F H : Hp} {ρ : SE} {σ : L2.St} (st : Step W F0 H0 ρ0 σ0 F H ρ σ) (en : EnvOk W F H ρ σ) {i : Nat} {r : RV} {v : V} (rv : RvOk W F H ρ σ r v) (nw : New H0 r v) {Q : SE → Prop} (q : stW i r ρ Q) :
    ∃ F' ρ', Step W F0 H0 ρ0 σ0 F' H ρ' (σ.set i (some v)) ∧ EnvOk W F' H ρ' (σ.set i (some v)) ∧ Q ρ' := by
  obtain ⟨F', ρ', s, e, q, _⟩ := stW_ok2 st en rv nw q
  exact ⟨F', ρ', s, e, q⟩
theorem nbW_ok {F0 H0 : Hp} {ρ0 : SE} {σ0 : L2.St} {F H : Hp} {ρ : SE} {σ : L2.St} (st : Step W F0 H0 ρ0 σ0 F H ρ σ) (en : EnvOk W F H ρ σ) {r : RV} {v : V} (rv : RvOk W F H ρ σ r v) (nw : New H0 r v) {Q : SE → RV → Prop} (q : nbW ρ r Q) :
    ∃ F' ρ' r', Step W F0 H0 ρ0 σ0 F' H ρ' σ ∧ EnvOk W F' H ρ' σ ∧ Q ρ' r' ∧ RvOk W F' H ρ' σ r' v ∧ New H0 r' v ∧ ∀ i, r' ≠ .bor i := by
  unfold nbW at q
  cases r with
  | tmp x => exact ⟨F, ρ, _, st, en, q, rv, nw, fun _ z => by cases z⟩
  | val x => exact ⟨F, ρ, _, st, en, q, rv, nw, fun _ z => by cases z⟩
  | bor j =>
    dsimp only at q
    obtain ⟨F1, ρ1, x, s1, e1, rp, q⟩ := fzK_ok st en rv nw q
    exact ⟨F1, ρ1, _, s1, e1, q, rp, trivial, fun _ z => by cases z⟩
theorem parS_set {σ : L2.St} {i : Nat} {v : Option V} (h : par i = false) : ParS par σ (σ.set i v) := fun j hj => List.getElem?_set_ne fun z => by rw [z, hj] at h; cases h
theorem es_set {i : Nat} {x : Str} {p : Pos} (hN : X.N.Nodup) (hi : X.N[i]? = some x) (hx : Loc X.env.scope x) (hf : X.fn x = true ∨ X.env.scope.names.lookup x = some .local) (ha : PE X e (tE W Φ par E0 m)) (hs : swapsWith e (some (.Name x p)) pos.line X.env = pure false) :
    PS X (.Assign [.Name x p] e pos) (tS W Φ par E0 (.set i m)) :=
  PS.imp (ps_set hN hi hx ha hs hf) fun D σ H ⟨F, ρ, Xs, O, en, tb, hw, hD⟩ => by
    unfold wS at hw
    refine go en tb hw.2 hD.xs.x fun ρ1 r1 v1 F1 H1 h1 s1 e1 t1 rv1 n1 x1 => ?_
    obtain ⟨F2, ρ2, s2, e2, q⟩ := stW_ok s1 e1 rv1 n1 h1
    exact hD.nx _ _ _ _ q s2 e2 (parS_set hw.1)
theorem es_setLc_imp {i : Nat} {t : TE} (h : PS X st (tAsg t (gName i))) (ht : ∀ σ H Q, tE W Φ par E0 m σ H Q → t σ H Q) : PS X st (tS W Φ par E0 (.set i m)) :=
  PS.imp h fun D σ H ⟨F, ρ, Xs, O, en, tb, hw, hD⟩ => by
    unfold wS at hw
    refine ht _ _ _ (go en tb hw.2 hD.xs.x fun ρ1 r1 v1 F1 H1 h1 s1 e1 t1 rv1 n1 x1 => ?_)
    obtain ⟨F2, ρ2, s2, e2, q⟩ := stW_ok s1 e1 rv1 n1 h1
    exact hD.nx _ _ _ _ q s2 e2 (parS_set hw.1)
theorem es_tup {tg : Expr} {g : Tg} (ha : PE X e (tE W Φ par E0 m)) (hg : PG X tg (tG W par g)) (hs : swapsWithSole [tg] e pos.line X.env = pure false) (hw' : swappedStores [tg] e X.env = pure none) (h1 : (assignEach [tg] X.env).map (·.2) = [assign tg X.env]) :
    PS X (.Assign [tg] e pos) (tS W Φ par E0 (.tup g m)) :=
  PS.imp (ps_asg ha hg hs hw' h1) fun D σ H ⟨F, ρ, Xs, O, en, tb, hw, hD⟩ => by
    unfold wS at hw
    refine go en tb hw hD.xs.x fun ρ1 r1 v1 F1 H1 h1 s1 e1 t1 rv1 n1 x1 => ?_
    obtain ⟨F2, ρ2, x, s2, e2, rp, q⟩ := fzK_ok s1 e1 rv1 n1 h1
    exact ⟨F2, ρ2, x, _, e2, rp, q, fun ρ3 σ3 h3 s3 e3 p3 => hD.nx _ _ _ _ h3 (s2.trans s3) e3 p3.par⟩
/-- i, j = a, b: stored from the right -/
theorem es_par {i j : Nat} {t : TA} {ea eb : E} (h : PS X st (tPar i j t)) (ht : ∀ σ H Q, tCons (tE W Φ par E0 ea) (tCons (tE W Φ par E0 eb) tNil) σ H Q → t σ H Q) (hij : i ≠ j) : PS X st (tS W Φ par E0 (.par i j ea eb)) :=
  PS.imp h fun D σ H ⟨F, ρ, Xs, O, en, tb, hw, hD⟩ => by
    unfold wS at hw
    refine ht _ _ _ (go en tb hw.2 hD.xs.x fun ρ1 r1 v1 F1 H1 h1 s1 e1 t1 rv1 n1 x1 => ?_)
    obtain ⟨F2, ρ2, r1', s2, e2, h2, rv1', n1', nb⟩ := nbW_ok s1 e1 rv1 n1 h1
    refine go e2 t1 h2 (hD.xs.x.step s2) fun ρ3 r2 v2 F3 H3 h3 s3 e3 t3 rv3 n3 x3 => ⟨v1, v2, rfl, ?_⟩
    rw [List.set_comm _ _ hij]
    have s23 := s2.trans s3
    have rv1'' := rv1'.stay s3
    obtain ⟨F4, ρ4, s4, e4, q, le4, o4⟩ := stW_ok2 s23 e3 rv3 (n3.back s2) h3
    have rv14 : RvOk W F4 H3 ρ4 (σ.set j (some v2)) r1' v1 := by
      cases r1' with
      | val x => exact Rep.mono le4 rv1''
      | bor k => exact absurd rfl (nb k)
      | tmp x =>
        refine o4 x v1 rv1'' fun ⟨y, ey⟩ hne => ?_
        subst ey
        obtain ⟨a, ea, g1, g2, g3⟩ := rv1'
        obtain ⟨u, hu, nt⟩ := g3.there
        exact (n3 a (by rw [← hne, ea])).no hu nt
    obtain ⟨F5, ρ5, s5, e5, q⟩ := stW_ok s4 e4 rv14 n1' q
    exact hD.nx _ _ _ _ q s5 e5 ((parS_set hw.1.2).trans (parS_set hw.1.1))
/-- an own list is changed -/
theorem own_upd {F H : Hp} {ρ : SE} {σ : L2.St} (en : EnvOk W F H ρ σ) {i : Nat} {x : PV} {a : Addr} (h1 : ρ[i]? = some (.own x)) (h2 : σ[i]? = some (some (.ref a))) {us us' : List V} (hH : H a = some (.lst us)) {xs' : List PV} (r : Reps W F xs' us') :
    Step W F H ρ σ F (upd H a (.lst us')) (ρ.set i (.own (.lst xs'))) σ ∧ EnvOk W F (upd H a (.lst us')) (ρ.set i (.own (.lst xs'))) σ := by
  obtain ⟨o, ho, b, e, hF, q⟩ := en.at_ i _ h1
  rw [h2] at ho; cases ho; cases e
  have hi : i < ρ.length := (List.getElem?_eq_some_iff.mp h1).1
  have back : ∀ b, OwnA (ρ.set i (.own (.lst xs'))) σ b → OwnA ρ σ b := fun b ⟨j, y, g1, g2⟩ => by
    rcases set_cases g1 with ⟨e, _, _⟩ | ⟨_, g1⟩
    · subst e; exact ⟨j, x, h1, g2⟩
    · exact ⟨j, y, g1, g2⟩
  refine ⟨⟨Same.refl _, fun b u hb _ no => ?_, fun b f => ?_, fun _ h k => absurd h k, fun b h => .inl (back b h), fun h => tabs_upd h hH⟩, fun b u hb => ?_, en.nt, by rw [List.length_set]; exact en.len, fun j s hs => ?_, fun j k y z b hjk g1 g2 g3 g4 => ?_⟩
  · rw [upd_ne (fun z => no (by rw [z]; exact ⟨i, x, h1, h2⟩))]
    exact hb
  · by_cases hb : b = a
    · subst hb
      obtain ⟨ps, z⟩ := f _ upd_same
      cases z
    · exact fun u hu => f u (by rw [upd_ne hb]; exact hu)
  · rw [upd_ne (fun z => by rw [z, hF] at hb; cases hb)]
    exact en.le b u hb
  · rcases set_cases hs with ⟨e, e2, _⟩ | ⟨hj, hs⟩
    · subst e; subst e2
      exact ⟨_, h2, a, rfl, hF, us', upd_same, r⟩
    · obtain ⟨o, ho, q⟩ := en.at_ j s hs
      refine ⟨o, ho, ?_⟩
      cases s with
      | un => trivial
      | val y => exact q
      | own y =>
        obtain ⟨b, e, q1, q2⟩ := q
        refine ⟨b, e, q1, ?_⟩
        rw [upd_ne (fun z => en.apart j i y x a hj hs h1 (by rw [ho, e, z]) h2)]
        exact q2
  · rcases set_cases g1 with ⟨e, e2, _⟩ | ⟨hj, g1⟩
    · subst e
      rcases set_cases g2 with ⟨e, _⟩ | ⟨_, g2⟩
      · exact hjk e.symm
      · exact en.apart j k x z b hjk h1 g2 g3 g4
    · have g1' := g1
      rcases set_cases g2 with ⟨e, _⟩ | ⟨_, g2⟩
      · subst e
        exact en.apart j k y x b hjk g1' h1 g3 g4
      · exact en.apart j k y z b hjk g1 g2 g3 g4
theorem slot_own {F H : Hp} {ρ : SE} {σ : L2.St} (en : EnvOk W F H ρ σ) {i : Nat} {xs : List PV} (h1 : ρ[i]? = some (.own (.lst xs))) : ∃ a us, σ[i]? = some (some (.ref a)) ∧ H a = some (.lst us) ∧ Reps W F xs us := by
  obtain ⟨o, ho, a, e, hF, us, q, r⟩ := en.at_ i _ h1
  subst e
  exact ⟨a, us, ho, q, r⟩
theorem isOwnL_ok {ρ : SE} {i : Nat} (h : isOwnL ρ i = true) : ∃ xs, ρ[i]? = some (.own (.lst xs)) := by
  unfold isOwnL at h
  split at h
  · exact ⟨_, by assumption⟩
  · cases h
/-- name[k] = e -/
theorem es_seti {i : Nat} {tg ek : Expr} {mk : E} {t : TG} (h : PS X st (tAsg (tE W Φ par E0 m) (gSub (tVar i) (tE W Φ par E0 mk) rSetL))) : PS X st (tS W Φ par E0 (.seti i mk m)) :=
  PS.imp h fun D σ H ⟨F, ρ, Xs, O, en, tb, hw, hD⟩ => by
    unfold wS at hw
    refine go en tb hw.2 hD.xs.x fun ρ1 r1 v1 F1 H1 h1 s1 e1 t1 rv1 n1 x1 => ?_
    obtain ⟨F2, ρ2, x, s2, e2, rp, q⟩ := fzK_ok s1 e1 rv1 n1 h1
    obtain ⟨xs0, o0⟩ := isOwnL_ok hw.1
    obtain ⟨a, us0, ho, _⟩ := slot_own en o0
    refine ⟨_, ho, ?_⟩
    refine go e2 t1 q (hD.xs.x.step s2) fun ρ3 r3 v3 F3 H3 h3 s3 e3 t3 rv3 n3 x3 => ?_
    obtain ⟨y, hy, _, q⟩ := rdK_ok e3 rv3 h3
    split at q
    · rename_i xs n g1 _
      cases hy
      obtain ⟨j, hj, q⟩ := q
      obtain ⟨a', us, ho', hH, r⟩ := slot_own e3 g1
      rw [ho] at ho'; cases ho'
      obtain ⟨s4, e4⟩ := own_upd e3 g1 ho hH (xs' := xs.set j x) (us' := us.set j v1) (r.set (rp.mono s3.le) j)
      exact ⟨a, us, n, j, rfl, rfl, hH, by rw [← r.length]; exact hj, hD.nx _ _ _ _ q ((s2.trans s3).trans s4) e4 .refl⟩
    · exact q.elim
/-- name.append(e), name.pop(), name.pop(k) -/
theorem ev_app_imp {i : Nat} (h : PE X e (tBM X.K "list" rAppend (tVar i) (tCons (tE W Φ par E0 m) tNil))) : PE X e (tE W Φ par E0 (.app i m)) :=
  PE.imp h fun σ H Q ⟨F, ρ, Xs, Kp, en, tb, hw, hk, hx⟩ => by
    unfold wE at hw
    obtain ⟨xs0, o0⟩ := isOwnL_ok hw.1
    obtain ⟨a, us0, ho, hH0, _⟩ := slot_own en o0
    refine ⟨_, ho, .inl ⟨rfl, us0, .of hH0⟩, ?_⟩
    refine go en tb hw.2 hx fun ρ1 r1 v1 F1 H1 h1 s1 e1 t1 rv1 n1 x1 => ?_
    obtain ⟨F2, ρ2, x, s2, e2, rp, q⟩ := fzK_ok s1 e1 rv1 n1 h1
    split at q
    · rename_i xs g1
      obtain ⟨a', us, ho', hH, r⟩ := slot_own e2 g1
      rw [ho] at ho'; cases ho'
      obtain ⟨s4, e4⟩ := own_upd e2 g1 ho hH (xs' := xs ++ [x]) (us' := us ++ [v1]) (r.app (.one rp))
      exact ⟨a, us, v1, rfl, rfl, hH, by rw [← r.length]; exact q.1, hk _ _ _ _ _ q.2 (s2.trans s4) e4 rfl trivial⟩
    · exact q.elim
theorem reps_dropLast {F : Hp} : ∀ {xs : List PV} {us : List V}, Reps W F xs us → Reps W F xs.dropLast us.dropLast := fun {xs us} r => by
  rw [List.dropLast_eq_take, List.dropLast_eq_take, r.length]
  exact r.take _
theorem reps_erase {F : Hp} {xs : List PV} {us : List V} (r : Reps W F xs us) (j : Nat) : Reps W F (xs.eraseIdx j) (us.eraseIdx j) := by
  rw [List.eraseIdx_eq_take_drop_succ, List.eraseIdx_eq_take_drop_succ]
  exact (r.take _).app (r.drop _)
theorem ev_pop0_imp {i : Nat} (h : PE X e (tBM0 X.K "list" rPop (tVar i))) : PE X e (tE W Φ par E0 (.pop i .noe)) :=
  PE.imp h fun σ H Q ⟨F, ρ, Xs, Kp, en, tb, hw, hk, hx⟩ => by
    unfold wE at hw
    obtain ⟨xs0, o0⟩ := isOwnL_ok hw.1
    obtain ⟨a, us, ho, hH, r⟩ := slot_own en o0
    have q := hw.2
    unfold wO at q
    rw [o0] at q
    obtain ⟨y, hy, q⟩ := q
    rw [r.length] at hy
    obtain ⟨v, hv, rv⟩ := r.get hy
    obtain ⟨s4, e4⟩ := own_upd en o0 ho hH (reps_dropLast r)
    exact ⟨_, ho, .inl ⟨rfl, us, .of hH⟩, a, us, v, rfl, rfl, hH, hv, hk _ _ _ _ _ q s4 e4 rv trivial⟩
theorem ev_pop_imp {i : Nat} (h : PE X e (tBM X.K "list" rPopAt (tVar i) (tCons (tE W Φ par E0 m) tNil))) : PE X e (tE W Φ par E0 (.pop i (.tv m))) :=
  PE.imp h fun σ H Q ⟨F, ρ, Xs, Kp, en, tb, hw, hk, hx⟩ => by
    unfold wE at hw
    obtain ⟨xs0, o0⟩ := isOwnL_ok hw.1
    obtain ⟨a, us0, ho, hH0, _⟩ := slot_own en o0
    refine ⟨_, ho, .inl ⟨rfl, us0, .of hH0⟩, ?_⟩
    have q := hw.2
    unfold wO at q
    refine go en tb q hx fun ρ1 r1 v1 F1 H1 h1 s1 e1 t1 rv1 n1 x1 => ?_
    obtain ⟨x, hx', _, q⟩ := rdK_ok e1 rv1 h1
    split at q
    · rename_i k _
      cases hx'
      split at q
      · rename_i xs g1
        obtain ⟨a', us, ho', hH, r⟩ := slot_own e1 g1
        rw [ho] at ho'; cases ho'
        obtain ⟨hb, j, y, hj, hy, q⟩ := q
        obtain ⟨v, hv, rv⟩ := r.get hy
        obtain ⟨s4, e4⟩ := own_upd e1 g1 ho hH (reps_erase r j)
        exact ⟨a, us, k, j, v, rfl, rfl, hH, hb.1, hb.2, by rw [← r.length]; exact (ixN_seq hj).1, hv, hk _ _ _ _ _ q (s1.trans s4) e4 (rv.mono s4.le) trivial⟩
      · exact q.elim
    · exact q.elim
/-! ### loops -/
theorem es_while {c : Expr} {mt : E} {body : List Stmt} (hp : PassesOwn (model X.prog X.w) X.A X.env X.xe) (hc : PT X c (tT W Φ par E0 mt)) (hb : PSs X body (tS W Φ par E0 mb)) : PS X (.While c body [] pos) (tS W Φ par E0 (.while_ mt mb)) :=
  PS.imp (ps_while hp hc hb) fun D σ H ⟨F, ρ, Xs, O, en, tb, hw, hD⟩ => by
    unfold wS at hw
    obtain ⟨n, hw⟩ := hw
    refine ⟨fun m σ' H' => ∃ F' ρ', Step W F H ρ σ F' H' ρ' σ' ∧ EnvOk W F' H' ρ' σ' ∧ ParS par σ σ' ∧ loopW (fun ρ1 Q => wT Φ par mt Xs ρ1 Q) (fun ρ1 D' => wS Φ par mb Xs ρ1 D') m ρ' O, ⟨n, F, ρ, .refl, en, .refl, hw⟩, ?_⟩
    rintro m σ1 H1 ⟨F1, ρ1, s1, e1, p1, h1⟩
    cases m with
    | zero => exact h1.elim
    | succ m =>
      unfold loopW at h1
      refine goT e1 (s1.tabs tb) h1 (hD.xs.step s1).x fun ρ2 k F2 H2 h2 s2 e2 t2 x2 => ?_
      cases k with
      | false =>
        rw [if_neg Bool.false_ne_true] at h2 ⊢
        exact hD.nx _ _ _ _ h2 (s1.trans s2) e2 p1
      | true =>
        rw [if_pos rfl] at h2 ⊢
        have s12 := s1.trans s2
        refine ⟨fun σ' H' => ∃ F' ρ', Step W F H ρ σ F' H' ρ' σ' ∧ EnvOk W F' H' ρ' σ' ∧ ParS par σ σ' ∧ loopW (fun ρ1 Q => wT Φ par mt Xs ρ1 Q) (fun ρ1 D' => wS Φ par mb Xs ρ1 D') m ρ' O, fun σ' H' h => ⟨m, Nat.lt_succ_self m, h⟩, ?_⟩
        refine ⟨F2, ρ2, Xs, _, e2, t2, h2, ⟨fun ρ3 σ3 F3 H3 h3 s3 e3 p3 => ⟨F3, ρ3, s12.trans s3, e3, p1.trans p3, h3⟩, (hD.rt.step s12 p1), fun ρ3 σ3 F3 H3 h3 s3 e3 p3 => hD.nx _ _ _ _ h3 (s12.trans s3) e3 (p1.trans p3), fun ρ3 σ3 F3 H3 h3 s3 e3 p3 => ⟨F3, ρ3, s12.trans s3, e3, p1.trans p3, h3⟩, hD.xs.step s12⟩⟩
theorem es_for {tg it : Expr} {mi : E} {g : Tg} {body : List Stmt} (hp : PassesOwn (model X.prog X.w) X.A X.env X.xe) (hc : X.calm = true) (hi : PI X tg it (tI W Φ par E0 mi)) (hg : PG X tg (tG W par g)) (hb : PSs X body (tS W Φ par E0 mb)) (hs : ∀ x, foldedSetIterable it X.env x = pure x) :
    PS X (.For tg it body [] pos) (tS W Φ par E0 (.for_ g mi mb)) :=
  PS.imp (ps_for hp hc hi hg hb hs) fun D σ H ⟨F, ρ, Xs, O, en, tb, hw, hD⟩ => by
    unfold wS at hw
    refine ⟨F, ρ, Xs, _, en, tb, hw, fun ρ1 ys F1 H1 J h1 s1 e1 srv => ?_, hD.xs.x⟩
    refine for_it srv (fun i σ' H' => ∃ F' ρ', Step W F H ρ σ F' H' ρ' σ' ∧ EnvOk W F' H' ρ' σ' ∧ ParS par σ σ' ∧ Same F1 F' ∧ loopF (fun y ρ2 D' => wG par g y ρ2 fun ρ3 => wS Φ par mb Xs ρ3 D') (ys.drop i) ρ' O) ⟨F1, ρ1, s1, e1, .refl, Same.refl _, by simpa using h1⟩ (fun i σ' H' _ ⟨F', ρ', _, e', _, l', _⟩ => l'.trans e'.le) ?_ ?_
    · rintro i v σ2 H2 H3 hi ⟨F2, ρ2, s2, e2, p2, l2, hl⟩ ⟨y, hy, hyl⟩
      obtain ⟨F3, hr⟩ := hyl F2 l2 e2.le e2.nt
      obtain ⟨s3, e3, r3, _⟩ := hr.on e2
      rw [List.drop_eq_getElem_cons hi] at hl
      have ey : ys[i] = y := by rw [List.getElem?_eq_getElem hi] at hy; exact Option.some.inj hy
      rw [ey] at hl
      unfold loopF at hl
      have s23 := s2.trans s3
      refine ⟨F3, ρ2, y, _, e3, r3, hl, fun ρ4 σ4 h4 s4 e4 p4 => ?_⟩
      have s4' := s23.trans s4
      have p4' : ParS par σ σ4 := p2.trans p4.par
      have l4 : Same F1 F3 := l2.trans hr.le
      refine ⟨F3, ρ4, Xs, _, e4, s4'.tabs tb, h4, ⟨fun ρ5 σ5 F5 H5 h5 s5 e5 p5 => ⟨F5, ρ5, s4'.trans s5, e5, p4'.trans p5, l4.trans s5.le, h5⟩, (hD.rt.step s4' p4'), fun ρ5 σ5 F5 H5 h5 s5 e5 p5 => hD.nx _ _ _ _ h5 (s4'.trans s5) e5 (p4'.trans p5), fun ρ5 σ5 F5 H5 h5 s5 e5 p5 => ⟨F5, ρ5, s4'.trans s5, e5, p4'.trans p5, l4.trans s5.le, h5⟩, hD.xs.step s4'⟩⟩
    · rintro σ2 H2 ⟨F2, ρ2, s2, e2, p2, l2, hl⟩
      rw [List.drop_length] at hl
      unfold loopF at hl
      exact hD.nx _ _ _ _ hl s2 e2 p2
/-- raise C('..') -/
theorem es_raise {c : Str} {C : Addr} (hm : W.mg c = some (.ref C)) (h : PS X st (fun _ σ H => xk W E0 (.ref C) none H)) : PS X st (tS W Φ par E0 (.raise c)) :=
  PS.imp h fun D σ H ⟨F, ρ, Xs, O, en, tb, hw, hD⟩ => by
    unfold wS at hw
    exact ⟨c, C, hm, rfl, rfl, hD.xs _ _ _ _ _ hw .refl en⟩
end
end Ev
namespace Ev
open PySem PySem.Spec PyProof.Rows L2
variable {W : Wd} {Φ : Tbl}

/-! ### a def by its body -/
def parOf (ss : List Slot) (i : Nat) : Bool := match ss[i]? with
  | some (.own _) => true
  | _ => false
def outsOf : List Slot → SE → List Slot
  | [], _ => []
  | .own _ :: ss, s' :: ρ => s' :: outsOf ss ρ
  | s :: ss, _ :: ρ => s :: outsOf ss ρ
  | _ :: ss, [] => .un :: outsOf ss []
def heldAll : List Slot → SE → Bool
  | [], _ => true
  | .own _ :: ss, .own _ :: ρ => heldAll ss ρ
  | .own _ :: ss, .val (.lst _) :: ρ => heldAll ss ρ
  | .own _ :: _, _ => false
  | _ :: ss, _ :: ρ => heldAll ss ρ
  | _ :: ss, [] => false
def retW (ss : List Slot) (Kp : Bool → PV → List Slot → Prop) (ρ : SE) : RV → Prop
  | .val x => Kp false x (outsOf ss ρ)
  | .tmp x => Kp true x (outsOf ss ρ)
  | .bor i => match ρ[i]? with
    | some (.val x) => Kp false x (outsOf ss ρ)
    | some (.own x) => if parOf ss i = true then Kp false x (outsOf ss (ρ.set i (.val x))) else heldAll ss ρ = true ∧ Kp true x (outsOf ss ρ)
    | _ => False
/-- np parameters, n names in all -/
def bodyS (Φ : Tbl) (np n : Nat) (B : S) : FnS := fun ss Kp Xk => ss.length = np ∧
  wS Φ (parOf ss) B (fun _ c => Xk c) (ss ++ List.replicate (n - np) .un) { nx := fun ρ => Kp false .non (outsOf ss ρ), rt := fun ρ r => retW ss Kp ρ r }

theorem outsOf_len : ∀ (ss : List Slot) (ρ : SE), (outsOf ss ρ).length = ss.length
  | [], _ => rfl
  | .own _ :: ss, s' :: ρ => by simp [outsOf, outsOf_len ss ρ]
  | .val _ :: ss, s' :: ρ => by simp [outsOf, outsOf_len ss ρ]
  | .un :: ss, s' :: ρ => by simp [outsOf, outsOf_len ss ρ]
  | .own _ :: ss, [] => by simp [outsOf, outsOf_len ss []]
  | .val _ :: ss, [] => by simp [outsOf, outsOf_len ss []]
  | .un :: ss, [] => by simp [outsOf, outsOf_len ss []]
theorem outsOf_at : ∀ {ss : List Slot} {ρ : SE} {i : Nat} {s : Slot}, (outsOf ss ρ)[i]? = some s → (s = .un) ∨ (parOf ss i = true ∧ ρ[i]? = some s) ∨ (∃ x, s = .val x ∧ ss[i]? = some s)
  | [], _, _, _, h => by simp [outsOf] at h
  | .own x :: ss, s' :: ρ, 0, s, h => by simp [outsOf] at h; subst h; exact .inr (.inl ⟨rfl, rfl⟩)
  | .val x :: ss, s' :: ρ, 0, s, h => by simp [outsOf] at h; subst h; exact .inr (.inr ⟨x, rfl, rfl⟩)
  | .un :: ss, s' :: ρ, 0, s, h => by simp [outsOf] at h; subst h; exact .inl rfl
  | .own x :: ss, s' :: ρ, i + 1, s, h => by
    simp [outsOf] at h
    rcases outsOf_at h with z | z | z
    · exact .inl z
    · exact .inr (.inl (by simpa [parOf] using z))
    · exact .inr (.inr (by simpa using z))
  | .val x :: ss, s' :: ρ, i + 1, s, h => by
    simp [outsOf] at h
    rcases outsOf_at h with z | z | z
    · exact .inl z
    · exact .inr (.inl (by simpa [parOf] using z))
    · exact .inr (.inr (by simpa using z))
  | .un :: ss, s' :: ρ, i + 1, s, h => by
    simp [outsOf] at h
    rcases outsOf_at h with z | z | z
    · exact .inl z
    · exact .inr (.inl (by simpa [parOf] using z))
    · exact .inr (.inr (by simpa using z))
  | .own x :: ss, [], 0, s, h => by simp [outsOf] at h; exact .inl h.symm
  | .val x :: ss, [], 0, s, h => by simp [outsOf] at h; exact .inl h.symm
  | .un :: ss, [], 0, s, h => by simp [outsOf] at h; exact .inl h.symm
  | .own x :: ss, [], i + 1, s, h => by
    simp [outsOf] at h
    rcases outsOf_at h with z | z | z
    · exact .inl z
    · simp at z
    · exact .inr (.inr (by simpa using z))
  | .val x :: ss, [], i + 1, s, h => by
    simp [outsOf] at h
    rcases outsOf_at h with z | z | z
    · exact .inl z
    · simp at z
    · exact .inr (.inr (by simpa using z))
  | .un :: ss, [], i + 1, s, h => by
    simp [outsOf] at h
    rcases outsOf_at h with z | z | z
    · exact .inl z
    · simp at z
    · exact .inr (.inr (by simpa using z))
theorem held_at : ∀ {ss : List Slot} {ρ : SE} {i : Nat} {x : PV}, heldAll ss ρ = true → ss[i]? = some (.own x) → (∃ y, ρ[i]? = some (.own y)) ∨ ∃ ys, ρ[i]? = some (.val (.lst ys))
  | [], _, _, _, _, h => by simp at h
  | .own x :: ss, .own y :: ρ, 0, _, _, _ => .inl ⟨y, rfl⟩
  | .own x :: ss, .val (.lst ys) :: ρ, 0, _, _, _ => .inr ⟨ys, rfl⟩
  | .own x :: ss, .own y :: ρ, i + 1, _, h, k => by simpa using held_at (ss := ss) (ρ := ρ) (i := i) (by simpa [heldAll] using h) (by simpa using k)
  | .own x :: ss, .val (.lst ys) :: ρ, i + 1, _, h, k => by simpa using held_at (ss := ss) (ρ := ρ) (i := i) (by simpa [heldAll] using h) (by simpa using k)
  | .val x :: ss, s :: ρ, i + 1, _, h, k => by simpa using held_at (ss := ss) (ρ := ρ) (i := i) (by simpa [heldAll] using h) (by simpa using k)
  | .un :: ss, s :: ρ, i + 1, _, h, k => by simpa using held_at (ss := ss) (ρ := ρ) (i := i) (by simpa [heldAll] using h) (by simpa using k)
  | .val x :: ss, _, 0, _, _, k => by simp at k
  | .un :: ss, _, 0, _, _, k => by simp at k
  | .val x :: ss, [], i + 1, _, h, k => by simp [heldAll] at h
  | .un :: ss, [], i + 1, _, h, k => by simp [heldAll] at h
  | .own x :: ss, [], _, _, h, k => by simp [heldAll] at h
  | .own x :: ss, .un :: ρ, _, _, h, k => by simp [heldAll] at h
  | .own x :: ss, .val .non :: ρ, _, _, h, k => by simp [heldAll] at h
  | .own x :: ss, .val (.bl _) :: ρ, _, _, h, k => by simp [heldAll] at h
  | .own x :: ss, .val (.int _) :: ρ, _, _, h, k => by simp [heldAll] at h
  | .own x :: ss, .val (.str _) :: ρ, _, _, h, k => by simp [heldAll] at h
  | .own x :: ss, .val (.tup _) :: ρ, _, _, h, k => by simp [heldAll] at h
  | .own x :: ss, .val (.scr _) :: ρ, _, _, h, k => by simp [heldAll] at h
  | .own x :: ss, .val (.fn _) :: ρ, _, _, h, k => by simp [heldAll] at h
theorem parOf_own {ss : List Slot} {i : Nat} {x : PV} (h : ss[i]? = some (.own x)) : parOf ss i = true := by unfold parOf; rw [h]
theorem parOf_ok {ss : List Slot} {i : Nat} (h : parOf ss i = true) : ∃ x, ss[i]? = some (.own x) := by
  unfold parOf at h
  split at h
  · exact ⟨_, by assumption⟩
  · cases h
section
variable {F H : Hp} {ss : List Slot} {vs : List V} {n : Nat}
theorem start_at {N : List Str} {i : Nat} (h : i < vs.length) : (L2.start N vs)[i]? = (vs.map some)[i]? := by
  unfold L2.start
  rw [List.getElem?_append_left (by simpa using h)]
theorem body_env {N : List Str} (en : EnvOk W F H ss (vs.map some)) (hn : vs.length ≤ N.length) : EnvOk W F H (ss ++ List.replicate (N.length - vs.length) .un) (L2.start N vs) := by
  have hl : ss.length = vs.length := by rw [en.len, List.length_map]
  have left : ∀ (i : Nat) (s : Slot), (ss ++ List.replicate (N.length - vs.length) .un)[i]? = some s → (s ≠ .un → ss[i]? = some s ∧ i < vs.length) := fun i s h hs => by
    by_cases hi : i < ss.length
    · rw [List.getElem?_append_left hi] at h
      exact ⟨h, by omega⟩
    · rw [List.getElem?_append_right (by omega), List.getElem?_replicate] at h
      split at h
      · cases h; exact absurd rfl hs
      · cases h
  refine ⟨en.le, en.nt, by unfold L2.start; simp [hl], fun i s hs => ?_, fun i j x y a hij h1 h2 h3 h4 => ?_⟩
  · by_cases hu : s = .un
    · subst hu
      have : i < (L2.start N vs).length := by
        have := (List.getElem?_eq_some_iff.mp hs).1
        unfold L2.start
        simp [hl] at this ⊢
        omega
      exact ⟨(L2.start N vs)[i], by simp [this], trivial⟩
    · obtain ⟨h1, h2⟩ := left i s hs hu
      rw [start_at h2]
      exact en.at_ i s h1
  · obtain ⟨g1, g2⟩ := left i _ h1 (by intro z; cases z)
    obtain ⟨g3, g4⟩ := left j _ h2 (by intro z; cases z)
    rw [start_at g2] at h3
    rw [start_at g4] at h4
    exact en.apart i j x y a hij g1 g3 h3 h4
theorem body_own {N : List Str} (en : EnvOk W F H ss (vs.map some)) (a : Addr) : OwnA (ss ++ List.replicate (N.length - vs.length) .un) (L2.start N vs) a ↔ OwnA ss (vs.map some) a := by
  have hl : ss.length = vs.length := by rw [en.len, List.length_map]
  constructor
  · rintro ⟨i, x, h1, h2⟩
    by_cases hi : i < ss.length
    · rw [List.getElem?_append_left hi] at h1
      rw [start_at (by omega)] at h2
      exact ⟨i, x, h1, h2⟩
    · rw [List.getElem?_append_right (by omega), List.getElem?_replicate] at h1
      split at h1 <;> cases h1
  · rintro ⟨i, x, h1, h2⟩
    have hi : i < ss.length := (List.getElem?_eq_some_iff.mp h1).1
    exact ⟨i, x, by rw [List.getElem?_append_left hi]; exact h1, by rw [start_at (by omega)]; exact h2⟩
/-- behind a body: what the caller sees -/
theorem body_out {N : List Str} (en : EnvOk W F H ss (vs.map some)) (hn : vs.length ≤ N.length) {F' H' : Hp} {ρ' : SE} {σ' : L2.St} (st : Step W F H (ss ++ List.replicate (N.length - vs.length) .un) (L2.start N vs) F' H' ρ' σ') (en' : EnvOk W F' H' ρ' σ') (p : ParS (parOf ss) (L2.start N vs) σ') :
    Step W F H ss (vs.map some) F' H' (outsOf ss ρ') (vs.map some) ∧ EnvOk W F' H' (outsOf ss ρ') (vs.map some) ∧ ∀ a, OwnA (outsOf ss ρ') (vs.map some) a → ∃ (i : Nat) (x : PV), parOf ss i = true ∧ ρ'[i]? = some (.own x) ∧ σ'[i]? = some (some (.ref a)) := by
  have hl : ss.length = vs.length := by rw [en.len, List.length_map]
  have σp : ∀ i, parOf ss i = true → σ'[i]? = (vs.map some)[i]? := fun i h => by
    obtain ⟨x, hx⟩ := parOf_ok h
    have hi : i < ss.length := (List.getElem?_eq_some_iff.mp hx).1
    rw [p i h, start_at (by omega)]
  have ownO : ∀ a, OwnA (outsOf ss ρ') (vs.map some) a → ∃ (i : Nat) (x : PV), parOf ss i = true ∧ ρ'[i]? = some (.own x) ∧ σ'[i]? = some (some (.ref a)) := fun a ⟨i, x, h1, h2⟩ => by
    rcases outsOf_at h1 with z | ⟨z1, z2⟩ | ⟨y, z, _⟩
    · cases z
    · exact ⟨i, x, z1, z2, by rw [σp i z1]; exact h2⟩
    · cases z
  refine ⟨⟨st.le, fun a o h nt no => st.keep a o h nt fun z => no ((body_own en a).mp z), st.live, fun a h k => (st.new a h k).imp id (body_own en a).mp, fun a h => ?_, st.tabs⟩, ⟨en'.le, en'.nt, by rw [outsOf_len]; exact en.len, fun i s hs => ?_, fun i j x y a hij h1 h2 h3 h4 => ?_⟩, ownO⟩
  · obtain ⟨i, x, h1, h2, h3⟩ := ownO a h
    exact (st.own a ⟨i, x, h2, h3⟩).imp (body_own en a).mp id
  · rcases outsOf_at hs with z | ⟨z1, z2⟩ | ⟨x, z, z2⟩
    · subst z
      have : i < (vs.map some).length := by
        have := (List.getElem?_eq_some_iff.mp hs).1
        rw [outsOf_len] at this
        rw [List.length_map]
        omega
      exact ⟨(vs.map some)[i], by simp [this], trivial⟩
    · rw [← σp i z1]
      exact en'.at_ i s z2
    · subst z
      obtain ⟨o, ho, w, e, q⟩ := en.at_ i _ z2
      exact ⟨o, ho, w, e, q.mono st.le⟩
  · rcases outsOf_at h1 with z | ⟨z1, z2⟩ | ⟨_, z, _⟩
    · cases z
    · rcases outsOf_at h2 with y | ⟨y1, y2⟩ | ⟨_, y, _⟩
      · cases y
      · exact en'.apart i j _ _ a hij z2 y2 (by rw [σp i z1]; exact h3) (by rw [σp j y1]; exact h4)
      · cases y
    · cases z
end
/-- the wish about exceptions, from a promise's -/
def e0Of (W : Wd) (E : XK) : EX := fun c H => ∀ C, W.mg c = some (.ref C) → E (.ref C) none H
theorem xk_e0 {E : XK} {cls : Value} {d : Option Addr} {H : Hp} (h : xk W (e0Of W E) cls d H) : E cls d H := by
  obtain ⟨c, C, hm, rfl, rfl, h⟩ := h
  exact h C hm
/-- the body's reckoning answers the promise -/
theorem body_sp {np n : Nat} {B : S} {N : List Str} {vs : List V} {H : Hp} {Q : VK} {E : XK} (hN : N.length = n) (hnp : np ≤ n) (h : spOf W (bodyS Φ np n B) vs H Q E) :
    ∃ ss, vs.length = np ∧ tS W Φ (parOf ss) (e0Of W E) B { nx := fun _ H' => Q .non H', rt := Q } (L2.start N vs) H := by
  obtain ⟨F, ss, Kp, Xk, en, tb, hS, hok, hx⟩ := h
  obtain ⟨hl, hS⟩ := hS
  have hv : vs.length = np := by rw [← hl, en.len, List.length_map]
  refine ⟨ss, hv, F, ss ++ List.replicate (N.length - vs.length) .un, fun _ c => Xk c, { nx := fun ρ => Kp false .non (outsOf ss ρ), rt := fun ρ r => retW ss Kp ρ r }, body_env en (by omega), tb, by rw [hN, hv]; exact hS, ⟨fun ρ' σ' F' H' ho st en' p => ?_, fun ρ' σ' r v F' H' ho st en' rv nw p => ?_, fun _ _ _ _ (z : False) _ _ _ => z.elim, fun _ _ _ _ (z : False) _ _ _ => z.elim, fun ρ' σ' c F' H' hc st en' => ?_⟩⟩
  · obtain ⟨s, e, _⟩ := body_out en (by omega) st en' p
    exact hok _ _ _ _ _ _ ho s e rfl trivial
  · obtain ⟨s, e, own⟩ := body_out en (by omega) st en' p
    cases r with
    | val x => exact hok _ _ _ _ _ _ ho s e rv trivial
    | tmp x =>
      obtain ⟨a, ea, g1, g2, g3⟩ := rv
      refine hok _ _ _ _ _ _ ho s e ⟨a, ea, g1, fun z => g2 ?_, g3⟩ nw
      obtain ⟨i, y, _, z2, z3⟩ := own a z
      exact ⟨i, y, z2, z3⟩
    | bor i =>
      have hvv : σ'[i]? = some (some v) := rv
      have ho' : retW ss Kp ρ' (.bor i) := ho
      unfold retW at ho'
      dsimp only at ho'
      split at ho'
      · rename_i x hx
        obtain ⟨o, h1, w, e1, q⟩ := en'.at_ i _ hx
        rw [hvv] at h1; cases h1; cases e1
        exact hok _ _ _ _ _ _ ho' s e q trivial
      · rename_i x hx
        split at ho'
        · -- a lent list is handed back: frozen
          obtain ⟨F2, s2, e2, rp, _⟩ := fz_ok (r := .bor i) (x := x) (ρ' := ρ'.set i (.val x)) st en' hvv trivial (by unfold fz; dsimp only; rw [hx])
          obtain ⟨s3, e3, _⟩ := body_out en (by omega) s2 e2 p
          exact hok _ _ _ _ _ _ ho' s3 e3 rp trivial
        · rename_i hp
          obtain ⟨hh, ho'⟩ := ho'
          obtain ⟨o, h1, a, e1, hF, q⟩ := en'.at_ i _ hx
          rw [hvv] at h1; cases h1; cases e1
          refine hok _ _ _ _ _ _ ho' s e ⟨a, rfl, hF, fun z => ?_, q⟩ fun b eb => ?_
          · obtain ⟨j, y, z1, z2, z3⟩ := own a z
            refine en'.apart i j x y a (fun z => hp (by rw [z]; exact z1)) hx z2 hvv z3
          · cases eb
            rcases st.own a ⟨i, x, hx, hvv⟩ with z | z
            · obtain ⟨j, y, y1, y2⟩ := (body_own en a).mp z
              have hj := parOf_own y1
              have hji : i ≠ j := fun z => hp (by rw [z]; exact hj)
              have hlen : j < vs.length := by
                have := (List.getElem?_eq_some_iff.mp y1).1
                rw [en.len, List.length_map] at this
                exact this
              have hs : σ'[j]? = some (some (.ref a)) := by rw [p j hj, start_at hlen]; exact y2
              rcases held_at hh y1 with ⟨y', w⟩ | ⟨ys, w⟩
              · exact (en'.apart i j x y' a hji hx w hvv hs).elim
              · obtain ⟨o, ho, w', e1, b, us, e2, q1, _⟩ := en'.at_ j _ w
                rw [hs] at ho; cases ho; cases e1; cases e2
                rw [hF] at q1; cases q1
            · exact z
      · exact ho'.elim
  · intro C hC
    refine hx c F' H' hc ⟨st.le, fun a o h nt no => st.keep a o h nt fun z => no ((body_own en a).mp z), st.live, fun a h k => (st.new a h k).imp id (body_own en a).mp, fun a ⟨i, x, z1, _⟩ => ?_, st.tabs⟩ ⟨en'.le, en'.nt, by unfold lostAll; rw [List.length_replicate]; exact en.len, fun i s hs => ?_, fun i j x y a _ z1 _ _ _ => ?_⟩ C hC
    · unfold lostAll at z1
      rw [List.getElem?_replicate] at z1
      split at z1 <;> cases z1
    · unfold lostAll at hs
      rw [List.getElem?_replicate] at hs
      split at hs
      · rename_i hi
        cases hs
        have : i < (vs.map some).length := by rw [← en.len]; exact hi
        exact ⟨(vs.map some)[i], by simp [this], trivial⟩
      · cases hs
    · unfold lostAll at z1
      rw [List.getElem?_replicate] at z1
      split at z1 <;> cases z1
end Ev
namespace Ev
open PySem PySem.Spec PyProof.Rows L2
variable {W : Wd} {Φ : Tbl} {par : Nat → Bool} {E0 : EX}

/-! ### from the text to expressions over slots -/
structure CI where
  fs : List Str
  cons : List Str
  lams : List Str
  excs : List Str
  gcd : Bool
  lamIn : Scope → Bool := fun _ => false
/-- a lambda without parameters -/
def noArgs (params : Arguments) : Bool := match params with
  | ⟨[], [], none, [], [], none, []⟩ => true
  | _ => false
def ixOf : List Str → Str → Option Nat
  | [], _ => none
  | y :: ys, x => if y = x then some 0 else (ixOf ys x).map (· + 1)
theorem ixOf_ok : ∀ {N : List Str} {x : Str} {i : Nat}, ixOf N x = some i → N[i]? = some x
  | [], _, _, h => by simp [ixOf] at h
  | y :: ys, x, i, h => by
    unfold ixOf at h
    split at h
    · rename_i e
      cases h
      simp [e]
    · obtain ⟨j, hj, e⟩ := Option.map_eq_some_iff.mp h
      subst e
      simpa using ixOf_ok hj
def dOk (x : Str) : Bool := !(x == ("__debug__" : Str)) && !(x == ("__classdict__" : Str)) && decide (x ≠ "__name__")
theorem dOk1 {x : Str} (h : dOk x = true) : (x == ("__debug__" : Str)) = false := by unfold dOk at h; simp only [Bool.and_eq_true, Bool.not_eq_true'] at h; exact h.1.1
theorem dOk2 {x : Str} (h : dOk x = true) : (x == ("__classdict__" : Str)) = false := by unfold dOk at h; simp only [Bool.and_eq_true, Bool.not_eq_true'] at h; exact h.1.2
theorem dOk3 {x : Str} (h : dOk x = true) : x ≠ "__name__" := by unfold dOk at h; simp only [Bool.and_eq_true, decide_eq_true_eq] at h; exact h.2
def visB (sc : Scope) (x : Str) : Bool := match sc.names.lookup x with
  | some .local => true
  | some .cell => true
  | some .free => true
  | _ => false
theorem visB_ok {sc : Scope} {x : Str} (h : visB sc x = true) : Vis sc x := by
  unfold visB at h
  unfold Vis
  split at h
  · exact .inl (by assumption)
  · exact .inr (.inl (by assumption))
  · exact .inr (.inr (by assumption))
  · cases h
def gB (sc : Scope) (x : Str) : Bool := match sc.names.lookup x with
  | some .globalImplicit => true
  | _ => false
theorem gB_ok {X : Cx} {x : Str} (h : gB X.env.scope x = true) : Gl X x := by
  unfold gB at h
  split at h
  · rename_i e; exact e
  · cases h
def locB (sc : Scope) (x : Str) : Bool := match sc.names.lookup x with
  | some .local => true
  | _ => false
theorem locB_ok {sc : Scope} {x : Str} (h : locB sc x = true) : sc.names.lookup x = some .local := by
  unfold locB at h
  split at h
  · assumption
  · cases h
def celB (sc : Scope) (x : Str) : Bool := match sc.names.lookup x with
  | some .cell => true
  | _ => false
theorem celB_ok {sc : Scope} {x : Str} (h : celB sc x = true) : sc.names.lookup x = some .cell := by
  unfold celB at h
  split at h
  · assumption
  · cases h
def bltNames : List (Str × Value) := [("len", .builtin "len"), ("abs", .builtin "abs"), ("int", .type "int"), ("list", .type "list"), ("tuple", .type "tuple")]
def tyNames : List (Str × String) := [("int", "int"), ("bool", "bool"), ("str", "str"), ("tuple", "tuple"), ("list", "list")]
def plainE : Expr → Bool
  | .Starred .. => false
  | .Slice .. => false
  | .Set .. => false
  | _ => true
/-! targets; cell: names that an inner block captures may be stored -/
def isTupE : Expr → Bool
  | .Tuple .. => true
  | _ => false
def isSetE : Expr → Bool
  | .Set .. => true
  | _ => false
mutual
def cG : Nat → List Str → Scope → Bool → Expr → Option Tg
  | 0, _, _, _, _ => none
  | n + 1, N, sc, cl, .Name x _ => if (locB sc x || (cl && celB sc x)) = true then (ixOf N x).map .nam else none
  | n + 1, N, sc, cl, .Tuple es _ _ => (cGs n N sc cl es).map .tup
  | _, _, _, _, _ => none
def cGs : Nat → List Str → Scope → Bool → List Expr → Option Tg
  | 0, _, _, _, _ => none
  | _ + 1, _, _, _, [] => some .nil
  | n + 1, N, sc, cl, e :: es => match cG n N sc cl e, cGs n N sc cl es with
    | some g, some gs => some (.cons g gs)
    | _, _ => none
end
section
variable (C : CI) (N : List Str)
mutual
def cE : Nat → Scope → Expr → Option E
  | 0, _, _ => none
  | n + 1, sc, e => match e with
    | .Constant c _ _ => (match c with
      | .none => some .non
      | .bool b => some (.bl b)
      | .int i => some (.int i)
      | .str s => some (.str s)
      | _ => none)
    | .Name x _ => if dOk x = true then (if visB sc x = true then (ixOf N x).map .var else if gB sc x = true ∧ C.cons.contains x = true then some (.glo x) else none) else none
    | .BinOp a op b _ => (match cE n sc a, cE n sc b with
      | some x, some y => some (.bin op x y)
      | _, _ => none)
    | .UnaryOp op a _ => (match op, cE n sc a with
      | .USub, some x => some (.neg x)
      | .Not, some x => some (.not x)
      | _, _ => none)
    | .BoolOp op vs p => (match vs with
      | [] => none
      | [a] => cE n sc a
      | a :: b :: rest => (match op, cE n sc a, cE n sc (.BoolOp op (b :: rest) p) with
        | .And, some x, some y => some (.and x y)
        | .Or, some x, some y => some (.or x y)
        | _, _, _ => none))
    | .Compare a ops bs _ => (match ops, bs with
      | [op], [b] => if behindInMarks op b = false then (match cE n sc a, cE n sc b with
        | some x, some y => some (.cmp op x y)
        | _, _ => none) else none
      | [op, op'], [b, c] => if lastMarks [op, op'] [b, c] = false then (match cE n sc a, cE n sc b, cE n sc c with
        | some x, some y, some z => some (.cmp2 op op' x y z)
        | _, _, _ => none) else none
      | _, _ => none)
    | .IfExp c a b _ => (match cT n sc c, cE n sc a, cE n sc b with
      | some x, some y, some z => some (.ite x y z)
      | _, _, _ => none)
    | .Tuple es _ _ => (cEs n sc es).map .tup
    | .List es _ => (cEs n sc es).map .lst
    | .Subscript a i _ => (match i with
      | .Slice lo hi st _ => (match st with
        | none => (match cE n sc a, cO n sc lo, cO n sc hi with
          | some x, some y, some z => some (.sl x y z)
          | _, _, _ => none)
        | some (.UnaryOp .USub (.Constant (.int 1) _ _) _) => (match lo, hi with
          | none, none => (cE n sc a).map .rev
          | _, _ => none)
        | _ => none)
      | i => (match cE n sc a, cE n sc i with
        | some x, some y => some (.ix x y)
        | _, _ => none))
    | .Call f args kws cpos => (match kws with
      | _ :: _ => none
      | [] => (match f with
        | .Name x _ => if dOk x = true then (
            if visB sc x = true then (match args with
              | [] => none
              | _ :: _ => (match ixOf N x, cEs n sc args with
                | some i, some ms => some (.cvr i ms)
                | _, _ => none))
            else if gB sc x = true then (
              if C.lams.contains x = true then (match args with
                | [.Lambda params body lsc _] => if C.lamIn sc = true ∧ C.lamIn lsc = false ∧ noArgs params = true ∧ LamX.lamSB sc lsc = true then (cE n lsc body).map (.lam x) else none
                | _ => none)
              else if C.fs.contains x = true then (cEs n sc args).map (.call x)
              else if x = "isinstance" then (match args with
                | [a, .Name t _] => (match cE n sc a, tyNames.lookup t with
                  | some m, some T => if gB sc t = true ∧ dOk t = true then some (.isi m T) else none
                  | _, _ => none)
                | _ => none)
              else if x = "gcd" then (match args, C.gcd with
                | _ :: _, true => (cEs n sc args).map (.blt "gcd")
                | _, _ => none)
              else (match bltNames.lookup x, args with
                | some _, _ :: _ => (cEs n sc args).map (.blt x)
                | _, _ => none))
            else none) else none
        | .Attribute (.Name x _) at_ apos => if (apos.endLine == cpos.line) = true ∧ dOk x = true ∧ visB sc x = true then (match ixOf N x with
          | none => none
          | some i => if at_ = "append" then (match args with
              | [e] => (cE n sc e).map (.app i)
              | _ => none)
            else if at_ = "pop" then (match args with
              | [] => some (.pop i .noe)
              | [e] => (cE n sc e).map fun m => .pop i (.tv m)
              | _ => none)
            else none) else none
        | _ => none))
    | .ListComp elt gens scope _ => (match gens with
      | [⟨tg, it, ifs, 0⟩] => if isSetE it = false then (
          let own := (scope.names.filterMap fun y => match y.2 with
            | .local => (ixOf N y.1).map fun i => (y.1, i)
            | _ => none)
          if blkC N sc scope own = true ∧ C.lamIn (relS scope sc) = false then (match cI n sc tg it, cG n N (relS scope sc) false tg, cC n (relS scope sc) ifs, cE n (relS scope sc) elt with
            | some mi, some g, some mc, some me => if g.sl.all (fun i => (own.map (·.2)).contains i) = true then some (.lc me g mi mc (own.map (·.2))) else none
            | _, _, _, _ => none) else none) else none
      | _ => none)
    | _ => none
def cO : Nat → Scope → Option Expr → Option E
  | 0, _, _ => none
  | _ + 1, _, none => some .noe
  | n + 1, sc, some e => (cE n sc e).map .tv
def cEs : Nat → Scope → List Expr → Option E
  | 0, _, _ => none
  | _ + 1, _, [] => some .nil
  | n + 1, sc, e :: es => match cE n sc e, cEs n sc es with
    | some m, some ms => some (.cons m ms)
    | _, _ => none
def cT : Nat → Scope → Expr → Option E
  | 0, _, _ => none
  | n + 1, sc, e => match e with
    | .UnaryOp .Not a _ => (cT n sc a).map .tn
    | .BoolOp op vs p => (match vs with
      | [] => none
      | [a] => cT n sc a
      | a :: b :: rest => (match op, cT n sc a, cT n sc (.BoolOp op (b :: rest) p) with
        | .And, some x, some y => some (.ta x y)
        | .Or, some x, some y => some (.to x y)
        | _, _, _ => none))
    | .IfExp .. => none
    | e => (cE n sc e).map .tv
def cC : Nat → Scope → List Expr → Option E
  | 0, _, _ => none
  | _ + 1, _, [] => some .noe
  | n + 1, sc, [c] => cT n sc c
  | _, _, _ => none
def cI : Nat → Scope → Expr → Expr → Option E
  | 0, _, _, _ => none
  | n + 1, sc, tg, it => match it with
    | .Call (.Name x p) args kws pos => if x = "range" then (if gB sc "range" = true then (match args, kws with
        | [b], [] => (cE n sc b).map fun m => .rng (.int 0) m
        | [a, b], [] => (match cE n sc a, cE n sc b with
          | some x, some y => some (.rng x y)
          | _, _ => none)
        | _, _ => none) else none)
      else if x = "zip" then (if gB sc "zip" = true then (if isTupE tg = true then (match args, kws with
        | [a, b], [] => (match cE n sc a, cE n sc b with
          | some x, some y => some (.zip x y)
          | _, _ => none)
        | _, _ => none) else none) else none)
      else (cE n sc (.Call (.Name x p) args kws pos)).map .it
    | e => (cE n sc e).map .it
end
end
end Ev
/-! While an exception is handled: an iterator's end, a tuple taken apart. -/
namespace Ev
open PySem PySem.Spec PyProof.Rows L2
section
variable {prog : Program} {w : World} {A : Around} {E : Value → Shared → Prop} {s : Shared} {x1 : Addr}
theorem hot_up {it : Addr} {h : Heap} {f : Obj → Obj} (hot : HotX.HotAt A x1 h) (hne : x1 ≠ it) : HotX.HotAt A x1 (h.update it f) := by
  obtain ⟨g0, ox, ws, g1, g2, g3⟩ := hot
  exact ⟨g0, ox, ws, (Heap.get?_update_other _ _ (Ne.symm hne)).trans g1, g2, g3⟩
theorem hot_push {h : Heap} (o : Obj) (hot : HotX.HotAt A x1 h) : HotX.HotAt A x1 (h.push o) := by
  obtain ⟨g0, ox, ws, g1, g2, g3⟩ := hot
  exact ⟨g0, ox, ws, Heap.get?_push_of_some o g1, g2, g3⟩
theorem lt_of_hot {h : Heap} (hot : HotX.HotAt A x1 h) : x1 < h.objs.size := by
  obtain ⟨g0, ox, ws, g1, g2, g3⟩ := hot
  exact Heap.lt_size g1
theorem ext_last {it : Addr} {h g : Heap} {f : Obj → Obj} (e : Heap.ExtBut it h g) {o : Obj} : Heap.ExtBut it h ((g.push o).update g.objs.size f) := fun b u hb q => by
  have q' := e b u hb q
  rw [Heap.get?_update_other _ _ (Nat.ne_of_gt (Heap.lt_size q'))]
  exact Heap.get?_push_of_some o q'
/-- a list's iterator has come to its end -/
theorem list_end_hot {it l : Addr} {i : Nat} {xs : Array Value} {Q : Option Value → Shared → Prop} (hot : HotX.HotAt A x1 s.heap) (hne : x1 ≠ it) (hit : s.heap.IsListIter it l i) (hl : s.heap.IsList l xs) (hx : xs[i]? = none)
    (hQ : ∀ g, Heap.ExtBut it s.heap g → Q none { s with heap := g }) : wpAny (model prog w) A (pyNext (.ref it)) Q E s := by
  have hT := hit.typeIs
  obtain ⟨oi, goi, _, doi⟩ := hit
  obtain ⟨ox, gox, _, nx, dox⟩ := hl
  unfold pyNext
  refine wpAny_bind (wpAny_attempt (wpAny_callSpecial?_slot (name := Str.ofString "__next__") hT slot_listiter_next (wpAny_call_entry slot_listiter_next hT entry_listiter_next ?_ (args_listiter_next _))))
  show wpAny _ _ (field (.ref it) 0 >>= _) _ _ s
  refine wpAny_bind (wpAny_field goi doi (x := Value.ref l) rfl ?_)
  have nn : ¬ ((Value.ref l == Value.none) = true) := fun z => by cases z
  show wpAny _ _ (if (Value.ref l == Value.none) = true then _ else _) _ _ s
  rw [if_neg nn]
  show wpAny _ _ (field (.ref it) 1 >>= _) _ _ s
  refine wpAny_bind (wpAny_field goi doi (x := Value.int i 0) rfl ?_)
  show wpAny _ _ (seqItems? (.ref l) >>= _) _ _ s
  refine wpAny_bind (wpAny_seqItems gox dox ?_)
  simp only [Int.toNat_natCast, hx]
  refine wpAny_bind (wpAny_rule (wpAny_bind (wpAny_setField goi doi (by simp) ?_)))
  show wpAny _ _ (newExc (.type "StopIteration") [] >>= _) _ _ _
  refine wpAny_bind ?_
  simp only [newExc, newTuple]
  refine wpAny_bind (wpAny_newObj_type ?_ (by size_fits))
  have hm : firstArgMember (.type "StopIteration") [] = (pure Value.none : Sem Value) := by first | rfl | simp only [firstArgMember]
  refine wpAny_bind (m := firstArgMember _ _) (wpAny_of_eq (a := Value.none) (by first | exact hm | rfl | (simp only [firstArgMember]; rfl)) ?_)
  refine wpAny_newObj_type ?_ (by size_fits)
  refine HotX.raiseNew_hot (hot_push _ (hot_push _ (hot_up hot hne))) (Nat.ne_of_lt (lt_of_hot (hot_push _ (hot_up hot hne)))) (Heap.get?_push_size _ rfl) rfl (by first | (simp; done) | (simp; omega) | (simp only [Array.size_append]; simp; omega)) ?_
  refine wpAny_bind (wpAny_isInstance (T := "StopIteration") (b := true) ⟨_, Heap.get?_update_self _ (Heap.get?_push_size _ rfl) rfl, rfl⟩ isSubtype_stop ?_)
  exact wpAny_pure (hQ _ (ext_last ((Heap.SameBut.update ..).extBut.push _)))
/-- a tuple's iterator has come to its end -/
theorem tup_end_hot {it l : Addr} {i : Nat} {xs : Array Value} {Q : Option Value → Shared → Prop} (hot : HotX.HotAt A x1 s.heap) (hne : x1 ≠ it) (hit : IsTupIter s.heap it l i) (hl : IsTup s.heap l xs) (hx : xs[i]? = none)
    (hQ : ∀ g, Heap.ExtBut it s.heap g → Q none { s with heap := g }) : wpAny (model prog w) A (pyNext (.ref it)) Q E s := by
  have hT := hit.typeIs
  obtain ⟨oi, goi, _, doi⟩ := hit
  obtain ⟨ox, gox, _, nx, dox⟩ := hl
  unfold pyNext
  refine wpAny_bind (wpAny_attempt (wpAny_callSpecial?_slot (name := Str.ofString "__next__") hT slot_tupleiter_next (wpAny_call_entry slot_tupleiter_next hT entry_tupleiter_next ?_ (args_tupleiter_next _))))
  show wpAny _ _ (field (.ref it) 0 >>= _) _ _ s
  refine wpAny_bind (wpAny_field goi doi (x := Value.ref l) rfl ?_)
  have nn : ¬ ((Value.ref l == Value.none) = true) := fun z => by cases z
  show wpAny _ _ (if (Value.ref l == Value.none) = true then _ else _) _ _ s
  rw [if_neg nn]
  show wpAny _ _ (field (.ref it) 1 >>= _) _ _ s
  refine wpAny_bind (wpAny_field goi doi (x := Value.int i 0) rfl ?_)
  show wpAny _ _ (seqItems? (.ref l) >>= _) _ _ s
  refine wpAny_bind (wpAny_seqItems gox dox ?_)
  simp only [Int.toNat_natCast, hx]
  refine wpAny_bind (wpAny_rule (wpAny_bind (wpAny_setField goi doi (by simp) ?_)))
  show wpAny _ _ (newExc (.type "StopIteration") [] >>= _) _ _ _
  refine wpAny_bind ?_
  simp only [newExc, newTuple]
  refine wpAny_bind (wpAny_newObj_type ?_ (by size_fits))
  have hm : firstArgMember (.type "StopIteration") [] = (pure Value.none : Sem Value) := by first | rfl | simp only [firstArgMember]
  refine wpAny_bind (m := firstArgMember _ _) (wpAny_of_eq (a := Value.none) (by first | exact hm | rfl | (simp only [firstArgMember]; rfl)) ?_)
  refine wpAny_newObj_type ?_ (by size_fits)
  refine HotX.raiseNew_hot (hot_push _ (hot_push _ (hot_up hot hne))) (Nat.ne_of_lt (lt_of_hot (hot_push _ (hot_up hot hne)))) (Heap.get?_push_size _ rfl) rfl (by first | (simp; done) | (simp; omega) | (simp only [Array.size_append]; simp; omega)) ?_
  refine wpAny_bind (wpAny_isInstance (T := "StopIteration") (b := true) ⟨_, Heap.get?_update_self _ (Heap.get?_push_size _ rfl) rfl, rfl⟩ isSubtype_stop ?_)
  exact wpAny_pure (hQ _ (ext_last ((Heap.SameBut.update ..).extBut.push _)))
/-- a tuple's items, all of them -/
theorem items_hot {t : Addr} {xs : Array Value} {Q : List Value → Shared → Prop} (hot : HotX.HotAt A x1 s.heap) (ht : IsTup s.heap t xs) (hQ : ∀ g, Heap.ExtBut s.heap.objs.size s.heap g → Q xs.toList { s with heap := g }) :
    wpAny (model prog w) A (unpackItems (.ref t) xs.size none) Q E s := by
  have tne : t ≠ s.heap.objs.size := by
    obtain ⟨ot, got, _⟩ := ht
    exact Nat.ne_of_lt (Heap.lt_size got)
  have xne : x1 ≠ s.heap.objs.size := Nat.ne_of_lt (lt_of_hot hot)
  unfold unpackItems notIterableAtAll
  refine wpAny_bind (wpAny_bind (wpAny_specialOf ht.typeIs slot_tuple_iter.lookup (wpAny_pure ?_)))
  simp only [Bool.false_eq_true, if_false]
  refine wpAny_bind (wpAny_holding (iter_tuple ht ?_))
  refine wpAny_bind (wpAny_holding (draw_tuple tne xs.size 0 _ _ ⟨_, Heap.get?_push_size _ rfl, rfl, rfl⟩ (ht.push _) (by omega) fun g1 it1 sb1 => ?_))
  have hall : (xs.toList.drop 0).take xs.size = xs.toList := by rw [List.drop_zero]; exact List.take_of_length_le (by simp)
  rw [hall, if_neg (by simp)]
  have hot1 : HotX.HotAt A x1 g1 := by
    obtain ⟨e0, ox, ws, e1, e2, e3⟩ := hot_push { cls := .type "tuple_iterator", data := .fields #[Value.ref t, Value.int 0 0] } hot
    exact ⟨e0, ox, ws, sb1.extBut _ _ xne e1, e2, e3⟩
  have tup1 : IsTup g1 t xs := (ht.push _).extBut sb1.extBut tne
  refine wpAny_bind (wpAny_holding (tup_end_hot (s := { s with heap := g1 }) hot1 xne it1 tup1 (by simp) fun g2 eb2 => ?_))
  simp only [Option.isSome_none, Bool.false_eq_true, if_false]
  refine wpAny_pure (hQ g2 fun b o hb e => eb2 b o hb (sb1.extBut b o hb (Heap.get?_push_of_some _ e)))
end
end Ev
/-! [word for word, good in pairs if good], while an exception is handled. -/
namespace Ev
open PySem PySem.Spec PyProof.Rows L2
/-- us stand for pairs of a word and a sign -/
def Prs (K : PySem.W.Frag) (H : Hp) (us : List V) (ps : List (Str × Bool)) : Prop := us.length = ps.length ∧ ∀ (i : Nat) (w : Str) (b : Bool), ps[i]? = some (w, b) → ∃ t, us[i]? = some (.ref t) ∧ SqT K H t [.str w, .bl b]
def yesOf (ps : List (Str × Bool)) : List V := ps.filterMap fun p => if p.2 = true then some (V.str p.1) else none
def tLcH (K : PySem.W.Frag) (te : TE) : TE := fun σ H Q => te σ H fun v H1 => ∃ l us ps, v = .ref l ∧ SqL K H1 l us ∧ Prs K H1 us ps ∧ ∀ D, H1 D = none → Q (.ref D) (upd H1 D (.lst (yesOf ps)))
theorem SqL.mono {K : PySem.W.Frag} {H H' : Hp} {a : Addr} {xs : List V} (e : Same H H') (h : SqL K H a xs) : SqL K H' a xs := e.seq h
theorem sqt_mono {K : PySem.W.Frag} {H H' : Hp} {a : Addr} {xs : List V} (e : Same H H') (h : SqT K H a xs) : SqT K H' a xs := by
  rcases h with h | h
  · refine .inl ?_
    rcases h with h | ⟨o, h⟩
    · exact .inl (e _ _ h)
    · exact .inr ⟨o, e _ _ h⟩
  · exact .inr h
theorem Prs.mono {K : PySem.W.Frag} {H H' : Hp} {us : List V} {ps : List (Str × Bool)} (e : Same H H') (h : Prs K H us ps) : Prs K H' us ps :=
  ⟨h.1, fun i w b q => let ⟨t, e1, e2⟩ := h.2 i w b q; ⟨t, e1, sqt_mono e e2⟩⟩
theorem lc_hot {X : Cx} {iter : Expr} {te : TE} {scope : Scope} {own : List (Str × Nat)} {wn bn : Str} {i j k : Nat} {p1 p2 p3 p4 p5 pos : Pos} (hc : L2H.HotC X) (hN : X.N.Nodup) (he : PE X iter te) (ok : BlkOk X.N X.env.scope scope own)
    (hi : X.N[i]? = some wn) (hj : X.N[j]? = some bn) (hij : i ≠ j) (io : i ∈ own.map (·.2)) (jo : j ∈ own.map (·.2)) (lw : (relS scope X.env.scope).names.lookup wn = some .local) (lb : (relS scope X.env.scope).names.lookup bn = some .local)
    (dw : dOk wn = true) (db : dOk bn = true) (hs : ∀ x, foldedSetIterable iter X.env x = pure x) :
    PE X (.ListComp (.Name wn p1) [⟨.Tuple [.Name wn p2, .Name bn p3] k p4, iter, [.Name bn p5], 0⟩] scope pos) (tLcH X.K te) := by
  refine ⟨fun pins s σ H Q I h => ?_⟩
  obtain ⟨p, hp1, hp⟩ := hc
  rw [eval_ListComp]
  have hfree : ∀ y ∈ scope.names, y.2 = .free → ∃ c, X.env.cells.lookup y.1 = some c := fun y hy e => (ok.free y hy e).elim (fun z => I.ok.has _ (.inl z)) fun z => I.ok.has _ (.inr z)
  refine wpAny_comprehension_free (use := none) rfl hs (closure_ok hfree) ok.kind (fun y hy e => by rw [ok.uniq y hy, e]) (thn (he.run pins s σ H _ I h) fun xv s1 hx => ?_)
  obtain ⟨v, H1, I1, r1, l, us, ps, ev, hq, hps, hQ⟩ := hx
  subst ev
  obtain rfl : xv = Value.ref l := r1
  obtain ⟨its, rv, pl, hz⟩ := I1.list hq
  refine wpAny_pyIter_list pl.isList ?_
  generalize hit : s1.heap.objs.size = it
  generalize hs2 : ({ s1 with heap := s1.heap.push { cls := .type "list_iterator", data := .fields #[.ref l, .int 0 0] } } : Shared) = s2
  have I2 : Inv X pins σ H1 s2 := by
    rw [← hs2]
    exact I1.kept (t' := s1.toks) fun b o e => Heap.get?_push_of_some _ e
  have st2 : s2.heap.IsListIter it l 0 := by
    rw [← hs2, ← hit]
    exact ⟨_, Heap.get?_push_size _ rfl, rfl, rfl⟩
  have fi2 : FpOk X pins H1 it := I1.fpOk (Nat.le_of_eq hit) (I1.hok.fresh (Nat.le_of_eq hit))
  refine wpAny_newObj_type (newEnv_comp ?_) (by show 0 ≤ sizeLine; decide)
  generalize hD : s2.heap.objs.size = D
  have hDn : H1 D = none := I2.hok.fresh (Nat.le_of_eq hD)
  generalize hs3 : ({ s2 with heap := s2.heap.push { cls := .type "list", data := .seq ([] : List Value).toArray } } : Shared) = s3
  have h3 : s3.heap = s2.heap.push { cls := .type "list", data := .seq ([] : List Value).toArray } := by rw [← hs3]
  have I3 : Inv X pins σ (upd H1 D (.lst [])) s3 := by
    rw [← hs3]
    refine I2.laid (t' := s2.toks) (fun b o e => Heap.get?_push_of_some _ e) (Nat.le_of_eq hD) ⟨Nat.zero_le _, [], 0, .nil, ?_⟩
    rw [← hD]
    exact Heap.get?_push_size _ rfl
  have itD : it ≠ D := by
    obtain ⟨o, e, _⟩ := st2
    rw [← hD]
    exact Nat.ne_of_lt (Heap.lt_size e)
  have st3 : s3.heap.IsListIter it l 0 := by
    obtain ⟨o, e, q⟩ := st2
    exact ⟨o, by rw [h3]; exact Heap.get?_push_of_some _ e, q⟩
  have fi3 : ∀ acc, FpOk X pins (upd H1 D (.lst acc)) it := fun acc => ⟨by rw [upd_ne itD]; exact fi2.1, fi2.2⟩
  have lt3 : it < s3.heap.objs.size := by
    obtain ⟨o, e, _⟩ := st3
    exact Heap.lt_size e
  have I4 := block_start I3 ok hN (fp := [it]) fun b hb => by
    have e : b = it := by simpa using hb
    subst e
    exact ⟨fi3 [], lt3⟩
  show codeAny _ _ (.compStart (.ListComp (.Name wn p1) [⟨.Tuple [.Name wn p2, .Name bn p3] k p4, iter, [.Name bn p5], 0⟩] scope pos) 0 (.ref it) (.ref D) (compEnvC scope (cellsFrom (s3.heap.objs.size + 1) scope.names (cloFrom X.env.cells scope.names [])) s3.heap.objs.size X.env)) (compPost (model X.prog X.w) X.A X.xe none (EP X pins σ Q) (.ref D) s3.heap.objs.size)
    { s3 with heap := pushCells (s3.heap.push { cls := .type "dict", data := .dict #[] }) scope.names }
  generalize hce : compEnvC scope (cellsFrom (s3.heap.objs.size + 1) scope.names (cloFrom X.env.cells scope.names [])) s3.heap.objs.size X.env = ce at I4 ⊢
  have cL : ce.locals = s3.heap.objs.size := by subst hce; rfl
  have cS : ce.scope = relS scope X.env.scope := by subst hce; rfl
  generalize hs4 : ({ s3 with heap := pushCells (s3.heap.push { cls := .type "dict", data := .dict #[] }) scope.names } : Shared) = s4 at I4 ⊢
  have up34 : ∀ b o, s3.heap.get? b = some o → s4.heap.get? b = some o := fun b o e => by
    rw [← hs4]
    exact pushCells_keeps _ _ _ _ (Heap.get?_push_of_some _ e)
  have st4 : s4.heap.IsListIter it l 0 := by
    obtain ⟨o, e, q⟩ := st3
    exact ⟨o, up34 _ _ e, q⟩
  have P1 := I1.pin p (List.mem_append_left _ hp)
  have P3 := I3.pin p (List.mem_append_left _ hp)
  have pit : p.1 ≠ it := by
    rw [← hit]
    exact Nat.ne_of_lt (Heap.lt_size P1.1)
  generalize hY : X.blk s3 (upd H1 D (.lst [])) scope ce [it] = Y at I4
  have yA : Y.A = X.A := by rw [← hY]
  have yK : Y.K = X.K := by rw [← hY]
  have yN : Y.N = X.N := by rw [← hY]
  have ye : Y.env = ce := by rw [← hY]
  have yp : Y.prog = X.prog := by rw [← hY]
  have yw : Y.w = X.w := by rw [← hY]
  have yx : Y.ex = [it] := by rw [← hY]
  have yn : Y.pn = [] := by rw [← hY]
  have yE : Y.xe = fun _ _ => False := by rw [← hY]
  have I5 : Inv Y [p] (wipe σ (own.map (·.2))) (upd H1 D (.lst [])) s4 := I4.pins_of fun q hq => by
    obtain rfl : q = p := by simpa using hq
    refine ⟨up34 _ _ P3.1, P3.2.1, ?_, fun z => ?_, P3.2.2.2.2⟩
    · rw [ye, cL]
      exact Nat.ne_of_lt (Heap.lt_size P3.1)
    · have z' : q.1 ∈ frs X.stack := by rw [← hY] at z; exact z
      exact (List.mem_cons.mp (I3.stkSub _ z')).elim P3.2.2.1 P3.2.2.2.1
  have hotY : ∀ {σ' : L2.St} {H' : Hp} {s' : Shared} {ps' : List (Addr × Obj)}, Inv Y (p :: ps') σ' H' s' → HotX.HotAt X.A p.1 s'.heap := fun I' => by
    obtain ⟨g1, vs, g2, g3⟩ := hp1
    exact ⟨g1, p.2, vs, (I'.pin p (List.mem_append_right _ List.mem_cons_self)).1, g2, g3⟩
  have fit : ∀ {σ' : L2.St} {acc : List V} {s' : Shared}, Inv Y [p] σ' (upd H1 D (.lst acc)) s' → FpOk Y [p] (upd H1 D (.lst acc)) it := fun {σ' acc s'} I' => by
    have hm : it ∈ Y.ex := by rw [yx]; exact List.mem_cons_self
    refine ⟨(fi3 acc).1, (I'.ok.exf it hm).1, I'.ok.exfs it hm, .inl hm, fun x c e => (I'.ok.exf it hm).2 x c e, fun q hq => ?_⟩
    rw [yn] at hq
    obtain rfl : q = p := by simpa using hq
    exact pit
  have loop : codeAny (model X.prog X.w) X.A (.compLoop (.ListComp (.Name wn p1) [⟨.Tuple [.Name wn p2, .Name bn p3] k p4, iter, [.Name bn p5], 0⟩] scope pos) 0 (.ref it) (.ref D) ce) (compPost (model X.prog X.w) X.A X.xe none (EP X pins σ Q) (.ref D) s3.heap.objs.size) s4 := by
    refine compLoop_any (fun n s' => ∃ m, m + n = us.length ∧ Inv Y [p] (wipe σ (own.map (·.2))) (upd H1 D (.lst (yesOf (ps.take m)))) s' ∧ s'.heap.IsListIter it l m) ?_ us.length ⟨0, by simp, by simpa [yesOf] using I5, st4⟩
    rintro n s5 ⟨m, hm, I6, st6⟩
    have fi6 := fit I6
    have sq6 : SqL Y.K (upd H1 D (.lst (yesOf (ps.take m)))) l us := by rw [yK]; exact SqL.mono (same_upd hDn) hq
    obtain ⟨its6, rv6, pl6, _⟩ := I6.list sq6
    have lenI := rv6.length
    by_cases hlt : m < us.length
    · obtain ⟨w, b, hpm⟩ : ∃ w b, ps[m]? = some (w, b) := by
        have : m < ps.length := by rw [← hps.1]; exact hlt
        exact ⟨ps[m].1, ps[m].2, by simp [this]⟩
      obtain ⟨t, ht, hst⟩ := hps.2 m w b hpm
      obtain ⟨u, hu, ru⟩ := rv6.get ht
      obtain rfl : u = Value.ref t := ru
      rw [← yp, ← yw]
      refine wpAny_pyNext_list_item st6 pl6.isList (x := .ref t) (by simpa using hu) fun g it7 sb => ?_
      have I7 : Inv Y [p] (wipe σ (own.map (·.2))) (upd H1 D (.lst (yesOf (ps.take m)))) { s5 with heap := g } := I6.turned (t' := s5.toks) (fun b o hb e => (sb.2 b hb).trans e) fi6.1 fi6.2.1 fi6.2.2.2.1 fi6.2.2.2.2.1 fi6.2.2.2.2.2
      obtain ⟨oi, goi, coi, doi⟩ := id it7
      refine go_of (s := { s5 with heap := g }) goi coi doi (by decide) ?_
      have I8 := I7.pinned (fp := [it]) (fun b hb => by
        have e : b = it := by simpa using hb
        subst e
        exact fit I7) fun b hb => by
        have e : b = it := by simpa using hb
        subst e
        exact ⟨oi, goi, fun v z => by rw [doi] at z; cases z⟩
      -- the turn's end
      have fin : ∀ {s' : Shared} {σ' : L2.St} {acc : List V}, Inv Y ([p] ++ pinsAt [it] g) σ' (upd H1 D (.lst acc)) s' → σ'.length = (wipe σ (own.map (·.2))).length → (∀ q, q ∉ own.map (·.2) → σ'[q]? = σ[q]?) → acc = yesOf (ps.take (m + 1)) →
          ∃ n', n' < n ∧ ∃ m, m + n' = us.length ∧ Inv Y [p] (wipe σ (own.map (·.2))) (upd H1 D (.lst (yesOf (ps.take m)))) s' ∧ s'.heap.IsListIter it l m := fun {s' σ' acc} I' hl hq ha => by
        have ew : wipe σ' (own.map (·.2)) = wipe σ (own.map (·.2)) := wipe_eq (by rw [hl, wipe_length]) hq
        have gi := (I'.pin (it, oi) (List.mem_append_right _ (List.mem_append_right _ (mem_pinsAt List.mem_cons_self goi)))).1
        refine ⟨n - 1, by omega, m + 1, by omega, ?_, ⟨oi, gi, coi, doi⟩⟩
        rw [← ha]
        refine (I'.unpinned (pins := [p])).weak (by rw [hl]) fun q v e => ?_
        rw [← ew] at e
        exact (wipe_some e).1
      rw [assign_Tuple]
      refine wpAny_bind (wpAny_standAt ?_)
      have sq8 : SqT Y.K (upd H1 D (.lst (yesOf (ps.take m)))) t [.str w, .bl b] := by rw [yK]; exact sqt_mono (same_upd hDn) hst
      obtain ⟨its8, rv8, tp8, _⟩ := I8.tuple sq8
      have l8 : its8.length = 2 := rv8.length.symm
      have hn8 : (assignEach [.Name wn p2, .Name bn p3] ce).length = its8.toArray.size := by rw [List.size_toArray, l8]; rfl
      have hst8 : (assignEach [.Name wn p2, .Name bn p3] ce).findIdx? (·.1) = none := rfl
      unfold unpack
      rw [hn8, hst8]
      refine wpAny_bind (wpAny_holding (items_hot (x1 := p.1) (hotY I8) tp8 fun g9 eb9 => ?_))
      have I9 : Inv Y ([p] ++ pinsAt [it] g) (wipe σ (own.map (·.2))) (upd H1 D (.lst (yesOf (ps.take m)))) { s5 with heap := g9 } := I8.kept (t' := s5.toks) fun b o e => eb9 b o (Nat.ne_of_lt (Heap.lt_size e)) e
      have pg : PGs Y [.Name wn p2, .Name bn p3] (gCons (gName i) (gCons (gName j) gNil)) :=
        pgs_cons (pg_name (by rw [yN]; exact hN) (by rw [yN]; exact hi) (.inl (by rw [ye, cS]; exact lw)) (.inr (by rw [ye, cS]; exact lw))) (pgs_cons (pg_name (by rw [yN]; exact hN) (by rw [yN]; exact hj) (.inl (by rw [ye, cS]; exact lb)) (.inr (by rw [ye, cS]; exact lb))) pgs_nil)
      have ra := pg.run _ _ _ _ [.str w, .bl b] its8 (fun σ' H' => σ' = ((wipe σ (own.map (·.2))).set i (some (.str w))).set j (some (.bl b)) ∧ H' = upd H1 D (.lst (yesOf (ps.take m)))) I9 rv8 ⟨_, _, rfl, _, _, rfl, rfl, rfl, rfl⟩
      rw [yE, yA, ye] at ra
      refine thnF ra fun _ sA ⟨σA, HA, IA, eσ, eH⟩ => ?_
      subst eσ eH
      have pt : PTs Y [.Name bn p5] (tB (tVar j)) := pts_one (pt_val (pe_var (by rw [yN]; exact hj) (by rw [ye, cS]; exact .inl lb) (dOk1 db) (dOk2 db)))
      have len0 : (wipe σ (own.map (·.2))).length = X.N.length := by rw [← yN]; exact I6.len
      have gj : (((wipe σ (own.map (·.2))).set i (some (.str w))).set j (some (.bl b)))[j]? = some (some (.bl b)) := by
        rw [List.getElem?_set_self]
        rw [List.length_set, len0]
        exact (List.getElem?_eq_some_iff.mp hj).1
      have gi : (((wipe σ (own.map (·.2))).set i (some (V.str w))).set j (some (.bl b)))[i]? = some (some (.str w)) := by
        rw [List.getElem?_set_ne (Ne.symm hij), List.getElem?_set_self]
        rw [len0]
        exact (List.getElem?_eq_some_iff.mp hi).1
      have out : ∀ q, q ∉ own.map (·.2) → (((wipe σ (own.map (·.2))).set i (some (V.str w))).set j (some (.bl b)))[q]? = σ[q]? := fun q hq => by
        rw [List.getElem?_set_ne (fun z => hq (by rw [← z]; exact jo)), List.getElem?_set_ne (fun z => hq (by rw [← z]; exact io)), wipe_at hq]
      have rt := pt.run _ _ _ _ (fun r H' => r = b ∧ H' = upd H1 D (.lst (yesOf (ps.take m)))) IA ⟨_, gj, b, rfl, rfl, rfl⟩
      rw [yE, yA, ye] at rt
      refine thnF rt fun r sB ⟨HB, IB, er, eH⟩ => ?_
      subst eH
      subst er
      have e1 : ps.take (m + 1) = ps.take m ++ [(w, r)] := by rw [List.take_add_one, hpm]; rfl
      cases r with
      | false =>
        simp only [Bool.false_eq_true, if_false]
        refine fin IB (by simp) out ?_
        rw [e1]
        simp [yesOf]
      | true =>
        simp only [if_true]
        have re := (pe_var (X := Y) (pos := p1) (i := i) (x := wn) (by rw [yN]; exact hi) (by rw [ye, cS]; exact .inl lw) (dOk1 dw) (dOk2 dw)).run _ _ _ _ (fun v H' => v = .str w ∧ H' = upd H1 D (.lst (yesOf (ps.take m)))) IB ⟨_, gi, rfl, rfl⟩
        rw [yE, yA, ye] at re
        refine thnF re fun z sC ⟨v, HC, IC, rz, ev, eH⟩ => ?_
        subst ev eH
        have lz : (yesOf (ps.take m)).length < sizeLine := by
          have h1 : (yesOf (ps.take m)).length ≤ (ps.take m).length := List.length_filterMap_le _ _
          have h2 : (ps.take m).length ≤ m := List.length_take_le _ _
          omega
        have ap := app_ok (X := Y) (E := notedBy (model Y.prog Y.w) Y.A Y.env fun e s' => compPost (model Y.prog Y.w) X.A X.xe none (EP X pins σ Q) (.ref D) s3.heap.objs.size (.error e) s') (Q := fun _ s' => ∃ n', n' < n ∧ ∃ m, m + n' = us.length ∧ Inv Y [p] (wipe σ (own.map (·.2))) (upd H1 D (.lst (yesOf (ps.take m)))) s' ∧ s'.heap.IsListIter it l m) IC upd_same lz rz fun s' I' => by
          rw [upd_upd] at I'
          refine fin I' (by simp) out ?_
          rw [e1]
          simp [yesOf]
        rw [yA, ye] at ap
        exact ap
    · have hend : m = us.length := by omega
      rw [← yp, ← yw]
      refine list_end_hot (x1 := p.1) (hotY I6) pit st6 pl6.isList (by simp; omega) fun g eb => ?_
      have fin6 := fit I6
      have I7 : Inv Y [p] (wipe σ (own.map (·.2))) (upd H1 D (.lst (yesOf (ps.take m)))) { s5 with heap := g } := I6.turned (t' := s5.toks) (fun b o hb e => eb b o hb e) fin6.1 fin6.2.1 fin6.2.2.2.1 fin6.2.2.2.2.1 fin6.2.2.2.2.2
      have eall : ps.take m = ps := List.take_of_length_le (by rw [hend, hps.1]; exact Nat.le_refl _)
      rw [eall] at I7
      have f3 := fi3 [V.non]
      have I8 : Inv X pins σ (upd H1 D (.lst (yesOf ps))) { s5 with heap := g } := by
        rw [← hY] at I7
        exact I3.call' (ch := [it]) I7.os I7.base I7.hok I7.bare fun b hb => by
          have e : b = it := by simpa using hb
          subst e
          exact ⟨f3.2.2.2.1, f3.2.1, f3.2.2.2.2.1, f3.2.2.2.2.2⟩
      have nC : (upd H1 D (.lst (yesOf ps))) s3.heap.objs.size = none := by
        have z := I7.free
        rw [ye, cL] at z
        exact z
      obtain ⟨mp, hn, _⟩ := I7.loc
      rw [ye, cL] at hn
      rw [yp, yw]
      refine ⟨mp, hn, fun h'' sb => ?_⟩
      have ff := I3.fpOk (Nat.le_refl _) nC
      obtain ⟨q0, q1, q2, q3, q4, q5⟩ := ff
      exact ⟨.ref D, _, I8.turned (t' := s5.toks) (fun b o hb e => (sb.2 b hb).trans e) q0 q1 q3 q4 q5, rfl, hQ D hDn⟩
  exact codeAny_compStart_list loop (wpAny_pyIter_listiter st4 loop)
end Ev
/-! f(lambda: body): f calls what it got, within a try of its own. -/
namespace Ev
open PySem PySem.Spec PyProof.Rows L2
/-- the lambda's body runs, called from the frames outer -/
abbrev lamX (X : Cx) (A : Around) (outer : List Env) (s : Shared) (H : Hp) (E : XK) (scope : Scope) (f c' : Addr) : Cx :=
  (LamX.lamCx X A outer s H (fun _ _ _ => False) scope f c').tr [] fun e s' => wpAny (model X.prog X.w) (A.deeper (LamX.lamEnv X scope s.heap.objs.size f c')) (leaving (LamX.lamEnv X scope s.heap.objs.size f c') e) (fun _ s2 => L2N.CX X.prog X.w outer H s E e s2) (fun e' s2 => L2N.CX X.prog X.w outer H s E e' s2) s'
theorem lamX_takes {X : Cx} {A : Around} {outer : List Env} {s : Shared} {H : Hp} {E : XK} {scope : Scope} {f c' : Addr} : L2N.Takes (lamX X A outer s H E scope f c') (fun cls d _ H => E cls d H) := L2N.takes_of rfl rfl rfl rfl
theorem lamX_own {X : Cx} {A : Around} {outer : List Env} {s : Shared} {H : Hp} {E : XK} {scope : Scope} {f c' : Addr} : PassesOwn (model X.prog X.w) (lamX X A outer s H E scope f c').A (lamX X A outer s H E scope f c').env (lamX X A outer s H E scope f c').xe := passes_of (X := lamX X A outer s H E scope f c') rfl
/-- the frame of the def that got the lambda -/
abbrev gotX (X : Cx) (N : List Str) (q : Str) (sg : Scope) (g : Addr) (cd : Value) (s : Shared) (H : Hp) : Cx := (cxOf C8.CX0 X.prog X.w X.K X.mg X.base N q sg g cd X.A X.stack s H C8.E0).nox
section
variable {X : Cx} {pins : List (Addr × Obj)} {σ : L2.St} {H : Hp} {s : Shared}
/-- a(), a holds the lambda -/
theorem act_lam {N : List Str} {q a : Str} {sg : Scope} {g f c' : Addr} {cd pm ct : Value} {params : Arguments} {body : Expr} {scope : Scope} {k : Nat} {pn : List (Addr × Obj)} {xe : Value → Shared → Prop} {U : WX} {E : XK} {tb : TE} {p1 p2 : Pos}
    (I : Inv X pins σ H s) (L : LamX.LamS X.env.scope scope) (hf : s.heap.get? f = some (PySem.W.kla_obj "<lambda>" (X.env.qual ++ "<lambda>") params body scope (cloFrom X.env.cells scope.names []) pm c' ct)) (hfn : H f = none) (hfr : f ∉ frs X.stack)
    (hbind : bindArgs (PySem.W.kla_fn "<lambda>" (X.env.qual ++ "<lambda>") params body scope (cloFrom X.env.cells scope.names []) pm (.ref c') ct) ⟨[], []⟩ = pure [])
    (tk : L2N.Takes ((gotX X N q sg g cd s H).tr pn xe) U) (hU : ∀ cls d σ' H', E cls d H' → U cls d σ' H') (hr : Room (k + 1) (gotX X N q sg g cd s H).A)
    (hbody : ∀ (A : Around) (outer : List Env) (s : Shared) (H : Hp), Room k (A.deeper (LamX.lamEnv X scope s.heap.objs.size f c')) → PE (lamX X A outer s H E scope f c') body tb)
    (hN : N[0]? = some a) (hv : Vis sg a) (hd : dOk a = true) :
    PE ((gotX X N q sg g cd s H).tr pn xe) (.Call (.Name a p1) [] [] p2) (fun σ1 H1 Q => σ1[0]? = some (some (.ref f)) ∧ H1 c' = some (LamX.CodeO c' (X.env.qual ++ "<lambda>")) ∧ tb σ H1 Q) := by
  refine ⟨fun pinsZ sZ σZ HZ Q IZ ⟨hs, hc, ht⟩ => ?_⟩
  have rv := (pe_var (X := (gotX X N q sg g cd s H).tr pn xe) (pos := p1) (i := 0) hN hv (dOk1 hd) (dOk2 hd)).run pinsZ sZ σZ HZ (fun v H1 => v = .ref f ∧ H1 = HZ) IZ ⟨.ref f, hs, rfl, rfl⟩
  refine wpAny_Call_Name_kw (thn rv fun u s1 ⟨v, H1, I1, r1, ev, eH⟩ => ?_)
  subst ev
  subst eH
  obtain rfl : u = Value.ref f := r1
  have hf1 := I1.base.keep f _ hf hfn hfr (fun z => nomatch (show f ∈ ([] : List Addr) from z))
  refine PySem.W.callWith_F0 ⟨_, _, _, _, hf1⟩ ?_
  obtain ⟨⟨oc, vs, t, g1, g2, g3⟩, _, _⟩ := I1.hok c' _ hc
  have run : codeAny (model X.prog X.w) (gotX X N q sg g cd s H).A (.call (.ref f) ⟨[], []⟩) (CR (L2N.CX X.prog X.w) (gotX X N q sg g cd s H).stack X.prog X.w H1 s1 Q E) s1 := by
    refine PySem.W.kla_callFunE hr.depth hf1 rfl L.co L.gen rfl ⟨c', oc, vs, t, rfl, g1, g2, g3⟩ ?_
    rw [hbind]
    refine wpAny_pure (wpAny_newFunctionEnv (fun y hy => (L.own y hy).2) (fun y hy => absurd hy (by simp)) (fun h1 hns hsb => ⟨I1.nolimit.fresh _ hsb, ?_⟩) L.kind)
    have kp : ∀ b o, s1.heap.get? b = some o → h1.get? b = some o := fun b o e => hsb.extBut b o (Nat.ne_of_lt (Heap.lt_size e)) (Heap.get?_push_of_some _ e)
    have J0 := LamX.lam_start2 (E := fun _ _ _ => False) (f := f) (c' := c') (tk := s1.toks + ([] : List (Str × Value)).length) I L I1.env0 hr.hd I1.base hns kp
    have J := J0.toTry fun e s' => wpAny (model X.prog X.w) ((gotX X N q sg g cd s H).A.deeper (LamX.lamEnv X scope s1.heap.objs.size f c')) (leaving (LamX.lamEnv X scope s1.heap.objs.size f c') e) (fun _ s2 => L2N.CX X.prog X.w (gotX X N q sg g cd s H).stack H1 s1 E e s2) (fun e' s2 => L2N.CX X.prog X.w (gotX X N q sg g cd s H).stack H1 s1 E e' s2) s'
    refine PySem.W.kla_codeExpr (wpAny_mono ((hbody _ _ s1 H1 (hr.deeper _)).run [] _ σ H1 Q J ht) (fun v s' ⟨w', H', J', rr, qq⟩ => ?_) fun e s' hq => hq)
    exact ⟨w', H', J'.os, J'.bare, J'.base, J'.hok, rr, qq⟩
  refine wpAny_call (codeAny_mono run fun r s' hq => ?_)
  cases r with
  | error e => exact L2N.passes_call (X := (gotX X N q sg g cd s H).tr pn xe) tk hU pinsZ σZ H1 s1 e s' I1 hq
  | ok fl =>
    cases fl with
    | ret u => exact I1.after hq
    | next => exact hq.elim
    | brk => exact hq.elim
    | cont => exact hq.elim
end
variable {W : Wd} {Φ : Tbl} {par : Nat → Bool} {E0 : EX}
abbrev GF := Option Str → Option PV
def lamE (W : Wd) (gf : GF) (Q : VK) : XK := fun cls d H => ∃ c C y, W.mg c = some (.ref C) ∧ cls = .ref C ∧ d = none ∧ gf (some c) = some y ∧ ∀ v H', (∀ F, Rep W F y v) → Same H H' → Q v H'
def lamN (gf : GF) (W : Wd) (Q : VK) : VK := fun _ H => ∃ y, gf none = some y ∧ ∀ v H', (∀ F, Rep W F y v) → Same H H' → Q v H'
/-- what the def at g makes of the lambda's answer -/
def Gives (W : Wd) (X : Cx) (N : List Str) (x : Str) (sg : Scope) (g : Addr) (cd : Value) (bg : List Stmt) (a q : Str) (gf : GF) : Prop :=
  ∀ (f c' : Addr) (s : Shared) (H : Hp) (Q : VK) (tl : XK → Hp → VK → Prop),
    (∀ (U : WX) (pn : List (Addr × Obj)) (xe : Value → Shared → Prop) (E : XK) (p1 p2 : Pos), L2N.Takes ((gotX X N x sg g cd s H).tr pn xe) U → (∀ cls d σ' H', E cls d H' → U cls d σ' H') →
      PE ((gotX X N x sg g cd s H).tr pn xe) (.Call (.Name a p1) [] [] p2) (fun σ1 H1 Q => σ1[0]? = some (some (.ref f)) ∧ H1 c' = some (LamX.CodeO c' q) ∧ tl E H1 Q)) →
    H c' = some (LamX.CodeO c' q) → tl (lamE W gf Q) H (lamN gf W Q) →
    ∃ t, PSs (gotX X N x sg g cd s H) bg t ∧ t { nx := fun _ H' => Q .non H', rt := Q } (L2.start N [.ref f]) H
/-- a def that is handed a lambda, known where X runs -/
structure LamDef (W : Wd) (X : Cx) (x : Str) (gf : GF) : Prop where
  ex : ∃ (g : Addr) (fd : FuncData) (st : Stmt) (a : Str) (N : List Str), FunD X.K x x (defArgs st) (defBody st) (defScope st) [] [] g fd ∧ X.mg x = some (.ref g) ∧ Binds X.K fd [a] [] ∧ FnScope N [a] (defScope st) ∧ N[0]? = some a ∧ Vis (defScope st) a ∧ dOk a = true ∧
    ∀ cd, Gives W X N x (defScope st) g cd (defBody st) a (X.env.qual ++ "<lambda>") gf
/-- where X's code object keeps its tables -/
structure LamAt (W : Wd) (X : Cx) : Prop where
  ex : ∃ (c P : Addr), LamX.TabB X.base X.mg c P ∧ X.env.code = .ref c ∧ (P, X.env.qual ++ "<lambda>") ∈ W.T ∧ ∀ p ∈ W.T, p.1 = P → p.2 = X.env.qual ++ "<lambda>"
theorem ext_step {F H : Hp} {ρ : SE} {σ : L2.St} (en : EnvOk W F H ρ σ) {H1 : Hp} (e : LamX.ExtN H H1) (t : LamX.Tabs W.T H1) : Step W F H ρ σ F H1 ρ σ ∧ EnvOk W F H1 ρ σ := by
  refine ⟨⟨Same.refl F, fun a o h nt _ => e a o h nt, fun a h => fun o ho => ?_, fun a h k => absurd h k, fun a h => .inl h, fun _ => t⟩, fun a o h => e a o (en.le a o h) fun ps z => en.nt a ps (by rw [h, z]), en.nt, en.len, fun i sl hs => ?_, en.apart⟩
  · cases o with
    | tbl ps => exact ⟨ps, rfl⟩
    | _ => exact h _ (e a _ ho (by intro ps z; cases z))
  · obtain ⟨v, hv, q⟩ := en.at_ i sl hs
    refine ⟨v, hv, ?_⟩
    cases sl with
    | un => trivial
    | val x => exact q
    | own x =>
      obtain ⟨b, e1, e2, e3⟩ := q
      obtain ⟨u, hu, nt⟩ := e3.there
      refine ⟨b, e1, e2, ?_⟩
      rw [e b u hu nt]
      rw [hu] at e3
      exact e3
theorem same_step {F H : Hp} {ρ : SE} {σ : L2.St} (en : EnvOk W F H ρ σ) {H1 : Hp} (e : Same H H1) : Step W F H ρ σ F H1 ρ σ ∧ EnvOk W F H1 ρ σ := by
  refine ⟨⟨Same.refl F, fun a o h nt _ => e a o h, fun a h => fun o ho => h o (e a o ho), fun a h k => absurd h k, fun a h => .inl h, fun t => t.ext e⟩, fun a o h => e a o (en.le a o h), en.nt, en.len, fun i sl hs => ?_, en.apart⟩
  obtain ⟨v, hv, q⟩ := en.at_ i sl hs
  refine ⟨v, hv, ?_⟩
  cases sl with
  | un => trivial
  | val x => exact q
  | own x =>
    obtain ⟨b, e1, e2, e3⟩ := q
    obtain ⟨u, hu, nt⟩ := e3.there
    refine ⟨b, e1, e2, ?_⟩
    rw [e b u hu]
    rw [hu] at e3
    exact e3
/-- x(lambda: body) -/
theorem ev_lam {X : Cx} {x : Str} {gf : GF} {k : Nat} {params : Arguments} {body : Expr} {scope : Scope} {m : E} {p lpos pos : Pos} (hmg : X.mg = W.mg) (hΦ : Φ.lam x = some gf) (hg : Gl X x) (hx : dOk x = true) (D : LamDef W X x gf) (T : LamAt W X) (hr : Room (k + 2) X.A) (L : LamX.LamS X.env.scope scope) (hp : noArgs params = true)
    (hbody : ∀ (A : Around) (outer : List Env) (s : Shared) (H : Hp) (E : XK) (f c' : Addr), Room k (A.deeper (LamX.lamEnv X scope s.heap.objs.size f c')) → PE (lamX X A outer s H E scope f c') body (tE W Φ par (e0Of W E) m)) :
    PE X (.Call (.Name x p) [.Lambda params body scope lpos] [] pos) (tE W Φ par E0 (.lam x m)) := by
  obtain ⟨g, fd, st, a, N, Fn, hm, hb, Sg, hN, hv, ha, hG⟩ := D.ex
  obtain ⟨c, P, TB, hcode, hmT, hu⟩ := T.ex
  refine ⟨fun pins s σ H Q I ⟨F, ρ, Xs, Kp, en, tb, hw, hk, hx0⟩ => ?_⟩
  unfold wE at hw
  rw [hΦ] at hw
  refine wpAny_Call_Name_kw (ld_glob I hg hm ?_ (dOk1 hx))
  obtain ⟨oc, od, dV, kV, doc, pm, an, cdv, ct, osl, efd, lk, hcg, _, _⟩ := Fn.ex
  subst efd
  refine PySem.W.callWith_K (h₀ := X.base) I.ok.mod.kin Fn.kp ?_ (by rfl) (by rfl)
  show wpAny _ _ (spliced ((false, eval (.Lambda params body scope lpos) X.env) :: backTo pos (starEach [] X.env))) _ _ s
  have hdef : defaultsOf params X.env = ([], []) := by
    unfold noArgs at hp
    split at hp
    · rfl
    · cases hp
  have hbind : ∀ (q : Str) (cl : List (Str × Addr)) (pm cv ctv : Value), bindArgs (PySem.W.kla_fn "<lambda>" q params body scope cl pm cv ctv) ⟨[], []⟩ = pure [] := fun q cl pm cv ctv => by
    unfold noArgs at hp
    split at hp
    · rfl
    · cases hp
  refine Calls.spliced_cons (LamX.lam_make2 I TB hcode hmT hu tb hdef (L.has I.ok) fun f c' pm' ctv H1 s' I1 eN T1 hf hfn hfr hco => ?_)
  refine Calls.spliced_nil ⟨I1.kIn, ?_⟩
  obtain ⟨st1, en1⟩ := ext_step en eN T1
  have run : codeAny (model X.prog X.w) X.A (.call (.ref g) ⟨[.ref f], []⟩) (CR C8.CX0 X.stack X.prog X.w H1 s' Q C8.E0) s' := by
    refine LamX.run_ofS (N := N) (ps := [a]) (us := [.ref f]) (vs := [.ref f]) lk hcg Sg hr I1.env0 (hb s' [.ref f] I1.kIn rfl) (.cons rfl .nil) rfl fun hr' => ?_
    have hT : tE W Φ par (e0Of W (lamE W gf Q)) m σ H1 (lamN gf W Q) := by
      refine ⟨F, ρ, _, _, en1, T1, hw, fun ρ' r v F' H' hq s1 e1 _ _ => ?_, fun ρ' cc F' H' hq s1 e1 => ?_⟩
      · dsimp only at hq
        split at hq
        · rename_i y hy
          refine ⟨y, hy, fun v H2 hrep hs => ?_⟩
          obtain ⟨s2, e2⟩ := same_step e1 hs
          exact hk _ _ _ _ _ hq (st1.trans (s1.trans s2)) e2 (hrep F') trivial
        · exact hq.elim
      · intro C hC
        dsimp only at hq
        split at hq
        · rename_i y hy
          refine ⟨cc, C, y, hC, rfl, rfl, hy, fun v H2 hrep hs => ?_⟩
          obtain ⟨s2, e2⟩ := same_step e1 hs
          exact hk _ _ _ _ _ hq (st1.trans (s1.trans s2)) e2 (hrep F') trivial
        · exact hq.elim
    obtain ⟨t', ht', hq'⟩ := hG cdv f c' s' H1 Q (fun E H' Q' => tE W Φ par (e0Of W E) m σ H' Q') (fun U pn xe E p1 p2 tk hU => act_lam (k := k) I1 L hf hfn hfr (hbind _ _ _ _ _) tk hU hr' (fun A outer s H hr2 => hbody A outer s H E f c' hr2) hN hv ha) hco hT
    exact ⟨t', ht'.nox, hq'⟩
  refine wpAny_call (codeAny_mono run fun r s2 hq => ?_)
  cases r with
  | error e => exact (show False from hq).elim
  | ok fl =>
    cases fl with
    | ret u => exact I1.after hq
    | next => exact hq.elim
    | brk => exact hq.elim
    | cont => exact hq.elim
end Ev
/-! An except suite that names what it caught: pairs of a word and a sign, the words with good signs joined. -/
namespace Ev
open PySem PySem.Spec PyProof.Rows L2
abbrev St1 := L2.St
section
variable {X : Cx} {A : L2.St → Hp → Prop} {ps qs : List (Str × Bool)} {pos : Pos}
def HPt (K : PySem.W.Frag) (A : L2.St → Hp → Prop) (ps : List (Str × Bool)) : TE := fun σ H Q => A σ H ∧ ∀ l us H1, Same H H1 → H1 l = some (.lst us) → Prs K H1 us ps → Q (.ref l) H1
def HAt (K : PySem.W.Frag) (A : L2.St → Hp → Prop) (ps : List (Str × Bool)) : TA := fun σ H Q => A σ H ∧ ∀ us H1, Same H H1 → Prs K H1 us ps → Q us H1
def HOt (A : L2.St → Hp → Prop) (w : Str) (b : Bool) : TE := fun σ H Q => A σ H ∧ ∀ t, H t = none → Q (.ref t) (upd H t (.tup [.str w, .bl b]))
def HWt (K : PySem.W.Frag) (A : L2.St → Hp → Prop) (ps : List (Str × Bool)) : TE := fun σ H Q => A σ H ∧ ∀ l H1, Same H H1 → SqL K H1 l (yesOf ps) → Q (.ref l) H1
def HSt (A : L2.St → Hp → Prop) (w : Str) : TE := fun σ H Q => A σ H ∧ ∀ H1, Same H H1 → Q (.str w) H1
def Steady (A : L2.St → Hp → Prop) : Prop := ∀ σ H H1, A σ H → Same H H1 → A σ H1
theorem Prs.nil {K : PySem.W.Frag} {H : Hp} : Prs K H [] [] := ⟨rfl, fun i w b h => by simp at h⟩
theorem Prs.cons {K : PySem.W.Frag} {H : Hp} {us : List V} {ps : List (Str × Bool)} {t : Addr} {w : Str} {b : Bool} (h : SqT K H t [.str w, .bl b]) (r : Prs K H us ps) : Prs K H (.ref t :: us) ((w, b) :: ps) := by
  refine ⟨by simp [r.1], fun i w' b' e => ?_⟩
  cases i with
  | zero => simp at e; obtain ⟨rfl, rfl⟩ := e; exact ⟨t, rfl, h⟩
  | succ i => simpa using r.2 i w' b' (by simpa using e)
theorem Prs.app {K : PySem.W.Frag} {H : Hp} {us ws : List V} {ps qs : List (Str × Bool)} (r : Prs K H us ps) (q : Prs K H ws qs) : Prs K H (us ++ ws) (ps ++ qs) := by
  refine ⟨by simp [r.1, q.1], fun i w b e => ?_⟩
  by_cases h : i < ps.length
  · rw [List.getElem?_append_left h] at e
    obtain ⟨t, e1, e2⟩ := r.2 i w b e
    exact ⟨t, by rw [List.getElem?_append_left (by rw [r.1]; exact h)]; exact e1, e2⟩
  · rw [List.getElem?_append_right (by omega)] at e
    obtain ⟨t, e1, e2⟩ := q.2 _ w b e
    exact ⟨t, by rw [List.getElem?_append_right (by rw [r.1]; omega), r.1]; exact e1, e2⟩
theorem hp_var {i : Nat} {x : Str} (hN : X.N[i]? = some x) (hv : Vis X.env.scope x) (hd : dOk x = true) (hA : ∀ σ H, A σ H → ∃ l us, σ[i]? = some (some (.ref l)) ∧ H l = some (.lst us) ∧ Prs X.K H us ps) : PE X (.Name x pos) (HPt X.K A ps) :=
  PE.imp (pe_var hN hv (dOk1 hd) (dOk2 hd)) fun σ H Q ⟨a, k⟩ => by
    obtain ⟨l, us, e, q, r⟩ := hA σ H a
    exact ⟨_, e, k l us H (Same.refl H) q r⟩
/-- ('w', isinstance(e, C)) -/
theorem hp_pair {w e c : Str} {ie j k : Nat} {ad D C : Addr} {b : Bool} {p1 p2 p3 p4 p5 : Pos} (hc : CallR X (.builtin "isinstance") (rIsE X.K D ad)) (hi : gB X.env.scope "isinstance" = true) (mi : X.mg "isinstance" = none) (hN : X.N[ie]? = some e) (hv : Vis X.env.scope e) (hd : dOk e = true)
    (hgc : gB X.env.scope c = true) (hdc : dOk c = true) (hmc : X.mg c = some (.ref C)) (hk : PySem.W.kitOne X.K (.ref D) (.ref C) = some b) (hA : ∀ σ H, A σ H → σ[ie]? = some (some (.ref ad))) :
    PE X (.Tuple [.Constant (.str w) j p1, .Call (.Name "isinstance" p2) [.Name e p3, .Name c p4] [] p5] k pos) (HOt A w b) := by
  have g1 := pe_callB (X := X) (p := p2) (pos := p5) (r := rIsE X.K D ad) hc (gB_ok hi) mi rfl (pa_cons (pe_var (pos := p3) hN hv (dOk1 hd) (dOk2 hd)) (pa_cons (pe_glob (v := V.ref C) (pos := p4) (gB_ok hgc) hmc rfl (dOk1 hdc)) pa_nil))
  refine PE.imp (pe_tup (pa_cons pe_str (pa_cons g1 pa_nil))) fun σ H Q ⟨a, q⟩ => ?_
  refine ⟨_, hA σ H a, .ref C, .ref C, b, rfl, fun u r => r, hk, by show 2 ≤ sizeLine; decide, fun p hp => q p hp⟩
theorem hps_nil : PA X [] (HAt X.K A []) := PA.imp pa_nil fun σ H Q ⟨a, k⟩ => k [] H (Same.refl H) Prs.nil
theorem hps_cons {e : Expr} {es : List Expr} {w : Str} {b : Bool} (st : Steady A) (h : PE X e (HOt A w b)) (r : PA X es (HAt X.K A ps)) (hs : starEach (e :: es) X.env = (false, eval e X.env) :: starEach es X.env := by rfl) : PA X (e :: es) (HAt X.K A ((w, b) :: ps)) :=
  PA.imp (pa_cons h r hs) fun σ H Q ⟨a, k⟩ => ⟨a, fun t ht => ⟨st _ _ _ a (same_upd ht), fun us H1 e q => k _ _ ((same_upd ht).trans e) (q.cons (.of (e _ _ upd_same)))⟩⟩
theorem hp_lst {es : List Expr} (h : PA X es (HAt X.K A ps)) (hz : ps.length ≤ sizeLine) : PE X (.List es pos) (HPt X.K A ps) :=
  PE.imp (pe_lst h) fun σ H Q ⟨a, k⟩ => ⟨a, fun us H1 e q => ⟨by rw [q.1]; exact hz, fun p hp => k p us _ (e.trans (same_upd hp)) upd_same (q.mono (same_upd hp))⟩⟩
theorem hp_cat {a b : Expr} (st : Steady A) (h1 : PE X a (HPt X.K A ps)) (h2 : PE X b (HPt X.K A qs)) (hz : ps.length + qs.length ≤ sizeLine) : PE X (.BinOp a .Add b pos) (HPt X.K A (ps ++ qs)) :=
  PE.imp (pe_op op_cat h1 h2) fun σ H Q ⟨a, k⟩ => ⟨a, fun l us H1 e q r => ⟨st _ _ _ a e, fun l2 us2 H2 e2 q2 r2 => ⟨l, l2, us, us2, rfl, rfl, e2 _ _ q, q2, by rw [r.1, r2.1]; exact hz, fun p hp => k p _ _ ((e.trans e2).trans (same_upd hp)) upd_same (((r.mono e2).app r2).mono (same_upd hp))⟩⟩⟩
/-- [w for w, b in .. if b] -/
theorem hp_comp {iter : Expr} {scope : Scope} {own : List (Str × Nat)} {wn bn : Str} {i j k : Nat} {p1 p2 p3 p4 p5 : Pos} (hc : L2H.HotC X) (hN : X.N.Nodup) (he : PE X iter (HPt X.K A ps)) (ok : blkC X.N X.env.scope scope own = true)
    (hi : X.N[i]? = some wn) (hj : X.N[j]? = some bn) (hij : i ≠ j) (io : i ∈ own.map (·.2)) (jo : j ∈ own.map (·.2)) (lw : locB (relS scope X.env.scope) wn = true) (lb : locB (relS scope X.env.scope) bn = true)
    (dw : dOk wn = true) (db : dOk bn = true) (hs : ∀ x, foldedSetIterable iter X.env x = pure x) :
    PE X (.ListComp (.Name wn p1) [⟨.Tuple [.Name wn p2, .Name bn p3] k p4, iter, [.Name bn p5], 0⟩] scope pos) (HWt X.K A ps) :=
  PE.imp (lc_hot hc hN he (blkOk_by ok) hi hj hij io jo (locB_ok lw) (locB_ok lb) dw db hs) fun σ H Q ⟨a, k⟩ =>
    ⟨a, fun l us H1 e q r => ⟨l, us, ps, rfl, .of q, r, fun D hD => k D _ (e.trans (same_upd hD)) (.of upd_same)⟩⟩
def wordsOf (ps : List (Str × Bool)) : List Str := ps.filterMap fun p => if p.2 = true then some p.1 else none
theorem yes_words (ps : List (Str × Bool)) : yesOf ps = (wordsOf ps).map V.str := by
  unfold yesOf wordsOf
  induction ps with
  | nil => rfl
  | cons p ps ih =>
    simp only [List.filterMap_cons]
    split <;> split <;> simp_all
theorem hp_join {e : Expr} {sep : Str} {j : Nat} {p1 apos : Pos} (st : Steady A) (he : PE X e (HWt X.K A ps)) (hz : ((wordsOf ps).map (·.length)).sum + (wordsOf ps).length * sep.length ≤ 16777216) (hline : (apos.endLine == pos.line) = true) (hst : starEach [e] X.env = [(false, eval e X.env)] := by rfl) :
    PE X (.Call (.Attribute (.Constant (.str sep) j p1) "join" apos) [e] [] pos) (HSt A (Txt.join sep (wordsOf ps))) :=
  PE.imp (pe_join pe_str he hst rfl hline) fun σ H Q ⟨a, k⟩ =>
    ⟨⟨sep, rfl⟩, a, fun l H1 e q => ⟨sep, l, wordsOf ps, rfl, rfl, .inl (by rw [← yes_words]; exact q), hz, k H1 e⟩⟩
end
end Ev
/-! try: a() / except M as e: .. return w / return w0 -/
namespace Ev
open PySem PySem.Spec PyProof.Rows L2
theorem PE.mono {X : Cx} {e : Expr} {t : TE} (h : PE X e t) : PE X e (fun σ H Q => ∃ Q', (∀ v H', Q' v H' → Q v H') ∧ t σ H Q') :=
  ⟨fun pins s σ H Q I ⟨Q', m, q⟩ => wpAny_mono (h.run pins s σ H Q' I q) (fun u s' ⟨v, H1, J, r, z⟩ => ⟨v, H1, J, r, m v H1 z⟩) fun _ _ z => z⟩
theorem nobody {X : Cx} : L2N.Takes X (fun _ _ _ _ => False) := fun _ _ x => by
  obtain ⟨_, _, _, _, _, _, _, _, _, _, _, _, _, _, _, _, z⟩ := x
  exact z.elim
/-- what the suite does with a caught error of class c -/
def SuiteOf (W : Wd) (X : Cx) (N : List Str) (x : Str) (sg : Scope) (g : Addr) (cd : Value) (i : Nat) (CM : Addr) (ss : List Stmt) (c : Str) (w : Str) : Prop :=
  ∀ C, W.mg c = some (.ref C) → PySem.W.exmOne X.K (.ref C) (.ref CM) = some true ∧ ∀ (s : Shared) (H : Hp) (ad : Addr) (oe : Obj) (pn : List (Addr × Obj)), L2N.Zn (.ref C) none oe → (∃ vs, oe.data = .fields vs) →
    PSs ((gotX X N x sg g cd s H).suite ad ((ad, oe) :: pn)) ss (fun D σ H => σ[i]? = some (some (.ref ad)) ∧ ∀ H1, Same H H1 → D.rt (.str w) H1)
theorem try_gives {W : Wd} {X : Cx} {N : List Str} {x : Str} {sg : Scope} {g CM : Addr} {cd : Value} {a q e M w0 : Str} {gf : GF} {i j : Nat} {b0 : Stmt} {suite : List Stmt} {p1 p2 p3 p4 p5 p6 p7 p8 : Pos}
    (hM : gB sg M = true) (hdM : dOk M = true) (mM : X.mg M = some (.ref CM)) (hNd : N.Nodup) (hi : N[i]? = some e) (hl : locB sg e = true) (hlen : 0 < N.length) (h0 : gf none = some (.str w0))
    (hg : ∀ c y, gf (some c) = some y → ∃ w, y = .str w ∧ SuiteOf W X N x sg g cd i CM (b0 :: suite) c w) :
    Gives W X N x sg g cd [.Try [.Expr (.Call (.Name a p1) [] [] p2) p3] [.ExceptHandler (some (.Name M p4)) (some e) (b0 :: suite) p5] [] [] p6, .Return (some (.Constant (.str w0) j p7)) p8] a q gf := by
  intro f c' s H Q tl act hc ht
  have gM : Gl (gotX X N x sg g cd s H) M := gB_ok (X := gotX X N x sg g cd s H) hM
  have mk := fun h1 h2 => L2N.ps_try_as (X := gotX X N x sg g cd s H) (x := M) (n := e) (c := .ref CM) (i := i) (body := [.Expr (.Call (.Name a p1) [] [] p2) p3]) (suite := suite) (b₀ := b0) (np := p4) (pos := p6) (pos' := p5)
    (tb := fun U D σ H => ∃ E Q', (∀ cls d σ' H', E cls d H' → U cls d σ' H') ∧ (∀ v H', Q' v H' → D.nx σ H') ∧ σ[0]? = some (some (.ref f)) ∧ H c' = some (LamX.CodeO c' q) ∧ tl E H Q')
    (ts := fun ad cls d D σ H => ∃ (c : Str) (C : Addr) (w : Str) (σ0 : L2.St), W.mg c = some (.ref C) ∧ cls = .ref C ∧ d = none ∧ gf (some c) = some (.str w) ∧ σ = σ0.set i (some (.ref ad)) ∧ ∀ H1, Same H H1 → D.rt (.str w) H1)
    rfl rfl hNd hi (locB_ok hl) ⟨gM, dOk1 hdM, .inl mM⟩ nobody h1 h2
  refine (fun try1 => ?main) (mk (fun U pn xe tk _ => ?_) (fun ad oe cls d pn hz hd => ?_))
  · refine ⟨_, pss_cons try1 (pss_one (ps_ret pe_str)), ?_⟩
    refine ⟨lamE W gf Q, lamN gf W Q, fun cls d σ' H' ⟨c, C, y, hm, e1, e2, hy, hq⟩ => ?_, fun v H' ⟨y, hy, hq⟩ => ?_, ?_, hc, ht⟩
    · obtain ⟨w, ew, hs⟩ := hg c y hy
      subst ew e1 e2
      refine ⟨true, (hs C hm).1, fun _ ad _ => ⟨c, C, w, σ', hm, rfl, rfl, hy, rfl, fun H1 e => hq _ H1 (fun F => rfl) e⟩, fun z => by cases z⟩
    · rw [h0] at hy
      cases hy
      exact hq (V.str w0) H' (fun F => rfl) (Same.refl H')
    · unfold L2.start
      rfl
  · refine ⟨fun pins s' σ H' D I ⟨E, Q', hU, hQ', h1, h2, h3⟩ => ?_⟩
    have hp := PE.mono (act U pn xe E p1 p2 tk hU)
    exact (pss_one (ps_expr (pos := p3) hp)).run pins s' σ H' D I ⟨Q', hQ', h1, h2, h3⟩
  · refine ⟨fun pins s' σ H' D I ⟨c, C, w, σ0, hm, e1, e2, hy, eσ, hr⟩ => ?_⟩
    subst e1 e2
    obtain ⟨w', ew, hs⟩ := hg c _ hy
    cases ew
    have hl : i < σ0.length := by
      have h1 := I.len
      rw [eσ, List.length_set] at h1
      have h1 : σ0.length = N.length := h1
      rw [h1]
      exact (List.getElem?_eq_some_iff.mp hi).1
    exact ((hs C hm).2 s H ad oe pn hz hd).run pins s' σ H' D I ⟨by rw [eσ, List.getElem?_set_self hl], hr⟩
theorem hot_suite {X : Cx} {ad : Addr} {oe : Obj} {pn : List (Addr × Obj)} {cls : Value} {d : Option Addr} (hz : L2N.Zn cls d oe) (hd : ∃ vs, oe.data = .fields vs) : L2H.HotC (X.suite ad ((ad, oe) :: pn)) := by
  obtain ⟨vs, e⟩ := hd
  exact ⟨(ad, oe), ⟨rfl, vs, e, hz.2.2 vs e⟩, List.mem_cons_self⟩
end Ev
namespace Ev
open PySem PySem.Spec PyProof.Rows L2
variable {W : Wd} {Φ : Tbl} {par : Nat → Bool} {E0 : EX} {C : CI} {N : List Str}

def freeNames : List Str := ["len", "abs", "int", "list", "tuple", "bool", "str", "isinstance", "range", "zip"]
/-- a def that is called, at a level of at most k -/
structure FnAt (W : Wd) (P : Program) (w : World) (K : PySem.W.Frag) (mg : Str → Option Value) (base : Heap) (k : Nat) (f : Str) (S : FnS) : Prop where
  ex : ∃ (j : Nat) (a : Addr) (fd : FuncData) (ps : List Str), j ≤ k ∧ FnOk P w K mg base (L2N.CX P w) j a fd ps (spOf W S) ∧ W.mg f = some (.ref a) ∧ PySem.W.keepIn K (.ref a) = true ∧ Binds K fd ps []
/-- what a body gives that hands lambdas on -/
structure LamOk (W : Wd) (Φ : Tbl) (C : CI) (X : Cx) : Prop where
  ex : ∃ k, Room (k + 2) X.A ∧ LamAt W X ∧ (∀ x, C.lams.contains x = true → ∃ gf, Φ.lam x = some gf ∧ LamDef W X x gf) ∧ ∀ f S, Φ.fn f = some S → FnAt W X.prog X.w X.K X.mg X.base k f S
/-- what a body's context gives -/
structure Good (W : Wd) (Φ : Tbl) (C : CI) (E0 : EX) (X : Cx) : Prop where
  hK : X.K = W.K
  hmg : X.mg = W.mg
  nd : X.N.Nodup
  calm : X.calm = true
  hu : X.A.units + 65 < cLine
  own : PassesOwn (model X.prog X.w) X.A X.env X.xe
  fn : ∀ f, C.fs.contains f = true → ∃ S, Φ.fn f = some S
  fnS : ∀ f S, Φ.fn f = some S → Callee X W f S E0
  con : ∀ x, C.cons.contains x = true → ∃ v u w, Φ.con x = some v ∧ X.mg x = some w ∧ RelV u w ∧ ∀ F, Rep W F v u
  blt : ∀ x, x ∈ freeNames → X.mg x = none
  gcd : C.gcd = true → X.mg "gcd" = some (.builtin "math.gcd")
  lam : C.lamIn X.env.scope = true → LamOk W Φ C X
theorem passN {X : Cx} : Passes (L2N.CX X.prog X.w) X (xk W NoE) := fun pins σ H s e s' I h => by
  obtain ⟨a, B, H', cls, d, _, _, _, _, _, _, _, c, Cc, _, _, _, z⟩ := h
  exact z.elim
theorem Good.blk {X : Cx} (g : Good W Φ C E0 X) (s : Shared) (H : Hp) (scope : Scope) (Cc : Addr) (cl : List (Str × Addr)) (fp : List Addr) (hl : C.lamIn (relS scope X.env.scope) = false) : Good W Φ C NoE (X.blk s H scope (compEnvC scope cl Cc X.env) fp) :=
  ⟨g.hK, g.hmg, g.nd, g.calm, g.hu, PassesOwn.never, g.fn, fun f S h => by
    obtain ⟨k, a, fd, ps, G, hr, hm, kp, hb, hpass⟩ := (g.fnS f S h).ex
    exact ⟨k, a, fd, ps, G, hr, hm, kp, hb, passN⟩, g.con, g.blt, g.gcd, fun z => by
    have z' : C.lamIn (relS scope X.env.scope) = true := z
    rw [hl] at z'
    cases z'⟩
theorem passE {X : Cx} {W : Wd} {E : XK} (tk : L2N.Takes X (fun cls d _ H => E cls d H)) : Passes (L2N.CX X.prog X.w) X (xk W (e0Of W E)) :=
  L2N.passes_call tk fun cls d σ H h => xk_e0 h
/-- within a lambda's body -/
theorem Good.lamBody {X : Cx} (g : Good W Φ C E0 X) {k : Nat} (hk : ∀ f S, Φ.fn f = some S → FnAt W X.prog X.w X.K X.mg X.base k f S) (A : Around) (outer : List Env) (s : Shared) (H : Hp) (E : XK) (lsc : Scope) (f c' : Addr) (hr : Room k (A.deeper (LamX.lamEnv X lsc s.heap.objs.size f c')))
    (hl : C.lamIn lsc = false) : Good W Φ C (e0Of W E) (lamX X A outer s H E lsc f c') := by
  refine { hK := g.hK, hmg := g.hmg, nd := g.nd, calm := rfl, hu := ?_, own := @lamX_own X A outer s H E lsc f c', fn := g.fn, fnS := fun h S hS => ?_, con := g.con, blt := g.blt, gcd := g.gcd, lam := fun z => ?_ }
  · have h1 := hr.un
    have h2 : (A.deeper (LamX.lamEnv X lsc s.heap.objs.size f c')).units + 65 < cLine := by omega
    exact h2
  · obtain ⟨j, a, fd, ps, hj, G, hm, kp, hb⟩ := (hk h S hS).ex
    exact ⟨j, a, fd, ps, G, hr.mono hj, hm, kp, hb, passE lamX_takes⟩
  · have z' : C.lamIn lsc = true := z
    rw [hl] at z'
    cases z'

theorem cE_plain {n : Nat} {sc : Scope} {e : Expr} {m : E} (h : cE C N n sc e = some m) : plainE e = true := by
  cases n with
  | zero => simp [cE] at h
  | succ n => cases e <;> first | rfl | (simp [cE] at h)
theorem star_ok {env : Env} {e : Expr} {es : List Expr} (h : plainE e = true) : starEach (e :: es) env = (false, eval e env) :: starEach es env := by
  cases e <;> first | rfl | cases h
theorem star1 {env : Env} {e : Expr} (h : plainE e = true) : starEach [e] env = [(false, eval e env)] := by rw [star_ok h]; rfl
theorem star2 {env : Env} {e e2 : Expr} (h : plainE e = true) (h2 : plainE e2 = true) : starEach [e, e2] env = [(false, eval e env), (false, eval e2 env)] := by rw [star_ok h, star1 h2]
theorem back_any {pos : Pos} (l : List (Bool × Sem Value)) : (backTo pos l).any (·.1) = l.any (·.1) := by
  unfold backTo
  induction l with
  | nil => rfl
  | cons x xs ih => simp only [List.map_cons, List.any_cons, ih]
theorem cEs_star {env : Env} : ∀ {n : Nat} {sc : Scope} {es : List Expr} {m : E}, cEs C N n sc es = some m → (starEach es env).any (·.1) = false
  | 0, _, _, _, h => by simp [cEs] at h
  | n + 1, _, [], _, _ => rfl
  | n + 1, sc, e :: es, m, h => by
    simp only [cEs] at h
    split at h
    · rename_i m1 m2 h1 h2
      rw [star_ok (cE_plain h1)]
      simp [cEs_star h2]
    · cases h
theorem plainIx {b : Expr} (h : plainE b = true) : PlainIx b := by
  intro o i
  cases b <;> first | rfl | cases h
theorem isTrue_ok {e : Expr} {env : Env} (h1 : ∀ a p, e ≠ .UnaryOp .Not a p) (h2 : ∀ op vs p, e ≠ .BoolOp op vs p) (h3 : ∀ a b c p, e ≠ .IfExp a b c p) (h4 : ∀ a b c p, e ≠ .Compare a b c p) :
    ∀ whole, isTrue e env whole = (do let v ← whole; standAt e.pos; holding [v] (truthy v)) := by
  intro whole
  cases e with
  | UnaryOp op a p => cases op <;> first | rfl | exact absurd rfl (h1 a p)
  | BoolOp op vs p => exact absurd rfl (h2 op vs p)
  | IfExp a b c p => exact absurd rfl (h3 a b c p)
  | Compare a b c p => exact absurd rfl (h4 a b c p)
  | _ => rfl

/-- tests of comparisons -/
theorem et_cmp {X : Cx} {a b : Expr} {ma mb : E} {op : CmpOp} {pos : Pos} (g : Good W Φ C E0 X) (ha : PE X a (tE W Φ par E0 ma)) (hb : PE X b (tE W Φ par E0 mb)) (hm : behindInMarks op b = false) : PT X (.Compare a [op] [b] pos) (tT W Φ par E0 (.tv (.cmp op ma mb))) := by
  refine et_val_imp (PT.imp (pt_cmpR (opr_cmp g.hK g.hu op) ha hb hm) fun σ H Q h => ?_)
  obtain ⟨F, ρ, Xs, Kp, en, tb, hw, hk, hx⟩ := h
  unfold wE at hw
  refine go en tb hw hx fun ρ1 r1 v1 F1 H1 h1 s1 e1 t1 rv1 n1 x1 => ?_
  refine go e1 t1 h1 x1 fun ρ2 r2 v2 F2 H2 h2 s2 e2 t2 rv2 n2 x2 => ?_
  obtain ⟨x, hx', _, q⟩ := rdK_ok e2 (rv1.stay s2) h2
  obtain ⟨y, hy', _, q⟩ := rdK_ok e2 rv2 q
  refine ⟨F2, x, y, onBl fun k => Kp ρ2 (.val (.bl k)), e2.le, e2.nt, hx', hy', q, fun r v F' H' hq hr => ?_⟩
  obtain ⟨k, er, hq2⟩ := onBl_ok hq
  subst er
  exact fin (s1.trans s2) e2 hk hq2 hr
theorem et_cmp2 {X : Cx} {a b c : Expr} {ma mb mc : E} {op op' : CmpOp} {pos : Pos} (g : Good W Φ C E0 X) (ha : PE X a (tE W Φ par E0 ma)) (hb : PE X b (tE W Φ par E0 mb)) (hc : PE X c (tE W Φ par E0 mc)) (hm : lastMarks [op, op'] [b, c] = false) :
    PT X (.Compare a [op, op'] [b, c] pos) (tT W Φ par E0 (.tv (.cmp2 op op' ma mb mc))) :=
  et_val_imp (PT.imp (pt_chain (opr_cmp g.hK g.hu op) (opr_cmp g.hK g.hu op') ha hb hc hm) fun σ H Q h => cmp2_imp h)
end Ev
namespace Ev
open PySem PySem.Spec PyProof.Rows L2
variable {W : Wd} {Φ : Tbl} {par : Nat → Bool} {C : CI} {N : List Str}

/-- targets -/
theorem cG_ok {X : Cx} (hK : X.K = W.K) (nd : X.N.Nodup) (calm : X.calm = true) (hN : X.N = N) {cl : Bool} (hcl : cl = true → ∀ x, X.fn x = true) :
    ∀ n, (∀ (e : Expr) (g : Tg), cG n N X.env.scope cl e = some g → PG X e (tG W par g)) ∧
      (∀ (es : List Expr) (g : Tg), cGs n N X.env.scope cl es = some g → PGs X es (tGs W par g) ∧ (assignEach es X.env).length = g.n ∧ (assignEach es X.env).findIdx? (·.1) = none ∧ ∀ e r, es = e :: r → (assignEach es X.env).map (·.2) = assign e X.env :: (assignEach r X.env).map (·.2))
  | 0 => ⟨fun e g h => by simp [cG] at h, fun es g h => by simp [cGs] at h⟩
  | n + 1 => by
    obtain ⟨ih1, ih2⟩ := cG_ok hK nd calm hN hcl n
    refine ⟨fun e g h => ?_, fun es g h => ?_⟩
    · cases e <;> simp only [cG] at h <;> try cases h
      · -- Name
        rename_i x p
        split at h
        · rename_i hc
          obtain ⟨i, hi, e⟩ := Option.map_eq_some_iff.mp h
          subst e
          have hx : X.N[i]? = some x := by rw [hN]; exact ixOf_ok hi
          rcases Bool.or_eq_true_iff.mp hc with z | z
          · exact eg_nam nd hx (.inl (locB_ok z)) (.inr (locB_ok z))
          · have z' := Bool.and_eq_true_iff.mp z
            exact eg_nam nd hx (.inr (celB_ok z'.2)) (.inl (hcl z'.1 x))
        · cases h
      · rename_i es k p
        obtain ⟨gs, hg, e⟩ := Option.map_eq_some_iff.mp h
        subst e
        obtain ⟨q1, q2, q3, _⟩ := ih2 es gs hg
        exact eg_tup hK calm q1 q2 q3
    · cases es with
      | nil =>
        simp only [cGs] at h
        cases h
        exact ⟨egs_nil, rfl, rfl, fun e r z => by cases z⟩
      | cons e es =>
        simp only [cGs] at h
        split at h
        · rename_i g1 g2 h1 h2
          cases h
          obtain ⟨q1, q2, q3, q4⟩ := ih2 es g2 h2
          have pe : ∀ a p, e ≠ .Starred a p := fun a p z => by
            subst z
            cases n <;> simp [cG] at h1
          have ae : assignEach (e :: es) X.env = (false, assign e X.env) :: assignEach es X.env := by
            cases e <;> first | rfl | exact absurd rfl (pe _ _)
          refine ⟨egs_cons (ih1 e g1 h1) q1 (by rw [ae]; rfl), by rw [ae]; simp [Tg.n, q2], ?_, fun e' r z => by cases z; rw [ae]; rfl⟩
          rw [ae, List.findIdx?_cons]
          simp [q3]
        · cases h

structure OkX' (W : Wd) (Φ : Tbl) (par : Nat → Bool) (C : CI) (N : List Str) (n : Nat) (X : Cx) (E0 : EX) : Prop where
  e : ∀ (e : Expr) (m : E), cE C N n X.env.scope e = some m → PE X e (tE W Φ par E0 m)
  o : ∀ (e : Option Expr) (m : E), cO C N n X.env.scope e = some m → PO X e (tO W Φ par E0 m)
  es : ∀ (es : List Expr) (m : E), cEs C N n X.env.scope es = some m → PA X es (tEs W Φ par E0 m) ∧ PA X es (tAs W Φ par E0 m)
  t : ∀ (e : Expr) (m : E), cT C N n X.env.scope e = some m → PT X e (tT W Φ par E0 m)
  w : ∀ (op : BoolOp) (vs : List Expr) (p : Pos) (m : E), cT C N n X.env.scope (.BoolOp op vs p) = some m → PW X (.BoolOp op vs p) (tT W Φ par E0 m)
  c : ∀ (es : List Expr) (m : E), cC C N n X.env.scope es = some m → PTs X es (tT W Φ par E0 m)
  i : ∀ (tg it : Expr) (m : E), cI C N n X.env.scope tg it = some m → PI X tg it (tI W Φ par E0 m)
def Ok (W : Wd) (Φ : Tbl) (par : Nat → Bool) (C : CI) (N : List Str) (n : Nat) : Prop := ∀ (X : Cx) (E0 : EX), Good W Φ C E0 X → X.N = N → OkX' W Φ par C N n X E0
theorem opt_map {α β : Type} {o : Option α} {f : α → β} {b : β} (h : o.map f = some b) : ∃ a, o = some a ∧ f a = b := Option.map_eq_some_iff.mp h
section
variable {n : Nat}
theorem ok_O (ih : Ok W Φ par C N n) {X : Cx} {E0 : EX} (g : Good W Φ C E0 X) (hN : X.N = N) (e : Option Expr) (m : E) (h : cO C N (n + 1) X.env.scope e = some m) : PO X e (tO W Φ par E0 m) := by
  cases e with
  | none => simp only [cO] at h; cases h; exact eo_none
  | some e =>
    simp only [cO] at h
    obtain ⟨a, h1, e1⟩ := opt_map h
    subst e1
    exact eo_some ((ih X E0 g hN).e e a h1)
theorem ok_Es (ih : Ok W Φ par C N n) {X : Cx} {E0 : EX} (g : Good W Φ C E0 X) (hN : X.N = N) (es : List Expr) (m : E) (h : cEs C N (n + 1) X.env.scope es = some m) : PA X es (tEs W Φ par E0 m) ∧ PA X es (tAs W Φ par E0 m) := by
  cases es with
  | nil => simp only [cEs] at h; cases h; exact ⟨eas_nil, ear_nil⟩
  | cons e es =>
    simp only [cEs] at h
    split at h
    · rename_i m1 m2 h1 h2
      cases h
      have q1 := (ih X E0 g hN).e e m1 h1
      obtain ⟨q2, q3⟩ := (ih X E0 g hN).es es m2 h2
      exact ⟨eas_cons q1 q2 (star_ok (cE_plain h1)), ear_cons q1 q3 (star_ok (cE_plain h1))⟩
    · cases h
theorem ok_C (ih : Ok W Φ par C N n) {X : Cx} {E0 : EX} (g : Good W Φ C E0 X) (hN : X.N = N) (es : List Expr) (m : E) (h : cC C N (n + 1) X.env.scope es = some m) : PTs X es (tT W Φ par E0 m) := by
  cases es with
  | nil => simp only [cC] at h; cases h; exact ets_nil
  | cons e es =>
    cases es with
    | nil => simp only [cC] at h; exact pts_one ((ih X E0 g hN).t e m h)
    | cons => simp [cC] at h
theorem ok_W (ih : Ok W Φ par C N n) {X : Cx} {E0 : EX} (g : Good W Φ C E0 X) (hN : X.N = N) (op : BoolOp) (vs : List Expr) (p : Pos) (m : E) (h : cT C N (n + 1) X.env.scope (.BoolOp op vs p) = some m) : PW X (.BoolOp op vs p) (tT W Φ par E0 m) := by
  have I := ih X E0 g hN
  simp only [cT] at h
  cases vs with
  | nil => cases h
  | cons a r =>
    cases r with
    | nil =>
      dsimp only at h
      cases op with
      | And => exact pw_and1 (I.t a m h)
      | Or => exact pw_or1 (I.t a m h)
    | cons b r =>
      dsimp only at h
      split at h
      · rename_i x y h1 h2
        cases h
        exact ew_and (I.t a x h1) (I.w _ _ _ y h2)
      · rename_i x y h1 h2
        cases h
        exact ew_or (I.t a x h1) (I.w _ _ _ y h2)
      · cases h
theorem ok_T (ih : ∀ k, k ≤ n → Ok W Φ par C N k) {X : Cx} {E0 : EX} (g : Good W Φ C E0 X) (hN : X.N = N) (e : Expr) (m : E) (h : cT C N (n + 1) X.env.scope e = some m) : PT X e (tT W Φ par E0 m) := by
  have I := ih n (Nat.le_refl _) X E0 g hN
  have gen : ∀ (e : Expr) (m : E), (cE C N n X.env.scope e).map E.tv = some m → (∀ a p, e ≠ .UnaryOp .Not a p) → (∀ op vs p, e ≠ .BoolOp op vs p) → (∀ a b c p, e ≠ .IfExp a b c p) → (∀ a b c p, e ≠ .Compare a b c p) → PT X e (tT W Φ par E0 m) := fun e m h h1 h2 h3 h4 => by
    obtain ⟨a, q, e1⟩ := opt_map h
    subst e1
    exact et_val_imp (pt_val (I.e e a q) (isTrue_ok h1 h2 h3 h4))
  cases e with
  | UnaryOp op a p =>
    simp only [cT] at h
    cases op with
    | Not =>
      obtain ⟨x, q, e1⟩ := opt_map h
      subst e1
      exact et_not (I.t a x q)
    | _ => exact gen _ _ h (fun _ _ z => by cases z) (fun _ _ _ z => by cases z) (fun _ _ _ _ z => by cases z) (fun _ _ _ _ z => by cases z)
  | BoolOp op vs p => exact (ok_W (ih n (Nat.le_refl _)) g hN op vs p m h).pt
  | IfExp a b c p => simp [cT] at h
  | Compare a ops bs p =>
    simp only [cT] at h
    obtain ⟨x, q, e1⟩ := opt_map h
    subst e1
    cases n with
    | zero => simp [cE] at q
    | succ k =>
      have J := ih k (Nat.le_succ k) X E0 g hN
      simp only [cE] at q
      split at q
      · split at q
        · rename_i hm
          split at q
          · rename_i h1 h2
            cases q
            exact et_cmp g (J.e _ _ h1) (J.e _ _ h2) hm
          · cases q
        · cases q
      · split at q
        · rename_i hm
          split at q
          · rename_i h1 h2 h3
            cases q
            exact et_cmp2 g (J.e _ _ h1) (J.e _ _ h2) (J.e _ _ h3) hm
          · cases q
        · cases q
      · cases q
  | _ =>
    simp only [cT] at h
    exact gen _ _ h (fun _ _ z => by cases z) (fun _ _ _ z => by cases z) (fun _ _ _ _ z => by cases z) (fun _ _ _ _ z => by cases z)
theorem ok_I (ih : Ok W Φ par C N n) {X : Cx} {E0 : EX} (g : Good W Φ C E0 X) (hN : X.N = N) (tg it : Expr) (m : E) (h : cI C N (n + 1) X.env.scope tg it = some m) : PI X tg it (tI W Φ par E0 m) := by
  have I := ih X E0 g hN
  have gen : ∀ (e : Expr) (m : E), (cE C N n X.env.scope e).map E.it = some m → PI X tg e (tI W Φ par E0 m) := fun e m h => by
    obtain ⟨a, q, e1⟩ := opt_map h
    subst e1
    exact ei_it (I.e e a q)
  simp only [cI] at h
  split at h
  · rename_i x p args kws pos
    split at h
    · rename_i ex
      subst ex
      split at h
      · rename_i hg
        split at h
        · rename_i b
          obtain ⟨a, q, e1⟩ := opt_map h
          subst e1
          exact ei_rng1 (gB_ok hg) (g.blt _ (by decide)) (I.e _ _ q) (star1 (cE_plain q)) (star_ok (cE_plain q))
        · split at h
          · rename_i h1 h2
            cases h
            exact ei_rng2 (gB_ok hg) (g.blt _ (by decide)) (I.e _ _ h1) (I.e _ _ h2) (star2 (cE_plain h1) (cE_plain h2)) (star1 (cE_plain h2)) (star_ok (cE_plain h1)) (star_ok (cE_plain h2))
          · cases h
        · cases h
      · cases h
    · split at h
      · rename_i ex
        subst ex
        split at h
        · rename_i hg
          split at h
          · rename_i ht
            cases tg with
            | Tuple elts kk tpos =>
              split at h
              · split at h
                · rename_i h1 h2
                  cases h
                  exact ei_zip (gB_ok hg) (g.blt _ (by decide)) (I.e _ _ h1) (I.e _ _ h2) (star_ok (cE_plain h1)) (star_ok (cE_plain h2)) (by rw [back_any, star1 (cE_plain h2)]; rfl)
                · cases h
              · cases h
            | _ => cases ht
          · cases h
        · cases h
      · exact gen _ _ h
  · exact gen _ _ h
end
end Ev
namespace Ev
open PySem PySem.Spec PyProof.Rows L2
variable {W : Wd} {Φ : Tbl} {par : Nat → Bool} {C : CI} {N : List Str}

theorem noSet {it : Expr} {env : Env} (h : isSetE it = false) : ∀ x, foldedSetIterable it env x = pure x := fun x => by
  cases it <;> first | rfl | cases h
theorem ty_ok {t : Str} {T : String} (h : tyNames.lookup t = some T) : bootBuiltins t = some (.type T) ∧ t ∈ freeNames := by
  unfold tyNames at h
  by_cases h1 : t = "int"
  · subst h1; cases h; exact ⟨by decide +kernel, by decide +kernel⟩
  by_cases h2 : t = "bool"
  · subst h2; cases h; exact ⟨by decide +kernel, by decide +kernel⟩
  by_cases h3 : t = "str"
  · subst h3; cases h; exact ⟨by decide +kernel, by decide +kernel⟩
  by_cases h4 : t = "tuple"
  · subst h4; cases h; exact ⟨by decide +kernel, by decide +kernel⟩
  by_cases h5 : t = "list"
  · subst h5; cases h; exact ⟨by decide +kernel, by decide +kernel⟩
  rw [List.lookup_cons, List.lookup_cons, List.lookup_cons, List.lookup_cons, List.lookup_cons, beq_eq_false_iff_ne.mpr h1, beq_eq_false_iff_ne.mpr h2, beq_eq_false_iff_ne.mpr h3, beq_eq_false_iff_ne.mpr h4, beq_eq_false_iff_ne.mpr h5] at h
  cases h
theorem blt_ok {x : Str} {v : Value} (h : bltNames.lookup x = some v) : x = "len" ∨ x = "abs" ∨ x = "int" ∨ x = "list" ∨ x = "tuple" := by
  unfold bltNames at h
  by_cases h1 : x = "len"
  · exact .inl h1
  by_cases h2 : x = "abs"
  · exact .inr (.inl h2)
  by_cases h3 : x = "int"
  · exact .inr (.inr (.inl h3))
  by_cases h4 : x = "list"
  · exact .inr (.inr (.inr (.inl h4)))
  by_cases h5 : x = "tuple"
  · exact .inr (.inr (.inr (.inr h5)))
  rw [List.lookup_cons, List.lookup_cons, List.lookup_cons, List.lookup_cons, List.lookup_cons, beq_eq_false_iff_ne.mpr h1, beq_eq_false_iff_ne.mpr h2, beq_eq_false_iff_ne.mpr h3, beq_eq_false_iff_ne.mpr h4, beq_eq_false_iff_ne.mpr h5] at h
  cases h
theorem cEs_cons {n : Nat} {sc : Scope} {e : Expr} {es : List Expr} {m : E} (h : cEs C N n sc (e :: es) = some m) : plainE e = true ∧ (∀ env, (starEach es env).any (·.1) = false) := by
  cases n with
  | zero => simp [cEs] at h
  | succ n =>
    simp only [cEs] at h
    split at h
    · rename_i h1 h2
      exact ⟨cE_plain h1, fun env => cEs_star h2⟩
    · cases h
section
variable {n : Nat}
theorem ok_E (ih : ∀ k, k ≤ n → Ok W Φ par C N k) {X : Cx} {E0 : EX} (g : Good W Φ C E0 X) (hN : X.N = N) (e : Expr) (m : E) (h : cE C N (n + 1) X.env.scope e = some m) : PE X e (tE W Φ par E0 m) := by
  have I := ih n (Nat.le_refl _) X E0 g hN
  cases e with
  | Constant c k p =>
    simp only [cE] at h
    split at h <;> cases h
    · exact ev_const (x := .non) pe_non (fun _ _ _ hw => by unfold wE at hw; exact hw) fun _ => rfl
    · exact ev_const (x := .bl _) pe_bl (fun _ _ _ hw => by unfold wE at hw; exact hw) fun _ => rfl
    · exact ev_const (x := .int _) pe_int (fun _ _ _ hw => by unfold wE at hw; exact hw) fun _ => rfl
    · exact ev_const (x := .str _) pe_str (fun _ _ _ hw => by unfold wE at hw; exact hw) fun _ => rfl
  | Name x p =>
    simp only [cE] at h
    split at h
    · rename_i hd
      split at h
      · rename_i hv
        obtain ⟨i, hi, e1⟩ := opt_map h
        subst e1
        exact ev_var (by rw [hN]; exact ixOf_ok hi) (visB_ok hv) (dOk1 hd) (dOk2 hd)
      · split at h
        · rename_i hc
          cases h
          obtain ⟨v, u, w, c1, c2, c3, c4⟩ := g.con x hc.2
          exact ev_const (x := v) (pe_glob (gB_ok hc.1) c2 c3 (dOk1 hd)) (fun _ _ _ hw => by unfold wE at hw; rw [c1] at hw; exact hw) c4
        · cases h
    · cases h
  | BinOp a op b p =>
    simp only [cE] at h
    split at h
    · rename_i h1 h2
      cases h
      exact ev_bin (I.e _ _ h1) (I.e _ _ h2)
    · cases h
  | UnaryOp op a p =>
    simp only [cE] at h
    split at h
    · rename_i h1
      cases h
      exact ev_neg (I.e _ _ h1)
    · rename_i h1
      cases h
      exact ev_not (I.e _ _ h1)
    · cases h
  | BoolOp op vs p =>
    simp only [cE] at h
    cases vs with
    | nil => cases h
    | cons a r =>
      cases r with
      | nil => exact pe_one (I.e a m h)
      | cons b r =>
        dsimp only at h
        split at h
        · rename_i h1 h2
          cases h
          exact ev_and (I.e _ _ h1) (I.e _ _ h2)
        · rename_i h1 h2
          cases h
          exact ev_or (I.e _ _ h1) (I.e _ _ h2)
        · cases h
  | Compare a ops bs p =>
    simp only [cE] at h
    split at h
    · split at h
      · rename_i hm
        split at h
        · rename_i h1 h2
          cases h
          exact ev_cmp g.hK g.hu (I.e _ _ h1) (I.e _ _ h2) hm
        · cases h
      · cases h
    · split at h
      · rename_i hm
        split at h
        · rename_i h1 h2 h3
          cases h
          exact ev_cmp2 g.hK g.hu (I.e _ _ h1) (I.e _ _ h2) (I.e _ _ h3) hm
        · cases h
      · cases h
    · cases h
  | IfExp c a b p =>
    simp only [cE] at h
    split at h
    · rename_i h1 h2 h3
      cases h
      exact ev_ite (I.t _ _ h1) (I.e _ _ h2) (I.e _ _ h3)
    · cases h
  | Tuple es k p =>
    simp only [cE] at h
    obtain ⟨ms, h1, e1⟩ := opt_map h
    subst e1
    exact ev_tup (I.es _ _ h1).1
  | List es p =>
    simp only [cE] at h
    obtain ⟨ms, h1, e1⟩ := opt_map h
    subst e1
    exact ev_lst (I.es _ _ h1).1
  | Subscript a i p =>
    simp only [cE] at h
    split at h
    · split at h
      · split at h
        · rename_i h1 h2 h3
          cases h
          exact ev_sl (I.e _ _ h1) (I.o _ _ h2) (I.o _ _ h3)
        · cases h
      · split at h
        · obtain ⟨x, h1, e1⟩ := opt_map h
          subst e1
          exact ev_rev (I.e _ _ h1)
        · cases h
      · cases h
    · split at h
      · rename_i h1 h2
        cases h
        exact ev_ix g.hK (I.e _ _ h1) (I.e _ _ h2) (plainIx (cE_plain h2))
      · cases h
  | Call f args kws cpos =>
    simp only [cE] at h
    split at h
    · cases h
    · split at h
      · rename_i x p
        split at h
        · rename_i hd
          split at h
          · -- a local name that holds a def
            rename_i hv
            split at h
            · cases h
            · rename_i a r
              split at h
              · rename_i i ms hi hms
                cases h
                obtain ⟨pa, ps⟩ := cEs_cons hms
                exact ev_cvr g.hmg g.fnS (by rw [hN]; exact ixOf_ok hi) (visB_ok hv) (dOk1 hd) (dOk2 hd) (I.es _ _ hms).2 (star_ok pa) (by rw [back_any]; exact ps _)
              · cases h
          · split at h
            · rename_i hg
              split at h
              · -- x(lambda: ..)
                rename_i hlx
                split at h
                · rename_i params body lsc lpos
                  split at h
                  · rename_i hc
                    obtain ⟨mm, h1, e1⟩ := opt_map h
                    subst e1
                    obtain ⟨c1, c2, c3, c4⟩ := hc
                    obtain ⟨k, hr, at_, hdef, hfn⟩ := (g.lam c1).ex
                    obtain ⟨gf, hgf, D⟩ := hdef x hlx
                    refine ev_lam g.hmg hgf (gB_ok hg) hd D at_ hr (LamX.lamS_by c4) c3 fun A outer s H E f c' hr2 => ?_
                    exact (ih n (Nat.le_refl _) _ _ (g.lamBody hfn A outer s H E lsc f c' hr2 c2) hN).e body mm h1
                  · cases h
                · cases h
              split at h
              · rename_i hf
                obtain ⟨ms, hms, e1⟩ := opt_map h
                subst e1
                obtain ⟨S, hS⟩ := g.fn x hf
                cases args with
                | nil =>
                  have : ms = .nil := by
                    cases n with
                    | zero => simp [cEs] at hms
                    | succ n => simp only [cEs] at hms; cases hms; rfl
                  subst this
                  exact ev_call0 g.hmg hS (g.fnS x S hS) (gB_ok hg) (dOk1 hd)
                | cons a r =>
                  obtain ⟨pa, ps⟩ := cEs_cons hms
                  exact ev_call g.hmg hS (g.fnS x S hS) (gB_ok hg) (dOk1 hd) (I.es _ _ hms).2 (star_ok pa) (by rw [back_any]; exact ps _)
              · split at h
                · rename_i ex
                  subst ex
                  split at h
                  · rename_i a t p2
                    split at h
                    · rename_i mm T h1 h2
                      split at h
                      · rename_i hc
                        cases h
                        obtain ⟨b1, b2⟩ := ty_ok h2
                        exact ev_isi (gB_ok hg) (g.blt _ (by decide)) (gB_ok hc.1) (g.blt t b2) b1 (dOk3 hc.2) (dOk1 hc.2) (I.e _ _ h1) (star_ok (cE_plain h1))
                      · cases h
                    · cases h
                  · cases h
                · split at h
                  · rename_i ex
                    subst ex
                    split at h
                    · rename_i a r hgc
                      obtain ⟨ms, hms, e1⟩ := opt_map h
                      subst e1
                      obtain ⟨pa, ps⟩ := cEs_cons hms
                      exact ev_blt_of (pe_callBfun cr_gcdP (gB_ok hg) (g.gcd hgc) (I.es _ _ hms).2 (dOk1 hd) (star_ok pa) (by rw [back_any]; exact ps _))
                    · cases h
                  · split at h
                    · rename_i v a r hb
                      obtain ⟨ms, hms, e1⟩ := opt_map h
                      subst e1
                      obtain ⟨pa, ps⟩ := cEs_cons hms
                      have pl : (backTo cpos (starEach r X.env)).any (·.1) = false := by rw [back_any]; exact ps _
                      have ha := (I.es _ _ hms).2
                      rcases blt_ok hb with e | e | e | e | e <;> subst e
                      · exact ev_blt_of (pe_callB (cr_len g.hK) (gB_ok hg) (g.blt _ (by decide)) (by decide +kernel) ha (by decide) (by decide) (star_ok pa) pl)
                      · exact ev_blt_of (pe_callB cr_abs (gB_ok hg) (g.blt _ (by decide)) (by decide +kernel) ha (by decide) (by decide) (star_ok pa) pl)
                      · exact ev_blt_of (pe_callTy cr_int (gB_ok hg) (g.blt _ (by decide)) (by decide +kernel) ha (by decide) (by decide) (star_ok pa) pl)
                      · exact ev_blt_of (pe_callTy (cr_list g.hK) (gB_ok hg) (g.blt _ (by decide)) (by decide +kernel) ha (by decide) (by decide) (star_ok pa) pl)
                      · exact ev_blt_of (pe_callTy cr_tuple (gB_ok hg) (g.blt _ (by decide)) (by decide +kernel) ha (by decide) (by decide) (star_ok pa) pl)
                    · cases h
            · cases h
        · cases h
      · rename_i x p at_ apos
        split at h
        · rename_i hc
          split at h
          · cases h
          · rename_i i hi
            have hx := ixOf_ok hi
            rw [← hN] at hx
            have hvis := visB_ok hc.2.2
            have pvx : ∀ pos, PE X (.Name x pos) (tVar i) := fun pos => pe_var hx hvis (dOk1 hc.2.1) (dOk2 hc.2.1)
            split at h
            · rename_i ea
              subst ea
              split at h
              · rename_i a
                obtain ⟨mm, h1, e1⟩ := opt_map h
                subst e1
                have pa := cE_plain h1
                exact ev_app_imp (pe_bm PySem.F.plainAttrs_list PySem.F.slot_list_append PySem.F.type_list_append mt_append (pvx _) (pa_cons (I.e _ _ h1) pa_nil (star_ok pa)) rfl (by rw [star_ok pa]; rfl) hc.1 (star_ok pa) rfl)
              · cases h
            · split at h
              · rename_i ea
                subst ea
                split at h
                · cases h
                  exact ev_pop0_imp (pe_bm0 PySem.F.plainAttrs_list PySem.F.slot_list_pop PySem.F.type_list_pop mt_pop (pvx _) rfl hc.1)
                · rename_i a
                  obtain ⟨mm, h1, e1⟩ := opt_map h
                  subst e1
                  have pa := cE_plain h1
                  exact ev_pop_imp (pe_bm PySem.F.plainAttrs_list PySem.F.slot_list_pop PySem.F.type_list_pop mt_popAt (pvx _) (pa_cons (I.e _ _ h1) pa_nil (star_ok pa)) rfl (by rw [star_ok pa]; rfl) hc.1 (star_ok pa) rfl)
                · cases h
              · cases h
        · cases h
      · cases h
  | ListComp elt gens scope p =>
    simp only [cE] at h
    split at h
    · rename_i tg it ifs
      split at h
      · rename_i hs
        split at h
        · rename_i hb
          split at h
          · rename_i mi gg mc me h1 h2 h3 h4
            split at h
            · rename_i hsl
              cases h
              have ok := blkOk_by hb.1
              refine PE.imp (pe_lc (g := tG W par gg) (tt := tT W Φ par NoE mc) (te := tE W Φ par NoE me) g.calm g.nd (I.i tg it mi h1) (by rw [hN]; exact ok) (fun s H Cc cl fp => ?_) (fun s H Cc cl fp => ?_) (fun s H Cc cl fp => ?_) (noSet hs)) fun σ H Q hh => lc_imp (fun i hi => ?_) hh
              · have gb := g.blk s H scope Cc cl fp hb.2
                exact (cG_ok gb.hK gb.nd gb.calm hN (cl := false) (fun z => by cases z) n).1 tg gg h2
              · exact (ih n (Nat.le_refl _) _ NoE (g.blk s H scope Cc cl fp hb.2) hN).c ifs mc h3
              · exact (ih n (Nat.le_refl _) _ NoE (g.blk s H scope Cc cl fp hb.2) hN).e elt me h4
              · have := List.all_eq_true.mp hsl i hi
                simpa using this
            · cases h
          · cases h
        · cases h
      · cases h
    · cases h
  | _ => simp [cE] at h
end
end Ev
namespace Ev
open PySem PySem.Spec PyProof.Rows L2
variable {W : Wd} {Φ : Tbl} {par : Nat → Bool} {C : CI} {N : List Str} {E0 : EX}

def starE : Expr → Bool
  | .Starred .. => true
  | _ => false
/-- which names an assignment of a written tuple stores from the right -/
def swB (isLoc : Str → Bool) (ts vs : List Expr) : Option (Option (List Str)) :=
  if (!(ts.length == 2 || ts.length == 3) || vs.length != ts.length) = true then some none
  else if (vs.any fun | .Starred .. => true | _ => false) = true then some none
  else
    let line := (ts.head?.map (·.pos.line)).getD 0
    let names := ts.filterMap fun
      | .Name id pos => if (isLoc id && pos.line == line) = true then some id else none
      | _ => none
    if (names.length != ts.length || names.eraseDups.length != names.length) = true then some none
    else if vs.all (foldedForSure 8) = true then some none
    else if vs.all (constantsAlone 8) = true then none
    else some (some names)
theorem swB_ok {env : Env} {ts vs : List Expr} {k k2 : Nat} {p p2 : Pos} {r : Option (List Str)} (hk : env.scope.kind = .function) (h : swB (fun x => env.scope.names.lookup x == some .local) ts vs = some r) :
    swappedStores [.Tuple ts k p] (.Tuple vs k2 p2) env = pure r := by
  have hb : env.blockKind = .function := by unfold Env.blockKind; rw [hk]; rfl
  have hn : (env.blockKind != ScopeKind.function) = false := by rw [hb]; rfl
  unfold swB at h
  unfold swappedStores
  simp only [hn, Bool.or_false]
  split at h
  · rename_i h1
    cases h
    rw [if_pos h1]
  · rename_i h1
    rw [if_neg h1]
    split at h
    · rename_i h2
      cases h
      split
      · rfl
      · rename_i h3
        exact absurd h2 h3
    · rename_i h2
      split
      · rename_i h3
        exact absurd h3 h2
      · dsimp only at h
        split at h
        · rename_i h3
          cases h
          split
          · rfl
          · rename_i h4
            exact absurd h3 h4
        · rename_i h3
          split
          · rename_i h4
            exact absurd h4 h3
          · split at h
            · rename_i h5
              cases h
              rw [if_pos h5]
            · rename_i h5
              rw [if_neg h5]
              split at h
              · cases h
              · rename_i h6
                cases h
                rw [if_neg h6]
                rfl
/-- a comprehension's parts -/
theorem lc_parts {n : Nat} {sc : Scope} {elt : Expr} {gens : List Comprehension} {scope : Scope} {p : Pos} {m : E} (h : cE C N (n + 1) sc (.ListComp elt gens scope p) = some m) :
    ∃ (tg it : Expr) (ifs : List Expr) (own : List (Str × Nat)) (mi mc me : E) (gg : Tg), gens = [⟨tg, it, ifs, 0⟩] ∧ isSetE it = false ∧ (blkC N sc scope own = true ∧ C.lamIn (relS scope sc) = false) ∧ cI C N n sc tg it = some mi ∧ cG n N (relS scope sc) false tg = some gg ∧
      cC C N n (relS scope sc) ifs = some mc ∧ cE C N n (relS scope sc) elt = some me ∧ m = .lc me gg mi mc (own.map (·.2)) ∧ ∀ i ∈ gg.sl, i ∈ own.map (·.2) := by
  simp only [cE] at h
  split at h
  · rename_i tg it ifs
    split at h
    · rename_i hs
      split at h
      · rename_i hb
        split at h
        · rename_i mi gg mc me h1 h2 h3 h4
          split at h
          · rename_i hsl
            cases h
            exact ⟨tg, it, ifs, _, mi, mc, me, gg, rfl, hs, hb, h1, h2, h3, h4, rfl, fun i hi => by simpa using List.all_eq_true.mp hsl i hi⟩
          · cases h
        · cases h
      · cases h
    · cases h
  · cases h
theorem sw_lc {elt : Expr} {gs : List Comprehension} {scope : Scope} {pos py : Pos} {y : Str} {l : Nat} {env : Env} :
    swapsWith (.ListComp elt gs scope pos) (some (.Name y py)) l env = pure (env.blockKind == .function && env.kindOf y == some .local && py.line == pos.line && !(scope.names.any fun (n, k) => n == y && (k == .local || k == .cell))) := rfl
def compE : Expr → Bool
  | .ListComp .. => true
  | .SetComp .. => true
  | .DictComp .. => true
  | _ => false
theorem sw_no {e : Expr} {t : Option Expr} {l : Nat} {env : Env} (h : compE e = false) : swapsWith e t l env = pure false := by
  cases e <;> first | rfl | cases h
end Ev
namespace Ev
open PySem PySem.Spec PyProof.Rows L2
variable {W : Wd} {Φ : Tbl} {par : Nat → Bool} {C : CI} {N : List Str} {E0 : EX}

section
variable (C : CI) (N : List Str)
def slotC (sc : Scope) (x : Str) : Option Nat := if (locB sc x || celB sc x) = true then ixOf N x else none
def cAsg (n : Nat) (sc : Scope) (t e : Expr) : Option S :=
  match t with
  | .Name x _ => (match slotC N sc x, cE C N (n + 1) sc e with
    | some i, some m => (match e with
      | .ListComp _ _ _ _ => some (.set i m)
      | _ => some (.set i m))
    | _, _ => none)
  | .Tuple ts _ _ => if compE e = true then none else (match e with
    | .Tuple vs _ _ => (match swB (fun x => sc.names.lookup x == some .local) ts vs with
      | none => none
      | some none => (match cG n N sc true t, cE C N (n + 1) sc e with
        | some g, some m => some (.tup g m)
        | _, _ => none)
      | some (some _) => (match ts, vs with
        | [.Name x _, .Name y _], [a, b] => if locB sc x = true ∧ locB sc y = true ∧ swB (fun x => sc.names.lookup x == some .local) ts vs = some (some [x, y]) then (match ixOf N x, ixOf N y, cE C N (n + 1) sc a, cE C N (n + 1) sc b with
          | some i, some j, some ma, some mb => if i ≠ j then some (.par i j ma mb) else none
          | _, _, _, _ => none) else none
        | _, _ => none))
    | _ => (match cG n N sc true t, cE C N (n + 1) sc e with
      | some g, some m => some (.tup g m)
      | _, _ => none))
  | .Subscript (.Name x _) k _ => if compE e = true ∨ dOk x = false ∨ visB sc x = false then none else (match ixOf N x, cE C N (n + 1) sc k, cE C N (n + 1) sc e with
    | some i, some mk, some m => some (.seti i mk m)
    | _, _, _ => none)
  | _ => none
mutual
def cS : Nat → Scope → Stmt → Option S
  | 0, _, _ => none
  | n + 1, sc, st => match st with
    | .Assign ts e _ => (match ts with
      | [t] => cAsg C N n sc t e
      | _ => none)
    | .Expr e _ => (match e with
      | .Constant (.str _) _ _ => some .nil
      | e => if compE e = true then none else (cE C N n sc e).map .expr)
    | .Return e _ => (match e with
      | some e => (cE C N n sc e).map .ret
      | none => none)
    | .If c a b _ => (match cT C N n sc c, cSs n sc a, cSs n sc b with
      | some m, some x, some y => some (.if_ m x y)
      | _, _, _ => none)
    | .For tg it b [] _ => if isSetE it = true then none else (match cI C N n sc tg it, cG n N sc true tg, cSs n sc b with
      | some mi, some g, some x => some (.for_ g mi x)
      | _, _, _ => none)
    | .While c b [] _ => (match cT C N n sc c, cSs n sc b with
      | some m, some x => some (.while_ m x)
      | _, _ => none)
    | .Raise (some (.Call (.Name x _) [.Constant (.str _) _ _] [] _)) none _ => if C.excs.contains x = true ∧ gB sc x = true ∧ dOk x = true then some (.raise x) else none
    | .Pass _ => some .nil
    | .Break _ => some .brk
    | .Continue _ => some .cnt
    | _ => none
def cSs : Nat → Scope → List Stmt → Option S
  | 0, _, _ => none
  | _ + 1, _, [] => some .nil
  | n + 1, sc, s :: ss => match cS n sc s, cSs n sc ss with
    | some x, some y => some (.cons x y)
    | _, _ => none
end
end

theorem ok_all : ∀ n, ∀ k, k ≤ n → Ok W Φ par C N k
  | 0, k, hk => fun X E0 g hN => by
    cases Nat.le_zero.mp hk
    exact ⟨fun e m h => by simp [cE] at h, fun e m h => by simp [cO] at h, fun e m h => by simp [cEs] at h, fun e m h => by simp [cT] at h, fun op vs p m h => by simp [cT] at h, fun es m h => by simp [cC] at h, fun t i m h => by simp [cI] at h⟩
  | n + 1, k, hk => by
    by_cases e : k ≤ n
    · exact ok_all n k e
    · have : k = n + 1 := by omega
      subst this
      have ih := ok_all n
      intro X E0 g hN
      exact ⟨ok_E ih g hN, ok_O (ih n (Nat.le_refl _)) g hN, ok_Es (ih n (Nat.le_refl _)) g hN, ok_T ih g hN, ok_W (ih n (Nat.le_refl _)) g hN, ok_C (ih n (Nat.le_refl _)) g hN, ok_I (ih n (Nat.le_refl _)) g hN⟩
/-- what a def's body gives besides -/
structure GoodS (W : Wd) (Φ : Tbl) (C : CI) (E0 : EX) (X : Cx) : Prop extends Good W Φ C E0 X where
  fnx : ∀ x, X.fn x = true
  kind : X.env.scope.kind = .function
  takes : L2N.Takes X (fun cls d _ H => xk W E0 cls d H)
  exc : ∀ c, C.excs.contains c = true → ∃ Ca, W.mg c = some (.ref Ca) ∧ PySem.W.excIn X.K Ca [.type "ValueError", .type "Exception", .type "BaseException", .type "object"] "ValueError.__new__" = true ∧ PySem.W.keepIn X.K (.ref Ca) = true ∧ Raises X (.ref Ca)
theorem slotC_ok {sc : Scope} {x : Str} {i : Nat} (h : slotC N sc x = some i) : (sc.names.lookup x = some .local ∨ sc.names.lookup x = some .cell) ∧ N[i]? = some x := by
  unfold slotC at h
  split at h
  · rename_i hc
    refine ⟨?_, ixOf_ok h⟩
    rcases Bool.or_eq_true_iff.mp hc with z | z
    · exact .inl (locB_ok z)
    · exact .inr (celB_ok z)
  · cases h
theorem sw_sole {e t : Expr} {l : Nat} {env : Env} (h : compE e = false) : swapsWithSole [t] e l env = pure false := by
  show swapsWith e (some t) l env = pure false
  exact sw_no h
section
variable {n : Nat} {X : Cx}
theorem cAsg_ok (g : GoodS W Φ C E0 X) (hN : X.N = N) {t e : Expr} {pos : Pos} {m : S} (h : cAsg C N n X.env.scope t e = some m) : PS X (.Assign [t] e pos) (tS W Φ par E0 m) := by
  have J := ok_all (W := W) (Φ := Φ) (par := par) (C := C) (N := N) (n + 1) (n + 1) (Nat.le_refl _) X E0 g.toGood hN
  have GT := (cG_ok (par := par) g.hK g.nd g.calm hN (cl := true) (fun _ => g.fnx) n).1
  unfold cAsg at h
  split at h
  · -- a name
    rename_i x px
    split at h
    · rename_i i mm hi hm
      obtain ⟨hx, hix⟩ := slotC_ok hi
      rw [← hN] at hix
      have hm' : m = .set i mm := by split at h <;> (cases h; rfl)
      subst hm'
      by_cases hc : ∃ elt gs scope p, e = .ListComp elt gs scope p
      · obtain ⟨elt, gs, scope, p, rfl⟩ := hc
        by_cases hs : (X.env.blockKind == .function && X.env.kindOf x == some .local && px.line == p.line && !(scope.names.any fun (n, k) => n == x && (k == .local || k == .cell))) = true
        · obtain ⟨tg, it, ifs, own, mi, mc, me, gg, rfl, h1, h2, h3, h4, h5, h6, rfl, h8⟩ := lc_parts hm
          have I := ok_all (W := W) (Φ := Φ) (par := par) (C := C) (N := N) n n (Nat.le_refl _)
          have hloc : X.env.scope.names.lookup x = some .local := by
            simp only [Bool.and_eq_true, beq_iff_eq] at hs
            exact hs.1.1.2
          refine es_setLc_imp (ps_setLc (g := tG W par gg) (tt := tT W Φ par NoE mc) (te := tE W Φ par NoE me) g.calm g.nd hix hloc (by rw [sw_lc, hs]) ((I X E0 g.toGood hN).i tg it mi h3) (by rw [hN]; exact blkOk_by h2.1) (fun s H Cc cl fp => ?_) (fun s H Cc cl fp => ?_) (fun s H Cc cl fp => ?_) (noSet h1)) fun σ H Q hh => lc_imp h8 hh
          · have gb := g.toGood.blk s H scope Cc cl fp h2.2
            exact (cG_ok gb.hK gb.nd gb.calm hN (cl := false) (fun z => by cases z) n).1 tg gg h4
          · exact (I _ NoE (g.toGood.blk s H scope Cc cl fp h2.2) hN).c ifs mc h5
          · exact (I _ NoE (g.toGood.blk s H scope Cc cl fp h2.2) hN).e elt me h6
        · refine es_set g.nd hix hx (.inl (g.fnx x)) (J.e _ _ hm) ?_
          rw [sw_lc, Bool.eq_false_iff.mpr hs]
      · refine es_set g.nd hix hx (.inl (g.fnx x)) (J.e _ _ hm) (sw_no ?_)
        cases e <;> first | rfl | exact absurd ⟨_, _, _, _, rfl⟩ hc | (simp [cE] at hm)
    · cases h
  · -- a tuple of targets
    rename_i ts k p
    split at h
    · cases h
    · rename_i hc
      have hc' : compE e = false := Bool.eq_false_iff.mpr hc
      split at h
      · rename_i vs k2 p2
        split at h
        · cases h
        · rename_i hsw
          split at h
          · rename_i g' mm h1 h2
            cases h
            exact es_tup (J.e _ _ h2) (GT _ _ h1) (sw_sole hc') (swB_ok g.kind hsw) rfl
          · cases h
        · rename_i ns hsw
          split at h
          · rename_i x px y py a b
            split at h
            · rename_i hl
              split at h
              · rename_i i j ma mb hi hj ha hb
                split at h
                · rename_i hij
                  cases h
                  have pa := cE_plain ha
                  have pb := cE_plain hb
                  have hi' := ixOf_ok hi
                  have hj' := ixOf_ok hj
                  rw [← hN] at hi' hj'
                  exact es_par (ps_par g.calm g.nd hi' hj' hij (locB_ok hl.1) (locB_ok hl.2.1) (pa_cons (J.e _ _ ha) (pa_cons (J.e _ _ hb) pa_nil (star_ok pb)) (star_ok pa)) (swB_ok g.kind hl.2.2) rfl) (fun _ _ _ z => z) hij
                · cases h
              · cases h
            · cases h
          · cases h
      · rename_i hnt
        split at h
        · rename_i g' mm h1 h2
          cases h
          refine es_tup (J.e _ _ h2) (GT _ _ h1) (sw_sole hc') ?_ rfl
          cases e <;> first | rfl | exact absurd rfl (hnt _ _ _)
        · cases h
  · -- an item
    rename_i x px k p
    split at h
    · cases h
    · rename_i hc
      have hc1 : compE e = false := Bool.eq_false_iff.mpr fun z => hc (.inl z)
      have hc2 : dOk x = true := by
        cases z : dOk x with
        | true => rfl
        | false => exact absurd (.inr (.inl z)) hc
      have hc3 : visB X.env.scope x = true := by
        cases z : visB X.env.scope x with
        | true => rfl
        | false => exact absurd (.inr (.inr z)) hc
      split at h
      · rename_i i mk mm hi hk hm
        cases h
        have hi' := ixOf_ok hi
        rw [← hN] at hi'
        have pk := cE_plain hk
        refine es_seti (t := gSub (tVar i) (tE W Φ par E0 mk) rSetL) (tg := .Subscript (.Name x px) k p) (ek := k) (ps_asg (J.e _ _ hm) (pg_sub (pe_var hi' (visB_ok hc3) (dOk1 hc2) (dOk2 hc2)) (J.e _ _ hk) set_list ?_) ?_ ?_ rfl)
        · intro v
          cases k <;> first | rfl | cases pk
        · exact sw_sole hc1
        · rfl
      · cases h
  · cases h
theorem cS_ok (g : GoodS W Φ C E0 X) (hN : X.N = N) : ∀ n, (∀ st m, cS C N n X.env.scope st = some m → PS X st (tS W Φ par E0 m)) ∧ (∀ sts m, cSs C N n X.env.scope sts = some m → PSs X sts (tS W Φ par E0 m))
  | 0 => ⟨fun st m h => by simp [cS] at h, fun st m h => by simp [cSs] at h⟩
  | n + 1 => by
    obtain ⟨ih1, ih2⟩ := cS_ok g hN n
    have J := ok_all (W := W) (Φ := Φ) (par := par) (C := C) (N := N) n n (Nat.le_refl _) X E0 g.toGood hN
    have GT := (cG_ok (par := par) g.hK g.nd g.calm hN (cl := true) (fun _ => g.fnx) n).1
    refine ⟨fun st m h => ?_, fun sts m h => ?_⟩
    · simp only [cS] at h
      split at h
      · split at h
        · exact cAsg_ok g hN h
        · cases h
      · split at h
        · cases h
          exact PS.imp ps_doc fun D σ H ⟨F, ρ, Xs, O, en, tb, hw, hD⟩ => by
            unfold wS at hw
            exact hD.nx _ _ _ _ hw .refl en .refl
        · split at h
          · cases h
          · rename_i hc
            obtain ⟨a, q, e1⟩ := opt_map h
            subst e1
            exact es_expr (J.e _ _ q) (sw_no (Bool.eq_false_iff.mpr hc))
      · split at h
        · obtain ⟨a, q, e1⟩ := opt_map h
          subst e1
          exact es_ret (J.e _ _ q)
        · cases h
      · split at h
        · rename_i h1 h2 h3
          cases h
          exact es_if (J.t _ _ h1) (ih2 _ _ h2) (ih2 _ _ h3)
        · cases h
      · split at h
        · cases h
        · rename_i hs
          split at h
          · rename_i h1 h2 h3
            cases h
            exact es_for g.own g.calm (J.i _ _ _ h1) (GT _ _ h2) (ih2 _ _ h3) (noSet (Bool.eq_false_iff.mpr hs))
          · cases h
      · split at h
        · rename_i h1 h2
          cases h
          exact es_while g.own (J.t _ _ h1) (ih2 _ _ h2)
        · cases h
      · split at h
        · rename_i hc
          cases h
          obtain ⟨Ca, c1, c2, c3, c4⟩ := g.exc _ hc.1
          refine es_raise c1 (L2N.ps_raise g.calm g.takes (L2N.pmk_own PySem.F.excBase_ValueError c2 (by rw [g.hmg]; exact c1) c3 c4 (gB_ok hc.2.1) (dOk1 hc.2.2)))
        · cases h
      · cases h; exact es_pass
      · cases h; exact es_brk
      · cases h; exact es_cnt
      · cases h
    · cases sts with
      | nil => simp only [cSs] at h; cases h; exact es_nil
      | cons s ss =>
        simp only [cSs] at h
        split at h
        · rename_i h1 h2
          cases h
          exact es_cons (ih1 _ _ h1) (ih2 _ _ h2)
        · cases h
end
end Ev
namespace Ev
open PySem PySem.Spec PyProof.Rows L2
variable {Φ : Tbl} {C : CI}

/-- a def that stands behind the top and keeps its promise -/
structure Kept (P : Program) (w : World) (W : Wd) (base : Heap) (k : Nat) (f : Str) (S : FnS) : Prop where
  ex : ∃ (j : Nat) (a : Addr) (fd : FuncData) (ps : List Str), j ≤ k ∧ FnOk P w W.K W.mg base (L2N.CX P w) j a fd ps (spOf W S) ∧ W.mg f = some (.ref a) ∧ PySem.W.keepIn W.K (.ref a) = true ∧ Binds W.K fd ps []
theorem Kept.mono {P : Program} {w : World} {W : Wd} {base : Heap} {k l : Nat} {f : Str} {S : FnS} (h : Kept P w W base k f S) (hl : k ≤ l) : Kept P w W base l f S := by
  obtain ⟨j, a, fd, ps, hj, r⟩ := h.ex
  exact ⟨j, a, fd, ps, Nat.le_trans hj hl, r⟩
theorem spOf_imp {W : Wd} {S S' : FnS} (h : ∀ ss Kp Xk, S' ss Kp Xk → S ss Kp Xk) {vs : List V} {H : Hp} {Q : VK} {E : XK} (q : spOf W S' vs H Q E) : spOf W S vs H Q E := by
  obtain ⟨F, ss, Kp, Xk, en, tb, hS, r⟩ := q
  exact ⟨F, ss, Kp, Xk, en, tb, h _ _ _ hS, r⟩
theorem Kept.imp {P : Program} {w : World} {W : Wd} {base : Heap} {k : Nat} {f : Str} {S S' : FnS} (q : Kept P w W base k f S) (h : ∀ ss Kp Xk, S' ss Kp Xk → S ss Kp Xk) : Kept P w W base k f S' := by
  obtain ⟨j, a, fd, ps, hj, G, r⟩ := q.ex
  exact ⟨j, a, fd, ps, hj, G.imp fun vs H Q E z => spOf_imp h z, r⟩
/-- what the module gives -/
structure Modu (W : Wd) (Φ : Tbl) (C : CI) : Prop where
  fn : ∀ f, C.fs.contains f = true → ∃ S, Φ.fn f = some S
  con : ∀ x, C.cons.contains x = true → ∃ v u w, Φ.con x = some v ∧ W.mg x = some w ∧ RelV u w ∧ ∀ F, Rep W F v u
  blt : ∀ x, x ∈ freeNames → W.mg x = none
  gcd : C.gcd = true → W.mg "gcd" = some (.builtin "math.gcd")
  exc : ∀ c, C.excs.contains c = true → ∃ Ca, W.mg c = some (.ref Ca) ∧ PySem.W.excIn W.K Ca [.type "ValueError", .type "Exception", .type "BaseException", .type "object"] "ValueError.__new__" = true ∧ PySem.W.keepIn W.K (.ref Ca) = true ∧
    PySem.W.subIn W.K (.ref Ca) (.type "BaseException") = some true ∧ PySem.W.typeIn W.K (.ref Ca) = some (.type "type")
/-- as FunD.ok, the code object told -/
theorem fun_ok {P : Program} {w : World} {K : PySem.W.Frag} {mg : Str → Option Value} {base : Heap} {x : Str} {params : Arguments} {body : List Stmt} {scope : Scope} {f : Addr} {fd : FuncData} {CX : CXT} {N ps : List Str} {k : Nat} {sp : Sp} (F : FunD K x x params body scope [] [] f fd) (Sc : FnScope N ps scope)
    (hl : ∀ vs H Q E, sp vs H Q E → vs.length = ps.length) (hB : ∀ (A : Around) (outer : List Env) (s : Shared) (H : Hp) (vs : List V) (Q : VK) (E : XK), Room k (A.deeper (envOfC x scope s.heap.objs.size f fd.code)) → sp vs H Q E →
      ∃ t, PSs (cxOf CX P w K mg base N x scope f fd.code A outer s H E) body t ∧ t { nx := fun _ H' => Q .non H', rt := Q } (start N vs) H) : FnOk P w K mg base CX (k + 1) f fd ps sp := by
  obtain ⟨oc, od, dV, kV, doc, pm, an, cdv, ct, osl, e, lk, hcd, _, _⟩ := F.ex
  subst e
  exact fn_of lk hcd Sc hl fun A outer s H vs Q E hr hsp => hB A outer s H vs Q E hr hsp
def lamQ (x : Str) : Str := x ++ ".<locals>." ++ "<lambda>"
/-- what a def needs that hands lambdas on -/
structure LamNeed (P : Program) (w : World) (W : Wd) (Φ : Tbl) (C : CI) (base : Heap) (x : Str) (fd : FuncData) : Prop where
  tab : ∃ c T, LamX.TabB base W.mg c T ∧ fd.code = .ref c ∧ (T, lamQ x) ∈ W.T ∧ ∀ p ∈ W.T, p.1 = T → p.2 = lamQ x
  df : ∀ X : Cx, X.prog = P → X.w = w → X.K = W.K → X.mg = W.mg → ∀ y, C.lams.contains y = true → ∃ gf, Φ.lam y = some gf ∧ LamDef W X y gf
/-- a def of the text -/
theorem fnok_of {P : Program} {w : World} {W : Wd} {base : Heap} {x : Str} {st : Stmt} {f : Addr} {fd : FuncData} {N ps : List Str} {k kk n : Nat} {B : S} (F : FunD W.K x x (defArgs st) (defBody st) (defScope st) [] [] f fd) (Sc : FnScope N ps (defScope st)) (hmg : W.mg x = some (.ref f)) (hB : cSs C N n (defScope st) (defBody st) = some B)
    (hnp : ps.length ≤ N.length) (M : Modu W Φ C) (hc : ∀ g S, Φ.fn g = some S → Kept P w W base k g S) (hk : k ≤ kk) (hlam : C.lamIn (defScope st) = true → k + 2 ≤ kk ∧ LamNeed P w W Φ C base x fd) : FnOk P w W.K W.mg base (L2N.CX P w) (kk + 1) f fd ps (spOf W (bodyS Φ ps.length N.length B)) := by
  refine fun_ok F Sc (fun vs H Q E h => ?_) (fun A outer s H vs Q E hr h => ?_)
  · obtain ⟨ss, hv, _⟩ := body_sp (N := N) rfl hnp h
    exact hv
  · obtain ⟨ss, hv, ht⟩ := body_sp (N := N) rfl hnp h
    refine ⟨_, ?_, ht⟩
    have tk : L2N.Takes (cxOf (L2N.CX P w) P w W.K W.mg base N x (defScope st) f fd.code A outer s H E) (fun cls d _ H => E cls d H) := L2N.takes_of rfl rfl rfl rfl
    have g : GoodS W Φ C (e0Of W E) (cxOf (L2N.CX P w) P w W.K W.mg base N x (defScope st) f fd.code A outer s H E) := by
      refine ⟨⟨rfl, rfl, Sc.nd, rfl, ?_, passes_of rfl, M.fn, fun g S hS => ?_, M.con, M.blt, M.gcd, fun z => ?_⟩, fun _ => rfl, Sc.kind, tk.imp fun cls d σ H h => xk_e0 h, fun c hc => ?_⟩
      · have := hr.un
        show (A.deeper _).units + 65 < cLine
        omega
      · obtain ⟨j, a, fd', ps', hj, G, hm, kp, hb'⟩ := (hc g S hS).ex
        exact ⟨j, a, fd', ps', G, hr.mono (Nat.le_trans hj hk), hm, kp, hb', passE tk⟩
      · obtain ⟨hk2, L⟩ := hlam z
        obtain ⟨c, T, t1, t2, t3, t4⟩ := L.tab
        refine ⟨k, hr.mono hk2, ⟨c, T, t1, t2, t3, t4⟩, L.df _ rfl rfl rfl rfl, fun g S hS => ?_⟩
        obtain ⟨j, a, fd', ps', hj, G, hm, kp, hb'⟩ := (hc g S hS).ex
        exact ⟨j, a, fd', ps', hj, G, hm, kp, hb'⟩
      · obtain ⟨Ca, c1, c2, c3, c4, c5⟩ := M.exc c hc
        exact ⟨Ca, c1, c2, c3, raises_own c4 c5⟩
    exact (cS_ok g rfl n).2 _ _ hB
/-- a def of the text -/
theorem kept_of {P : Program} {w : World} {W : Wd} {base : Heap} {x : Str} {st : Stmt} {f : Addr} {fd : FuncData} {N ps : List Str} {k kk n : Nat} {B : S} (F : FunD W.K x x (defArgs st) (defBody st) (defScope st) [] [] f fd) (Sc : FnScope N ps (defScope st)) (hmg : W.mg x = some (.ref f)) (hb : Binds W.K fd ps []) (hB : cSs C N n (defScope st) (defBody st) = some B)
    (hnp : ps.length ≤ N.length) (M : Modu W Φ C) (hc : ∀ g S, Φ.fn g = some S → Kept P w W base k g S) (hk : k ≤ kk) (hlam : C.lamIn (defScope st) = true → k + 2 ≤ kk ∧ LamNeed P w W Φ C base x fd) : Kept P w W base (kk + 1) x (bodyS Φ ps.length N.length B) :=
  ⟨kk + 1, f, fd, ps, Nat.le_refl _, fnok_of F Sc hmg hB hnp M hc hk hlam, hmg, F.kp, hb⟩
end Ev
/-! What the head tells, for the reckoner. -/
namespace Ev
open PySem PySem.Spec PyProof.Rows L2
/-! ### facts as Bools -/
def excCB (K : PySem.W.Frag) (x : Str) : Bool :=
  decide (PySem.W.findIn K (.ref (He.ga K x)) "__getattribute__" = some (some (.builtin "BaseException.__getattribute__"))) && (decide (PySem.W.findIn K (.ref (He.ga K x)) "__getattr__" = some none) && (decide (PySem.W.subIn K (.ref (He.ga K x)) (.type "BaseException") = some true) &&
    (PySem.W.hasDictIn K (He.ga K x) && (decide (PySem.W.findIn K (.ref (He.ga K x)) "__class__" = some (some (.builtin "object.__class__"))) && (decide (PySem.W.specialIn K (.builtin "object.__class__") "__get__" = some (some (.builtin "getset_descriptor.__get__"))) &&
      (decide (PySem.W.takesIn K (.builtin "object.__class__") = some true) && decide (PySem.W.mroIn K (He.ga K x) (.type "object") = some true)))))))
theorem excCB_ok {K : PySem.W.Frag} {x : Str} (h : excCB K x = true) : ExcC K (He.ga K x) := by
  unfold excCB at h
  simp only [Bool.and_eq_true, decide_eq_true_eq] at h
  obtain ⟨h1, h2, h3, h4, h5, h6, h7, h8⟩ := h
  exact ⟨h1, h2, h3, h4, h5, h6, h7, h8⟩
def isB (K : PySem.W.Frag) (x y : Str) (b : Bool) : Bool := decide (PySem.W.kitOne K (.ref (He.ga K x)) (.ref (He.ga K y)) = some b)
theorem isB_ok {K : PySem.W.Frag} {x y : Str} {b : Bool} (h : isB K x y b = true) : PySem.W.kitOne K (.ref (He.ga K x)) (.ref (He.ga K y)) = some b := of_decide_eq_true h
def gcdB (K : PySem.W.Frag) : Bool := He.eqO (PySem.W.nsIn K mainGlobals "gcd") (some (some (.builtin "math.gcd")))
theorem gcdB_ok {K : PySem.W.Frag} {h : Heap} {mg : Str → Option Value} (X : K.In h) (G : h.Ns mainGlobals mg) (c : gcdB K = true) : mg "gcd" = some (.builtin "math.gcd") := PySem.W.mg_of X G (He.eqO_ok c)
/-- the tables of two defs are two -/
def apartB (K : PySem.W.Frag) (tf : List He.Defn) : Bool := tf.all fun p => tf.all fun q => decide (p = q) || decide ((He.cT K p).2 ≠ (He.cT K q).2)
def tabsOf (K : PySem.W.Frag) (tf : List He.Defn) : List (Addr × Str) := tf.map fun p => ((He.cT K p).2, lamQ p.1)
theorem apartB_ok {K : PySem.W.Frag} {tf : List He.Defn} (h : apartB K tf = true) {p : He.Defn} (hp : p ∈ tf) : ((He.cT K p).2, lamQ p.1) ∈ tabsOf K tf ∧ ∀ q ∈ tabsOf K tf, q.1 = (He.cT K p).2 → q.2 = lamQ p.1 := by
  refine ⟨List.mem_map.mpr ⟨p, hp, rfl⟩, fun q hq e => ?_⟩
  obtain ⟨r, hr, e2⟩ := List.mem_map.mp hq
  have h1 := List.all_eq_true.mp (List.all_eq_true.mp h p hp) r hr
  subst e2
  rcases Bool.or_eq_true_iff.mp h1 with z | z
  · have z := of_decide_eq_true z
    rw [z]
  · exact absurd e.symm (of_decide_eq_true z)
def wdOf (K : PySem.W.Frag) (mg : Str → Option Value) (tf : List He.Defn) : Wd := ⟨K, mg, tabsOf K tf⟩
/-- a law's own promise: true at every script -/
def lawS : FnS := fun ss Kp _ => ∃ ns : List Int, ss = [.val (.scr ns)] ∧ ns.length ≤ 63 ∧ (∀ z ∈ ns, Builtin.Int.intBits z ≤ 1048576) ∧ Kp false (.bl true) ss
theorem law_promise {K : PySem.W.Frag} {mg : Str → Option Value} {tf : List He.Defn} {H : Hp} {a : Addr} {ns : List Int} (hl : ns.length ≤ 63) (hb : ∀ z ∈ ns, Builtin.Int.intBits z ≤ 1048576) (hT : ∀ p ∈ tf, H (He.cT K p).2 = some (.tbl #[])) (hS : SqL K H a (ns.map V.int)) :
    spOf (wdOf K mg tf) lawS [.ref a] H (fun v _ => v = .bl true) fun _ _ _ => False := by
  let F : Hp := fun b => match H b with
    | some (.tbl _) => none
    | o => o
  have hF : ∀ b o, (∀ ps, o ≠ .tbl ps) → H b = some o → F b = some o := fun b o nt e => by
    show (match H b with | some (.tbl _) => none | o => o) = _
    rw [e]
    cases o <;> first | rfl | exact absurd rfl (nt _)
  have hF2 : ∀ b o, F b = some o → H b = some o ∧ ∀ ps, o ≠ .tbl ps := fun b o e => by
    have e' : (match H b with | some (.tbl _) => none | o => o) = some o := e
    cases q : H b with
    | none => rw [q] at e'; cases e'
    | some u =>
      rw [q] at e'
      cases u <;> first | (cases e'; exact ⟨rfl, fun ps z => by cases z⟩) | cases e'
  refine ⟨F, [.val (.scr ns)], fun fr x os => fr = false ∧ x = .bl true, fun _ => False, ⟨fun b o e => (hF2 b o e).1, fun b ps e => (hF2 b _ e).2 ps rfl, rfl, fun i s hs => ?_, fun i j x y a' _ h1 _ _ _ => ?_⟩, fun p hp => ?_, ⟨ns, rfl, hl, hb, rfl, rfl⟩, fun fr x os v F' H' hk _ _ rv _ => ?_, fun _ _ _ z => z.elim⟩
  · cases i with
    | zero =>
      simp at hs
      subst hs
      refine ⟨some (.ref a), rfl, .ref a, rfl, a, rfl, ?_⟩
      rcases hS with h | h
      · refine .inl ?_
        rcases h with h | ⟨o, h⟩
        · exact .inl (hF _ _ (fun ps z => by cases z) h)
        · exact .inr ⟨o, hF _ _ (fun ps z => by cases z) h⟩
      · exact .inr h
    | succ i => simp at hs
  · cases i with
    | zero => simp at h1
    | succ i => simp at h1
  · obtain ⟨q, hq, e⟩ := List.mem_map.mp (show p ∈ tf.map _ from hp)
    subst e
    exact LamX.TabS.nil (hT q hq)
  · obtain ⟨e1, e2⟩ := hk
    subst e1 e2
    exact rv
theorem lam_tab {K : PySem.W.Frag} {tf : List He.Defn} {p : He.Defn} {base : Heap} {mg : Str → Option Value} {fd : FuncData} {x qual : Str} {params : Arguments} {body : List Stmt} {scope : Scope} (F : FunD K x qual params body scope [] [] (He.fAd K p) fd) (hp : p ∈ tf) (px : p.1 = x) (ap : apartB K tf = true)
    (TB : ∀ q ∈ tf.map (He.cT K), LamX.TabB base mg q.1 q.2) : ∃ c T, LamX.TabB base mg c T ∧ fd.code = .ref c ∧ (T, lamQ x) ∈ tabsOf K tf ∧ ∀ q ∈ tabsOf K tf, q.1 = T → q.2 = lamQ x := by
  obtain ⟨oc, od, dV, kV, doc, pm, an, cdv, ct, osl, e, lk, hcd, _, _⟩ := F.ex
  obtain ⟨c, hc⟩ := He.codeIn_ref hcd
  have e1 : fd.code = .ref c := by rw [e]; exact hc
  have e2 : He.codeOf K p = c := He.codeOf_eq lk e1
  obtain ⟨h1, h2⟩ := apartB_ok ap hp
  rw [px] at h1 h2
  refine ⟨c, (He.cT K p).2, ?_, e1, h1, h2⟩
  have h3 := TB _ (List.mem_map.mpr ⟨p, hp, rfl⟩)
  rw [← e2]
  exact h3
theorem law_at {l : PySem.W.OpenLaw} {w : World} {K : PySem.W.Frag} {h : Heap} {mg : Str → Option Value} {fa : Addr} {k : Nat} {fas : List He.Fa} {fn : List He.DefD} {tf : List He.Defn} {ex : PySem.W.Frag → Bool} {st : Stmt} {fd : FuncData} (KX : K.In h) (c : He.SaysX fas fn [] tf ex w h K)
    (F : FunD K "law" "law" (defArgs st) (defBody st) (defScope st) [] [] fa fd) (hb : ∀ (kV doc pm : Value) (an : Option Addr) (cdv ct : Value) (us : List Value), us.length = ["script"].length → bindArgs (PySem.W.fnOf "law" "law" (defArgs st) (defBody st) (defScope st) .none kV doc pm an cdv ct) ⟨us, []⟩ = pure ((["script"] : List Str).zip us))
    (H : ∀ base : Heap, K.In base → base.Ns mainGlobals mg → (∀ q ∈ tf.map (He.cT K), LamX.TabB base mg q.1 q.2) → FnOk l.prog w K mg base (L2N.CX l.prog w) k fa fd ["script"] (spOf (wdOf K mg tf) lawS)) : LamX.LawAtS l w K (L2N.CX l.prog w) k 63 "script" mg fa h := by
  refine ⟨fd, tf.map (He.cT K), spOf (wdOf K mg tf) lawS, fun p hp => ?_, fun p hp => ?_, fun p hp => ?_, fun s u => FunD.bindsA (ps := ["script"]) F hb s [u] rfl, fun H a ns hl hz hT hS => law_promise hl hz (fun p hp => hT _ (List.mem_map.mpr ⟨p, hp, rfl⟩)) hS, H⟩
  · obtain ⟨q, hq, e⟩ := List.mem_map.mp hp
    subst e
    exact c.empty q hq
  · obtain ⟨q, hq, e⟩ := List.mem_map.mp hp
    subst e
    exact c.out q hq
  · obtain ⟨q, hq, e⟩ := List.mem_map.mp hp
    subst e
    exact PySem.W.codeHd_of_K KX (c.hd q hq)
end Ev
/-! Reckoning with plain values, by simp. -/
namespace Ev
open PySem PySem.Spec PyProof.Rows L2
section
variable {i j k : Int} {b c : Bool} {s t : Str} {xs ys : List PV} {x y : PV} {Q : RV → Prop} {R : Bool → Prop}
theorem binW_add : binW .Add (.int i) (.int j) Q = Q (.val (.int (i + j))) := rfl
theorem binW_sub : binW .Sub (.int i) (.int j) Q = Q (.val (.int (i - j))) := rfl
theorem binW_mul : binW .Mult (.int i) (.int j) Q = (MulOk i j ∧ Q (.val (.int (i * j)))) := rfl
theorem binW_div : binW .FloorDiv (.int i) (.int j) Q = (DivOk j ∧ Q (.val (.int (i.fdiv j)))) := rfl
theorem binW_mod : binW .Mod (.int i) (.int j) Q = (j ≠ 0 ∧ Q (.val (.int (i.fmod j)))) := rfl
theorem binW_pow : binW .Pow (.int i) (.int j) Q = (CPow i j ∧ Q (.val (.int (i ^ j.toNat)))) := rfl
theorem binW_lst : binW .Add (.lst xs) (.lst ys) Q = (xs.length + ys.length ≤ sizeLine ∧ Q (.tmp (.lst (xs ++ ys)))) := rfl
theorem binW_tup : binW .Add (.tup xs) (.tup ys) Q = (xs.length + ys.length ≤ sizeLine ∧ Q (.val (.tup (xs ++ ys)))) := rfl
theorem binW_str : binW .Add (.str s) (.str t) Q = (s.length + t.length ≤ sizeLine ∧ Q (.val (.str (s ++ t)))) := rfl
theorem binW_rep : binW .Mult (.lst xs) (.int k) Q = ((-(2 ^ 63) ≤ k ∧ k < 2 ^ 63 ∧ xs.length * k.toNat ≤ sizeLine) ∧ Q (.tmp (.lst (List.replicate k.toNat xs).flatten))) := rfl
theorem cmpW_lt : cmpW .Lt (.int i) (.int j) R = R (decide (i < j)) := rfl
theorem cmpW_le : cmpW .LtE (.int i) (.int j) R = R (decide (i ≤ j)) := rfl
theorem cmpW_gt : cmpW .Gt (.int i) (.int j) R = R (decide (j < i)) := rfl
theorem cmpW_ge : cmpW .GtE (.int i) (.int j) R = R (decide (j ≤ i)) := rfl
theorem cmpW_eq : cmpW .Eq x y R = (cmpOk x ∧ cmpOk y ∧ R (peq x y)) := by cases x <;> cases y <;> rfl
theorem cmpW_ne : cmpW .NotEq x y R = (cmpOk x ∧ cmpOk y ∧ R (!peq x y)) := by cases x <;> cases y <;> rfl
theorem cmpW_is : cmpW .Is x .non R = R (isNon x) := by cases x <;> rfl
theorem cmpW_isN : cmpW .IsNot x .non R = R (!isNon x) := by cases x <;> rfl
theorem cmpW_inT : cmpW .In x (.tup ys) R = (flatP x = true ∧ ys.all flatP = true ∧ R (ys.any fun y => peq y x)) := by cases x <;> rfl
theorem cmpW_inL : cmpW .In x (.lst ys) R = (cmpOk x ∧ cmpOk (.lst ys) ∧ R (ys.any fun y => peq y x)) := by cases x <;> rfl
theorem cmpW_niT : cmpW .NotIn x (.tup ys) R = (flatP x = true ∧ ys.all flatP = true ∧ R (!ys.any fun y => peq y x)) := by cases x <;> rfl
theorem cmpW_niL : cmpW .NotIn x (.lst ys) R = (cmpOk x ∧ cmpOk (.lst ys) ∧ R (!ys.any fun y => peq y x)) := by cases x <;> rfl
theorem ixW_tup : ixW (.tup xs) (.int i) Q = ∃ x, atI xs i = some x ∧ Q (.val x) := rfl
theorem ixW_lst : ixW (.lst xs) (.int i) Q = ∃ x, atI xs i = some x ∧ Q (.val x) := rfl
theorem isNon_ne (h : x ≠ .non) : isNon x = false := by cases x <;> first | rfl | exact absurd rfl h
/-- is it of the type t -/
def isTy (a t : String) : Bool := a == t || (a == "bool" && t == "int")
def isT (x : PV) (t : String) : Bool := isTy (tyN x) t
theorem kit_all : (["NoneType", "bool", "int", "str", "tuple", "list"].all fun a => ["int", "bool", "str", "tuple", "list"].all fun t => decide (kitB a t = some (isTy a t))) = true := by decide +kernel
theorem isiW_t {t : String} (h : tyOk x = true) (ht : t ∈ ["int", "bool", "str", "tuple", "list"]) : isiW x t R = R (isT x t) := by
  have hn : tyN x ∈ ["NoneType", "bool", "int", "str", "tuple", "list"] := by cases x <;> first | (simp [tyN]; done) | cases h
  have e := of_decide_eq_true (List.all_eq_true.mp (List.all_eq_true.mp kit_all _ hn) t ht)
  refine propext ⟨fun ⟨_, b, e2, q⟩ => ?_, fun q => ⟨h, _, e, q⟩⟩
  rw [e] at e2
  cases e2
  exact q
theorem isT_non_int : isT .non "int" = false := by first | rfl | decide
theorem isT_non_bool : isT .non "bool" = false := by first | rfl | decide
theorem isT_non_str : isT .non "str" = false := by first | rfl | decide
theorem isT_non_tuple : isT .non "tuple" = false := by first | rfl | decide
theorem isT_non_list : isT .non "list" = false := by first | rfl | decide
theorem tyOk_non : tyOk .non = true := rfl
theorem isT_bl_int : isT (.bl b) "int" = true := by first | rfl | decide
theorem isT_bl_bool : isT (.bl b) "bool" = true := by first | rfl | decide
theorem isT_bl_str : isT (.bl b) "str" = false := by first | rfl | decide
theorem isT_bl_tuple : isT (.bl b) "tuple" = false := by first | rfl | decide
theorem isT_bl_list : isT (.bl b) "list" = false := by first | rfl | decide
theorem tyOk_bl : tyOk (.bl b) = true := rfl
theorem isT_int_int : isT (.int i) "int" = true := by first | rfl | decide
theorem isT_int_bool : isT (.int i) "bool" = false := by first | rfl | decide
theorem isT_int_str : isT (.int i) "str" = false := by first | rfl | decide
theorem isT_int_tuple : isT (.int i) "tuple" = false := by first | rfl | decide
theorem isT_int_list : isT (.int i) "list" = false := by first | rfl | decide
theorem tyOk_int : tyOk (.int i) = true := rfl
theorem isT_str_int : isT (.str s) "int" = false := by first | rfl | decide
theorem isT_str_bool : isT (.str s) "bool" = false := by first | rfl | decide
theorem isT_str_str : isT (.str s) "str" = true := by first | rfl | decide
theorem isT_str_tuple : isT (.str s) "tuple" = false := by first | rfl | decide
theorem isT_str_list : isT (.str s) "list" = false := by first | rfl | decide
theorem tyOk_str : tyOk (.str s) = true := rfl
theorem isT_tup_int : isT (.tup xs) "int" = false := by first | rfl | decide
theorem isT_tup_bool : isT (.tup xs) "bool" = false := by first | rfl | decide
theorem isT_tup_str : isT (.tup xs) "str" = false := by first | rfl | decide
theorem isT_tup_tuple : isT (.tup xs) "tuple" = true := by first | rfl | decide
theorem isT_tup_list : isT (.tup xs) "list" = false := by first | rfl | decide
theorem tyOk_tup : tyOk (.tup xs) = true := rfl
theorem isT_lst_int : isT (.lst xs) "int" = false := by first | rfl | decide
theorem isT_lst_bool : isT (.lst xs) "bool" = false := by first | rfl | decide
theorem isT_lst_str : isT (.lst xs) "str" = false := by first | rfl | decide
theorem isT_lst_tuple : isT (.lst xs) "tuple" = false := by first | rfl | decide
theorem isT_lst_list : isT (.lst xs) "list" = true := by first | rfl | decide
theorem tyOk_lst : tyOk (.lst xs) = true := rfl
theorem isiW_int (h : tyOk x = true) : isiW x "int" R = R (isT x "int") := isiW_t h (by simp)
theorem isiW_bool (h : tyOk x = true) : isiW x "bool" R = R (isT x "bool") := isiW_t h (by simp)
theorem isiW_str (h : tyOk x = true) : isiW x "str" R = R (isT x "str") := isiW_t h (by simp)
theorem isiW_tuple (h : tyOk x = true) : isiW x "tuple" R = R (isT x "tuple") := isiW_t h (by simp)
theorem isiW_list (h : tyOk x = true) : isiW x "list" R = R (isT x "list") := isiW_t h (by simp)
theorem bltW_len {f : Str} (hf : f = "len") {n : Nat} (h : lenP x = some n) : bltW f [x] Q = Q (.val (.int n)) := by
  subst hf
  unfold bltW
  rw [if_pos rfl]
  simp only [h]
theorem bltW_abs : bltW "abs" [.int i] Q = Q (.val (.int (if i < 0 then -i else i))) := by
  unfold bltW
  rw [if_neg (by decide), if_pos rfl]
theorem bltW_int : bltW "int" [.int i] Q = Q (.val (.int i)) := by
  unfold bltW
  rw [if_neg (by decide), if_neg (by decide), if_pos rfl]
theorem bltW_gcd : bltW "gcd" [.int i, .int j] Q = Q (.val (.int ((Nat.gcd i.natAbs j.natAbs : Nat) : Int))) := by
  unfold bltW
  rw [if_neg (by decide), if_neg (by decide), if_neg (by decide), if_pos rfl]
theorem bltW_lenT : bltW "len" [.tup xs] Q = Q (.val (.int xs.length)) := bltW_len rfl rfl
theorem bltW_lenL : bltW "len" [.lst xs] Q = Q (.val (.int xs.length)) := bltW_len rfl rfl
theorem bltW_scr {ns : List Int} : bltW "list" [.scr ns] Q = Q (.tmp (.lst (ns.map PV.int))) := by
  unfold bltW
  rw [if_neg (by decide), if_neg (by decide), if_neg (by decide), if_neg (by decide), if_pos rfl]
theorem bltW_listL : bltW "list" [.lst xs] Q = Q (.tmp (.lst xs)) := by
  unfold bltW
  rw [if_neg (by decide), if_neg (by decide), if_neg (by decide), if_neg (by decide), if_pos rfl]
theorem bltW_listT : bltW "list" [.tup xs] Q = Q (.tmp (.lst xs)) := by
  unfold bltW
  rw [if_neg (by decide), if_neg (by decide), if_neg (by decide), if_neg (by decide), if_pos rfl]
theorem bltW_tupL : bltW "tuple" [.lst xs] Q = Q (.val (.tup xs)) := by
  unfold bltW
  rw [if_neg (by decide), if_neg (by decide), if_neg (by decide), if_neg (by decide), if_neg (by decide), if_pos rfl]
theorem bltW_tupT : bltW "tuple" [.tup xs] Q = Q (.val (.tup xs)) := by
  unfold bltW
  rw [if_neg (by decide), if_neg (by decide), if_neg (by decide), if_neg (by decide), if_neg (by decide), if_pos rfl]

section
variable {ρ : SE} {Q1 : PV → Prop} {Q2 : SE → PV → Prop} {Q3 : SE → Prop} {Q4 : SE → RV → Prop} {n : Nat}
theorem rdK_val : rdK ρ (.val x) Q1 = Q1 x := rfl
theorem rdK_tmp : rdK ρ (.tmp x) Q1 = Q1 x := rfl
theorem rdK_bor : rdK ρ (.bor n) Q1 = (match ρ[n]? with | some (.val x) => Q1 x | some (.own x) => Q1 x | _ => False) := by
  unfold rdK rd
  dsimp only
  generalize ρ[n]? = o
  cases o with
  | none => rfl
  | some s => cases s <;> rfl
theorem fzK_val : fzK ρ (.val x) Q2 = Q2 ρ x := rfl
theorem fzK_tmp : fzK ρ (.tmp x) Q2 = Q2 ρ x := rfl
theorem fzK_bor : fzK ρ (.bor n) Q2 = (match ρ[n]? with | some (.val x) => Q2 ρ x | some (.own x) => Q2 (ρ.set n (.val x)) x | _ => False) := by
  unfold fzK fz
  dsimp only
  generalize ρ[n]? = o
  cases o with
  | none => rfl
  | some s => cases s <;> rfl
theorem stW_val : stW n (.val x) ρ Q3 = Q3 (ρ.set n (.val x)) := rfl
theorem stW_tmp : stW n (.tmp x) ρ Q3 = Q3 (ρ.set n (.own x)) := rfl
theorem stW_bor {j : Nat} : stW n (.bor j) ρ Q3 = fzK ρ (.bor j) fun ρ2 x => Q3 (ρ2.set n (.val x)) := rfl
theorem nbW_val : nbW ρ (.val x) Q4 = Q4 ρ (.val x) := rfl
theorem nbW_tmp : nbW ρ (.tmp x) Q4 = Q4 ρ (.tmp x) := rfl
theorem nbW_bor : nbW ρ (.bor n) Q4 = fzK ρ (.bor n) fun ρ2 x => Q4 ρ2 (.val x) := rfl
theorem argOf_val : argOf ρ (.val x) = some (.val x) := rfl
theorem argOf_bor : argOf ρ (.bor n) = (match ρ[n]? with | some (.val x) => some (.val x) | some (.own x) => some (.own x) | _ => none) := by
  unfold argOf
  first
    | (dsimp only; done)
    | (dsimp only
       generalize ρ[n]? = o
       rcases o with _ | s
       · rfl
       · cases s <;> rfl)
variable {ss : List Slot} {Kp : Bool → PV → List Slot → Prop}
theorem retW_val : retW ss Kp ρ (.val x) = Kp false x (outsOf ss ρ) := rfl
theorem retW_tmp : retW ss Kp ρ (.tmp x) = Kp true x (outsOf ss ρ) := rfl
variable {rs : List RV} {os : List Slot} {σ : Slot}
theorem backs_val : backs ρ (.val x :: rs) (σ :: os) = backs ρ rs os := by
  conv => lhs; unfold backs
theorem backs_bor : backs ρ (.bor n :: rs) (σ :: os) = backs (ρ.set n σ) rs os := by
  conv => lhs; unfold backs
theorem backs_nil : backs ρ [] os = ρ := by unfold backs; rfl
end
end
/-! ### comparing atoms -/
theorem cmpOk_int {i : Int} : cmpOk (.int i) = True := eq_true ⟨rfl, by first | rfl | decide⟩
theorem cmpOk_bl {b : Bool} : cmpOk (.bl b) = True := eq_true ⟨rfl, by first | rfl | decide⟩
theorem cmpOk_non : cmpOk .non = True := eq_true ⟨rfl, by first | rfl | decide⟩
theorem cmpOk_nil : cmpOk (.lst []) = True := eq_true ⟨rfl, by first | rfl | decide⟩
theorem cmpOk_nilT : cmpOk (.tup []) = True := eq_true ⟨rfl, by first | rfl | decide⟩
theorem peq_int {i j : Int} : peq (.int i) (.int j) = decide (i = j) := rfl
theorem peq_bl {a b : Bool} : peq (.bl a) (.bl b) = (a == b) := rfl
theorem peq_str {s t : Str} : peq (.str s) (.str t) = (s == t) := rfl
theorem peq_non : peq .non .non = true := rfl
theorem peq_nil : peq (.lst []) (.lst []) = true := rfl
theorem peq_nilT : peq (.tup []) (.tup []) = true := rfl
theorem peq_consL {x : PV} {xs : List PV} : peq (.lst (x :: xs)) (.lst []) = false := rfl
/-- a loop, by what holds ahead of each turn -/
theorem loopF_inv {body : PV → SE → Out → Prop} {D : Out} (I : Nat → SE → Prop) : ∀ (ys : List PV) (n : Nat) (ρ : SE), I n ρ →
    (∀ (i : Nat) (y : PV) (ρ : SE), ys[i]? = some y → I (n + i) ρ → ∀ D' : Out, (∀ ρ', I (n + i + 1) ρ' → D'.nx ρ') → (∀ ρ', I (n + i + 1) ρ' → D'.ct ρ') → D'.bk = D.nx → D'.rt = D.rt → body y ρ D') → (∀ ρ, I (n + ys.length) ρ → D.nx ρ) → loopF body ys ρ D
  | [], n, ρ, h0, _, hend => hend ρ h0
  | y :: ys, n, ρ, h0, step, hend => by
    unfold loopF
    have key : ∀ ρ', I (n + 1) ρ' → loopF body ys ρ' D := fun ρ' h => loopF_inv I ys (n + 1) ρ' h
      (fun i y ρ hy hi D' k1 k2 k3 k4 => step (i + 1) y ρ (by simpa using hy) (by rw [← Nat.add_assoc, Nat.add_right_comm]; exact hi) D' (fun ρ' q => k1 ρ' (by rw [Nat.add_right_comm n 1 i]; exact q)) (fun ρ' q => k2 ρ' (by rw [Nat.add_right_comm n 1 i]; exact q)) k3 k4)
      (fun ρ h => hend ρ (by rw [List.length_cons, Nat.add_comm ys.length 1, ← Nat.add_assoc]; exact h))
    exact step 0 y ρ rfl h0 _ key key rfl rfl
theorem wG_nam {par : Nat → Bool} {i : Nat} {x : PV} {ρ : SE} {Q : SE → Prop} : wG par (.nam i) x ρ Q = (par i = false ∧ Q (ρ.set i (.val x))) := by unfold wG; cases x <;> rfl
theorem wG_tup {par : Nat → Bool} {ts : Tg} {xs : List PV} {ρ : SE} {Q : SE → Prop} : wG par (.tup ts) (.tup xs) ρ Q = (xs.length = ts.n ∧ wGs par ts xs ρ Q) := by
  conv => lhs; unfold wG
theorem wGs_nil {par : Nat → Bool} {ρ : SE} {Q : SE → Prop} : wGs par .nil [] ρ Q = Q ρ := by unfold wGs; rfl
theorem wGs_cons {par : Nat → Bool} {t ts : Tg} {x : PV} {xs : List PV} {ρ : SE} {Q : SE → Prop} : wGs par (.cons t ts) (x :: xs) ρ Q = wG par t x ρ fun ρ1 => wGs par ts xs ρ1 Q := by
  conv => lhs; unfold wGs
/-- a comprehension, by what holds ahead of each turn -/
theorem loopC_inv {step : PV → SE → (SE → Option PV → Prop) → Prop} {Q : SE → List PV → Prop} (I : Nat → SE → List PV → Prop) : ∀ (ys : List PV) (n : Nat) (ρ : SE) (acc : List PV), I n ρ acc →
    (∀ (i : Nat) (y : PV) (ρ : SE) (acc : List PV), ys[i]? = some y → I (n + i) ρ acc → ∀ R : SE → Option PV → Prop, (∀ ρ' x, I (n + i + 1) ρ' (acc ++ [x]) → acc.length < sizeLine → R ρ' (some x)) → (∀ ρ', I (n + i + 1) ρ' acc → R ρ' none) → step y ρ R) →
    (∀ ρ acc, I (n + ys.length) ρ acc → Q ρ acc) → loopC step ys ρ acc Q
  | [], n, ρ, acc, h0, _, hend => hend ρ acc h0
  | y :: ys, n, ρ, acc, h0, st, hend => by
    unfold loopC
    have key : ∀ ρ' acc', I (n + 1) ρ' acc' → loopC step ys ρ' acc' Q := fun ρ' acc' h => loopC_inv I ys (n + 1) ρ' acc' h
      (fun i y ρ acc hy hi R k1 k2 => st (i + 1) y ρ acc (by simpa using hy) (by rw [← Nat.add_assoc, Nat.add_right_comm]; exact hi) R (fun ρ' x q => k1 ρ' x (by rw [Nat.add_right_comm n 1 i]; exact q)) (fun ρ' q => k2 ρ' (by rw [Nat.add_right_comm n 1 i]; exact q)))
      (fun ρ acc h => hend ρ acc (by rw [List.length_cons, Nat.add_comm ys.length 1, ← Nat.add_assoc]; exact h))
    exact st 0 y ρ acc rfl h0 _ (fun ρ' x q hz => ⟨hz, key _ _ q⟩) (fun ρ' q => key _ _ q)
/-- what comes of an option, if it is there -/
def optK {α : Type} : Option α → (α → Prop) → Prop
  | some a, f => f a
  | none, _ => False
theorem optK_some {α : Type} {a : α} {f : α → Prop} : optK (some a) f = f a := rfl
def selR : Option Slot → Nat → Option RV
  | some (.val x), _ => some (.val x)
  | some (.own _), n => some (.bor n)
  | _, _ => none
theorem selR_val {x : PV} {n : Nat} : selR (some (.val x)) n = some (.val x) := rfl
theorem selR_own {x : PV} {n : Nat} : selR (some (.own x)) n = some (.bor n) := rfl
def rdS : Option Slot → Option PV
  | some (.val x) => some x
  | some (.own x) => some x
  | _ => none
theorem rdS_val {x : PV} : rdS (some (.val x)) = some x := rfl
theorem rdS_own {x : PV} : rdS (some (.own x)) = some x := rfl
def fzS (ρ : SE) (n : Nat) : Option Slot → Option (SE × PV)
  | some (.val x) => some (ρ, x)
  | some (.own x) => some (ρ.set n (.val x), x)
  | _ => none
theorem fzS_val {ρ : SE} {n : Nat} {x : PV} : fzS ρ n (some (.val x)) = some (ρ, x) := rfl
theorem fzS_own {ρ : SE} {n : Nat} {x : PV} : fzS ρ n (some (.own x)) = some (ρ.set n (.val x), x) := rfl
def argS : Option Slot → Option Slot
  | some (.val x) => some (.val x)
  | some (.own x) => some (.own x)
  | _ => none
theorem argS_val {x : PV} : argS (some (.val x)) = some (.val x) := rfl
theorem argS_own {x : PV} : argS (some (.own x)) = some (.own x) := rfl
section
variable {Φ : Tbl} {par : Nat → Bool} {X : XS} {ρ : SE} {Q : SE → RV → Prop} {i n : Nat} {Q1 : PV → Prop} {Q2 : SE → PV → Prop}
theorem wE_var : wE Φ par (.var i) X ρ Q = optK (selR ρ[i]? i) (Q ρ) := by
  rw [wE.eq_5]
  generalize ρ[i]? = o
  cases o with
  | none => rfl
  | some s => cases s <;> rfl
theorem rdK_at : rdK ρ (.bor n) Q1 = optK (rdS ρ[n]?) Q1 := by
  rw [rdK_bor]
  generalize ρ[n]? = o
  cases o with
  | none => rfl
  | some s => cases s <;> rfl
theorem fzK_at : fzK ρ (.bor n) Q2 = optK (fzS ρ n ρ[n]?) fun p => Q2 p.1 p.2 := by
  rw [fzK_bor]
  generalize ρ[n]? = o
  cases o with
  | none => rfl
  | some s => cases s <;> rfl
theorem argOf_at : argOf ρ (.bor n) = argS ρ[n]? := by
  rw [argOf_bor]
  generalize ρ[n]? = o
  cases o with
  | none => rfl
  | some s => cases s <;> rfl
end
/-- a table of promises -/
def tblOf (con : List (Str × PV)) (fn : List (Str × FnS)) (lam : List (Str × GF)) : Tbl := ⟨fun x => con.lookup x, fun x => fn.lookup x, fun x => lam.lookup x⟩
end Ev
/-! Suites that name the caught error, read from the text. -/
namespace Ev
open PySem PySem.Spec PyProof.Rows L2
/-- words beside classes -/
abbrev PC := List (Str × Str)
def flg (isC : Str → Bool) (ps : PC) : List (Str × Bool) := ps.map fun p => (p.1, isC p.2)
section
variable (N : List Str) (sc : Scope) (e : Str) (cs : List Str)
def hpI : Expr → Option (Str × Str)
  | .Tuple [.Constant (.str w) _ _, .Call (.Name f _) [.Name y _, .Name c _] [] _] _ _ => if f = "isinstance" ∧ y = e ∧ gB sc "isinstance" = true ∧ gB sc c = true ∧ dOk c = true ∧ cs.contains c = true then some (w, c) else none
  | _ => none
def hpL : List Expr → Option PC
  | [] => some []
  | x :: xs => match hpI sc e cs x, hpL xs with
    | some p, some ps => some (p :: ps)
    | _, _ => none
def hpE : Nat → List (Str × PC) → Expr → Option PC
  | 0, _, _ => none
  | n + 1, env, x => match x with
    | .List es _ => (match hpL sc e cs es with
      | some ps => if ps.length ≤ 100 then some ps else none
      | none => none)
    | .Name v _ => if visB sc v = true ∧ dOk v = true then env.lookup v else none
    | .BinOp a .Add b _ => (match hpE n env a, hpE n env b with
      | some p, some q => if p.length + q.length ≤ 100 then some (p ++ q) else none
      | _, _ => none)
    | _ => none
/-- sep.join([w for w, b in .. if b]) -/
def hpJ (n : Nat) (env : List (Str × PC)) : Expr → Option (Str × PC)
  | .Call (.Attribute (.Constant (.str sep) _ _) m apos) [.ListComp (.Name w1 _) [⟨.Tuple [.Name w2 _, .Name b2 _] _ _, iter, [.Name b3 _], 0⟩] scope _] [] pos =>
    let own := scope.names.filterMap fun y => match y.2 with
      | .local => (ixOf N y.1).map fun i => (y.1, i)
      | _ => none
    (match ixOf N w2, ixOf N b2, hpE sc e cs n env iter with
      | some i, some j, some ps => if m = "join" ∧ w1 = w2 ∧ b3 = b2 ∧ i ≠ j ∧ (own.map (·.2)).contains i = true ∧ (own.map (·.2)).contains j = true ∧ locB (relS scope sc) w2 = true ∧ locB (relS scope sc) b2 = true ∧ dOk w2 = true ∧ dOk b2 = true ∧ blkC N sc scope own = true ∧ isSetE iter = false ∧
          (apos.endLine == pos.line) = true ∧ (ps.map fun p => p.1.length).sum + ps.length * sep.length ≤ 16777216 then some (sep, ps) else none
      | _, _, _ => none)
  | _ => none
/-- v = ..; ..; return sep.join(..) -/
def hpS (n : Nat) : List (Str × PC) → List Stmt → Option (Str × PC)
  | env, [.Return (some x) _] => hpJ N sc e cs n env x
  | env, .Assign [.Name v _] x _ :: rest => (match ixOf N v, ixOf N e, hpE sc e cs n env x with
    | some i, some ie, some ps => if locB sc v = true ∧ i ≠ ie then hpS n ((v, ps) :: env) rest else none
    | _, _, _ => none)
  | _, _ => none
end
/-- what an except suite's context gives -/
structure SuiteOk (X : Cx) (e : Str) (ie : Nat) (ad D : Addr) (cs : List Str) (isC : Str → Bool) : Prop where
  cr : CallR X (.builtin "isinstance") (rIsE X.K D ad)
  mi : X.mg "isinstance" = none
  hot : L2H.HotC X
  nd : X.N.Nodup
  ix : X.N[ie]? = some e
  vis : Vis X.env.scope e
  dk : dOk e = true
  cls : ∀ c, cs.contains c = true → ∃ C, X.mg c = some (.ref C) ∧ PySem.W.kitOne X.K (.ref D) (.ref C) = some (isC c)
def HA (X : Cx) (ie : Nat) (ad : Addr) (isC : Str → Bool) (env : List (Str × PC)) : L2.St → Hp → Prop := fun σ H => σ.length = X.N.length ∧ σ[ie]? = some (some (.ref ad)) ∧
  ∀ v ps, env.lookup v = some ps → ∃ i l us, ixOf X.N v = some i ∧ σ[i]? = some (some (.ref l)) ∧ H l = some (.lst us) ∧ Prs X.K H us (flg isC ps)
theorem HA.steady {X : Cx} {ie : Nat} {ad : Addr} {isC : Str → Bool} {env : List (Str × PC)} : Steady (HA X ie ad isC env) := fun σ H H1 ⟨h0, h1, h2⟩ e => ⟨h0, h1, fun v ps q => by
  obtain ⟨i, l, us, a, b, c, d⟩ := h2 v ps q
  exact ⟨i, l, us, a, b, e _ _ c, d.mono e⟩⟩
section
variable {X : Cx} {e : Str} {ie : Nat} {ad D : Addr} {cs : List Str} {isC : Str → Bool} {env : List (Str × PC)}
theorem hpI_ok (S : SuiteOk X e ie ad D cs isC) {x : Expr} {w c : Str} (h : hpI X.env.scope e cs x = some (w, c)) : PE X x (HOt (HA X ie ad isC env) w (isC c)) := by
  unfold hpI at h
  split at h
  · split at h
    · rename_i hc
      cases h
      obtain ⟨rfl, rfl, h1, h2, h3, h4⟩ := hc
      obtain ⟨C, c1, c2⟩ := S.cls _ h4
      exact hp_pair S.cr h1 S.mi S.ix S.vis S.dk h2 h3 c1 c2 fun σ H a => a.2.1
    · cases h
  · cases h
theorem hpI_plain {sc : Scope} {x : Expr} {p : Str × Str} (h : hpI sc e cs x = some p) : plainE x = true := by
  unfold hpI at h
  split at h <;> first | rfl | cases h
theorem hpL_ok (S : SuiteOk X e ie ad D cs isC) : ∀ {xs : List Expr} {ps : PC}, hpL X.env.scope e cs xs = some ps → PA X xs (HAt X.K (HA X ie ad isC env) (flg isC ps))
  | [], ps, h => by
    cases h
    exact hps_nil
  | x :: xs, ps, h => by
    unfold hpL at h
    split at h
    · rename_i p qs h1 h2
      cases h
      obtain ⟨w, c⟩ := p
      exact hps_cons HA.steady (hpI_ok S h1) (hpL_ok S h2) (star_ok (hpI_plain h1))
    · cases h
theorem flg_len {ps : PC} : (flg isC ps).length = ps.length := by simp [flg]
theorem hpE_ok (S : SuiteOk X e ie ad D cs isC) : ∀ {n : Nat} {x : Expr} {ps : PC}, hpE X.env.scope e cs n env x = some ps → PE X x (HPt X.K (HA X ie ad isC env) (flg isC ps)) ∧ compE x = false
  | 0, _, _, h => by simp [hpE] at h
  | n + 1, x, ps, h => by
    have z100 : 100 ≤ sizeLine := by decide
    cases x <;> simp only [hpE] at h <;> try cases h
    · -- BinOp
      rename_i a op b p
      cases op <;> simp only [hpE] at h <;> try cases h
      split at h
      · rename_i p q h1 h2
        split at h
        · rename_i hl
          cases h
          refine ⟨?_, rfl⟩
          have := hp_cat (pos := ‹Pos›) HA.steady (hpE_ok S h1).1 (hpE_ok S h2).1 (by rw [flg_len, flg_len]; omega)
          unfold flg at this ⊢
          rw [List.map_append]
          exact this
        · cases h
      · cases h
    · rename_i v p
      split at h
      · rename_i hc
        refine ⟨?_, rfl⟩
        have key : ∀ σ H, HA X ie ad isC env σ H → ∃ i l us, ixOf X.N v = some i ∧ σ[i]? = some (some (.ref l)) ∧ H l = some (.lst us) ∧ Prs X.K H us (flg isC ps) := fun σ H a => a.2.2 v ps h
        cases hi : ixOf X.N v with
        | none =>
          exact ⟨fun pins s σ H Q I q => by
            obtain ⟨i, l, us, z, _⟩ := key σ H q.1
            rw [hi] at z
            cases z⟩
        | some i =>
          refine hp_var (ixOf_ok hi) (visB_ok hc.1) hc.2 fun σ H a => ?_
          obtain ⟨i', l, us, z, z2⟩ := key σ H a
          rw [hi] at z
          cases z
          exact ⟨l, us, z2⟩
      · cases h
    · rename_i es p
      split at h
      · rename_i qs h1
        split at h
        · rename_i hl
          cases h
          exact ⟨hp_lst (hpL_ok S h1) (by rw [flg_len]; omega), rfl⟩
        · cases h
      · cases h
theorem words_le (ps : PC) : ((wordsOf (flg isC ps)).map (·.length)).sum ≤ (ps.map fun p => p.1.length).sum ∧ (wordsOf (flg isC ps)).length ≤ ps.length := by
  induction ps with
  | nil => exact ⟨Nat.le_refl _, Nat.le_refl _⟩
  | cons p ps ih =>
    obtain ⟨i1, i2⟩ := ih
    cases hc : isC p.2 with
    | true =>
      have e : wordsOf (flg isC (p :: ps)) = p.1 :: wordsOf (flg isC ps) := by simp [wordsOf, flg, hc]
      rw [e]
      simp only [List.map_cons, List.sum_cons, List.length_cons]
      omega
    | false =>
      have e : wordsOf (flg isC (p :: ps)) = wordsOf (flg isC ps) := by simp [wordsOf, flg, hc]
      rw [e]
      simp only [List.map_cons, List.sum_cons, List.length_cons]
      omega
theorem hpJ_ok (S : SuiteOk X e ie ad D cs isC) {n : Nat} {x : Expr} {sep : Str} {ps : PC} (h : hpJ X.N X.env.scope e cs n env x = some (sep, ps)) : PE X x (HSt (HA X ie ad isC env) (Txt.join sep (wordsOf (flg isC ps)))) := by
  unfold hpJ at h
  split at h
  · dsimp only at h
    split at h
    · rename_i i j qs g1 g2 g3
      split at h
      · rename_i hc
        cases h
        obtain ⟨rfl, rfl, rfl, c1, c2, c3, c4, c5, c6, c7, c8, c9, c10, c11⟩ := hc
        obtain ⟨w1, w2⟩ := words_le (isC := isC) ps
        have hz : ((wordsOf (flg isC ps)).map (·.length)).sum + (wordsOf (flg isC ps)).length * sep.length ≤ 16777216 := Nat.le_trans (Nat.add_le_add w1 (Nat.mul_le_mul_right _ w2)) c11
        exact hp_join HA.steady (hp_comp S.hot S.nd (hpE_ok S g3).1 c8 (ixOf_ok g1) (ixOf_ok g2) c1 (by simpa using c2) (by simpa using c3) c4 c5 c6 c7 (noSet c9)) hz c10
      · cases h
    · cases h
  · cases h
theorem hpS_ok : ∀ {n : Nat} {env : List (Str × PC)} {ss : List Stmt} {sep : Str} {ps : PC}, SuiteOk X e ie ad D cs isC → hpS X.N X.env.scope e cs n env ss = some (sep, ps) →
    PSs X ss (fun D σ H => HA X ie ad isC env σ H ∧ ∀ H1, Same H H1 → D.rt (.str (Txt.join sep (wordsOf (flg isC ps)))) H1) := by
  intro n env ss
  induction ss generalizing env with
  | nil => intro sep ps S h; simp [hpS] at h
  | cons st rest ih =>
    intro sep ps S h
    unfold hpS at h
    split at h
    · rename_i x p e1
      cases e1
      exact pss_one (ps_ret (hpJ_ok S h))
    · rename_i v pv x p rest' e1
      cases e1
      split at h
      · rename_i i ie' qs h1 h2 h3
        split at h
        · rename_i hc
          obtain ⟨q1, q2⟩ := hpE_ok S h3
          have hix := ixOf_ok h1
          refine PSs.imp (pss_cons (ps_set (pos' := pv) (pos := p) S.nd hix (.inl (locB_ok hc.1)) q1 (sw_no q2) (.inr (locB_ok hc.1))) (ih S h)) fun D σ H ⟨a, k⟩ => ?_
          have hie : ie' = ie := nodup_ix S.nd (ixOf_ok h2) S.ix
          refine ⟨a, fun l us H1 e g1 g2 => ⟨⟨?_, ?_, fun v' ps' hv => ?_⟩, fun H2 e2 => k H2 (e.trans e2)⟩⟩
          · rw [List.length_set]; exact a.1
          · rw [List.getElem?_set_ne (by rw [← hie]; exact hc.2)]; exact a.2.1
          · rw [List.lookup_cons] at hv
            split at hv
            · rename_i ev
              have ev := beq_iff_eq.mp ev
              subst ev
              cases hv
              exact ⟨i, l, us, h1, by rw [List.getElem?_set_self (by rw [a.1]; exact (List.getElem?_eq_some_iff.mp hix).1)], g1, g2⟩
            · rename_i ev
              obtain ⟨i', l', us', z1, z2, z3, z4⟩ := a.2.2 v' ps' hv
              have hne : i ≠ i' := fun z => by
                have y1 := ixOf_ok z1
                rw [← z, hix] at y1
                cases y1
                simp at ev
              exact ⟨i', l', us', z1, by rw [List.getElem?_set_ne hne]; exact z2, e _ _ z3, z4.mono e⟩
        · cases h
      · cases h
    · cases h
end
/-! ### the whole def -/
structure ErrD where
  M : Str
  e : Str
  i : Nat
  w0 : Str
  sep : Str
  ps : PC
def cErr (n : Nat) (N : List Str) (sc : Scope) (cs : List Str) (a : Str) : List Stmt → Option ErrD
  | [.Try [.Expr (.Call (.Name a' _) [] [] _) _] [.ExceptHandler (some (.Name M _)) (some e) (b0 :: suite) _] [] [] _, .Return (some (.Constant (.str w0) _ _)) _] =>
    (match ixOf N e, hpS N sc e cs n [] (b0 :: suite) with
    | some i, some (sep, ps) => if a' = a ∧ gB sc M = true ∧ dOk M = true ∧ locB sc e = true ∧ dOk e = true then some ⟨M, e, i, w0, sep, ps⟩ else none
    | _, _ => none)
  | _ => none
def gfOf (d : ErrD) (raised : List Str) (isC : Str → Str → Bool) : GF := fun o => match o with
  | none => some (.str d.w0)
  | some c => if raised.contains c = true then some (.str (Txt.join d.sep (wordsOf (flg (isC c) d.ps)))) else none
theorem err_gives {W : Wd} {X : Cx} {n : Nat} {N : List Str} {x a q : Str} {sg : Scope} {g CM : Addr} {cd : Value} {bg : List Stmt} {cs raised : List Str} {d : ErrD} {isC : Str → Str → Bool} (h : cErr n N sg cs a bg = some d) (mM : X.mg d.M = some (.ref CM)) (nd : N.Nodup) (hl : 0 < N.length) (mi : X.mg "isinstance" = none)
    (hr : ∀ c, raised.contains c = true → ∀ C, W.mg c = some (.ref C) → PySem.W.exmOne X.K (.ref C) (.ref CM) = some true ∧ ExcC X.K C ∧ ∀ c', cs.contains c' = true → ∃ C', X.mg c' = some (.ref C') ∧ PySem.W.kitOne X.K (.ref C) (.ref C') = some (isC c c')) :
    Gives W X N x sg g cd bg a q (gfOf d raised isC) := by
  unfold cErr at h
  split at h
  · rename_i a' p1 p2 p3 M p4 e b0 suite p5 p6 w0 j p7 p8
    split at h
    · rename_i i sep ps h1 h2
      split at h
      · rename_i hc
        cases h
        obtain ⟨rfl, c1, c2, c3, c4⟩ := hc
        refine try_gives (i := i) (CM := CM) c1 c2 mM nd (ixOf_ok h1) c3 hl rfl fun c y hy => ?_
        unfold gfOf at hy
        dsimp only at hy
        split at hy
        · rename_i hm
          cases hy
          refine ⟨_, rfl, fun C hC => ?_⟩
          obtain ⟨r1, r2, r3⟩ := hr c hm C hC
          refine ⟨r1, fun s H ad oe pn hz hd => ?_⟩
          have S : SuiteOk ((gotX X N x sg g cd s H).suite ad ((ad, oe) :: pn)) e i ad C cs (isC c) := ⟨call_isE r2 hz.zc hd, mi, hot_suite hz hd, nd, ixOf_ok h1, .inl (locB_ok c3), c4, r3⟩
          have hp := hpS_ok (X := (gotX X N x sg g cd s H).suite ad ((ad, oe) :: pn)) (env := []) S h2
          exact ⟨fun pins s' σ H' D I ⟨e1, e2⟩ => hp.run pins s' σ H' D I ⟨⟨I.len, e1, fun v ps hv => by cases hv⟩, e2⟩⟩
        · cases hy
      · cases h
    · cases h
  · cases h
end Ev
/-! The chain of a law's defs. -/
namespace Ev
open PySem PySem.Spec PyProof.Rows L2
theorem keys_ok {α : Type} {l : List (Str × α)} {ks : List Str} (h : (ks.all fun k => (l.lookup k).isSome) = true) {k : Str} (hk : ks.contains k = true) : ∃ v, l.lookup k = some v :=
  Option.isSome_iff_exists.mp (List.all_eq_true.mp h k (by simpa using hk))
def KeptL (P : Program) (w : World) (W : Wd) (base : Heap) (k : Nat) (fnl : List (Str × FnS)) : Prop := ∀ p ∈ fnl, Kept P w W base k p.1 p.2
section
variable {P : Program} {w : World} {W : Wd} {base : Heap} {k l : Nat} {fnl : List (Str × FnS)} {conl : List (Str × PV)} {lams : List (Str × GF)}
theorem KeptL.nil : KeptL P w W base k [] := fun p h => by simp at h
theorem KeptL.cons {x : Str} {S : FnS} (r : KeptL P w W base k fnl) (h : Kept P w W base l x S) (hl : k ≤ l) : KeptL P w W base l ((x, S) :: fnl) := fun p hp => by
  rcases List.mem_cons.mp hp with e | e
  · rw [e]; exact h
  · exact (r p e).mono hl
theorem KeptL.get (r : KeptL P w W base k fnl) : ∀ g S, (tblOf conl fnl lams).fn g = some S → Kept P w W base k g S := fun g S h => r (g, S) (PySem.mem_of_lookup h)
theorem modu_of {C : CI} (hf : (C.fs.all fun k => (fnl.lookup k).isSome) = true) (hc : (C.cons.all fun k => (conl.lookup k).isSome) = true) (con : ∀ p ∈ conl, ∃ u w, W.mg p.1 = some w ∧ RelV u w ∧ ∀ F, Rep W F p.2 u) (blt : ∀ x, x ∈ freeNames → W.mg x = none) (gcd : C.gcd = true → W.mg "gcd" = some (.builtin "math.gcd"))
    (exc : ∀ c, C.excs.contains c = true → ∃ Ca, W.mg c = some (.ref Ca) ∧ PySem.W.excIn W.K Ca [.type "ValueError", .type "Exception", .type "BaseException", .type "object"] "ValueError.__new__" = true ∧ PySem.W.keepIn W.K (.ref Ca) = true ∧ PySem.W.subIn W.K (.ref Ca) (.type "BaseException") = some true ∧ PySem.W.typeIn W.K (.ref Ca) = some (.type "type")) :
    Modu W (tblOf conl fnl lams) C := by
  refine ⟨fun f h => keys_ok hf h, fun x h => ?_, blt, gcd, exc⟩
  obtain ⟨v, hv⟩ := keys_ok hc h
  obtain ⟨u, w, h1, h2, h3⟩ := con (x, v) (PySem.mem_of_lookup hv)
  exact ⟨v, u, w, hv, h1, h2, h3⟩
/-- a promise of nothing -/
theorem kept_false {x : Str} {f : Addr} {fd : FuncData} {ps : List Str} (hm : W.mg x = some (.ref f)) (kp : PySem.W.keepIn W.K (.ref f) = true) (hb : Binds W.K fd ps []) : Kept P w W base k x (fun _ _ _ => False) :=
  ⟨k, f, fd, ps, Nat.le_refl _, ⟨fun vs H Q E h => by obtain ⟨_, _, _, _, _, _, z, _⟩ := h; exact z.elim, fun A outer s H args us vs Q E _ _ _ _ h => by obtain ⟨_, _, _, _, _, _, z, _⟩ := h; exact z.elim⟩, hm, kp, hb⟩
end
end Ev
namespace K
open PySem PySem.Spec PyProof.Rows L2 Ev
def topS (i : Nat) : Stmt := PySem.Challenge.pw_mapsdrawn_k00_whole_quotients.main.body.getD i (.Pass ⟨0, 0, 0, 0⟩)
def ci_is_whole : CI := { fs := [], cons := ["GREAT"], lams := ["_law_error"], excs := ["InvalidNumber", "InvalidQuotient", "NotFound"], gcd := true }
def B_is_whole : S := S.cons (S.ret (E.and (E.isi (E.var 0) "int") (E.and (E.not (E.isi (E.var 0) "bool")) (E.cmp2 .LtE .LtE (E.var 1) (E.var 0) (E.var 2))))) .nil
theorem c_is_whole : cSs ci_is_whole ["value", "low", "high"] 60 (defScope (topS 7)) (defBody (topS 7)) = some B_is_whole := by kernel_rfl
def ci_need_whole : CI := { fs := ["is_whole"], cons := ["GREAT", "is_whole"], lams := ["_law_error"], excs := ["InvalidNumber", "InvalidQuotient", "NotFound"], gcd := true }
def B_need_whole : S := S.cons (S.if_ (E.tn (E.tv (E.call ("is_whole" : Str) (E.cons (E.var 0) (E.cons (E.var 1) (E.cons (E.var 2) .nil)))))) (S.cons (S.raise ("InvalidNumber" : Str)) .nil) .nil) .nil
theorem c_need_whole : cSs ci_need_whole ["value", "low", "high"] 60 (defScope (topS 8)) (defBody (topS 8)) = some B_need_whole := by kernel_rfl
def ci_is_tuple_of : CI := { fs := ["is_whole", "need_whole"], cons := ["GREAT", "is_whole", "need_whole"], lams := ["_law_error"], excs := ["InvalidNumber", "InvalidQuotient", "NotFound"], gcd := true }
def B_is_tuple_of : S := S.cons (S.ret (E.and (E.isi (E.var 0) "tuple") (E.cmp2 .LtE .LtE (E.var 1) (E.blt ("len" : Str) (E.cons (E.var 0) .nil)) (E.var 2)))) .nil
theorem c_is_tuple_of : cSs ci_is_tuple_of ["value", "low", "high"] 60 (defScope (topS 9)) (defBody (topS 9)) = some B_is_tuple_of := by kernel_rfl
def ci_is_quotient : CI := { fs := ["is_whole", "need_whole", "is_tuple_of"], cons := ["GREAT", "is_whole", "need_whole", "is_tuple_of"], lams := ["_law_error"], excs := ["InvalidNumber", "InvalidQuotient", "NotFound"], gcd := true }
def B_is_quotient : S := S.cons (S.if_ (E.to (E.tn (E.tv (E.call ("is_tuple_of" : Str) (E.cons (E.var 0) (E.cons (E.int 2) (E.cons (E.int 2) .nil)))))) (E.to (E.tn (E.tv (E.call ("is_whole" : Str) (E.cons (E.ix (E.var 0) (E.int 0)) (E.cons (E.neg (E.glo ("GREAT" : Str))) (E.cons (E.glo ("GREAT" : Str)) .nil)))))) (E.tn (E.tv (E.call ("is_whole" : Str) (E.cons (E.ix (E.var 0) (E.int 1)) (E.cons (E.int 1) (E.cons (E.glo ("GREAT" : Str)) .nil)))))))) (S.cons (S.ret (E.bl false)) .nil) .nil) (S.cons (S.ret (E.cmp .Eq (E.blt ("gcd" : Str) (E.cons (E.ix (E.var 0) (E.int 0)) (E.cons (E.ix (E.var 0) (E.int 1)) .nil))) (E.int 1))) .nil)
theorem c_is_quotient : cSs ci_is_quotient ["value"] 60 (defScope (topS 12)) (defBody (topS 12)) = some B_is_quotient := by kernel_rfl
def ci_need_quotient : CI := { fs := ["is_whole", "need_whole", "is_tuple_of", "is_quotient"], cons := ["GREAT", "is_whole", "need_whole", "is_tuple_of", "is_quotient"], lams := ["_law_error"], excs := ["InvalidNumber", "InvalidQuotient", "NotFound"], gcd := true }
def B_need_quotient : S := S.cons (S.if_ (E.tn (E.tv (E.call ("is_quotient" : Str) (E.cons (E.var 0) .nil)))) (S.cons (S.raise ("InvalidQuotient" : Str)) .nil) .nil) .nil
theorem c_need_quotient : cSs ci_need_quotient ["value"] 60 (defScope (topS 13)) (defBody (topS 13)) = some B_need_quotient := by kernel_rfl
def ci_plain : CI := { fs := ["is_whole", "need_whole", "is_tuple_of", "is_quotient", "need_quotient"], cons := ["GREAT", "is_whole", "need_whole", "is_tuple_of", "is_quotient", "need_quotient"], lams := ["_law_error"], excs := ["InvalidNumber", "InvalidQuotient", "NotFound"], gcd := true }
def B_plain : S := S.cons (S.set 2 (E.blt ("gcd" : Str) (E.cons (E.var 0) (E.cons (E.var 1) .nil)))) (S.cons (S.set 2 (E.ite (E.tv (E.cmp .Gt (E.var 1) (E.int 0))) (E.var 2) (E.neg (E.var 2)))) (S.cons (S.ret (E.tup (E.cons (E.bin .FloorDiv (E.var 0) (E.var 2)) (E.cons (E.bin .FloorDiv (E.var 1) (E.var 2)) .nil)))) .nil))
theorem c_plain : cSs ci_plain ["top", "bottom", "shared"] 60 (defScope (topS 14)) (defBody (topS 14)) = some B_plain := by kernel_rfl
def ci_plus : CI := { fs := ["is_whole", "need_whole", "is_tuple_of", "is_quotient", "need_quotient", "plain"], cons := ["GREAT", "is_whole", "need_whole", "is_tuple_of", "is_quotient", "need_quotient", "plain"], lams := ["_law_error"], excs := ["InvalidNumber", "InvalidQuotient", "NotFound"], gcd := true }
def B_plus : S := S.cons (S.ret (E.call ("plain" : Str) (E.cons (E.bin .Add (E.bin .Mult (E.ix (E.var 0) (E.int 0)) (E.ix (E.var 1) (E.int 1))) (E.bin .Mult (E.ix (E.var 1) (E.int 0)) (E.ix (E.var 0) (E.int 1)))) (E.cons (E.bin .Mult (E.ix (E.var 0) (E.int 1)) (E.ix (E.var 1) (E.int 1))) .nil)))) .nil
theorem c_plus : cSs ci_plus ["one", "other"] 60 (defScope (topS 15)) (defBody (topS 15)) = some B_plus := by kernel_rfl
def ci_times : CI := { fs := ["is_whole", "need_whole", "is_tuple_of", "is_quotient", "need_quotient", "plain", "plus"], cons := ["GREAT", "is_whole", "need_whole", "is_tuple_of", "is_quotient", "need_quotient", "plain", "plus"], lams := ["_law_error"], excs := ["InvalidNumber", "InvalidQuotient", "NotFound"], gcd := true }
def B_times : S := S.cons (S.ret (E.call ("plain" : Str) (E.cons (E.bin .Mult (E.ix (E.var 0) (E.int 0)) (E.ix (E.var 1) (E.int 0))) (E.cons (E.bin .Mult (E.ix (E.var 0) (E.int 1)) (E.ix (E.var 1) (E.int 1))) .nil)))) .nil
theorem c_times : cSs ci_times ["one", "other"] 60 (defScope (topS 16)) (defBody (topS 16)) = some B_times := by kernel_rfl
def ci_lead : CI := { fs := ["is_whole", "need_whole", "is_tuple_of", "is_quotient", "need_quotient", "plain", "plus", "times"], cons := ["GREAT", "is_whole", "need_whole", "is_tuple_of", "is_quotient", "need_quotient", "plain", "plus", "times"], lams := ["_law_error"], excs := ["InvalidNumber", "InvalidQuotient", "NotFound"], gcd := true }
def B_lead : S := S.cons (S.ret (E.bin .Sub (E.bin .Mult (E.ix (E.var 0) (E.int 0)) (E.ix (E.var 1) (E.int 1))) (E.bin .Mult (E.ix (E.var 1) (E.int 0)) (E.ix (E.var 0) (E.int 1))))) .nil
theorem c_lead : cSs ci_lead ["one", "other"] 60 (defScope (topS 17)) (defBody (topS 17)) = some B_lead := by kernel_rfl
def ci_quotient : CI := { fs := ["is_whole", "need_whole", "is_tuple_of", "is_quotient", "need_quotient", "plain", "plus", "times", "lead"], cons := ["GREAT", "is_whole", "need_whole", "is_tuple_of", "is_quotient", "need_quotient", "plain", "plus", "times", "lead"], lams := ["_law_error"], excs := ["InvalidNumber", "InvalidQuotient", "NotFound"], gcd := true }
def B_quotient : S := S.cons (S.expr (E.call ("need_whole" : Str) (E.cons (E.var 0) (E.cons (E.neg (E.glo ("GREAT" : Str))) (E.cons (E.glo ("GREAT" : Str)) .nil))))) (S.cons (S.expr (E.call ("need_whole" : Str) (E.cons (E.var 1) (E.cons (E.neg (E.glo ("GREAT" : Str))) (E.cons (E.glo ("GREAT" : Str)) .nil))))) (S.cons (S.if_ (E.tv (E.cmp .Eq (E.var 1) (E.int 0))) (S.cons (S.raise ("InvalidNumber" : Str)) .nil) .nil) (S.cons (S.ret (E.call ("plain" : Str) (E.cons (E.var 0) (E.cons (E.var 1) .nil)))) .nil)))
theorem c_quotient : cSs ci_quotient ["top", "bottom"] 60 (defScope (topS 18)) (defBody (topS 18)) = some B_quotient := by kernel_rfl
def ci_quotient_sum : CI := { fs := ["is_whole", "need_whole", "is_tuple_of", "is_quotient", "need_quotient", "plain", "plus", "times", "lead", "quotient"], cons := ["GREAT", "is_whole", "need_whole", "is_tuple_of", "is_quotient", "need_quotient", "plain", "plus", "times", "lead", "quotient"], lams := ["_law_error"], excs := ["InvalidNumber", "InvalidQuotient", "NotFound"], gcd := true }
def B_quotient_sum : S := S.cons (S.expr (E.call ("need_quotient" : Str) (E.cons (E.var 0) .nil))) (S.cons (S.expr (E.call ("need_quotient" : Str) (E.cons (E.var 1) .nil))) (S.cons (S.ret (E.call ("plus" : Str) (E.cons (E.var 0) (E.cons (E.var 1) .nil)))) .nil))
theorem c_quotient_sum : cSs ci_quotient_sum ["one", "other"] 60 (defScope (topS 19)) (defBody (topS 19)) = some B_quotient_sum := by kernel_rfl
def ci_quotient_product : CI := { fs := ["is_whole", "need_whole", "is_tuple_of", "is_quotient", "need_quotient", "plain", "plus", "times", "lead", "quotient", "quotient_sum"], cons := ["GREAT", "is_whole", "need_whole", "is_tuple_of", "is_quotient", "need_quotient", "plain", "plus", "times", "lead", "quotient", "quotient_sum"], lams := ["_law_error"], excs := ["InvalidNumber", "InvalidQuotient", "NotFound"], gcd := true }
def B_quotient_product : S := S.cons (S.expr (E.call ("need_quotient" : Str) (E.cons (E.var 0) .nil))) (S.cons (S.expr (E.call ("need_quotient" : Str) (E.cons (E.var 1) .nil))) (S.cons (S.ret (E.call ("times" : Str) (E.cons (E.var 0) (E.cons (E.var 1) .nil)))) .nil))
theorem c_quotient_product : cSs ci_quotient_product ["one", "other"] 60 (defScope (topS 20)) (defBody (topS 20)) = some B_quotient_product := by kernel_rfl
def ci_quotient_by : CI := { fs := ["is_whole", "need_whole", "is_tuple_of", "is_quotient", "need_quotient", "plain", "plus", "times", "lead", "quotient", "quotient_sum", "quotient_product"], cons := ["GREAT", "is_whole", "need_whole", "is_tuple_of", "is_quotient", "need_quotient", "plain", "plus", "times", "lead", "quotient", "quotient_sum", "quotient_product"], lams := ["_law_error"], excs := ["InvalidNumber", "InvalidQuotient", "NotFound"], gcd := true }
def B_quotient_by : S := S.cons (S.expr (E.call ("need_quotient" : Str) (E.cons (E.var 0) .nil))) (S.cons (S.expr (E.call ("need_quotient" : Str) (E.cons (E.var 1) .nil))) (S.cons (S.if_ (E.tv (E.cmp .Eq (E.ix (E.var 1) (E.int 0)) (E.int 0))) (S.cons (S.raise ("NotFound" : Str)) .nil) .nil) (S.cons (S.ret (E.call ("plain" : Str) (E.cons (E.bin .Mult (E.ix (E.var 0) (E.int 0)) (E.ix (E.var 1) (E.int 1))) (E.cons (E.bin .Mult (E.ix (E.var 0) (E.int 1)) (E.ix (E.var 1) (E.int 0))) .nil)))) .nil)))
theorem c_quotient_by : cSs ci_quotient_by ["one", "other"] 60 (defScope (topS 21)) (defBody (topS 21)) = some B_quotient_by := by kernel_rfl
def ci_is_greater : CI := { fs := ["is_whole", "need_whole", "is_tuple_of", "is_quotient", "need_quotient", "plain", "plus", "times", "lead", "quotient", "quotient_sum", "quotient_product", "quotient_by"], cons := ["GREAT", "is_whole", "need_whole", "is_tuple_of", "is_quotient", "need_quotient", "plain", "plus", "times", "lead", "quotient", "quotient_sum", "quotient_product", "quotient_by"], lams := ["_law_error"], excs := ["InvalidNumber", "InvalidQuotient", "NotFound"], gcd := true }
def B_is_greater : S := S.cons (S.expr (E.call ("need_quotient" : Str) (E.cons (E.var 0) .nil))) (S.cons (S.expr (E.call ("need_quotient" : Str) (E.cons (E.var 1) .nil))) (S.cons (S.ret (E.cmp .Gt (E.call ("lead" : Str) (E.cons (E.var 0) (E.cons (E.var 1) .nil))) (E.int 0))) .nil))
theorem c_is_greater : cSs ci_is_greater ["one", "other"] 60 (defScope (topS 22)) (defBody (topS 22)) = some B_is_greater := by kernel_rfl
def ci__law_cup : CI := { fs := ["is_whole", "need_whole", "is_tuple_of", "is_quotient", "need_quotient", "plain", "plus", "times", "lead", "quotient", "quotient_sum", "quotient_product", "quotient_by", "is_greater"], cons := ["GREAT", "is_whole", "need_whole", "is_tuple_of", "is_quotient", "need_quotient", "plain", "plus", "times", "lead", "quotient", "quotient_sum", "quotient_product", "quotient_by", "is_greater"], lams := ["_law_error"], excs := ["InvalidNumber", "InvalidQuotient", "NotFound"], gcd := true }
def B__law_cup : S := S.cons (S.set 1 (E.blt ("abs" : Str) (E.cons (E.ix (E.bin .Add (E.blt ("list" : Str) (E.cons (E.var 0) .nil)) (E.lst (E.cons (E.int 0) .nil))) (E.int 0)) .nil))) (S.cons (S.ret (E.lst (E.cons (E.ite (E.tv (E.cmp .GtE (E.var 1) (E.bin .Pow (E.int 10) (E.int 18)))) (E.bin .FloorDiv (E.var 1) (E.int 151)) (E.int 0)) (E.cons (E.bin .Add (E.bin .Mod (E.blt ("int" : Str) (E.cons (E.bin .Add (E.bin .Mult (E.var 1) (E.int 401)) (E.int 5923)) .nil)) (E.int 1924129563)) (E.int 257)) .nil)))) .nil)
theorem c__law_cup : cSs ci__law_cup ["script", "cell"] 60 (defScope (topS 24)) (defBody (topS 24)) = some B__law_cup := by kernel_rfl
def ci__law_roll : CI := { fs := ["is_whole", "need_whole", "is_tuple_of", "is_quotient", "need_quotient", "plain", "plus", "times", "lead", "quotient", "quotient_sum", "quotient_product", "quotient_by", "is_greater", "_law_cup"], cons := ["GREAT", "is_whole", "need_whole", "is_tuple_of", "is_quotient", "need_quotient", "plain", "plus", "times", "lead", "quotient", "quotient_sum", "quotient_product", "quotient_by", "is_greater", "_law_cup"], lams := ["_law_error"], excs := ["InvalidNumber", "InvalidQuotient", "NotFound"], gcd := true }
def B__law_roll : S := S.cons (S.if_ (E.tv (E.cmp .Gt (E.ix (E.var 0) (E.int 0)) (E.int 0))) (S.cons (S.set 2 (E.bin .Mod (E.blt ("int" : Str) (E.cons (E.ix (E.var 0) (E.int 0)) .nil)) (E.var 1))) (S.cons (S.seti 0 (E.int 0) (E.bin .FloorDiv (E.ix (E.var 0) (E.int 0)) (E.var 1))) (S.cons (S.ret (E.var 2)) .nil))) .nil) (S.cons (S.seti 0 (E.int 1) (E.bin .Mod (E.blt ("int" : Str) (E.cons (E.bin .Add (E.bin .Mult (E.ix (E.var 0) (E.int 1)) (E.int 29437)) (E.int 9613)) .nil)) (E.int 2147483543))) (S.cons (S.set 3 (E.bin .Mod (E.blt ("int" : Str) (E.cons (E.bin .Mult (E.ix (E.var 0) (E.int 1)) (E.bin .Add (E.ix (E.var 0) (E.int 1)) (E.int 337))) .nil)) (E.int 2147483587))) (S.cons (S.ret (E.bin .Mod (E.blt ("int" : Str) (E.cons (E.bin .FloorDiv (E.var 3) (E.int 937)) .nil)) (E.var 1))) .nil)))
theorem c__law_roll : cSs ci__law_roll ["cup", "many", "found", "deep"] 60 (defScope (topS 25)) (defBody (topS 25)) = some B__law_roll := by kernel_rfl
def ci__law_some : CI := { fs := ["is_whole", "need_whole", "is_tuple_of", "is_quotient", "need_quotient", "plain", "plus", "times", "lead", "quotient", "quotient_sum", "quotient_product", "quotient_by", "is_greater", "_law_cup", "_law_roll"], cons := ["GREAT", "is_whole", "need_whole", "is_tuple_of", "is_quotient", "need_quotient", "plain", "plus", "times", "lead", "quotient", "quotient_sum", "quotient_product", "quotient_by", "is_greater", "_law_cup", "_law_roll"], lams := ["_law_error"], excs := ["InvalidNumber", "InvalidQuotient", "NotFound"], gcd := true }
def B__law_some : S := S.cons (S.ret (E.ix (E.var 1) (E.call ("_law_roll" : Str) (E.cons (E.var 0) (E.cons (E.blt ("len" : Str) (E.cons (E.var 1) .nil)) .nil))))) .nil
theorem c__law_some : cSs ci__law_some ["cup", "things"] 60 (defScope (topS 26)) (defBody (topS 26)) = some B__law_some := by kernel_rfl
def ci__law_sort : CI := { fs := ["is_whole", "need_whole", "is_tuple_of", "is_quotient", "need_quotient", "plain", "plus", "times", "lead", "quotient", "quotient_sum", "quotient_product", "quotient_by", "is_greater", "_law_cup", "_law_roll", "_law_some"], cons := ["GREAT", "is_whole", "need_whole", "is_tuple_of", "is_quotient", "need_quotient", "plain", "plus", "times", "lead", "quotient", "quotient_sum", "quotient_product", "quotient_by", "is_greater", "_law_cup", "_law_roll", "_law_some"], lams := ["_law_error"], excs := ["InvalidNumber", "InvalidQuotient", "NotFound"], gcd := true }
def B__law_sort : S := S.cons (S.if_ (E.to (E.tv (E.cmp .Is (E.var 0) .non)) (E.tv (E.isi (E.var 0) "bool"))) (S.cons (S.ret (E.ite (E.tv (E.cmp .Is (E.var 0) .non)) (E.int 0) (E.int 1))) .nil) .nil) (S.cons (S.if_ (E.to (E.tv (E.isi (E.var 0) "int")) (E.tv (E.isi (E.var 0) "str"))) (S.cons (S.ret (E.ite (E.tv (E.isi (E.var 0) "int")) (E.int 2) (E.int 3))) .nil) .nil) (S.cons (S.ret (E.ite (E.tv (E.isi (E.var 0) "tuple")) (E.int 4) (E.ite (E.tv (E.isi (E.var 0) "list")) (E.int 5) (E.int 6)))) .nil))
theorem c__law_sort : cSs ci__law_sort ["value"] 60 (defScope (topS 27)) (defBody (topS 27)) = some B__law_sort := by kernel_rfl
def ci__law_like : CI := { fs := ["is_whole", "need_whole", "is_tuple_of", "is_quotient", "need_quotient", "plain", "plus", "times", "lead", "quotient", "quotient_sum", "quotient_product", "quotient_by", "is_greater", "_law_cup", "_law_roll", "_law_some", "_law_sort", "_law_like"], cons := ["GREAT", "is_whole", "need_whole", "is_tuple_of", "is_quotient", "need_quotient", "plain", "plus", "times", "lead", "quotient", "quotient_sum", "quotient_product", "quotient_by", "is_greater", "_law_cup", "_law_roll", "_law_some", "_law_sort", "_law_like"], lams := ["_law_error"], excs := ["InvalidNumber", "InvalidQuotient", "NotFound"], gcd := true }
def B__law_like : S := S.cons (S.set 2 (E.call ("_law_sort" : Str) (E.cons (E.var 1) .nil))) (S.cons (S.if_ (E.to (E.tv (E.cmp .NotEq (E.call ("_law_sort" : Str) (E.cons (E.var 0) .nil)) (E.var 2))) (E.tv (E.cmp .Eq (E.var 2) (E.int 6)))) (S.cons (S.ret (E.bl false)) .nil) .nil) (S.cons (S.if_ (E.tv (E.cmp .In (E.var 2) (E.tup (E.cons (E.int 4) (E.cons (E.int 5) .nil))))) (S.cons (S.ret (E.and (E.cmp .Eq (E.blt ("len" : Str) (E.cons (E.var 0) .nil)) (E.blt ("len" : Str) (E.cons (E.var 1) .nil))) (E.cmp .Eq (E.lc (E.int 1) (Tg.tup (Tg.cons (Tg.nam 3) (Tg.cons (Tg.nam 4) .nil))) (E.zip (E.var 0) (E.var 1)) (E.tn (E.tv (E.call ("_law_like" : Str) (E.cons (E.var 3) (E.cons (E.var 4) .nil))))) [3, 4]) (E.lst .nil)))) .nil) .nil) (S.cons (S.ret (E.cmp .Eq (E.var 0) (E.var 1))) .nil)))
theorem c__law_like : cSs ci__law_like ["one", "other", "sort", "first", "second"] 60 (defScope (topS 28)) (defBody (topS 28)) = some B__law_like := by kernel_rfl
def ci__law_divisor : CI := { fs := ["is_whole", "need_whole", "is_tuple_of", "is_quotient", "need_quotient", "plain", "plus", "times", "lead", "quotient", "quotient_sum", "quotient_product", "quotient_by", "is_greater", "_law_cup", "_law_roll", "_law_some", "_law_sort", "_law_like"], cons := ["GREAT", "is_whole", "need_whole", "is_tuple_of", "is_quotient", "need_quotient", "plain", "plus", "times", "lead", "quotient", "quotient_sum", "quotient_product", "quotient_by", "is_greater", "_law_cup", "_law_roll", "_law_some", "_law_sort", "_law_like"], lams := ["_law_error"], excs := ["InvalidNumber", "InvalidQuotient", "NotFound"], gcd := true }
def B__law_divisor : S := S.cons (S.for_ (Tg.nam 2) (E.rng (E.int 0) (E.int 1200)) (S.cons (S.if_ (E.tv (E.cmp .Eq (E.var 1) (E.int 0))) (S.cons (S.ret (E.var 0)) .nil) .nil) (S.cons (S.par 0 1 (E.var 1) (E.bin .Mod (E.var 0) (E.var 1))) .nil))) (S.cons (S.ret (E.var 0)) .nil)
theorem c__law_divisor : cSs ci__law_divisor ["one", "other", "turn"] 60 (defScope (topS 29)) (defBody (topS 29)) = some B__law_divisor := by kernel_rfl
def ci__law_plain : CI := { fs := ["is_whole", "need_whole", "is_tuple_of", "is_quotient", "need_quotient", "plain", "plus", "times", "lead", "quotient", "quotient_sum", "quotient_product", "quotient_by", "is_greater", "_law_cup", "_law_roll", "_law_some", "_law_sort", "_law_like", "_law_divisor"], cons := ["GREAT", "is_whole", "need_whole", "is_tuple_of", "is_quotient", "need_quotient", "plain", "plus", "times", "lead", "quotient", "quotient_sum", "quotient_product", "quotient_by", "is_greater", "_law_cup", "_law_roll", "_law_some", "_law_sort", "_law_like", "_law_divisor"], lams := ["_law_error"], excs := ["InvalidNumber", "InvalidQuotient", "NotFound"], gcd := true }
def B__law_plain : S := S.cons (S.set 2 (E.call ("_law_divisor" : Str) (E.cons (E.blt ("abs" : Str) (E.cons (E.var 0) .nil)) (E.cons (E.blt ("abs" : Str) (E.cons (E.var 1) .nil)) .nil)))) (S.cons (S.set 2 (E.ite (E.tv (E.cmp .Gt (E.var 1) (E.int 0))) (E.var 2) (E.neg (E.var 2)))) (S.cons (S.ret (E.tup (E.cons (E.bin .FloorDiv (E.var 0) (E.var 2)) (E.cons (E.bin .FloorDiv (E.var 1) (E.var 2)) .nil)))) .nil))
theorem c__law_plain : cSs ci__law_plain ["top", "bottom", "shared"] 60 (defScope (topS 30)) (defBody (topS 30)) = some B__law_plain := by kernel_rfl
def ci__law_great : CI := { fs := ["is_whole", "need_whole", "is_tuple_of", "is_quotient", "need_quotient", "plain", "plus", "times", "lead", "quotient", "quotient_sum", "quotient_product", "quotient_by", "is_greater", "_law_cup", "_law_roll", "_law_some", "_law_sort", "_law_like", "_law_divisor", "_law_plain"], cons := ["GREAT", "is_whole", "need_whole", "is_tuple_of", "is_quotient", "need_quotient", "plain", "plus", "times", "lead", "quotient", "quotient_sum", "quotient_product", "quotient_by", "is_greater", "_law_cup", "_law_roll", "_law_some", "_law_sort", "_law_like", "_law_divisor", "_law_plain"], lams := ["_law_error"], excs := ["InvalidNumber", "InvalidQuotient", "NotFound"], gcd := true }
def B__law_great : S := S.cons (S.set 2 (E.int 0)) (S.cons (S.for_ (Tg.nam 3) (E.rng (E.int 0) (E.int 4)) (S.cons (S.set 2 (E.bin .Mod (E.blt ("int" : Str) (E.cons (E.bin .Add (E.bin .Add (E.bin .Mult (E.var 2) (E.bin .Pow (E.int 10) (E.int 18))) (E.bin .Mult (E.call ("_law_roll" : Str) (E.cons (E.var 0) (E.cons (E.bin .Pow (E.int 10) (E.int 9)) .nil))) (E.bin .Pow (E.int 10) (E.int 9)))) (E.call ("_law_roll" : Str) (E.cons (E.var 0) (E.cons (E.bin .Pow (E.int 10) (E.int 9)) .nil)))) .nil)) (E.bin .Add (E.var 1) (E.int 1)))) .nil)) (S.cons (S.ret (E.var 2)) .nil))
theorem c__law_great : cSs ci__law_great ["cup", "size", "found", "turn"] 60 (defScope (topS 31)) (defBody (topS 31)) = some B__law_great := by kernel_rfl
def ci__law_quotient : CI := { fs := ["is_whole", "need_whole", "is_tuple_of", "is_quotient", "need_quotient", "plain", "plus", "times", "lead", "quotient", "quotient_sum", "quotient_product", "quotient_by", "is_greater", "_law_cup", "_law_roll", "_law_some", "_law_sort", "_law_like", "_law_divisor", "_law_plain", "_law_great"], cons := ["GREAT", "is_whole", "need_whole", "is_tuple_of", "is_quotient", "need_quotient", "plain", "plus", "times", "lead", "quotient", "quotient_sum", "quotient_product", "quotient_by", "is_greater", "_law_cup", "_law_roll", "_law_some", "_law_sort", "_law_like", "_law_divisor", "_law_plain", "_law_great"], lams := ["_law_error"], excs := ["InvalidNumber", "InvalidQuotient", "NotFound"], gcd := true }
def B__law_quotient : S := S.cons (S.set 1 (E.call ("_law_some" : Str) (E.cons (E.var 0) (E.cons (E.lst (E.cons (E.int 1) (E.cons (E.int 8) (E.cons (E.bin .Pow (E.int 10) (E.int 12)) (E.cons (E.bin .Pow (E.int 10) (E.int 60)) .nil))))) .nil)))) (S.cons (S.ret (E.call ("_law_plain" : Str) (E.cons (E.bin .Mult (E.call ("_law_great" : Str) (E.cons (E.var 0) (E.cons (E.var 1) .nil))) (E.call ("_law_some" : Str) (E.cons (E.var 0) (E.cons (E.lst (E.cons (E.int 1) (E.cons (E.neg (E.int 1)) .nil))) .nil)))) (E.cons (E.bin .Add (E.int 1) (E.call ("_law_great" : Str) (E.cons (E.var 0) (E.cons (E.bin .Sub (E.var 1) (E.int 1)) .nil)))) .nil)))) .nil)
theorem c__law_quotient : cSs ci__law_quotient ["cup", "size"] 60 (defScope (topS 32)) (defBody (topS 32)) = some B__law_quotient := by kernel_rfl
def ci__law_pair_right : CI := { fs := ["is_whole", "need_whole", "is_tuple_of", "is_quotient", "need_quotient", "plain", "plus", "times", "lead", "quotient", "quotient_sum", "quotient_product", "quotient_by", "is_greater", "_law_cup", "_law_roll", "_law_some", "_law_sort", "_law_like", "_law_divisor", "_law_plain", "_law_great", "_law_quotient"], cons := ["GREAT", "is_whole", "need_whole", "is_tuple_of", "is_quotient", "need_quotient", "plain", "plus", "times", "lead", "quotient", "quotient_sum", "quotient_product", "quotient_by", "is_greater", "_law_cup", "_law_roll", "_law_some", "_law_sort", "_law_like", "_law_divisor", "_law_plain", "_law_great", "_law_quotient"], lams := ["_law_error"], excs := ["InvalidNumber", "InvalidQuotient", "NotFound"], gcd := true, lamIn := fun sc => decide (sc.names = (defScope (topS 34)).names) }
def B__law_pair_right_5 : S := S.cons (S.ret (E.call ("_law_like" : Str) (E.cons (E.call ("quotient_by" : Str) (E.cons (E.var 0) (E.cons (E.var 1) .nil))) (E.cons (E.call ("_law_plain" : Str) (E.cons (E.bin .Mult (E.ix (E.var 0) (E.int 0)) (E.ix (E.var 1) (E.int 1))) (E.cons (E.bin .Mult (E.ix (E.var 0) (E.int 1)) (E.ix (E.var 1) (E.int 0))) .nil))) .nil)))) .nil
def B__law_pair_right_4 : S := S.cons (S.if_ (E.tv (E.cmp .Eq (E.ix (E.var 1) (E.int 0)) (E.int 0))) (S.cons (S.ret (E.cmp .Eq (E.lam ("_law_error" : Str) (E.call ("quotient_by" : Str) (E.cons (E.var 0) (E.cons (E.var 1) .nil)))) (E.str ("no" : Str)))) .nil) .nil) B__law_pair_right_5
def B__law_pair_right_3 : S := S.cons (S.if_ (E.tn (E.tv (E.call ("_law_like" : Str) (E.cons (E.var 4) (E.cons (E.var 5) .nil))))) (S.cons (S.ret (E.bl false)) .nil) .nil) B__law_pair_right_4
def B__law_pair_right_2 : S := S.cons (S.set 5 (E.lst (E.cons (E.call ("_law_plain" : Str) (E.cons (E.bin .Add (E.var 2) (E.var 3)) (E.cons (E.bin .Mult (E.ix (E.var 0) (E.int 1)) (E.ix (E.var 1) (E.int 1))) .nil))) (E.cons (E.call ("_law_plain" : Str) (E.cons (E.bin .Mult (E.ix (E.var 0) (E.int 0)) (E.ix (E.var 1) (E.int 0))) (E.cons (E.bin .Mult (E.ix (E.var 0) (E.int 1)) (E.ix (E.var 1) (E.int 1))) .nil))) (E.cons (E.cmp .Gt (E.var 2) (E.var 3)) (E.cons (E.bl true) .nil)))))) B__law_pair_right_3
def B__law_pair_right_1 : S := S.cons (S.set 4 (E.lst (E.cons (E.call ("quotient_sum" : Str) (E.cons (E.var 0) (E.cons (E.var 1) .nil))) (E.cons (E.call ("quotient_product" : Str) (E.cons (E.var 0) (E.cons (E.var 1) .nil))) (E.cons (E.call ("is_greater" : Str) (E.cons (E.var 0) (E.cons (E.var 1) .nil))) (E.cons (E.call ("is_quotient" : Str) (E.cons (E.var 0) .nil)) .nil)))))) B__law_pair_right_2
def B__law_pair_right : S := S.cons (S.par 2 3 (E.bin .Mult (E.ix (E.var 0) (E.int 0)) (E.ix (E.var 1) (E.int 1))) (E.bin .Mult (E.ix (E.var 1) (E.int 0)) (E.ix (E.var 0) (E.int 1)))) B__law_pair_right_1
theorem c__law_pair_right : cSs ci__law_pair_right ["one", "other", "first", "second", "told", "due"] 60 (defScope (topS 34)) (defBody (topS 34)) = some B__law_pair_right := by kernel_rfl
def ci_law : CI := { fs := ["is_whole", "need_whole", "is_tuple_of", "is_quotient", "need_quotient", "plain", "plus", "times", "lead", "quotient", "quotient_sum", "quotient_product", "quotient_by", "is_greater", "_law_cup", "_law_roll", "_law_some", "_law_sort", "_law_like", "_law_divisor", "_law_plain", "_law_great", "_law_quotient", "_law_pair_right"], cons := ["GREAT", "is_whole", "need_whole", "is_tuple_of", "is_quotient", "need_quotient", "plain", "plus", "times", "lead", "quotient", "quotient_sum", "quotient_product", "quotient_by", "is_greater", "_law_cup", "_law_roll", "_law_some", "_law_sort", "_law_like", "_law_divisor", "_law_plain", "_law_great", "_law_quotient", "_law_pair_right"], lams := ["_law_error"], excs := ["InvalidNumber", "InvalidQuotient", "NotFound"], gcd := true, lamIn := fun sc => decide (sc.names = (defScope (topS 35)).names) }
def B_law_13 : S := S.cons (S.ret (E.cmp .Eq (E.var 10) (E.bin .Add (E.bin .Mult (E.lst (E.cons (E.str ("quotient" : Str)) .nil)) (E.int 8)) (E.bin .Mult (E.lst (E.cons (E.str ("number" : Str)) .nil)) (E.int 6))))) .nil
def B_law_12 : S := S.cons (S.for_ (Tg.nam 12) (E.it (E.tup (E.cons (E.tup (E.cons (E.bin .Add (E.var 5) (E.int 1)) (E.cons (E.int 1) .nil))) (E.cons (E.tup (E.cons (E.int 1) (E.cons (E.bin .Add (E.var 5) (E.int 1)) .nil))) (E.cons (E.tup (E.cons (E.int 1) (E.cons (E.int 0) .nil))) (E.cons (E.tup (E.cons (E.bl true) (E.cons (E.int 1) .nil))) (E.cons (E.tup (E.cons (E.int 1) (E.cons .non .nil))) (E.cons (E.tup (E.cons .non (E.cons (E.int 0) .nil))) .nil)))))))) (S.cons (S.set 10 (E.bin .Add (E.var 10) (E.lst (E.cons (E.lam ("_law_error" : Str) (E.call ("quotient" : Str) (E.cons (E.ix (E.var 12) (E.int 0)) (E.cons (E.ix (E.var 12) (E.int 1)) .nil)))) .nil)))) .nil)) B_law_13
def B_law_11 : S := S.cons (S.for_ (Tg.nam 11) (E.it (E.tup (E.cons (E.glo ("quotient_sum" : Str)) (E.cons (E.glo ("quotient_product" : Str)) (E.cons (E.glo ("quotient_by" : Str)) (E.cons (E.glo ("is_greater" : Str)) .nil)))))) (S.cons (S.set 10 (E.bin .Add (E.var 10) (E.lst (E.cons (E.lam ("_law_error" : Str) (E.cvr 11 (E.cons (E.var 9) (E.cons (E.var 9) .nil)))) .nil)))) (S.cons (S.set 10 (E.bin .Add (E.var 10) (E.lst (E.cons (E.lam ("_law_error" : Str) (E.cvr 11 (E.cons (E.tup (E.cons (E.int 0) (E.cons (E.int 1) .nil))) (E.cons (E.var 9) .nil)))) .nil)))) .nil))) B_law_12
def B_law_10 : S := S.cons (S.tup (Tg.tup (Tg.cons (Tg.nam 9) (Tg.cons (Tg.nam 10) .nil))) (E.tup (E.cons (E.call ("_law_some" : Str) (E.cons (E.var 1) (E.cons (E.sl (E.var 7) (E.tv (E.int 4)) .noe) .nil))) (E.cons (E.lst .nil) .nil)))) B_law_11
def B_law_9 : S := S.cons (S.if_ (E.tn (E.tv (E.call ("_law_like" : Str) (E.cons (E.lc (E.call ("is_quotient" : Str) (E.cons (E.var 8) .nil)) (Tg.nam 8) (E.it (E.var 7)) .noe [8]) (E.cons (E.bin .Add (E.bin .Mult (E.lst (E.cons (E.bl true) .nil)) (E.int 4)) (E.bin .Mult (E.lst (E.cons (E.bl false) .nil)) (E.int 16))) .nil))))) (S.cons (S.ret (E.bl false)) .nil) .nil) B_law_10
def B_law_8 : S := S.cons (S.set 7 (E.bin .Add (E.var 7) (E.lst (E.cons (E.tup (E.cons (E.int 1) .nil)) (E.cons (E.tup (E.cons (E.int 1) (E.cons (E.int 2) (E.cons (E.int 3) .nil)))) (E.cons (E.tup (E.cons (E.bl true) (E.cons (E.int 2) .nil))) (E.cons (E.tup (E.cons (E.int 1) (E.cons (E.bl true) .nil))) (E.cons .non (E.cons (E.int 1) (E.cons (E.str ("1/2" : Str)) (E.cons (E.tup (E.cons (E.tup (E.cons (E.int 1) .nil)) (E.cons (E.int 2) .nil))) .nil))))))))))) B_law_9
def B_law_7 : S := S.cons (S.set 7 (E.lst (E.cons (E.tup (E.cons (E.int 1) (E.cons (E.int 2) .nil))) (E.cons (E.tup (E.cons (E.int 0) (E.cons (E.int 1) .nil))) (E.cons (E.tup (E.cons (E.var 5) (E.cons (E.int 1) .nil))) (E.cons (E.tup (E.cons (E.int 1) (E.cons (E.var 5) .nil))) (E.cons (E.tup (E.cons (E.bin .Add (E.var 5) (E.int 1)) (E.cons (E.int 1) .nil))) (E.cons (E.tup (E.cons (E.bin .Sub (E.neg (E.var 5)) (E.int 1)) (E.cons (E.int 1) .nil))) (E.cons (E.tup (E.cons (E.int 1) (E.cons (E.bin .Add (E.var 5) (E.int 1)) .nil))) (E.cons (E.tup (E.cons (E.int 2) (E.cons (E.int 4) .nil))) (E.cons (E.tup (E.cons (E.int 0) (E.cons (E.int 2) .nil))) (E.cons (E.tup (E.cons (E.int 1) (E.cons (E.int 0) .nil))) (E.cons (E.tup (E.cons (E.int 1) (E.cons (E.neg (E.int 2)) .nil))) (E.cons (E.lst (E.cons (E.int 1) (E.cons (E.int 2) .nil))) .nil)))))))))))))) B_law_8
def B_law_6 : S := S.cons (S.if_ (E.tn (E.tv (E.call ("_law_like" : Str) (E.cons (E.var 6) (E.cons (E.lst (E.cons (E.tup (E.cons (E.neg (E.int 3)) (E.cons (E.int 2) .nil))) (E.cons (E.tup (E.cons (E.int 0) (E.cons (E.int 1) .nil))) (E.cons (E.tup (E.cons (E.int 1) (E.cons (E.int 1) .nil))) (E.cons (E.tup (E.cons (E.int 5) (E.cons (E.int 6) .nil))) (E.cons (E.tup (E.cons (E.neg (E.int 1)) (E.cons (E.int 6) .nil))) (E.cons (E.tup (E.cons (E.bin .Mult (E.var 5) (E.var 5)) (E.cons (E.int 1) .nil))) (E.cons (E.tup (E.cons (E.neg (E.int 1)) (E.cons (E.int 2) .nil))) (E.cons (E.bl false) (E.cons (E.bl true) .nil)))))))))) .nil))))) (S.cons (S.ret (E.bl false)) .nil) .nil) B_law_7
def B_law_5 : S := S.cons (S.set 6 (E.bin .Add (E.var 6) (E.lst (E.cons (E.call ("quotient_product" : Str) (E.cons (E.tup (E.cons (E.var 5) (E.cons (E.int 1) .nil))) (E.cons (E.tup (E.cons (E.var 5) (E.cons (E.int 1) .nil))) .nil))) (E.cons (E.call ("quotient_product" : Str) (E.cons (E.tup (E.cons (E.int 2) (E.cons (E.int 3) .nil))) (E.cons (E.tup (E.cons (E.neg (E.int 3)) (E.cons (E.int 4) .nil))) .nil))) (E.cons (E.call ("is_greater" : Str) (E.cons (E.tup (E.cons (E.int 2) (E.cons (E.int 3) .nil))) (E.cons (E.tup (E.cons (E.int 3) (E.cons (E.int 4) .nil))) .nil))) (E.cons (E.call ("is_greater" : Str) (E.cons (E.tup (E.cons (E.neg (E.int 1)) (E.cons (E.int 2) .nil))) (E.cons (E.tup (E.cons (E.neg (E.int 2)) (E.cons (E.int 3) .nil))) .nil))) .nil))))))) B_law_6
def B_law_4 : S := S.cons (S.set 6 (E.lst (E.cons (E.call ("quotient" : Str) (E.cons (E.int 6) (E.cons (E.neg (E.int 4)) .nil))) (E.cons (E.call ("quotient" : Str) (E.cons (E.int 0) (E.cons (E.neg (E.var 5)) .nil))) (E.cons (E.call ("quotient" : Str) (E.cons (E.var 5) (E.cons (E.var 5) .nil))) (E.cons (E.call ("quotient_sum" : Str) (E.cons (E.tup (E.cons (E.int 1) (E.cons (E.int 2) .nil))) (E.cons (E.tup (E.cons (E.int 1) (E.cons (E.int 3) .nil))) .nil))) (E.cons (E.call ("quotient_by" : Str) (E.cons (E.tup (E.cons (E.int 1) (E.cons (E.int 2) .nil))) (E.cons (E.tup (E.cons (E.neg (E.int 3)) (E.cons (E.int 1) .nil))) .nil))) .nil))))))) B_law_5
def B_law_3 : S := S.cons (S.set 5 (E.bin .Pow (E.int 10) (E.int 60))) B_law_4
def B_law_2 : S := S.cons (S.for_ (Tg.nam 3) (E.rng (E.int 0) (E.int 10)) (S.cons (S.set 4 (E.call ("_law_quotient" : Str) (E.cons (E.var 1) .nil))) (S.cons (S.if_ (E.to (E.tn (E.tv (E.call ("_law_pair_right" : Str) (E.cons (E.var 4) (E.cons (E.var 2) .nil))))) (E.to (E.tn (E.tv (E.call ("_law_pair_right" : Str) (E.cons (E.var 2) (E.cons (E.var 4) .nil))))) (E.tn (E.tv (E.call ("_law_pair_right" : Str) (E.cons (E.var 4) (E.cons (E.var 4) .nil))))))) (S.cons (S.ret (E.bl false)) .nil) .nil) (S.cons (S.set 2 (E.var 4)) .nil)))) B_law_3
def B_law_1 : S := S.cons (S.set 2 (E.call ("_law_quotient" : Str) (E.cons (E.var 1) .nil))) B_law_2
def B_law : S := S.cons (S.set 1 (E.call ("_law_cup" : Str) (E.cons (E.var 0) .nil))) B_law_1
theorem c_law : cSs ci_law ["script", "cup", "last", "turn", "one", "great", "told", "odds", "odd", "bad", "words", "name", "pair"] 60 (defScope (topS 35)) (defBody (topS 35)) = some B_law := by kernel_rfl

end K
namespace K
open PySem PySem.Spec PyProof.Rows L2 Ev
abbrev GR : Int := 1000000000000000000000000000000000000000000000000000000000000
def isWholeP (x : PV) (lo hi : Int) : Bool := match x with
  | .int i => decide (lo ≤ i) && decide (i ≤ hi)
  | _ => false
def S_is_whole : FnS := fun ss Kp _ => ∃ x lo hi, ss = [.val x, .val (.int lo), .val (.int hi)] ∧ tyOk x = true ∧ Kp false (.bl (isWholeP x lo hi)) ss
theorem ok_is_whole {Φ : Tbl} : ∀ ss Kp Xk, S_is_whole ss Kp Xk → bodyS Φ 3 3 B_is_whole ss Kp Xk := by
  rintro ss Kp Xk ⟨x, lo, hi, rfl, ht, hk⟩
  refine ⟨rfl, ?_⟩
  unfold B_is_whole
  (simp (config := { maxSteps := 100000000 }) only [Ev.wS, Ev.wE.eq_1, Ev.wE.eq_2, Ev.wE.eq_3, Ev.wE.eq_4, Ev.wE.eq_6, Ev.wE.eq_7, Ev.wE.eq_8, Ev.wE.eq_9, Ev.wE.eq_10, Ev.wE.eq_11, Ev.wE.eq_12, Ev.wE.eq_13, Ev.wE.eq_14, Ev.wE.eq_15, Ev.wE.eq_16, Ev.wE.eq_17, Ev.wE.eq_18, Ev.wE.eq_19, Ev.wE.eq_20, Ev.wE.eq_21, Ev.wE.eq_22, Ev.wE.eq_23, Ev.wE.eq_24, Ev.wE.eq_25, Ev.wE.eq_26, Ev.wE.eq_27, Ev.wE_var, Ev.optK_some, Ev.selR_val, Ev.selR_own, Ev.rdS_val, Ev.rdS_own, Ev.fzS_val, Ev.fzS_own, Ev.argS_val, Ev.argS_own, Ev.wT, Ev.wAs, Ev.wEs, Ev.wI, Ev.wO, Ev.wG_nam, Ev.wG_tup, Ev.wGs_nil, Ev.wGs_cons, Ev.Tg.n, Ev.wipeE, Ev.restE, List.getD_cons_zero, List.getD_cons_succ, Ev.same2, Ev.items, Ev.rdK_val, Ev.rdK_tmp, Ev.rdK_at, Ev.rdsK, Ev.fzK_val, Ev.fzK_tmp, Ev.fzK_at, Ev.stW_val, Ev.stW_tmp, Ev.stW_bor, Ev.nbW_val, Ev.nbW_tmp, Ev.nbW_bor, Ev.binW_add, Ev.binW_sub, Ev.binW_mul, Ev.binW_div, Ev.binW_mod, Ev.binW_pow, Ev.binW_lst, Ev.binW_tup, Ev.binW_str, Ev.binW_rep, Ev.cmpW_lt, Ev.cmpW_le, Ev.cmpW_gt, Ev.cmpW_ge, Ev.cmpW_eq, Ev.cmpW_ne, Ev.cmpW_is, Ev.cmpW_isN, Ev.cmpW_inT, Ev.cmpW_inL, Ev.cmpW_niT, Ev.cmpW_niL, Ev.ixW_tup, Ev.ixW_lst, Ev.bltW_abs, Ev.bltW_int, Ev.bltW_gcd, Ev.bltW_lenT, Ev.bltW_lenL, Ev.bltW_scr, Ev.bltW_listL, Ev.bltW_listT, Ev.bltW_tupL, Ev.bltW_tupT, List.replicate, List.append_nil, List.cons_append, List.nil_append, List.getElem?_cons_zero, List.getElem?_cons_succ, List.length_cons, List.length_nil, List.set_cons_zero, List.set_cons_succ, Ev.argsOf, Ev.argOf_val, Ev.argOf_at, Ev.bors, Ev.backs_val, Ev.backs_bor, Ev.backs_nil, Ev.loses, Ev.retW_val, Ev.retW_tmp, Ev.parOf, Ev.outsOf, List.replicate_zero, Nat.sub_self, Ev.isOwnL, List.getElem?_nil, reduceCtorEq, decide_eq_true_eq, Ev.cmpOk_int, Ev.cmpOk_bl, Ev.cmpOk_non, Ev.cmpOk_nil, Ev.cmpOk_nilT, Ev.peq_int, Ev.peq_bl, Ev.peq_str, Ev.peq_non, Ev.peq_nil, Ev.peq_nilT, Ev.peq_consL, Ev.isT_non_int, Ev.isT_non_bool, Ev.isT_non_str, Ev.isT_non_tuple, Ev.isT_non_list, Ev.tyOk_non, Ev.isT_bl_int, Ev.isT_bl_bool, Ev.isT_bl_str, Ev.isT_bl_tuple, Ev.isT_bl_list, Ev.tyOk_bl, Ev.isT_int_int, Ev.isT_int_bool, Ev.isT_int_str, Ev.isT_int_tuple, Ev.isT_int_list, Ev.tyOk_int, Ev.isT_str_int, Ev.isT_str_bool, Ev.isT_str_str, Ev.isT_str_tuple, Ev.isT_str_list, Ev.tyOk_str, Ev.isT_tup_int, Ev.isT_tup_bool, Ev.isT_tup_str, Ev.isT_tup_tuple, Ev.isT_tup_list, Ev.tyOk_tup, Ev.isT_lst_int, Ev.isT_lst_bool, Ev.isT_lst_str, Ev.isT_lst_tuple, Ev.isT_lst_list, Ev.tyOk_lst, List.not_mem_nil, not_false_eq_true, List.nodup_cons, Bool.false_eq_true, ↓reduceIte, List.nodup_nil, true_and, and_true])
  rw [isiW_int ht, isiW_bool ht]
  cases x <;> first | exact hk | skip
  rename_i i
  (simp (config := { maxSteps := 100000000 }) only [Ev.wS, Ev.wE.eq_1, Ev.wE.eq_2, Ev.wE.eq_3, Ev.wE.eq_4, Ev.wE.eq_6, Ev.wE.eq_7, Ev.wE.eq_8, Ev.wE.eq_9, Ev.wE.eq_10, Ev.wE.eq_11, Ev.wE.eq_12, Ev.wE.eq_13, Ev.wE.eq_14, Ev.wE.eq_15, Ev.wE.eq_16, Ev.wE.eq_17, Ev.wE.eq_18, Ev.wE.eq_19, Ev.wE.eq_20, Ev.wE.eq_21, Ev.wE.eq_22, Ev.wE.eq_23, Ev.wE.eq_24, Ev.wE.eq_25, Ev.wE.eq_26, Ev.wE.eq_27, Ev.wE_var, Ev.optK_some, Ev.selR_val, Ev.selR_own, Ev.rdS_val, Ev.rdS_own, Ev.fzS_val, Ev.fzS_own, Ev.argS_val, Ev.argS_own, Ev.wT, Ev.wAs, Ev.wEs, Ev.wI, Ev.wO, Ev.wG_nam, Ev.wG_tup, Ev.wGs_nil, Ev.wGs_cons, Ev.Tg.n, Ev.wipeE, Ev.restE, List.getD_cons_zero, List.getD_cons_succ, Ev.same2, Ev.items, Ev.rdK_val, Ev.rdK_tmp, Ev.rdK_at, Ev.rdsK, Ev.fzK_val, Ev.fzK_tmp, Ev.fzK_at, Ev.stW_val, Ev.stW_tmp, Ev.stW_bor, Ev.nbW_val, Ev.nbW_tmp, Ev.nbW_bor, Ev.binW_add, Ev.binW_sub, Ev.binW_mul, Ev.binW_div, Ev.binW_mod, Ev.binW_pow, Ev.binW_lst, Ev.binW_tup, Ev.binW_str, Ev.binW_rep, Ev.cmpW_lt, Ev.cmpW_le, Ev.cmpW_gt, Ev.cmpW_ge, Ev.cmpW_eq, Ev.cmpW_ne, Ev.cmpW_is, Ev.cmpW_isN, Ev.cmpW_inT, Ev.cmpW_inL, Ev.cmpW_niT, Ev.cmpW_niL, Ev.ixW_tup, Ev.ixW_lst, Ev.bltW_abs, Ev.bltW_int, Ev.bltW_gcd, Ev.bltW_lenT, Ev.bltW_lenL, Ev.bltW_scr, Ev.bltW_listL, Ev.bltW_listT, Ev.bltW_tupL, Ev.bltW_tupT, List.replicate, List.append_nil, List.cons_append, List.nil_append, List.getElem?_cons_zero, List.getElem?_cons_succ, List.length_cons, List.length_nil, List.set_cons_zero, List.set_cons_succ, Ev.argsOf, Ev.argOf_val, Ev.argOf_at, Ev.bors, Ev.backs_val, Ev.backs_bor, Ev.backs_nil, Ev.loses, Ev.retW_val, Ev.retW_tmp, Ev.parOf, Ev.outsOf, List.replicate_zero, Nat.sub_self, Ev.isOwnL, List.getElem?_nil, reduceCtorEq, decide_eq_true_eq, Ev.cmpOk_int, Ev.cmpOk_bl, Ev.cmpOk_non, Ev.cmpOk_nil, Ev.cmpOk_nilT, Ev.peq_int, Ev.peq_bl, Ev.peq_str, Ev.peq_non, Ev.peq_nil, Ev.peq_nilT, Ev.peq_consL, Ev.isT_non_int, Ev.isT_non_bool, Ev.isT_non_str, Ev.isT_non_tuple, Ev.isT_non_list, Ev.tyOk_non, Ev.isT_bl_int, Ev.isT_bl_bool, Ev.isT_bl_str, Ev.isT_bl_tuple, Ev.isT_bl_list, Ev.tyOk_bl, Ev.isT_int_int, Ev.isT_int_bool, Ev.isT_int_str, Ev.isT_int_tuple, Ev.isT_int_list, Ev.tyOk_int, Ev.isT_str_int, Ev.isT_str_bool, Ev.isT_str_str, Ev.isT_str_tuple, Ev.isT_str_list, Ev.tyOk_str, Ev.isT_tup_int, Ev.isT_tup_bool, Ev.isT_tup_str, Ev.isT_tup_tuple, Ev.isT_tup_list, Ev.tyOk_tup, Ev.isT_lst_int, Ev.isT_lst_bool, Ev.isT_lst_str, Ev.isT_lst_tuple, Ev.isT_lst_list, Ev.tyOk_lst, List.not_mem_nil, not_false_eq_true, List.nodup_cons, Bool.false_eq_true, ↓reduceIte, List.nodup_nil, true_and, and_true])
  simp only [isWholeP] at hk
  by_cases h1 : lo ≤ i
  · simp only [h1, decide_true, ↓reduceIte, Bool.true_and] at hk ⊢
    exact hk
  · simp only [h1, decide_false, Bool.false_eq_true, ↓reduceIte, Bool.false_and] at hk ⊢
    exact hk
def S_need_whole : FnS := fun ss Kp Xk => ∃ x lo hi, ss = [.val x, .val (.int lo), .val (.int hi)] ∧ tyOk x = true ∧ (isWholeP x lo hi = true → Kp false .non ss) ∧ (isWholeP x lo hi = false → Xk "InvalidNumber")
theorem ok_need_whole {Φ : Tbl} (h1 : Φ.fn "is_whole" = some S_is_whole) : ∀ ss Kp Xk, S_need_whole ss Kp Xk → bodyS Φ 3 3 B_need_whole ss Kp Xk := by
  rintro ss Kp Xk ⟨x, lo, hi, rfl, ht, hk, hx⟩
  refine ⟨rfl, ?_⟩
  unfold B_need_whole
  (simp (config := { maxSteps := 100000000 }) only [Ev.wS, Ev.wE.eq_1, Ev.wE.eq_2, Ev.wE.eq_3, Ev.wE.eq_4, Ev.wE.eq_6, Ev.wE.eq_7, Ev.wE.eq_8, Ev.wE.eq_9, Ev.wE.eq_10, Ev.wE.eq_11, Ev.wE.eq_12, Ev.wE.eq_13, Ev.wE.eq_14, Ev.wE.eq_15, Ev.wE.eq_16, Ev.wE.eq_17, Ev.wE.eq_18, Ev.wE.eq_19, Ev.wE.eq_20, Ev.wE.eq_21, Ev.wE.eq_22, Ev.wE.eq_23, Ev.wE.eq_24, Ev.wE.eq_25, Ev.wE.eq_26, Ev.wE.eq_27, Ev.wE_var, Ev.optK_some, Ev.selR_val, Ev.selR_own, Ev.rdS_val, Ev.rdS_own, Ev.fzS_val, Ev.fzS_own, Ev.argS_val, Ev.argS_own, Ev.wT, Ev.wAs, Ev.wEs, Ev.wI, Ev.wO, Ev.wG_nam, Ev.wG_tup, Ev.wGs_nil, Ev.wGs_cons, Ev.Tg.n, Ev.wipeE, Ev.restE, List.getD_cons_zero, List.getD_cons_succ, Ev.same2, Ev.items, Ev.rdK_val, Ev.rdK_tmp, Ev.rdK_at, Ev.rdsK, Ev.fzK_val, Ev.fzK_tmp, Ev.fzK_at, Ev.stW_val, Ev.stW_tmp, Ev.stW_bor, Ev.nbW_val, Ev.nbW_tmp, Ev.nbW_bor, Ev.binW_add, Ev.binW_sub, Ev.binW_mul, Ev.binW_div, Ev.binW_mod, Ev.binW_pow, Ev.binW_lst, Ev.binW_tup, Ev.binW_str, Ev.binW_rep, Ev.cmpW_lt, Ev.cmpW_le, Ev.cmpW_gt, Ev.cmpW_ge, Ev.cmpW_eq, Ev.cmpW_ne, Ev.cmpW_is, Ev.cmpW_isN, Ev.cmpW_inT, Ev.cmpW_inL, Ev.cmpW_niT, Ev.cmpW_niL, Ev.ixW_tup, Ev.ixW_lst, Ev.bltW_abs, Ev.bltW_int, Ev.bltW_gcd, Ev.bltW_lenT, Ev.bltW_lenL, Ev.bltW_scr, Ev.bltW_listL, Ev.bltW_listT, Ev.bltW_tupL, Ev.bltW_tupT, List.replicate, List.append_nil, List.cons_append, List.nil_append, List.getElem?_cons_zero, List.getElem?_cons_succ, List.length_cons, List.length_nil, List.set_cons_zero, List.set_cons_succ, Ev.argsOf, Ev.argOf_val, Ev.argOf_at, Ev.bors, Ev.backs_val, Ev.backs_bor, Ev.backs_nil, Ev.loses, Ev.retW_val, Ev.retW_tmp, Ev.parOf, Ev.outsOf, List.replicate_zero, Nat.sub_self, Ev.isOwnL, List.getElem?_nil, reduceCtorEq, decide_eq_true_eq, Ev.cmpOk_int, Ev.cmpOk_bl, Ev.cmpOk_non, Ev.cmpOk_nil, Ev.cmpOk_nilT, Ev.peq_int, Ev.peq_bl, Ev.peq_str, Ev.peq_non, Ev.peq_nil, Ev.peq_nilT, Ev.peq_consL, Ev.isT_non_int, Ev.isT_non_bool, Ev.isT_non_str, Ev.isT_non_tuple, Ev.isT_non_list, Ev.tyOk_non, Ev.isT_bl_int, Ev.isT_bl_bool, Ev.isT_bl_str, Ev.isT_bl_tuple, Ev.isT_bl_list, Ev.tyOk_bl, Ev.isT_int_int, Ev.isT_int_bool, Ev.isT_int_str, Ev.isT_int_tuple, Ev.isT_int_list, Ev.tyOk_int, Ev.isT_str_int, Ev.isT_str_bool, Ev.isT_str_str, Ev.isT_str_tuple, Ev.isT_str_list, Ev.tyOk_str, Ev.isT_tup_int, Ev.isT_tup_bool, Ev.isT_tup_str, Ev.isT_tup_tuple, Ev.isT_tup_list, Ev.tyOk_tup, Ev.isT_lst_int, Ev.isT_lst_bool, Ev.isT_lst_str, Ev.isT_lst_tuple, Ev.isT_lst_list, Ev.tyOk_lst, List.not_mem_nil, not_false_eq_true, List.nodup_cons, Bool.false_eq_true, ↓reduceIte, List.nodup_nil, true_and, and_true])
  simp only [h1]
  refine ⟨x, lo, hi, rfl, ht, ?_⟩
  cases h : isWholeP x lo hi with
  | true => (simp (config := { maxSteps := 100000000 }) only [Ev.wS, Ev.wE.eq_1, Ev.wE.eq_2, Ev.wE.eq_3, Ev.wE.eq_4, Ev.wE.eq_6, Ev.wE.eq_7, Ev.wE.eq_8, Ev.wE.eq_9, Ev.wE.eq_10, Ev.wE.eq_11, Ev.wE.eq_12, Ev.wE.eq_13, Ev.wE.eq_14, Ev.wE.eq_15, Ev.wE.eq_16, Ev.wE.eq_17, Ev.wE.eq_18, Ev.wE.eq_19, Ev.wE.eq_20, Ev.wE.eq_21, Ev.wE.eq_22, Ev.wE.eq_23, Ev.wE.eq_24, Ev.wE.eq_25, Ev.wE.eq_26, Ev.wE.eq_27, Ev.wE_var, Ev.optK_some, Ev.selR_val, Ev.selR_own, Ev.rdS_val, Ev.rdS_own, Ev.fzS_val, Ev.fzS_own, Ev.argS_val, Ev.argS_own, Ev.wT, Ev.wAs, Ev.wEs, Ev.wI, Ev.wO, Ev.wG_nam, Ev.wG_tup, Ev.wGs_nil, Ev.wGs_cons, Ev.Tg.n, Ev.wipeE, Ev.restE, List.getD_cons_zero, List.getD_cons_succ, Ev.same2, Ev.items, Ev.rdK_val, Ev.rdK_tmp, Ev.rdK_at, Ev.rdsK, Ev.fzK_val, Ev.fzK_tmp, Ev.fzK_at, Ev.stW_val, Ev.stW_tmp, Ev.stW_bor, Ev.nbW_val, Ev.nbW_tmp, Ev.nbW_bor, Ev.binW_add, Ev.binW_sub, Ev.binW_mul, Ev.binW_div, Ev.binW_mod, Ev.binW_pow, Ev.binW_lst, Ev.binW_tup, Ev.binW_str, Ev.binW_rep, Ev.cmpW_lt, Ev.cmpW_le, Ev.cmpW_gt, Ev.cmpW_ge, Ev.cmpW_eq, Ev.cmpW_ne, Ev.cmpW_is, Ev.cmpW_isN, Ev.cmpW_inT, Ev.cmpW_inL, Ev.cmpW_niT, Ev.cmpW_niL, Ev.ixW_tup, Ev.ixW_lst, Ev.bltW_abs, Ev.bltW_int, Ev.bltW_gcd, Ev.bltW_lenT, Ev.bltW_lenL, Ev.bltW_scr, Ev.bltW_listL, Ev.bltW_listT, Ev.bltW_tupL, Ev.bltW_tupT, List.replicate, List.append_nil, List.cons_append, List.nil_append, List.getElem?_cons_zero, List.getElem?_cons_succ, List.length_cons, List.length_nil, List.set_cons_zero, List.set_cons_succ, Ev.argsOf, Ev.argOf_val, Ev.argOf_at, Ev.bors, Ev.backs_val, Ev.backs_bor, Ev.backs_nil, Ev.loses, Ev.retW_val, Ev.retW_tmp, Ev.parOf, Ev.outsOf, List.replicate_zero, Nat.sub_self, Ev.isOwnL, List.getElem?_nil, reduceCtorEq, decide_eq_true_eq, Ev.cmpOk_int, Ev.cmpOk_bl, Ev.cmpOk_non, Ev.cmpOk_nil, Ev.cmpOk_nilT, Ev.peq_int, Ev.peq_bl, Ev.peq_str, Ev.peq_non, Ev.peq_nil, Ev.peq_nilT, Ev.peq_consL, Ev.isT_non_int, Ev.isT_non_bool, Ev.isT_non_str, Ev.isT_non_tuple, Ev.isT_non_list, Ev.tyOk_non, Ev.isT_bl_int, Ev.isT_bl_bool, Ev.isT_bl_str, Ev.isT_bl_tuple, Ev.isT_bl_list, Ev.tyOk_bl, Ev.isT_int_int, Ev.isT_int_bool, Ev.isT_int_str, Ev.isT_int_tuple, Ev.isT_int_list, Ev.tyOk_int, Ev.isT_str_int, Ev.isT_str_bool, Ev.isT_str_str, Ev.isT_str_tuple, Ev.isT_str_list, Ev.tyOk_str, Ev.isT_tup_int, Ev.isT_tup_bool, Ev.isT_tup_str, Ev.isT_tup_tuple, Ev.isT_tup_list, Ev.tyOk_tup, Ev.isT_lst_int, Ev.isT_lst_bool, Ev.isT_lst_str, Ev.isT_lst_tuple, Ev.isT_lst_list, Ev.tyOk_lst, List.not_mem_nil, not_false_eq_true, List.nodup_cons, Bool.false_eq_true, ↓reduceIte, List.nodup_nil, true_and, and_true]); exact hk h
  | false => (simp (config := { maxSteps := 100000000 }) only [Ev.wS, Ev.wE.eq_1, Ev.wE.eq_2, Ev.wE.eq_3, Ev.wE.eq_4, Ev.wE.eq_6, Ev.wE.eq_7, Ev.wE.eq_8, Ev.wE.eq_9, Ev.wE.eq_10, Ev.wE.eq_11, Ev.wE.eq_12, Ev.wE.eq_13, Ev.wE.eq_14, Ev.wE.eq_15, Ev.wE.eq_16, Ev.wE.eq_17, Ev.wE.eq_18, Ev.wE.eq_19, Ev.wE.eq_20, Ev.wE.eq_21, Ev.wE.eq_22, Ev.wE.eq_23, Ev.wE.eq_24, Ev.wE.eq_25, Ev.wE.eq_26, Ev.wE.eq_27, Ev.wE_var, Ev.optK_some, Ev.selR_val, Ev.selR_own, Ev.rdS_val, Ev.rdS_own, Ev.fzS_val, Ev.fzS_own, Ev.argS_val, Ev.argS_own, Ev.wT, Ev.wAs, Ev.wEs, Ev.wI, Ev.wO, Ev.wG_nam, Ev.wG_tup, Ev.wGs_nil, Ev.wGs_cons, Ev.Tg.n, Ev.wipeE, Ev.restE, List.getD_cons_zero, List.getD_cons_succ, Ev.same2, Ev.items, Ev.rdK_val, Ev.rdK_tmp, Ev.rdK_at, Ev.rdsK, Ev.fzK_val, Ev.fzK_tmp, Ev.fzK_at, Ev.stW_val, Ev.stW_tmp, Ev.stW_bor, Ev.nbW_val, Ev.nbW_tmp, Ev.nbW_bor, Ev.binW_add, Ev.binW_sub, Ev.binW_mul, Ev.binW_div, Ev.binW_mod, Ev.binW_pow, Ev.binW_lst, Ev.binW_tup, Ev.binW_str, Ev.binW_rep, Ev.cmpW_lt, Ev.cmpW_le, Ev.cmpW_gt, Ev.cmpW_ge, Ev.cmpW_eq, Ev.cmpW_ne, Ev.cmpW_is, Ev.cmpW_isN, Ev.cmpW_inT, Ev.cmpW_inL, Ev.cmpW_niT, Ev.cmpW_niL, Ev.ixW_tup, Ev.ixW_lst, Ev.bltW_abs, Ev.bltW_int, Ev.bltW_gcd, Ev.bltW_lenT, Ev.bltW_lenL, Ev.bltW_scr, Ev.bltW_listL, Ev.bltW_listT, Ev.bltW_tupL, Ev.bltW_tupT, List.replicate, List.append_nil, List.cons_append, List.nil_append, List.getElem?_cons_zero, List.getElem?_cons_succ, List.length_cons, List.length_nil, List.set_cons_zero, List.set_cons_succ, Ev.argsOf, Ev.argOf_val, Ev.argOf_at, Ev.bors, Ev.backs_val, Ev.backs_bor, Ev.backs_nil, Ev.loses, Ev.retW_val, Ev.retW_tmp, Ev.parOf, Ev.outsOf, List.replicate_zero, Nat.sub_self, Ev.isOwnL, List.getElem?_nil, reduceCtorEq, decide_eq_true_eq, Ev.cmpOk_int, Ev.cmpOk_bl, Ev.cmpOk_non, Ev.cmpOk_nil, Ev.cmpOk_nilT, Ev.peq_int, Ev.peq_bl, Ev.peq_str, Ev.peq_non, Ev.peq_nil, Ev.peq_nilT, Ev.peq_consL, Ev.isT_non_int, Ev.isT_non_bool, Ev.isT_non_str, Ev.isT_non_tuple, Ev.isT_non_list, Ev.tyOk_non, Ev.isT_bl_int, Ev.isT_bl_bool, Ev.isT_bl_str, Ev.isT_bl_tuple, Ev.isT_bl_list, Ev.tyOk_bl, Ev.isT_int_int, Ev.isT_int_bool, Ev.isT_int_str, Ev.isT_int_tuple, Ev.isT_int_list, Ev.tyOk_int, Ev.isT_str_int, Ev.isT_str_bool, Ev.isT_str_str, Ev.isT_str_tuple, Ev.isT_str_list, Ev.tyOk_str, Ev.isT_tup_int, Ev.isT_tup_bool, Ev.isT_tup_str, Ev.isT_tup_tuple, Ev.isT_tup_list, Ev.tyOk_tup, Ev.isT_lst_int, Ev.isT_lst_bool, Ev.isT_lst_str, Ev.isT_lst_tuple, Ev.isT_lst_list, Ev.tyOk_lst, List.not_mem_nil, not_false_eq_true, List.nodup_cons, Bool.false_eq_true, ↓reduceIte, List.nodup_nil, true_and, and_true]); exact hx h
def isTupP (x : PV) (lo hi : Int) : Bool := match x with
  | .tup xs => decide (lo ≤ xs.length) && decide ((xs.length : Int) ≤ hi)
  | _ => false
def S_is_tuple_of : FnS := fun ss Kp _ => ∃ x lo hi, ss = [.val x, .val (.int lo), .val (.int hi)] ∧ tyOk x = true ∧ Kp false (.bl (isTupP x lo hi)) ss
theorem ok_is_tuple_of {Φ : Tbl} : ∀ ss Kp Xk, S_is_tuple_of ss Kp Xk → bodyS Φ 3 3 B_is_tuple_of ss Kp Xk := by
  rintro ss Kp Xk ⟨x, lo, hi, rfl, ht, hk⟩
  refine ⟨rfl, ?_⟩
  unfold B_is_tuple_of
  (simp (config := { maxSteps := 100000000 }) only [Ev.wS, Ev.wE.eq_1, Ev.wE.eq_2, Ev.wE.eq_3, Ev.wE.eq_4, Ev.wE.eq_6, Ev.wE.eq_7, Ev.wE.eq_8, Ev.wE.eq_9, Ev.wE.eq_10, Ev.wE.eq_11, Ev.wE.eq_12, Ev.wE.eq_13, Ev.wE.eq_14, Ev.wE.eq_15, Ev.wE.eq_16, Ev.wE.eq_17, Ev.wE.eq_18, Ev.wE.eq_19, Ev.wE.eq_20, Ev.wE.eq_21, Ev.wE.eq_22, Ev.wE.eq_23, Ev.wE.eq_24, Ev.wE.eq_25, Ev.wE.eq_26, Ev.wE.eq_27, Ev.wE_var, Ev.optK_some, Ev.selR_val, Ev.selR_own, Ev.rdS_val, Ev.rdS_own, Ev.fzS_val, Ev.fzS_own, Ev.argS_val, Ev.argS_own, Ev.wT, Ev.wAs, Ev.wEs, Ev.wI, Ev.wO, Ev.wG_nam, Ev.wG_tup, Ev.wGs_nil, Ev.wGs_cons, Ev.Tg.n, Ev.wipeE, Ev.restE, List.getD_cons_zero, List.getD_cons_succ, Ev.same2, Ev.items, Ev.rdK_val, Ev.rdK_tmp, Ev.rdK_at, Ev.rdsK, Ev.fzK_val, Ev.fzK_tmp, Ev.fzK_at, Ev.stW_val, Ev.stW_tmp, Ev.stW_bor, Ev.nbW_val, Ev.nbW_tmp, Ev.nbW_bor, Ev.binW_add, Ev.binW_sub, Ev.binW_mul, Ev.binW_div, Ev.binW_mod, Ev.binW_pow, Ev.binW_lst, Ev.binW_tup, Ev.binW_str, Ev.binW_rep, Ev.cmpW_lt, Ev.cmpW_le, Ev.cmpW_gt, Ev.cmpW_ge, Ev.cmpW_eq, Ev.cmpW_ne, Ev.cmpW_is, Ev.cmpW_isN, Ev.cmpW_inT, Ev.cmpW_inL, Ev.cmpW_niT, Ev.cmpW_niL, Ev.ixW_tup, Ev.ixW_lst, Ev.bltW_abs, Ev.bltW_int, Ev.bltW_gcd, Ev.bltW_lenT, Ev.bltW_lenL, Ev.bltW_scr, Ev.bltW_listL, Ev.bltW_listT, Ev.bltW_tupL, Ev.bltW_tupT, List.replicate, List.append_nil, List.cons_append, List.nil_append, List.getElem?_cons_zero, List.getElem?_cons_succ, List.length_cons, List.length_nil, List.set_cons_zero, List.set_cons_succ, Ev.argsOf, Ev.argOf_val, Ev.argOf_at, Ev.bors, Ev.backs_val, Ev.backs_bor, Ev.backs_nil, Ev.loses, Ev.retW_val, Ev.retW_tmp, Ev.parOf, Ev.outsOf, List.replicate_zero, Nat.sub_self, Ev.isOwnL, List.getElem?_nil, reduceCtorEq, decide_eq_true_eq, Ev.cmpOk_int, Ev.cmpOk_bl, Ev.cmpOk_non, Ev.cmpOk_nil, Ev.cmpOk_nilT, Ev.peq_int, Ev.peq_bl, Ev.peq_str, Ev.peq_non, Ev.peq_nil, Ev.peq_nilT, Ev.peq_consL, Ev.isT_non_int, Ev.isT_non_bool, Ev.isT_non_str, Ev.isT_non_tuple, Ev.isT_non_list, Ev.tyOk_non, Ev.isT_bl_int, Ev.isT_bl_bool, Ev.isT_bl_str, Ev.isT_bl_tuple, Ev.isT_bl_list, Ev.tyOk_bl, Ev.isT_int_int, Ev.isT_int_bool, Ev.isT_int_str, Ev.isT_int_tuple, Ev.isT_int_list, Ev.tyOk_int, Ev.isT_str_int, Ev.isT_str_bool, Ev.isT_str_str, Ev.isT_str_tuple, Ev.isT_str_list, Ev.tyOk_str, Ev.isT_tup_int, Ev.isT_tup_bool, Ev.isT_tup_str, Ev.isT_tup_tuple, Ev.isT_tup_list, Ev.tyOk_tup, Ev.isT_lst_int, Ev.isT_lst_bool, Ev.isT_lst_str, Ev.isT_lst_tuple, Ev.isT_lst_list, Ev.tyOk_lst, List.not_mem_nil, not_false_eq_true, List.nodup_cons, Bool.false_eq_true, ↓reduceIte, List.nodup_nil, true_and, and_true])
  rw [isiW_tuple ht]
  cases x <;> first | exact hk | skip
  rename_i xs
  (simp (config := { maxSteps := 100000000 }) only [Ev.wS, Ev.wE.eq_1, Ev.wE.eq_2, Ev.wE.eq_3, Ev.wE.eq_4, Ev.wE.eq_6, Ev.wE.eq_7, Ev.wE.eq_8, Ev.wE.eq_9, Ev.wE.eq_10, Ev.wE.eq_11, Ev.wE.eq_12, Ev.wE.eq_13, Ev.wE.eq_14, Ev.wE.eq_15, Ev.wE.eq_16, Ev.wE.eq_17, Ev.wE.eq_18, Ev.wE.eq_19, Ev.wE.eq_20, Ev.wE.eq_21, Ev.wE.eq_22, Ev.wE.eq_23, Ev.wE.eq_24, Ev.wE.eq_25, Ev.wE.eq_26, Ev.wE.eq_27, Ev.wE_var, Ev.optK_some, Ev.selR_val, Ev.selR_own, Ev.rdS_val, Ev.rdS_own, Ev.fzS_val, Ev.fzS_own, Ev.argS_val, Ev.argS_own, Ev.wT, Ev.wAs, Ev.wEs, Ev.wI, Ev.wO, Ev.wG_nam, Ev.wG_tup, Ev.wGs_nil, Ev.wGs_cons, Ev.Tg.n, Ev.wipeE, Ev.restE, List.getD_cons_zero, List.getD_cons_succ, Ev.same2, Ev.items, Ev.rdK_val, Ev.rdK_tmp, Ev.rdK_at, Ev.rdsK, Ev.fzK_val, Ev.fzK_tmp, Ev.fzK_at, Ev.stW_val, Ev.stW_tmp, Ev.stW_bor, Ev.nbW_val, Ev.nbW_tmp, Ev.nbW_bor, Ev.binW_add, Ev.binW_sub, Ev.binW_mul, Ev.binW_div, Ev.binW_mod, Ev.binW_pow, Ev.binW_lst, Ev.binW_tup, Ev.binW_str, Ev.binW_rep, Ev.cmpW_lt, Ev.cmpW_le, Ev.cmpW_gt, Ev.cmpW_ge, Ev.cmpW_eq, Ev.cmpW_ne, Ev.cmpW_is, Ev.cmpW_isN, Ev.cmpW_inT, Ev.cmpW_inL, Ev.cmpW_niT, Ev.cmpW_niL, Ev.ixW_tup, Ev.ixW_lst, Ev.bltW_abs, Ev.bltW_int, Ev.bltW_gcd, Ev.bltW_lenT, Ev.bltW_lenL, Ev.bltW_scr, Ev.bltW_listL, Ev.bltW_listT, Ev.bltW_tupL, Ev.bltW_tupT, List.replicate, List.append_nil, List.cons_append, List.nil_append, List.getElem?_cons_zero, List.getElem?_cons_succ, List.length_cons, List.length_nil, List.set_cons_zero, List.set_cons_succ, Ev.argsOf, Ev.argOf_val, Ev.argOf_at, Ev.bors, Ev.backs_val, Ev.backs_bor, Ev.backs_nil, Ev.loses, Ev.retW_val, Ev.retW_tmp, Ev.parOf, Ev.outsOf, List.replicate_zero, Nat.sub_self, Ev.isOwnL, List.getElem?_nil, reduceCtorEq, decide_eq_true_eq, Ev.cmpOk_int, Ev.cmpOk_bl, Ev.cmpOk_non, Ev.cmpOk_nil, Ev.cmpOk_nilT, Ev.peq_int, Ev.peq_bl, Ev.peq_str, Ev.peq_non, Ev.peq_nil, Ev.peq_nilT, Ev.peq_consL, Ev.isT_non_int, Ev.isT_non_bool, Ev.isT_non_str, Ev.isT_non_tuple, Ev.isT_non_list, Ev.tyOk_non, Ev.isT_bl_int, Ev.isT_bl_bool, Ev.isT_bl_str, Ev.isT_bl_tuple, Ev.isT_bl_list, Ev.tyOk_bl, Ev.isT_int_int, Ev.isT_int_bool, Ev.isT_int_str, Ev.isT_int_tuple, Ev.isT_int_list, Ev.tyOk_int, Ev.isT_str_int, Ev.isT_str_bool, Ev.isT_str_str, Ev.isT_str_tuple, Ev.isT_str_list, Ev.tyOk_str, Ev.isT_tup_int, Ev.isT_tup_bool, Ev.isT_tup_str, Ev.isT_tup_tuple, Ev.isT_tup_list, Ev.tyOk_tup, Ev.isT_lst_int, Ev.isT_lst_bool, Ev.isT_lst_str, Ev.isT_lst_tuple, Ev.isT_lst_list, Ev.tyOk_lst, List.not_mem_nil, not_false_eq_true, List.nodup_cons, Bool.false_eq_true, ↓reduceIte, List.nodup_nil, true_and, and_true])
  simp only [isTupP] at hk
  by_cases h1 : lo ≤ xs.length
  · simp only [h1, decide_true, ↓reduceIte, Bool.true_and] at hk ⊢
    exact hk
  · simp only [h1, decide_false, Bool.false_eq_true, ↓reduceIte, Bool.false_and] at hk ⊢
    exact hk
def copP (y z : PV) : Bool := match y, z with
  | .int a, .int b => decide (Nat.gcd a.natAbs b.natAbs = 1)
  | _, _ => false
def isQuoP (x : PV) : Bool := match x with
  | .tup [y, z] => isWholeP y (-GR) GR && (isWholeP z 1 GR && copP y z)
  | _ => false
/-- an odd value that may be asked -/
def quoOk (x : PV) : Prop := tyOk x = true ∧ ∀ y z, x = .tup [y, z] → tyOk y = true ∧ tyOk z = true
def S_is_quotient : FnS := fun ss Kp _ => ∃ x, ss = [.val x] ∧ quoOk x ∧ Kp false (.bl (isQuoP x)) ss
theorem ok_is_quotient {Φ : Tbl} (h1 : Φ.fn "is_whole" = some S_is_whole) (h2 : Φ.fn "is_tuple_of" = some S_is_tuple_of) (hc : Φ.con "GREAT" = some (.int GR)) : ∀ ss Kp Xk, S_is_quotient ss Kp Xk → bodyS Φ 1 1 B_is_quotient ss Kp Xk := by
  rintro ss Kp Xk ⟨x, rfl, ⟨ht, ht2⟩, hk⟩
  refine ⟨rfl, ?_⟩
  unfold B_is_quotient
  (simp (config := { maxSteps := 100000000 }) only [Ev.wS, Ev.wE.eq_1, Ev.wE.eq_2, Ev.wE.eq_3, Ev.wE.eq_4, Ev.wE.eq_6, Ev.wE.eq_7, Ev.wE.eq_8, Ev.wE.eq_9, Ev.wE.eq_10, Ev.wE.eq_11, Ev.wE.eq_12, Ev.wE.eq_13, Ev.wE.eq_14, Ev.wE.eq_15, Ev.wE.eq_16, Ev.wE.eq_17, Ev.wE.eq_18, Ev.wE.eq_19, Ev.wE.eq_20, Ev.wE.eq_21, Ev.wE.eq_22, Ev.wE.eq_23, Ev.wE.eq_24, Ev.wE.eq_25, Ev.wE.eq_26, Ev.wE.eq_27, Ev.wE_var, Ev.optK_some, Ev.selR_val, Ev.selR_own, Ev.rdS_val, Ev.rdS_own, Ev.fzS_val, Ev.fzS_own, Ev.argS_val, Ev.argS_own, Ev.wT, Ev.wAs, Ev.wEs, Ev.wI, Ev.wO, Ev.wG_nam, Ev.wG_tup, Ev.wGs_nil, Ev.wGs_cons, Ev.Tg.n, Ev.wipeE, Ev.restE, List.getD_cons_zero, List.getD_cons_succ, Ev.same2, Ev.items, Ev.rdK_val, Ev.rdK_tmp, Ev.rdK_at, Ev.rdsK, Ev.fzK_val, Ev.fzK_tmp, Ev.fzK_at, Ev.stW_val, Ev.stW_tmp, Ev.stW_bor, Ev.nbW_val, Ev.nbW_tmp, Ev.nbW_bor, Ev.binW_add, Ev.binW_sub, Ev.binW_mul, Ev.binW_div, Ev.binW_mod, Ev.binW_pow, Ev.binW_lst, Ev.binW_tup, Ev.binW_str, Ev.binW_rep, Ev.cmpW_lt, Ev.cmpW_le, Ev.cmpW_gt, Ev.cmpW_ge, Ev.cmpW_eq, Ev.cmpW_ne, Ev.cmpW_is, Ev.cmpW_isN, Ev.cmpW_inT, Ev.cmpW_inL, Ev.cmpW_niT, Ev.cmpW_niL, Ev.ixW_tup, Ev.ixW_lst, Ev.bltW_abs, Ev.bltW_int, Ev.bltW_gcd, Ev.bltW_lenT, Ev.bltW_lenL, Ev.bltW_scr, Ev.bltW_listL, Ev.bltW_listT, Ev.bltW_tupL, Ev.bltW_tupT, List.replicate, List.append_nil, List.cons_append, List.nil_append, List.getElem?_cons_zero, List.getElem?_cons_succ, List.length_cons, List.length_nil, List.set_cons_zero, List.set_cons_succ, Ev.argsOf, Ev.argOf_val, Ev.argOf_at, Ev.bors, Ev.backs_val, Ev.backs_bor, Ev.backs_nil, Ev.loses, Ev.retW_val, Ev.retW_tmp, Ev.parOf, Ev.outsOf, List.replicate_zero, Nat.sub_self, Ev.isOwnL, List.getElem?_nil, reduceCtorEq, decide_eq_true_eq, Ev.cmpOk_int, Ev.cmpOk_bl, Ev.cmpOk_non, Ev.cmpOk_nil, Ev.cmpOk_nilT, Ev.peq_int, Ev.peq_bl, Ev.peq_str, Ev.peq_non, Ev.peq_nil, Ev.peq_nilT, Ev.peq_consL, Ev.isT_non_int, Ev.isT_non_bool, Ev.isT_non_str, Ev.isT_non_tuple, Ev.isT_non_list, Ev.tyOk_non, Ev.isT_bl_int, Ev.isT_bl_bool, Ev.isT_bl_str, Ev.isT_bl_tuple, Ev.isT_bl_list, Ev.tyOk_bl, Ev.isT_int_int, Ev.isT_int_bool, Ev.isT_int_str, Ev.isT_int_tuple, Ev.isT_int_list, Ev.tyOk_int, Ev.isT_str_int, Ev.isT_str_bool, Ev.isT_str_str, Ev.isT_str_tuple, Ev.isT_str_list, Ev.tyOk_str, Ev.isT_tup_int, Ev.isT_tup_bool, Ev.isT_tup_str, Ev.isT_tup_tuple, Ev.isT_tup_list, Ev.tyOk_tup, Ev.isT_lst_int, Ev.isT_lst_bool, Ev.isT_lst_str, Ev.isT_lst_tuple, Ev.isT_lst_list, Ev.tyOk_lst, List.not_mem_nil, not_false_eq_true, List.nodup_cons, Bool.false_eq_true, ↓reduceIte, List.nodup_nil, true_and, and_true])
  simp only [h1, h2, hc]
  refine ⟨x, 2, 2, rfl, ht, ?_⟩
  (simp (config := { maxSteps := 100000000 }) only [Ev.wS, Ev.wE.eq_1, Ev.wE.eq_2, Ev.wE.eq_3, Ev.wE.eq_4, Ev.wE.eq_6, Ev.wE.eq_7, Ev.wE.eq_8, Ev.wE.eq_9, Ev.wE.eq_10, Ev.wE.eq_11, Ev.wE.eq_12, Ev.wE.eq_13, Ev.wE.eq_14, Ev.wE.eq_15, Ev.wE.eq_16, Ev.wE.eq_17, Ev.wE.eq_18, Ev.wE.eq_19, Ev.wE.eq_20, Ev.wE.eq_21, Ev.wE.eq_22, Ev.wE.eq_23, Ev.wE.eq_24, Ev.wE.eq_25, Ev.wE.eq_26, Ev.wE.eq_27, Ev.wE_var, Ev.optK_some, Ev.selR_val, Ev.selR_own, Ev.rdS_val, Ev.rdS_own, Ev.fzS_val, Ev.fzS_own, Ev.argS_val, Ev.argS_own, Ev.wT, Ev.wAs, Ev.wEs, Ev.wI, Ev.wO, Ev.wG_nam, Ev.wG_tup, Ev.wGs_nil, Ev.wGs_cons, Ev.Tg.n, Ev.wipeE, Ev.restE, List.getD_cons_zero, List.getD_cons_succ, Ev.same2, Ev.items, Ev.rdK_val, Ev.rdK_tmp, Ev.rdK_at, Ev.rdsK, Ev.fzK_val, Ev.fzK_tmp, Ev.fzK_at, Ev.stW_val, Ev.stW_tmp, Ev.stW_bor, Ev.nbW_val, Ev.nbW_tmp, Ev.nbW_bor, Ev.binW_add, Ev.binW_sub, Ev.binW_mul, Ev.binW_div, Ev.binW_mod, Ev.binW_pow, Ev.binW_lst, Ev.binW_tup, Ev.binW_str, Ev.binW_rep, Ev.cmpW_lt, Ev.cmpW_le, Ev.cmpW_gt, Ev.cmpW_ge, Ev.cmpW_eq, Ev.cmpW_ne, Ev.cmpW_is, Ev.cmpW_isN, Ev.cmpW_inT, Ev.cmpW_inL, Ev.cmpW_niT, Ev.cmpW_niL, Ev.ixW_tup, Ev.ixW_lst, Ev.bltW_abs, Ev.bltW_int, Ev.bltW_gcd, Ev.bltW_lenT, Ev.bltW_lenL, Ev.bltW_scr, Ev.bltW_listL, Ev.bltW_listT, Ev.bltW_tupL, Ev.bltW_tupT, List.replicate, List.append_nil, List.cons_append, List.nil_append, List.getElem?_cons_zero, List.getElem?_cons_succ, List.length_cons, List.length_nil, List.set_cons_zero, List.set_cons_succ, Ev.argsOf, Ev.argOf_val, Ev.argOf_at, Ev.bors, Ev.backs_val, Ev.backs_bor, Ev.backs_nil, Ev.loses, Ev.retW_val, Ev.retW_tmp, Ev.parOf, Ev.outsOf, List.replicate_zero, Nat.sub_self, Ev.isOwnL, List.getElem?_nil, reduceCtorEq, decide_eq_true_eq, Ev.cmpOk_int, Ev.cmpOk_bl, Ev.cmpOk_non, Ev.cmpOk_nil, Ev.cmpOk_nilT, Ev.peq_int, Ev.peq_bl, Ev.peq_str, Ev.peq_non, Ev.peq_nil, Ev.peq_nilT, Ev.peq_consL, Ev.isT_non_int, Ev.isT_non_bool, Ev.isT_non_str, Ev.isT_non_tuple, Ev.isT_non_list, Ev.tyOk_non, Ev.isT_bl_int, Ev.isT_bl_bool, Ev.isT_bl_str, Ev.isT_bl_tuple, Ev.isT_bl_list, Ev.tyOk_bl, Ev.isT_int_int, Ev.isT_int_bool, Ev.isT_int_str, Ev.isT_int_tuple, Ev.isT_int_list, Ev.tyOk_int, Ev.isT_str_int, Ev.isT_str_bool, Ev.isT_str_str, Ev.isT_str_tuple, Ev.isT_str_list, Ev.tyOk_str, Ev.isT_tup_int, Ev.isT_tup_bool, Ev.isT_tup_str, Ev.isT_tup_tuple, Ev.isT_tup_list, Ev.tyOk_tup, Ev.isT_lst_int, Ev.isT_lst_bool, Ev.isT_lst_str, Ev.isT_lst_tuple, Ev.isT_lst_list, Ev.tyOk_lst, List.not_mem_nil, not_false_eq_true, List.nodup_cons, Bool.false_eq_true, ↓reduceIte, List.nodup_nil, true_and, and_true])
  cases h : isTupP x 2 2 with
  | false =>
    simp only [Bool.not_false, ↓reduceIte]
    have e : isQuoP x = false := by
      unfold isQuoP
      split
      · simp [isTupP] at h
      · rfl
    rw [e] at hk
    exact hk
  | true =>
    obtain ⟨y, z, rfl⟩ : ∃ y z, x = .tup [y, z] := by
      cases x with
      | tup xs =>
        simp [isTupP] at h
        match xs, h with
        | [], h => simp at h
        | [y], h => simp at h
        | [y, z], h => exact ⟨y, z, rfl⟩
        | _ :: _ :: _ :: r, h => simp at h; omega
      | _ => simp [isTupP] at h
    obtain ⟨ty, tz⟩ := ht2 y z rfl
    simp only [Bool.not_true, Bool.false_eq_true, ↓reduceIte]
    refine ⟨y, rfl, ?_⟩
    (simp (config := { maxSteps := 100000000 }) only [Ev.wS, Ev.wE.eq_1, Ev.wE.eq_2, Ev.wE.eq_3, Ev.wE.eq_4, Ev.wE.eq_6, Ev.wE.eq_7, Ev.wE.eq_8, Ev.wE.eq_9, Ev.wE.eq_10, Ev.wE.eq_11, Ev.wE.eq_12, Ev.wE.eq_13, Ev.wE.eq_14, Ev.wE.eq_15, Ev.wE.eq_16, Ev.wE.eq_17, Ev.wE.eq_18, Ev.wE.eq_19, Ev.wE.eq_20, Ev.wE.eq_21, Ev.wE.eq_22, Ev.wE.eq_23, Ev.wE.eq_24, Ev.wE.eq_25, Ev.wE.eq_26, Ev.wE.eq_27, Ev.wE_var, Ev.optK_some, Ev.selR_val, Ev.selR_own, Ev.rdS_val, Ev.rdS_own, Ev.fzS_val, Ev.fzS_own, Ev.argS_val, Ev.argS_own, Ev.wT, Ev.wAs, Ev.wEs, Ev.wI, Ev.wO, Ev.wG_nam, Ev.wG_tup, Ev.wGs_nil, Ev.wGs_cons, Ev.Tg.n, Ev.wipeE, Ev.restE, List.getD_cons_zero, List.getD_cons_succ, Ev.same2, Ev.items, Ev.rdK_val, Ev.rdK_tmp, Ev.rdK_at, Ev.rdsK, Ev.fzK_val, Ev.fzK_tmp, Ev.fzK_at, Ev.stW_val, Ev.stW_tmp, Ev.stW_bor, Ev.nbW_val, Ev.nbW_tmp, Ev.nbW_bor, Ev.binW_add, Ev.binW_sub, Ev.binW_mul, Ev.binW_div, Ev.binW_mod, Ev.binW_pow, Ev.binW_lst, Ev.binW_tup, Ev.binW_str, Ev.binW_rep, Ev.cmpW_lt, Ev.cmpW_le, Ev.cmpW_gt, Ev.cmpW_ge, Ev.cmpW_eq, Ev.cmpW_ne, Ev.cmpW_is, Ev.cmpW_isN, Ev.cmpW_inT, Ev.cmpW_inL, Ev.cmpW_niT, Ev.cmpW_niL, Ev.ixW_tup, Ev.ixW_lst, Ev.bltW_abs, Ev.bltW_int, Ev.bltW_gcd, Ev.bltW_lenT, Ev.bltW_lenL, Ev.bltW_scr, Ev.bltW_listL, Ev.bltW_listT, Ev.bltW_tupL, Ev.bltW_tupT, List.replicate, List.append_nil, List.cons_append, List.nil_append, List.getElem?_cons_zero, List.getElem?_cons_succ, List.length_cons, List.length_nil, List.set_cons_zero, List.set_cons_succ, Ev.argsOf, Ev.argOf_val, Ev.argOf_at, Ev.bors, Ev.backs_val, Ev.backs_bor, Ev.backs_nil, Ev.loses, Ev.retW_val, Ev.retW_tmp, Ev.parOf, Ev.outsOf, List.replicate_zero, Nat.sub_self, Ev.isOwnL, List.getElem?_nil, reduceCtorEq, decide_eq_true_eq, Ev.cmpOk_int, Ev.cmpOk_bl, Ev.cmpOk_non, Ev.cmpOk_nil, Ev.cmpOk_nilT, Ev.peq_int, Ev.peq_bl, Ev.peq_str, Ev.peq_non, Ev.peq_nil, Ev.peq_nilT, Ev.peq_consL, Ev.isT_non_int, Ev.isT_non_bool, Ev.isT_non_str, Ev.isT_non_tuple, Ev.isT_non_list, Ev.tyOk_non, Ev.isT_bl_int, Ev.isT_bl_bool, Ev.isT_bl_str, Ev.isT_bl_tuple, Ev.isT_bl_list, Ev.tyOk_bl, Ev.isT_int_int, Ev.isT_int_bool, Ev.isT_int_str, Ev.isT_int_tuple, Ev.isT_int_list, Ev.tyOk_int, Ev.isT_str_int, Ev.isT_str_bool, Ev.isT_str_str, Ev.isT_str_tuple, Ev.isT_str_list, Ev.tyOk_str, Ev.isT_tup_int, Ev.isT_tup_bool, Ev.isT_tup_str, Ev.isT_tup_tuple, Ev.isT_tup_list, Ev.tyOk_tup, Ev.isT_lst_int, Ev.isT_lst_bool, Ev.isT_lst_str, Ev.isT_lst_tuple, Ev.isT_lst_list, Ev.tyOk_lst, List.not_mem_nil, not_false_eq_true, List.nodup_cons, Bool.false_eq_true, ↓reduceIte, List.nodup_nil, true_and, and_true])
    refine ⟨y, -GR, GR, rfl, ty, ?_⟩
    (simp (config := { maxSteps := 100000000 }) only [Ev.wS, Ev.wE.eq_1, Ev.wE.eq_2, Ev.wE.eq_3, Ev.wE.eq_4, Ev.wE.eq_6, Ev.wE.eq_7, Ev.wE.eq_8, Ev.wE.eq_9, Ev.wE.eq_10, Ev.wE.eq_11, Ev.wE.eq_12, Ev.wE.eq_13, Ev.wE.eq_14, Ev.wE.eq_15, Ev.wE.eq_16, Ev.wE.eq_17, Ev.wE.eq_18, Ev.wE.eq_19, Ev.wE.eq_20, Ev.wE.eq_21, Ev.wE.eq_22, Ev.wE.eq_23, Ev.wE.eq_24, Ev.wE.eq_25, Ev.wE.eq_26, Ev.wE.eq_27, Ev.wE_var, Ev.optK_some, Ev.selR_val, Ev.selR_own, Ev.rdS_val, Ev.rdS_own, Ev.fzS_val, Ev.fzS_own, Ev.argS_val, Ev.argS_own, Ev.wT, Ev.wAs, Ev.wEs, Ev.wI, Ev.wO, Ev.wG_nam, Ev.wG_tup, Ev.wGs_nil, Ev.wGs_cons, Ev.Tg.n, Ev.wipeE, Ev.restE, List.getD_cons_zero, List.getD_cons_succ, Ev.same2, Ev.items, Ev.rdK_val, Ev.rdK_tmp, Ev.rdK_at, Ev.rdsK, Ev.fzK_val, Ev.fzK_tmp, Ev.fzK_at, Ev.stW_val, Ev.stW_tmp, Ev.stW_bor, Ev.nbW_val, Ev.nbW_tmp, Ev.nbW_bor, Ev.binW_add, Ev.binW_sub, Ev.binW_mul, Ev.binW_div, Ev.binW_mod, Ev.binW_pow, Ev.binW_lst, Ev.binW_tup, Ev.binW_str, Ev.binW_rep, Ev.cmpW_lt, Ev.cmpW_le, Ev.cmpW_gt, Ev.cmpW_ge, Ev.cmpW_eq, Ev.cmpW_ne, Ev.cmpW_is, Ev.cmpW_isN, Ev.cmpW_inT, Ev.cmpW_inL, Ev.cmpW_niT, Ev.cmpW_niL, Ev.ixW_tup, Ev.ixW_lst, Ev.bltW_abs, Ev.bltW_int, Ev.bltW_gcd, Ev.bltW_lenT, Ev.bltW_lenL, Ev.bltW_scr, Ev.bltW_listL, Ev.bltW_listT, Ev.bltW_tupL, Ev.bltW_tupT, List.replicate, List.append_nil, List.cons_append, List.nil_append, List.getElem?_cons_zero, List.getElem?_cons_succ, List.length_cons, List.length_nil, List.set_cons_zero, List.set_cons_succ, Ev.argsOf, Ev.argOf_val, Ev.argOf_at, Ev.bors, Ev.backs_val, Ev.backs_bor, Ev.backs_nil, Ev.loses, Ev.retW_val, Ev.retW_tmp, Ev.parOf, Ev.outsOf, List.replicate_zero, Nat.sub_self, Ev.isOwnL, List.getElem?_nil, reduceCtorEq, decide_eq_true_eq, Ev.cmpOk_int, Ev.cmpOk_bl, Ev.cmpOk_non, Ev.cmpOk_nil, Ev.cmpOk_nilT, Ev.peq_int, Ev.peq_bl, Ev.peq_str, Ev.peq_non, Ev.peq_nil, Ev.peq_nilT, Ev.peq_consL, Ev.isT_non_int, Ev.isT_non_bool, Ev.isT_non_str, Ev.isT_non_tuple, Ev.isT_non_list, Ev.tyOk_non, Ev.isT_bl_int, Ev.isT_bl_bool, Ev.isT_bl_str, Ev.isT_bl_tuple, Ev.isT_bl_list, Ev.tyOk_bl, Ev.isT_int_int, Ev.isT_int_bool, Ev.isT_int_str, Ev.isT_int_tuple, Ev.isT_int_list, Ev.tyOk_int, Ev.isT_str_int, Ev.isT_str_bool, Ev.isT_str_str, Ev.isT_str_tuple, Ev.isT_str_list, Ev.tyOk_str, Ev.isT_tup_int, Ev.isT_tup_bool, Ev.isT_tup_str, Ev.isT_tup_tuple, Ev.isT_tup_list, Ev.tyOk_tup, Ev.isT_lst_int, Ev.isT_lst_bool, Ev.isT_lst_str, Ev.isT_lst_tuple, Ev.isT_lst_list, Ev.tyOk_lst, List.not_mem_nil, not_false_eq_true, List.nodup_cons, Bool.false_eq_true, ↓reduceIte, List.nodup_nil, true_and, and_true])
    cases hy : isWholeP y (-GR) GR with
    | false =>
      simp only [Bool.not_false, ↓reduceIte]
      have e : isQuoP (.tup [y, z]) = false := by simp [isQuoP, hy]
      rw [e] at hk
      exact hk
    | true =>
      simp only [Bool.not_true, Bool.false_eq_true, ↓reduceIte]
      refine ⟨z, rfl, ?_⟩
      refine ⟨z, 1, GR, rfl, tz, ?_⟩
      (simp (config := { maxSteps := 100000000 }) only [Ev.wS, Ev.wE.eq_1, Ev.wE.eq_2, Ev.wE.eq_3, Ev.wE.eq_4, Ev.wE.eq_6, Ev.wE.eq_7, Ev.wE.eq_8, Ev.wE.eq_9, Ev.wE.eq_10, Ev.wE.eq_11, Ev.wE.eq_12, Ev.wE.eq_13, Ev.wE.eq_14, Ev.wE.eq_15, Ev.wE.eq_16, Ev.wE.eq_17, Ev.wE.eq_18, Ev.wE.eq_19, Ev.wE.eq_20, Ev.wE.eq_21, Ev.wE.eq_22, Ev.wE.eq_23, Ev.wE.eq_24, Ev.wE.eq_25, Ev.wE.eq_26, Ev.wE.eq_27, Ev.wE_var, Ev.optK_some, Ev.selR_val, Ev.selR_own, Ev.rdS_val, Ev.rdS_own, Ev.fzS_val, Ev.fzS_own, Ev.argS_val, Ev.argS_own, Ev.wT, Ev.wAs, Ev.wEs, Ev.wI, Ev.wO, Ev.wG_nam, Ev.wG_tup, Ev.wGs_nil, Ev.wGs_cons, Ev.Tg.n, Ev.wipeE, Ev.restE, List.getD_cons_zero, List.getD_cons_succ, Ev.same2, Ev.items, Ev.rdK_val, Ev.rdK_tmp, Ev.rdK_at, Ev.rdsK, Ev.fzK_val, Ev.fzK_tmp, Ev.fzK_at, Ev.stW_val, Ev.stW_tmp, Ev.stW_bor, Ev.nbW_val, Ev.nbW_tmp, Ev.nbW_bor, Ev.binW_add, Ev.binW_sub, Ev.binW_mul, Ev.binW_div, Ev.binW_mod, Ev.binW_pow, Ev.binW_lst, Ev.binW_tup, Ev.binW_str, Ev.binW_rep, Ev.cmpW_lt, Ev.cmpW_le, Ev.cmpW_gt, Ev.cmpW_ge, Ev.cmpW_eq, Ev.cmpW_ne, Ev.cmpW_is, Ev.cmpW_isN, Ev.cmpW_inT, Ev.cmpW_inL, Ev.cmpW_niT, Ev.cmpW_niL, Ev.ixW_tup, Ev.ixW_lst, Ev.bltW_abs, Ev.bltW_int, Ev.bltW_gcd, Ev.bltW_lenT, Ev.bltW_lenL, Ev.bltW_scr, Ev.bltW_listL, Ev.bltW_listT, Ev.bltW_tupL, Ev.bltW_tupT, List.replicate, List.append_nil, List.cons_append, List.nil_append, List.getElem?_cons_zero, List.getElem?_cons_succ, List.length_cons, List.length_nil, List.set_cons_zero, List.set_cons_succ, Ev.argsOf, Ev.argOf_val, Ev.argOf_at, Ev.bors, Ev.backs_val, Ev.backs_bor, Ev.backs_nil, Ev.loses, Ev.retW_val, Ev.retW_tmp, Ev.parOf, Ev.outsOf, List.replicate_zero, Nat.sub_self, Ev.isOwnL, List.getElem?_nil, reduceCtorEq, decide_eq_true_eq, Ev.cmpOk_int, Ev.cmpOk_bl, Ev.cmpOk_non, Ev.cmpOk_nil, Ev.cmpOk_nilT, Ev.peq_int, Ev.peq_bl, Ev.peq_str, Ev.peq_non, Ev.peq_nil, Ev.peq_nilT, Ev.peq_consL, Ev.isT_non_int, Ev.isT_non_bool, Ev.isT_non_str, Ev.isT_non_tuple, Ev.isT_non_list, Ev.tyOk_non, Ev.isT_bl_int, Ev.isT_bl_bool, Ev.isT_bl_str, Ev.isT_bl_tuple, Ev.isT_bl_list, Ev.tyOk_bl, Ev.isT_int_int, Ev.isT_int_bool, Ev.isT_int_str, Ev.isT_int_tuple, Ev.isT_int_list, Ev.tyOk_int, Ev.isT_str_int, Ev.isT_str_bool, Ev.isT_str_str, Ev.isT_str_tuple, Ev.isT_str_list, Ev.tyOk_str, Ev.isT_tup_int, Ev.isT_tup_bool, Ev.isT_tup_str, Ev.isT_tup_tuple, Ev.isT_tup_list, Ev.tyOk_tup, Ev.isT_lst_int, Ev.isT_lst_bool, Ev.isT_lst_str, Ev.isT_lst_tuple, Ev.isT_lst_list, Ev.tyOk_lst, List.not_mem_nil, not_false_eq_true, List.nodup_cons, Bool.false_eq_true, ↓reduceIte, List.nodup_nil, true_and, and_true])
      cases hz : isWholeP z 1 GR with
      | false =>
        simp only [Bool.not_false, ↓reduceIte]
        have e : isQuoP (.tup [y, z]) = false := by simp [isQuoP, hz]
        rw [e] at hk
        exact hk
      | true =>
        simp only [Bool.not_true, Bool.false_eq_true, ↓reduceIte]
        cases y with
        | int a => cases z with
          | int b =>
            refine ⟨.int a, rfl, .int b, rfl, ?_⟩
            (simp (config := { maxSteps := 100000000 }) only [Ev.wS, Ev.wE.eq_1, Ev.wE.eq_2, Ev.wE.eq_3, Ev.wE.eq_4, Ev.wE.eq_6, Ev.wE.eq_7, Ev.wE.eq_8, Ev.wE.eq_9, Ev.wE.eq_10, Ev.wE.eq_11, Ev.wE.eq_12, Ev.wE.eq_13, Ev.wE.eq_14, Ev.wE.eq_15, Ev.wE.eq_16, Ev.wE.eq_17, Ev.wE.eq_18, Ev.wE.eq_19, Ev.wE.eq_20, Ev.wE.eq_21, Ev.wE.eq_22, Ev.wE.eq_23, Ev.wE.eq_24, Ev.wE.eq_25, Ev.wE.eq_26, Ev.wE.eq_27, Ev.wE_var, Ev.optK_some, Ev.selR_val, Ev.selR_own, Ev.rdS_val, Ev.rdS_own, Ev.fzS_val, Ev.fzS_own, Ev.argS_val, Ev.argS_own, Ev.wT, Ev.wAs, Ev.wEs, Ev.wI, Ev.wO, Ev.wG_nam, Ev.wG_tup, Ev.wGs_nil, Ev.wGs_cons, Ev.Tg.n, Ev.wipeE, Ev.restE, List.getD_cons_zero, List.getD_cons_succ, Ev.same2, Ev.items, Ev.rdK_val, Ev.rdK_tmp, Ev.rdK_at, Ev.rdsK, Ev.fzK_val, Ev.fzK_tmp, Ev.fzK_at, Ev.stW_val, Ev.stW_tmp, Ev.stW_bor, Ev.nbW_val, Ev.nbW_tmp, Ev.nbW_bor, Ev.binW_add, Ev.binW_sub, Ev.binW_mul, Ev.binW_div, Ev.binW_mod, Ev.binW_pow, Ev.binW_lst, Ev.binW_tup, Ev.binW_str, Ev.binW_rep, Ev.cmpW_lt, Ev.cmpW_le, Ev.cmpW_gt, Ev.cmpW_ge, Ev.cmpW_eq, Ev.cmpW_ne, Ev.cmpW_is, Ev.cmpW_isN, Ev.cmpW_inT, Ev.cmpW_inL, Ev.cmpW_niT, Ev.cmpW_niL, Ev.ixW_tup, Ev.ixW_lst, Ev.bltW_abs, Ev.bltW_int, Ev.bltW_gcd, Ev.bltW_lenT, Ev.bltW_lenL, Ev.bltW_scr, Ev.bltW_listL, Ev.bltW_listT, Ev.bltW_tupL, Ev.bltW_tupT, List.replicate, List.append_nil, List.cons_append, List.nil_append, List.getElem?_cons_zero, List.getElem?_cons_succ, List.length_cons, List.length_nil, List.set_cons_zero, List.set_cons_succ, Ev.argsOf, Ev.argOf_val, Ev.argOf_at, Ev.bors, Ev.backs_val, Ev.backs_bor, Ev.backs_nil, Ev.loses, Ev.retW_val, Ev.retW_tmp, Ev.parOf, Ev.outsOf, List.replicate_zero, Nat.sub_self, Ev.isOwnL, List.getElem?_nil, reduceCtorEq, decide_eq_true_eq, Ev.cmpOk_int, Ev.cmpOk_bl, Ev.cmpOk_non, Ev.cmpOk_nil, Ev.cmpOk_nilT, Ev.peq_int, Ev.peq_bl, Ev.peq_str, Ev.peq_non, Ev.peq_nil, Ev.peq_nilT, Ev.peq_consL, Ev.isT_non_int, Ev.isT_non_bool, Ev.isT_non_str, Ev.isT_non_tuple, Ev.isT_non_list, Ev.tyOk_non, Ev.isT_bl_int, Ev.isT_bl_bool, Ev.isT_bl_str, Ev.isT_bl_tuple, Ev.isT_bl_list, Ev.tyOk_bl, Ev.isT_int_int, Ev.isT_int_bool, Ev.isT_int_str, Ev.isT_int_tuple, Ev.isT_int_list, Ev.tyOk_int, Ev.isT_str_int, Ev.isT_str_bool, Ev.isT_str_str, Ev.isT_str_tuple, Ev.isT_str_list, Ev.tyOk_str, Ev.isT_tup_int, Ev.isT_tup_bool, Ev.isT_tup_str, Ev.isT_tup_tuple, Ev.isT_tup_list, Ev.tyOk_tup, Ev.isT_lst_int, Ev.isT_lst_bool, Ev.isT_lst_str, Ev.isT_lst_tuple, Ev.isT_lst_list, Ev.tyOk_lst, List.not_mem_nil, not_false_eq_true, List.nodup_cons, Bool.false_eq_true, ↓reduceIte, List.nodup_nil, true_and, and_true])
            have e : isQuoP (.tup [.int a, .int b]) = decide (Nat.gcd a.natAbs b.natAbs = 1) := by simp [isQuoP, hy, hz, copP]
            rw [e] at hk
            have e2 : (decide (((Nat.gcd a.natAbs b.natAbs : Nat) : Int) = 1)) = decide (Nat.gcd a.natAbs b.natAbs = 1) := by
              congr 1
              exact propext ⟨fun h => by omega, fun h => by omega⟩
            rw [e2]
            exact hk
          | _ => simp [isWholeP] at hz
        | _ => simp [isWholeP] at hy
def S_need_quotient : FnS := fun ss Kp Xk => ∃ x, ss = [.val x] ∧ quoOk x ∧ (isQuoP x = true → Kp false .non ss) ∧ (isQuoP x = false → Xk "InvalidQuotient")
theorem ok_need_quotient {Φ : Tbl} (h1 : Φ.fn "is_quotient" = some S_is_quotient) : ∀ ss Kp Xk, S_need_quotient ss Kp Xk → bodyS Φ 1 1 B_need_quotient ss Kp Xk := by
  rintro ss Kp Xk ⟨x, rfl, ht, hk, hx⟩
  refine ⟨rfl, ?_⟩
  unfold B_need_quotient
  (simp (config := { maxSteps := 100000000 }) only [Ev.wS, Ev.wE.eq_1, Ev.wE.eq_2, Ev.wE.eq_3, Ev.wE.eq_4, Ev.wE.eq_6, Ev.wE.eq_7, Ev.wE.eq_8, Ev.wE.eq_9, Ev.wE.eq_10, Ev.wE.eq_11, Ev.wE.eq_12, Ev.wE.eq_13, Ev.wE.eq_14, Ev.wE.eq_15, Ev.wE.eq_16, Ev.wE.eq_17, Ev.wE.eq_18, Ev.wE.eq_19, Ev.wE.eq_20, Ev.wE.eq_21, Ev.wE.eq_22, Ev.wE.eq_23, Ev.wE.eq_24, Ev.wE.eq_25, Ev.wE.eq_26, Ev.wE.eq_27, Ev.wE_var, Ev.optK_some, Ev.selR_val, Ev.selR_own, Ev.rdS_val, Ev.rdS_own, Ev.fzS_val, Ev.fzS_own, Ev.argS_val, Ev.argS_own, Ev.wT, Ev.wAs, Ev.wEs, Ev.wI, Ev.wO, Ev.wG_nam, Ev.wG_tup, Ev.wGs_nil, Ev.wGs_cons, Ev.Tg.n, Ev.wipeE, Ev.restE, List.getD_cons_zero, List.getD_cons_succ, Ev.same2, Ev.items, Ev.rdK_val, Ev.rdK_tmp, Ev.rdK_at, Ev.rdsK, Ev.fzK_val, Ev.fzK_tmp, Ev.fzK_at, Ev.stW_val, Ev.stW_tmp, Ev.stW_bor, Ev.nbW_val, Ev.nbW_tmp, Ev.nbW_bor, Ev.binW_add, Ev.binW_sub, Ev.binW_mul, Ev.binW_div, Ev.binW_mod, Ev.binW_pow, Ev.binW_lst, Ev.binW_tup, Ev.binW_str, Ev.binW_rep, Ev.cmpW_lt, Ev.cmpW_le, Ev.cmpW_gt, Ev.cmpW_ge, Ev.cmpW_eq, Ev.cmpW_ne, Ev.cmpW_is, Ev.cmpW_isN, Ev.cmpW_inT, Ev.cmpW_inL, Ev.cmpW_niT, Ev.cmpW_niL, Ev.ixW_tup, Ev.ixW_lst, Ev.bltW_abs, Ev.bltW_int, Ev.bltW_gcd, Ev.bltW_lenT, Ev.bltW_lenL, Ev.bltW_scr, Ev.bltW_listL, Ev.bltW_listT, Ev.bltW_tupL, Ev.bltW_tupT, List.replicate, List.append_nil, List.cons_append, List.nil_append, List.getElem?_cons_zero, List.getElem?_cons_succ, List.length_cons, List.length_nil, List.set_cons_zero, List.set_cons_succ, Ev.argsOf, Ev.argOf_val, Ev.argOf_at, Ev.bors, Ev.backs_val, Ev.backs_bor, Ev.backs_nil, Ev.loses, Ev.retW_val, Ev.retW_tmp, Ev.parOf, Ev.outsOf, List.replicate_zero, Nat.sub_self, Ev.isOwnL, List.getElem?_nil, reduceCtorEq, decide_eq_true_eq, Ev.cmpOk_int, Ev.cmpOk_bl, Ev.cmpOk_non, Ev.cmpOk_nil, Ev.cmpOk_nilT, Ev.peq_int, Ev.peq_bl, Ev.peq_str, Ev.peq_non, Ev.peq_nil, Ev.peq_nilT, Ev.peq_consL, Ev.isT_non_int, Ev.isT_non_bool, Ev.isT_non_str, Ev.isT_non_tuple, Ev.isT_non_list, Ev.tyOk_non, Ev.isT_bl_int, Ev.isT_bl_bool, Ev.isT_bl_str, Ev.isT_bl_tuple, Ev.isT_bl_list, Ev.tyOk_bl, Ev.isT_int_int, Ev.isT_int_bool, Ev.isT_int_str, Ev.isT_int_tuple, Ev.isT_int_list, Ev.tyOk_int, Ev.isT_str_int, Ev.isT_str_bool, Ev.isT_str_str, Ev.isT_str_tuple, Ev.isT_str_list, Ev.tyOk_str, Ev.isT_tup_int, Ev.isT_tup_bool, Ev.isT_tup_str, Ev.isT_tup_tuple, Ev.isT_tup_list, Ev.tyOk_tup, Ev.isT_lst_int, Ev.isT_lst_bool, Ev.isT_lst_str, Ev.isT_lst_tuple, Ev.isT_lst_list, Ev.tyOk_lst, List.not_mem_nil, not_false_eq_true, List.nodup_cons, Bool.false_eq_true, ↓reduceIte, List.nodup_nil, true_and, and_true])
  simp only [h1]
  refine ⟨x, rfl, ht, ?_⟩
  cases h : isQuoP x with
  | true => (simp (config := { maxSteps := 100000000 }) only [Ev.wS, Ev.wE.eq_1, Ev.wE.eq_2, Ev.wE.eq_3, Ev.wE.eq_4, Ev.wE.eq_6, Ev.wE.eq_7, Ev.wE.eq_8, Ev.wE.eq_9, Ev.wE.eq_10, Ev.wE.eq_11, Ev.wE.eq_12, Ev.wE.eq_13, Ev.wE.eq_14, Ev.wE.eq_15, Ev.wE.eq_16, Ev.wE.eq_17, Ev.wE.eq_18, Ev.wE.eq_19, Ev.wE.eq_20, Ev.wE.eq_21, Ev.wE.eq_22, Ev.wE.eq_23, Ev.wE.eq_24, Ev.wE.eq_25, Ev.wE.eq_26, Ev.wE.eq_27, Ev.wE_var, Ev.optK_some, Ev.selR_val, Ev.selR_own, Ev.rdS_val, Ev.rdS_own, Ev.fzS_val, Ev.fzS_own, Ev.argS_val, Ev.argS_own, Ev.wT, Ev.wAs, Ev.wEs, Ev.wI, Ev.wO, Ev.wG_nam, Ev.wG_tup, Ev.wGs_nil, Ev.wGs_cons, Ev.Tg.n, Ev.wipeE, Ev.restE, List.getD_cons_zero, List.getD_cons_succ, Ev.same2, Ev.items, Ev.rdK_val, Ev.rdK_tmp, Ev.rdK_at, Ev.rdsK, Ev.fzK_val, Ev.fzK_tmp, Ev.fzK_at, Ev.stW_val, Ev.stW_tmp, Ev.stW_bor, Ev.nbW_val, Ev.nbW_tmp, Ev.nbW_bor, Ev.binW_add, Ev.binW_sub, Ev.binW_mul, Ev.binW_div, Ev.binW_mod, Ev.binW_pow, Ev.binW_lst, Ev.binW_tup, Ev.binW_str, Ev.binW_rep, Ev.cmpW_lt, Ev.cmpW_le, Ev.cmpW_gt, Ev.cmpW_ge, Ev.cmpW_eq, Ev.cmpW_ne, Ev.cmpW_is, Ev.cmpW_isN, Ev.cmpW_inT, Ev.cmpW_inL, Ev.cmpW_niT, Ev.cmpW_niL, Ev.ixW_tup, Ev.ixW_lst, Ev.bltW_abs, Ev.bltW_int, Ev.bltW_gcd, Ev.bltW_lenT, Ev.bltW_lenL, Ev.bltW_scr, Ev.bltW_listL, Ev.bltW_listT, Ev.bltW_tupL, Ev.bltW_tupT, List.replicate, List.append_nil, List.cons_append, List.nil_append, List.getElem?_cons_zero, List.getElem?_cons_succ, List.length_cons, List.length_nil, List.set_cons_zero, List.set_cons_succ, Ev.argsOf, Ev.argOf_val, Ev.argOf_at, Ev.bors, Ev.backs_val, Ev.backs_bor, Ev.backs_nil, Ev.loses, Ev.retW_val, Ev.retW_tmp, Ev.parOf, Ev.outsOf, List.replicate_zero, Nat.sub_self, Ev.isOwnL, List.getElem?_nil, reduceCtorEq, decide_eq_true_eq, Ev.cmpOk_int, Ev.cmpOk_bl, Ev.cmpOk_non, Ev.cmpOk_nil, Ev.cmpOk_nilT, Ev.peq_int, Ev.peq_bl, Ev.peq_str, Ev.peq_non, Ev.peq_nil, Ev.peq_nilT, Ev.peq_consL, Ev.isT_non_int, Ev.isT_non_bool, Ev.isT_non_str, Ev.isT_non_tuple, Ev.isT_non_list, Ev.tyOk_non, Ev.isT_bl_int, Ev.isT_bl_bool, Ev.isT_bl_str, Ev.isT_bl_tuple, Ev.isT_bl_list, Ev.tyOk_bl, Ev.isT_int_int, Ev.isT_int_bool, Ev.isT_int_str, Ev.isT_int_tuple, Ev.isT_int_list, Ev.tyOk_int, Ev.isT_str_int, Ev.isT_str_bool, Ev.isT_str_str, Ev.isT_str_tuple, Ev.isT_str_list, Ev.tyOk_str, Ev.isT_tup_int, Ev.isT_tup_bool, Ev.isT_tup_str, Ev.isT_tup_tuple, Ev.isT_tup_list, Ev.tyOk_tup, Ev.isT_lst_int, Ev.isT_lst_bool, Ev.isT_lst_str, Ev.isT_lst_tuple, Ev.isT_lst_list, Ev.tyOk_lst, List.not_mem_nil, not_false_eq_true, List.nodup_cons, Bool.false_eq_true, ↓reduceIte, List.nodup_nil, true_and, and_true]); exact hk h
  | false => (simp (config := { maxSteps := 100000000 }) only [Ev.wS, Ev.wE.eq_1, Ev.wE.eq_2, Ev.wE.eq_3, Ev.wE.eq_4, Ev.wE.eq_6, Ev.wE.eq_7, Ev.wE.eq_8, Ev.wE.eq_9, Ev.wE.eq_10, Ev.wE.eq_11, Ev.wE.eq_12, Ev.wE.eq_13, Ev.wE.eq_14, Ev.wE.eq_15, Ev.wE.eq_16, Ev.wE.eq_17, Ev.wE.eq_18, Ev.wE.eq_19, Ev.wE.eq_20, Ev.wE.eq_21, Ev.wE.eq_22, Ev.wE.eq_23, Ev.wE.eq_24, Ev.wE.eq_25, Ev.wE.eq_26, Ev.wE.eq_27, Ev.wE_var, Ev.optK_some, Ev.selR_val, Ev.selR_own, Ev.rdS_val, Ev.rdS_own, Ev.fzS_val, Ev.fzS_own, Ev.argS_val, Ev.argS_own, Ev.wT, Ev.wAs, Ev.wEs, Ev.wI, Ev.wO, Ev.wG_nam, Ev.wG_tup, Ev.wGs_nil, Ev.wGs_cons, Ev.Tg.n, Ev.wipeE, Ev.restE, List.getD_cons_zero, List.getD_cons_succ, Ev.same2, Ev.items, Ev.rdK_val, Ev.rdK_tmp, Ev.rdK_at, Ev.rdsK, Ev.fzK_val, Ev.fzK_tmp, Ev.fzK_at, Ev.stW_val, Ev.stW_tmp, Ev.stW_bor, Ev.nbW_val, Ev.nbW_tmp, Ev.nbW_bor, Ev.binW_add, Ev.binW_sub, Ev.binW_mul, Ev.binW_div, Ev.binW_mod, Ev.binW_pow, Ev.binW_lst, Ev.binW_tup, Ev.binW_str, Ev.binW_rep, Ev.cmpW_lt, Ev.cmpW_le, Ev.cmpW_gt, Ev.cmpW_ge, Ev.cmpW_eq, Ev.cmpW_ne, Ev.cmpW_is, Ev.cmpW_isN, Ev.cmpW_inT, Ev.cmpW_inL, Ev.cmpW_niT, Ev.cmpW_niL, Ev.ixW_tup, Ev.ixW_lst, Ev.bltW_abs, Ev.bltW_int, Ev.bltW_gcd, Ev.bltW_lenT, Ev.bltW_lenL, Ev.bltW_scr, Ev.bltW_listL, Ev.bltW_listT, Ev.bltW_tupL, Ev.bltW_tupT, List.replicate, List.append_nil, List.cons_append, List.nil_append, List.getElem?_cons_zero, List.getElem?_cons_succ, List.length_cons, List.length_nil, List.set_cons_zero, List.set_cons_succ, Ev.argsOf, Ev.argOf_val, Ev.argOf_at, Ev.bors, Ev.backs_val, Ev.backs_bor, Ev.backs_nil, Ev.loses, Ev.retW_val, Ev.retW_tmp, Ev.parOf, Ev.outsOf, List.replicate_zero, Nat.sub_self, Ev.isOwnL, List.getElem?_nil, reduceCtorEq, decide_eq_true_eq, Ev.cmpOk_int, Ev.cmpOk_bl, Ev.cmpOk_non, Ev.cmpOk_nil, Ev.cmpOk_nilT, Ev.peq_int, Ev.peq_bl, Ev.peq_str, Ev.peq_non, Ev.peq_nil, Ev.peq_nilT, Ev.peq_consL, Ev.isT_non_int, Ev.isT_non_bool, Ev.isT_non_str, Ev.isT_non_tuple, Ev.isT_non_list, Ev.tyOk_non, Ev.isT_bl_int, Ev.isT_bl_bool, Ev.isT_bl_str, Ev.isT_bl_tuple, Ev.isT_bl_list, Ev.tyOk_bl, Ev.isT_int_int, Ev.isT_int_bool, Ev.isT_int_str, Ev.isT_int_tuple, Ev.isT_int_list, Ev.tyOk_int, Ev.isT_str_int, Ev.isT_str_bool, Ev.isT_str_str, Ev.isT_str_tuple, Ev.isT_str_list, Ev.tyOk_str, Ev.isT_tup_int, Ev.isT_tup_bool, Ev.isT_tup_str, Ev.isT_tup_tuple, Ev.isT_tup_list, Ev.tyOk_tup, Ev.isT_lst_int, Ev.isT_lst_bool, Ev.isT_lst_str, Ev.isT_lst_tuple, Ev.isT_lst_list, Ev.tyOk_lst, List.not_mem_nil, not_false_eq_true, List.nodup_cons, Bool.false_eq_true, ↓reduceIte, List.nodup_nil, true_and, and_true]); exact hx h
/-- the quotient, made plain -/
def sgn (t b : Int) : Int := if b > 0 then ((Nat.gcd t.natAbs b.natAbs : Nat) : Int) else -((Nat.gcd t.natAbs b.natAbs : Nat) : Int)
def plainP (t b : Int) : PV := .tup [.int (t.fdiv (sgn t b)), .int (b.fdiv (sgn t b))]
theorem gcd_pos {t b : Int} (h : b ≠ 0) : 0 < Nat.gcd t.natAbs b.natAbs := Nat.gcd_pos_of_pos_right _ (by omega)
theorem log2_mono {a b : Nat} (h : a ≤ b) : a.log2 ≤ b.log2 := by
  by_cases ha : a = 0
  · subst ha; simp
  · have hb : b ≠ 0 := by omega
    exact (Nat.le_log2 hb).mpr (Nat.le_trans (Nat.log2_self_le ha) h)
theorem sgn_div {t b : Int} (h : b ≠ 0) (hb : b.natAbs.log2 < 9000) : DivOk (sgn t b) := by
  have h1 := gcd_pos (t := t) h
  have h2 : Nat.gcd t.natAbs b.natAbs ≤ b.natAbs := Nat.gcd_le_right _ (by omega)
  have h3 := log2_mono h2
  unfold sgn
  split
  · exact ⟨by omega, by rw [Int.natAbs_natCast]; omega⟩
  · exact ⟨by omega, by rw [Int.natAbs_neg, Int.natAbs_natCast]; omega⟩
def S_plain : FnS := fun ss Kp _ => ∃ t b, ss = [.val (.int t), .val (.int b)] ∧ b ≠ 0 ∧ b.natAbs.log2 < 9000 ∧ Kp false (plainP t b) ss
theorem ok_plain {Φ : Tbl} : ∀ ss Kp Xk, S_plain ss Kp Xk → bodyS Φ 2 3 B_plain ss Kp Xk := by
  rintro ss Kp Xk ⟨t, b, rfl, h0, hl, hk⟩
  refine ⟨rfl, ?_⟩
  have hd := sgn_div (t := t) h0 hl
  unfold B_plain
  (simp (config := { maxSteps := 100000000 }) only [Ev.wS, Ev.wE.eq_1, Ev.wE.eq_2, Ev.wE.eq_3, Ev.wE.eq_4, Ev.wE.eq_6, Ev.wE.eq_7, Ev.wE.eq_8, Ev.wE.eq_9, Ev.wE.eq_10, Ev.wE.eq_11, Ev.wE.eq_12, Ev.wE.eq_13, Ev.wE.eq_14, Ev.wE.eq_15, Ev.wE.eq_16, Ev.wE.eq_17, Ev.wE.eq_18, Ev.wE.eq_19, Ev.wE.eq_20, Ev.wE.eq_21, Ev.wE.eq_22, Ev.wE.eq_23, Ev.wE.eq_24, Ev.wE.eq_25, Ev.wE.eq_26, Ev.wE.eq_27, Ev.wE_var, Ev.optK_some, Ev.selR_val, Ev.selR_own, Ev.rdS_val, Ev.rdS_own, Ev.fzS_val, Ev.fzS_own, Ev.argS_val, Ev.argS_own, Ev.wT, Ev.wAs, Ev.wEs, Ev.wI, Ev.wO, Ev.wG_nam, Ev.wG_tup, Ev.wGs_nil, Ev.wGs_cons, Ev.Tg.n, Ev.wipeE, Ev.restE, List.getD_cons_zero, List.getD_cons_succ, Ev.same2, Ev.items, Ev.rdK_val, Ev.rdK_tmp, Ev.rdK_at, Ev.rdsK, Ev.fzK_val, Ev.fzK_tmp, Ev.fzK_at, Ev.stW_val, Ev.stW_tmp, Ev.stW_bor, Ev.nbW_val, Ev.nbW_tmp, Ev.nbW_bor, Ev.binW_add, Ev.binW_sub, Ev.binW_mul, Ev.binW_div, Ev.binW_mod, Ev.binW_pow, Ev.binW_lst, Ev.binW_tup, Ev.binW_str, Ev.binW_rep, Ev.cmpW_lt, Ev.cmpW_le, Ev.cmpW_gt, Ev.cmpW_ge, Ev.cmpW_eq, Ev.cmpW_ne, Ev.cmpW_is, Ev.cmpW_isN, Ev.cmpW_inT, Ev.cmpW_inL, Ev.cmpW_niT, Ev.cmpW_niL, Ev.ixW_tup, Ev.ixW_lst, Ev.bltW_abs, Ev.bltW_int, Ev.bltW_gcd, Ev.bltW_lenT, Ev.bltW_lenL, Ev.bltW_scr, Ev.bltW_listL, Ev.bltW_listT, Ev.bltW_tupL, Ev.bltW_tupT, List.replicate, List.append_nil, List.cons_append, List.nil_append, List.getElem?_cons_zero, List.getElem?_cons_succ, List.length_cons, List.length_nil, List.set_cons_zero, List.set_cons_succ, Ev.argsOf, Ev.argOf_val, Ev.argOf_at, Ev.bors, Ev.backs_val, Ev.backs_bor, Ev.backs_nil, Ev.loses, Ev.retW_val, Ev.retW_tmp, Ev.parOf, Ev.outsOf, List.replicate_zero, Nat.sub_self, Ev.isOwnL, List.getElem?_nil, reduceCtorEq, decide_eq_true_eq, Ev.cmpOk_int, Ev.cmpOk_bl, Ev.cmpOk_non, Ev.cmpOk_nil, Ev.cmpOk_nilT, Ev.peq_int, Ev.peq_bl, Ev.peq_str, Ev.peq_non, Ev.peq_nil, Ev.peq_nilT, Ev.peq_consL, Ev.isT_non_int, Ev.isT_non_bool, Ev.isT_non_str, Ev.isT_non_tuple, Ev.isT_non_list, Ev.tyOk_non, Ev.isT_bl_int, Ev.isT_bl_bool, Ev.isT_bl_str, Ev.isT_bl_tuple, Ev.isT_bl_list, Ev.tyOk_bl, Ev.isT_int_int, Ev.isT_int_bool, Ev.isT_int_str, Ev.isT_int_tuple, Ev.isT_int_list, Ev.tyOk_int, Ev.isT_str_int, Ev.isT_str_bool, Ev.isT_str_str, Ev.isT_str_tuple, Ev.isT_str_list, Ev.tyOk_str, Ev.isT_tup_int, Ev.isT_tup_bool, Ev.isT_tup_str, Ev.isT_tup_tuple, Ev.isT_tup_list, Ev.tyOk_tup, Ev.isT_lst_int, Ev.isT_lst_bool, Ev.isT_lst_str, Ev.isT_lst_tuple, Ev.isT_lst_list, Ev.tyOk_lst, List.not_mem_nil, not_false_eq_true, List.nodup_cons, Bool.false_eq_true, ↓reduceIte, List.nodup_nil, true_and, and_true])
  unfold plainP sgn at hk
  unfold sgn at hd
  by_cases h : b > 0
  · simp only [h, ↓reduceIte] at hk hd
    rw [if_pos h]
    exact ⟨hd, hd, by decide, hk⟩
  · simp only [h, ↓reduceIte] at hk hd
    rw [if_neg h]
    exact ⟨hd, hd, by decide, hk⟩
/-- within the bounds, the bottom above 0 -/
def canon (a b : Int) : Prop := (-GR ≤ a ∧ a ≤ GR) ∧ (1 ≤ b ∧ b ≤ GR)
theorem small_log {a : Int} {n : Nat} (h : a.natAbs < 2 ^ n) (hn : 0 < n) : a.natAbs.log2 < n := by
  by_cases h0 : a.natAbs = 0
  · rw [h0]; simpa using hn
  · exact (Nat.log2_lt h0).mpr h
theorem GR_lt : GR.natAbs < 2 ^ 200 := by decide
theorem abs_GR {a : Int} (h : -GR ≤ a ∧ a ≤ GR) : a.natAbs < 2 ^ 200 := Nat.lt_of_le_of_lt (by omega) GR_lt
theorem mul_ok {a b : Int} (ha : a.natAbs < 2 ^ 1000) (hb : b.natAbs < 2 ^ 1000) : Ev.MulOk a b := by
  have h1 := small_log ha (by decide)
  have h2 := small_log hb (by decide)
  unfold Ev.MulOk
  omega
theorem wide {a : Int} (h : -GR ≤ a ∧ a ≤ GR) : a.natAbs < 2 ^ 1000 := Nat.lt_trans (abs_GR h) (Nat.pow_lt_pow_right (by decide) (by decide))
theorem canon_abs {a b : Int} (h : canon a b) : (-GR ≤ a ∧ a ≤ GR) ∧ (-GR ≤ b ∧ b ≤ GR) := ⟨h.1, by have := h.2; constructor <;> omega⟩
theorem prod_lt {a b : Int} (ha : -GR ≤ a ∧ a ≤ GR) (hb : -GR ≤ b ∧ b ≤ GR) : (a * b).natAbs < 2 ^ 400 := by
  rw [Int.natAbs_mul]
  have h1 := abs_GR ha
  have h2 := abs_GR hb
  calc a.natAbs * b.natAbs < 2 ^ 200 * 2 ^ 200 := Nat.mul_lt_mul'' h1 h2
    _ = 2 ^ 400 := by rw [← Nat.pow_add]
theorem sum_lt {a b c d : Int} (ha : -GR ≤ a ∧ a ≤ GR) (hb : -GR ≤ b ∧ b ≤ GR) (hc : -GR ≤ c ∧ c ≤ GR) (hd : -GR ≤ d ∧ d ≤ GR) : (a * d + c * b).natAbs < 2 ^ 401 := by
  have h1 := prod_lt ha hd
  have h2 := prod_lt hc hb
  have h3 := Int.natAbs_add_le (a * d) (c * b)
  have e : (2 : Nat) ^ 401 = 2 ^ 400 + 2 ^ 400 := by rw [Nat.pow_succ, Nat.mul_two]
  omega
theorem pos_ne {b d : Int} (hb : 1 ≤ b) (hd : 1 ≤ d) : b * d ≠ 0 := Int.mul_ne_zero (by omega) (by omega)
theorem log_of {a : Int} (h : a.natAbs < 2 ^ 400) : a.natAbs.log2 < 9000 := by
  have := small_log h (by decide)
  omega
def S_plus : FnS := fun ss Kp _ => ∃ a b c d, ss = [.val (.tup [.int a, .int b]), .val (.tup [.int c, .int d])] ∧ canon a b ∧ canon c d ∧ Kp false (plainP (a * d + c * b) (b * d)) ss
theorem atI0 {x : PV} {xs : List PV} : atI (x :: xs) (0 : Int) = some x := by simp [atI, ixN]
theorem atI1 {x y : PV} {xs : List PV} : atI (x :: y :: xs) (1 : Int) = some y := by
  have h : (1 : Int) < (xs.length : Int) + 1 + 1 := by omega
  simp [atI, ixN, h]
theorem ex_some {y : PV} {P : PV → Prop} : (∃ x, some y = some x ∧ P x) = P y := propext ⟨fun ⟨x, e, h⟩ => by cases e; exact h, fun h => ⟨y, rfl, h⟩⟩
theorem ok_plus {Φ : Tbl} (h1 : Φ.fn "plain" = some S_plain) : ∀ ss Kp Xk, S_plus ss Kp Xk → bodyS Φ 2 2 B_plus ss Kp Xk := by
  rintro ss Kp Xk ⟨a, b, c, d, rfl, hab, hcd, hk⟩
  refine ⟨rfl, ?_⟩
  obtain ⟨ha, hb⟩ := canon_abs hab
  obtain ⟨hc, hd⟩ := canon_abs hcd
  unfold B_plus
  (simp (config := { maxSteps := 100000000 }) only [Ev.wS, Ev.wE.eq_1, Ev.wE.eq_2, Ev.wE.eq_3, Ev.wE.eq_4, Ev.wE.eq_6, Ev.wE.eq_7, Ev.wE.eq_8, Ev.wE.eq_9, Ev.wE.eq_10, Ev.wE.eq_11, Ev.wE.eq_12, Ev.wE.eq_13, Ev.wE.eq_14, Ev.wE.eq_15, Ev.wE.eq_16, Ev.wE.eq_17, Ev.wE.eq_18, Ev.wE.eq_19, Ev.wE.eq_20, Ev.wE.eq_21, Ev.wE.eq_22, Ev.wE.eq_23, Ev.wE.eq_24, Ev.wE.eq_25, Ev.wE.eq_26, Ev.wE.eq_27, Ev.wE_var, Ev.optK_some, Ev.selR_val, Ev.selR_own, Ev.rdS_val, Ev.rdS_own, Ev.fzS_val, Ev.fzS_own, Ev.argS_val, Ev.argS_own, Ev.wT, Ev.wAs, Ev.wEs, Ev.wI, Ev.wO, Ev.wG_nam, Ev.wG_tup, Ev.wGs_nil, Ev.wGs_cons, Ev.Tg.n, Ev.wipeE, Ev.restE, List.getD_cons_zero, List.getD_cons_succ, Ev.same2, Ev.items, Ev.rdK_val, Ev.rdK_tmp, Ev.rdK_at, Ev.rdsK, Ev.fzK_val, Ev.fzK_tmp, Ev.fzK_at, Ev.stW_val, Ev.stW_tmp, Ev.stW_bor, Ev.nbW_val, Ev.nbW_tmp, Ev.nbW_bor, Ev.binW_add, Ev.binW_sub, Ev.binW_mul, Ev.binW_div, Ev.binW_mod, Ev.binW_pow, Ev.binW_lst, Ev.binW_tup, Ev.binW_str, Ev.binW_rep, Ev.cmpW_lt, Ev.cmpW_le, Ev.cmpW_gt, Ev.cmpW_ge, Ev.cmpW_eq, Ev.cmpW_ne, Ev.cmpW_is, Ev.cmpW_isN, Ev.cmpW_inT, Ev.cmpW_inL, Ev.cmpW_niT, Ev.cmpW_niL, Ev.ixW_tup, Ev.ixW_lst, Ev.bltW_abs, Ev.bltW_int, Ev.bltW_gcd, Ev.bltW_lenT, Ev.bltW_lenL, Ev.bltW_scr, Ev.bltW_listL, Ev.bltW_listT, Ev.bltW_tupL, Ev.bltW_tupT, List.replicate, List.append_nil, List.cons_append, List.nil_append, List.getElem?_cons_zero, List.getElem?_cons_succ, List.length_cons, List.length_nil, List.set_cons_zero, List.set_cons_succ, Ev.argsOf, Ev.argOf_val, Ev.argOf_at, Ev.bors, Ev.backs_val, Ev.backs_bor, Ev.backs_nil, Ev.loses, Ev.retW_val, Ev.retW_tmp, Ev.parOf, Ev.outsOf, List.replicate_zero, Nat.sub_self, Ev.isOwnL, List.getElem?_nil, reduceCtorEq, decide_eq_true_eq, Ev.cmpOk_int, Ev.cmpOk_bl, Ev.cmpOk_non, Ev.cmpOk_nil, Ev.cmpOk_nilT, Ev.peq_int, Ev.peq_bl, Ev.peq_str, Ev.peq_non, Ev.peq_nil, Ev.peq_nilT, Ev.peq_consL, Ev.isT_non_int, Ev.isT_non_bool, Ev.isT_non_str, Ev.isT_non_tuple, Ev.isT_non_list, Ev.tyOk_non, Ev.isT_bl_int, Ev.isT_bl_bool, Ev.isT_bl_str, Ev.isT_bl_tuple, Ev.isT_bl_list, Ev.tyOk_bl, Ev.isT_int_int, Ev.isT_int_bool, Ev.isT_int_str, Ev.isT_int_tuple, Ev.isT_int_list, Ev.tyOk_int, Ev.isT_str_int, Ev.isT_str_bool, Ev.isT_str_str, Ev.isT_str_tuple, Ev.isT_str_list, Ev.tyOk_str, Ev.isT_tup_int, Ev.isT_tup_bool, Ev.isT_tup_str, Ev.isT_tup_tuple, Ev.isT_tup_list, Ev.tyOk_tup, Ev.isT_lst_int, Ev.isT_lst_bool, Ev.isT_lst_str, Ev.isT_lst_tuple, Ev.isT_lst_list, Ev.tyOk_lst, List.not_mem_nil, not_false_eq_true, List.nodup_cons, Bool.false_eq_true, ↓reduceIte, List.nodup_nil, true_and, and_true])
  simp only [atI0, atI1, ex_some]
  (simp (config := { maxSteps := 100000000 }) only [Ev.wS, Ev.wE.eq_1, Ev.wE.eq_2, Ev.wE.eq_3, Ev.wE.eq_4, Ev.wE.eq_6, Ev.wE.eq_7, Ev.wE.eq_8, Ev.wE.eq_9, Ev.wE.eq_10, Ev.wE.eq_11, Ev.wE.eq_12, Ev.wE.eq_13, Ev.wE.eq_14, Ev.wE.eq_15, Ev.wE.eq_16, Ev.wE.eq_17, Ev.wE.eq_18, Ev.wE.eq_19, Ev.wE.eq_20, Ev.wE.eq_21, Ev.wE.eq_22, Ev.wE.eq_23, Ev.wE.eq_24, Ev.wE.eq_25, Ev.wE.eq_26, Ev.wE.eq_27, Ev.wE_var, Ev.optK_some, Ev.selR_val, Ev.selR_own, Ev.rdS_val, Ev.rdS_own, Ev.fzS_val, Ev.fzS_own, Ev.argS_val, Ev.argS_own, Ev.wT, Ev.wAs, Ev.wEs, Ev.wI, Ev.wO, Ev.wG_nam, Ev.wG_tup, Ev.wGs_nil, Ev.wGs_cons, Ev.Tg.n, Ev.wipeE, Ev.restE, List.getD_cons_zero, List.getD_cons_succ, Ev.same2, Ev.items, Ev.rdK_val, Ev.rdK_tmp, Ev.rdK_at, Ev.rdsK, Ev.fzK_val, Ev.fzK_tmp, Ev.fzK_at, Ev.stW_val, Ev.stW_tmp, Ev.stW_bor, Ev.nbW_val, Ev.nbW_tmp, Ev.nbW_bor, Ev.binW_add, Ev.binW_sub, Ev.binW_mul, Ev.binW_div, Ev.binW_mod, Ev.binW_pow, Ev.binW_lst, Ev.binW_tup, Ev.binW_str, Ev.binW_rep, Ev.cmpW_lt, Ev.cmpW_le, Ev.cmpW_gt, Ev.cmpW_ge, Ev.cmpW_eq, Ev.cmpW_ne, Ev.cmpW_is, Ev.cmpW_isN, Ev.cmpW_inT, Ev.cmpW_inL, Ev.cmpW_niT, Ev.cmpW_niL, Ev.ixW_tup, Ev.ixW_lst, Ev.bltW_abs, Ev.bltW_int, Ev.bltW_gcd, Ev.bltW_lenT, Ev.bltW_lenL, Ev.bltW_scr, Ev.bltW_listL, Ev.bltW_listT, Ev.bltW_tupL, Ev.bltW_tupT, List.replicate, List.append_nil, List.cons_append, List.nil_append, List.getElem?_cons_zero, List.getElem?_cons_succ, List.length_cons, List.length_nil, List.set_cons_zero, List.set_cons_succ, Ev.argsOf, Ev.argOf_val, Ev.argOf_at, Ev.bors, Ev.backs_val, Ev.backs_bor, Ev.backs_nil, Ev.loses, Ev.retW_val, Ev.retW_tmp, Ev.parOf, Ev.outsOf, List.replicate_zero, Nat.sub_self, Ev.isOwnL, List.getElem?_nil, reduceCtorEq, decide_eq_true_eq, Ev.cmpOk_int, Ev.cmpOk_bl, Ev.cmpOk_non, Ev.cmpOk_nil, Ev.cmpOk_nilT, Ev.peq_int, Ev.peq_bl, Ev.peq_str, Ev.peq_non, Ev.peq_nil, Ev.peq_nilT, Ev.peq_consL, Ev.isT_non_int, Ev.isT_non_bool, Ev.isT_non_str, Ev.isT_non_tuple, Ev.isT_non_list, Ev.tyOk_non, Ev.isT_bl_int, Ev.isT_bl_bool, Ev.isT_bl_str, Ev.isT_bl_tuple, Ev.isT_bl_list, Ev.tyOk_bl, Ev.isT_int_int, Ev.isT_int_bool, Ev.isT_int_str, Ev.isT_int_tuple, Ev.isT_int_list, Ev.tyOk_int, Ev.isT_str_int, Ev.isT_str_bool, Ev.isT_str_str, Ev.isT_str_tuple, Ev.isT_str_list, Ev.tyOk_str, Ev.isT_tup_int, Ev.isT_tup_bool, Ev.isT_tup_str, Ev.isT_tup_tuple, Ev.isT_tup_list, Ev.tyOk_tup, Ev.isT_lst_int, Ev.isT_lst_bool, Ev.isT_lst_str, Ev.isT_lst_tuple, Ev.isT_lst_list, Ev.tyOk_lst, List.not_mem_nil, not_false_eq_true, List.nodup_cons, Bool.false_eq_true, ↓reduceIte, List.nodup_nil, true_and, and_true])
  simp only [h1]
  refine ⟨mul_ok (wide ha) (wide hd), mul_ok (wide hc) (wide hb), mul_ok (wide hb) (wide hd), _, _, rfl, pos_ne hab.2.1 hcd.2.1, log_of (prod_lt hb hd), ?_⟩
  (simp (config := { maxSteps := 100000000 }) only [Ev.wS, Ev.wE.eq_1, Ev.wE.eq_2, Ev.wE.eq_3, Ev.wE.eq_4, Ev.wE.eq_6, Ev.wE.eq_7, Ev.wE.eq_8, Ev.wE.eq_9, Ev.wE.eq_10, Ev.wE.eq_11, Ev.wE.eq_12, Ev.wE.eq_13, Ev.wE.eq_14, Ev.wE.eq_15, Ev.wE.eq_16, Ev.wE.eq_17, Ev.wE.eq_18, Ev.wE.eq_19, Ev.wE.eq_20, Ev.wE.eq_21, Ev.wE.eq_22, Ev.wE.eq_23, Ev.wE.eq_24, Ev.wE.eq_25, Ev.wE.eq_26, Ev.wE.eq_27, Ev.wE_var, Ev.optK_some, Ev.selR_val, Ev.selR_own, Ev.rdS_val, Ev.rdS_own, Ev.fzS_val, Ev.fzS_own, Ev.argS_val, Ev.argS_own, Ev.wT, Ev.wAs, Ev.wEs, Ev.wI, Ev.wO, Ev.wG_nam, Ev.wG_tup, Ev.wGs_nil, Ev.wGs_cons, Ev.Tg.n, Ev.wipeE, Ev.restE, List.getD_cons_zero, List.getD_cons_succ, Ev.same2, Ev.items, Ev.rdK_val, Ev.rdK_tmp, Ev.rdK_at, Ev.rdsK, Ev.fzK_val, Ev.fzK_tmp, Ev.fzK_at, Ev.stW_val, Ev.stW_tmp, Ev.stW_bor, Ev.nbW_val, Ev.nbW_tmp, Ev.nbW_bor, Ev.binW_add, Ev.binW_sub, Ev.binW_mul, Ev.binW_div, Ev.binW_mod, Ev.binW_pow, Ev.binW_lst, Ev.binW_tup, Ev.binW_str, Ev.binW_rep, Ev.cmpW_lt, Ev.cmpW_le, Ev.cmpW_gt, Ev.cmpW_ge, Ev.cmpW_eq, Ev.cmpW_ne, Ev.cmpW_is, Ev.cmpW_isN, Ev.cmpW_inT, Ev.cmpW_inL, Ev.cmpW_niT, Ev.cmpW_niL, Ev.ixW_tup, Ev.ixW_lst, Ev.bltW_abs, Ev.bltW_int, Ev.bltW_gcd, Ev.bltW_lenT, Ev.bltW_lenL, Ev.bltW_scr, Ev.bltW_listL, Ev.bltW_listT, Ev.bltW_tupL, Ev.bltW_tupT, List.replicate, List.append_nil, List.cons_append, List.nil_append, List.getElem?_cons_zero, List.getElem?_cons_succ, List.length_cons, List.length_nil, List.set_cons_zero, List.set_cons_succ, Ev.argsOf, Ev.argOf_val, Ev.argOf_at, Ev.bors, Ev.backs_val, Ev.backs_bor, Ev.backs_nil, Ev.loses, Ev.retW_val, Ev.retW_tmp, Ev.parOf, Ev.outsOf, List.replicate_zero, Nat.sub_self, Ev.isOwnL, List.getElem?_nil, reduceCtorEq, decide_eq_true_eq, Ev.cmpOk_int, Ev.cmpOk_bl, Ev.cmpOk_non, Ev.cmpOk_nil, Ev.cmpOk_nilT, Ev.peq_int, Ev.peq_bl, Ev.peq_str, Ev.peq_non, Ev.peq_nil, Ev.peq_nilT, Ev.peq_consL, Ev.isT_non_int, Ev.isT_non_bool, Ev.isT_non_str, Ev.isT_non_tuple, Ev.isT_non_list, Ev.tyOk_non, Ev.isT_bl_int, Ev.isT_bl_bool, Ev.isT_bl_str, Ev.isT_bl_tuple, Ev.isT_bl_list, Ev.tyOk_bl, Ev.isT_int_int, Ev.isT_int_bool, Ev.isT_int_str, Ev.isT_int_tuple, Ev.isT_int_list, Ev.tyOk_int, Ev.isT_str_int, Ev.isT_str_bool, Ev.isT_str_str, Ev.isT_str_tuple, Ev.isT_str_list, Ev.tyOk_str, Ev.isT_tup_int, Ev.isT_tup_bool, Ev.isT_tup_str, Ev.isT_tup_tuple, Ev.isT_tup_list, Ev.tyOk_tup, Ev.isT_lst_int, Ev.isT_lst_bool, Ev.isT_lst_str, Ev.isT_lst_tuple, Ev.isT_lst_list, Ev.tyOk_lst, List.not_mem_nil, not_false_eq_true, List.nodup_cons, Bool.false_eq_true, ↓reduceIte, List.nodup_nil, true_and, and_true])
  exact hk
def S_times : FnS := fun ss Kp _ => ∃ a b c d, ss = [.val (.tup [.int a, .int b]), .val (.tup [.int c, .int d])] ∧ canon a b ∧ canon c d ∧ Kp false (plainP (a * c) (b * d)) ss
theorem ok_times {Φ : Tbl} (h1 : Φ.fn "plain" = some S_plain) : ∀ ss Kp Xk, S_times ss Kp Xk → bodyS Φ 2 2 B_times ss Kp Xk := by
  rintro ss Kp Xk ⟨a, b, c, d, rfl, hab, hcd, hk⟩
  refine ⟨rfl, ?_⟩
  obtain ⟨ha, hb⟩ := canon_abs hab
  obtain ⟨hc, hd⟩ := canon_abs hcd
  unfold B_times
  (simp (config := { maxSteps := 100000000 }) only [Ev.wS, Ev.wE.eq_1, Ev.wE.eq_2, Ev.wE.eq_3, Ev.wE.eq_4, Ev.wE.eq_6, Ev.wE.eq_7, Ev.wE.eq_8, Ev.wE.eq_9, Ev.wE.eq_10, Ev.wE.eq_11, Ev.wE.eq_12, Ev.wE.eq_13, Ev.wE.eq_14, Ev.wE.eq_15, Ev.wE.eq_16, Ev.wE.eq_17, Ev.wE.eq_18, Ev.wE.eq_19, Ev.wE.eq_20, Ev.wE.eq_21, Ev.wE.eq_22, Ev.wE.eq_23, Ev.wE.eq_24, Ev.wE.eq_25, Ev.wE.eq_26, Ev.wE.eq_27, Ev.wE_var, Ev.optK_some, Ev.selR_val, Ev.selR_own, Ev.rdS_val, Ev.rdS_own, Ev.fzS_val, Ev.fzS_own, Ev.argS_val, Ev.argS_own, Ev.wT, Ev.wAs, Ev.wEs, Ev.wI, Ev.wO, Ev.wG_nam, Ev.wG_tup, Ev.wGs_nil, Ev.wGs_cons, Ev.Tg.n, Ev.wipeE, Ev.restE, List.getD_cons_zero, List.getD_cons_succ, Ev.same2, Ev.items, Ev.rdK_val, Ev.rdK_tmp, Ev.rdK_at, Ev.rdsK, Ev.fzK_val, Ev.fzK_tmp, Ev.fzK_at, Ev.stW_val, Ev.stW_tmp, Ev.stW_bor, Ev.nbW_val, Ev.nbW_tmp, Ev.nbW_bor, Ev.binW_add, Ev.binW_sub, Ev.binW_mul, Ev.binW_div, Ev.binW_mod, Ev.binW_pow, Ev.binW_lst, Ev.binW_tup, Ev.binW_str, Ev.binW_rep, Ev.cmpW_lt, Ev.cmpW_le, Ev.cmpW_gt, Ev.cmpW_ge, Ev.cmpW_eq, Ev.cmpW_ne, Ev.cmpW_is, Ev.cmpW_isN, Ev.cmpW_inT, Ev.cmpW_inL, Ev.cmpW_niT, Ev.cmpW_niL, Ev.ixW_tup, Ev.ixW_lst, Ev.bltW_abs, Ev.bltW_int, Ev.bltW_gcd, Ev.bltW_lenT, Ev.bltW_lenL, Ev.bltW_scr, Ev.bltW_listL, Ev.bltW_listT, Ev.bltW_tupL, Ev.bltW_tupT, List.replicate, List.append_nil, List.cons_append, List.nil_append, List.getElem?_cons_zero, List.getElem?_cons_succ, List.length_cons, List.length_nil, List.set_cons_zero, List.set_cons_succ, Ev.argsOf, Ev.argOf_val, Ev.argOf_at, Ev.bors, Ev.backs_val, Ev.backs_bor, Ev.backs_nil, Ev.loses, Ev.retW_val, Ev.retW_tmp, Ev.parOf, Ev.outsOf, List.replicate_zero, Nat.sub_self, Ev.isOwnL, List.getElem?_nil, reduceCtorEq, decide_eq_true_eq, Ev.cmpOk_int, Ev.cmpOk_bl, Ev.cmpOk_non, Ev.cmpOk_nil, Ev.cmpOk_nilT, Ev.peq_int, Ev.peq_bl, Ev.peq_str, Ev.peq_non, Ev.peq_nil, Ev.peq_nilT, Ev.peq_consL, Ev.isT_non_int, Ev.isT_non_bool, Ev.isT_non_str, Ev.isT_non_tuple, Ev.isT_non_list, Ev.tyOk_non, Ev.isT_bl_int, Ev.isT_bl_bool, Ev.isT_bl_str, Ev.isT_bl_tuple, Ev.isT_bl_list, Ev.tyOk_bl, Ev.isT_int_int, Ev.isT_int_bool, Ev.isT_int_str, Ev.isT_int_tuple, Ev.isT_int_list, Ev.tyOk_int, Ev.isT_str_int, Ev.isT_str_bool, Ev.isT_str_str, Ev.isT_str_tuple, Ev.isT_str_list, Ev.tyOk_str, Ev.isT_tup_int, Ev.isT_tup_bool, Ev.isT_tup_str, Ev.isT_tup_tuple, Ev.isT_tup_list, Ev.tyOk_tup, Ev.isT_lst_int, Ev.isT_lst_bool, Ev.isT_lst_str, Ev.isT_lst_tuple, Ev.isT_lst_list, Ev.tyOk_lst, List.not_mem_nil, not_false_eq_true, List.nodup_cons, Bool.false_eq_true, ↓reduceIte, List.nodup_nil, true_and, and_true])
  simp only [atI0, atI1, ex_some]
  (simp (config := { maxSteps := 100000000 }) only [Ev.wS, Ev.wE.eq_1, Ev.wE.eq_2, Ev.wE.eq_3, Ev.wE.eq_4, Ev.wE.eq_6, Ev.wE.eq_7, Ev.wE.eq_8, Ev.wE.eq_9, Ev.wE.eq_10, Ev.wE.eq_11, Ev.wE.eq_12, Ev.wE.eq_13, Ev.wE.eq_14, Ev.wE.eq_15, Ev.wE.eq_16, Ev.wE.eq_17, Ev.wE.eq_18, Ev.wE.eq_19, Ev.wE.eq_20, Ev.wE.eq_21, Ev.wE.eq_22, Ev.wE.eq_23, Ev.wE.eq_24, Ev.wE.eq_25, Ev.wE.eq_26, Ev.wE.eq_27, Ev.wE_var, Ev.optK_some, Ev.selR_val, Ev.selR_own, Ev.rdS_val, Ev.rdS_own, Ev.fzS_val, Ev.fzS_own, Ev.argS_val, Ev.argS_own, Ev.wT, Ev.wAs, Ev.wEs, Ev.wI, Ev.wO, Ev.wG_nam, Ev.wG_tup, Ev.wGs_nil, Ev.wGs_cons, Ev.Tg.n, Ev.wipeE, Ev.restE, List.getD_cons_zero, List.getD_cons_succ, Ev.same2, Ev.items, Ev.rdK_val, Ev.rdK_tmp, Ev.rdK_at, Ev.rdsK, Ev.fzK_val, Ev.fzK_tmp, Ev.fzK_at, Ev.stW_val, Ev.stW_tmp, Ev.stW_bor, Ev.nbW_val, Ev.nbW_tmp, Ev.nbW_bor, Ev.binW_add, Ev.binW_sub, Ev.binW_mul, Ev.binW_div, Ev.binW_mod, Ev.binW_pow, Ev.binW_lst, Ev.binW_tup, Ev.binW_str, Ev.binW_rep, Ev.cmpW_lt, Ev.cmpW_le, Ev.cmpW_gt, Ev.cmpW_ge, Ev.cmpW_eq, Ev.cmpW_ne, Ev.cmpW_is, Ev.cmpW_isN, Ev.cmpW_inT, Ev.cmpW_inL, Ev.cmpW_niT, Ev.cmpW_niL, Ev.ixW_tup, Ev.ixW_lst, Ev.bltW_abs, Ev.bltW_int, Ev.bltW_gcd, Ev.bltW_lenT, Ev.bltW_lenL, Ev.bltW_scr, Ev.bltW_listL, Ev.bltW_listT, Ev.bltW_tupL, Ev.bltW_tupT, List.replicate, List.append_nil, List.cons_append, List.nil_append, List.getElem?_cons_zero, List.getElem?_cons_succ, List.length_cons, List.length_nil, List.set_cons_zero, List.set_cons_succ, Ev.argsOf, Ev.argOf_val, Ev.argOf_at, Ev.bors, Ev.backs_val, Ev.backs_bor, Ev.backs_nil, Ev.loses, Ev.retW_val, Ev.retW_tmp, Ev.parOf, Ev.outsOf, List.replicate_zero, Nat.sub_self, Ev.isOwnL, List.getElem?_nil, reduceCtorEq, decide_eq_true_eq, Ev.cmpOk_int, Ev.cmpOk_bl, Ev.cmpOk_non, Ev.cmpOk_nil, Ev.cmpOk_nilT, Ev.peq_int, Ev.peq_bl, Ev.peq_str, Ev.peq_non, Ev.peq_nil, Ev.peq_nilT, Ev.peq_consL, Ev.isT_non_int, Ev.isT_non_bool, Ev.isT_non_str, Ev.isT_non_tuple, Ev.isT_non_list, Ev.tyOk_non, Ev.isT_bl_int, Ev.isT_bl_bool, Ev.isT_bl_str, Ev.isT_bl_tuple, Ev.isT_bl_list, Ev.tyOk_bl, Ev.isT_int_int, Ev.isT_int_bool, Ev.isT_int_str, Ev.isT_int_tuple, Ev.isT_int_list, Ev.tyOk_int, Ev.isT_str_int, Ev.isT_str_bool, Ev.isT_str_str, Ev.isT_str_tuple, Ev.isT_str_list, Ev.tyOk_str, Ev.isT_tup_int, Ev.isT_tup_bool, Ev.isT_tup_str, Ev.isT_tup_tuple, Ev.isT_tup_list, Ev.tyOk_tup, Ev.isT_lst_int, Ev.isT_lst_bool, Ev.isT_lst_str, Ev.isT_lst_tuple, Ev.isT_lst_list, Ev.tyOk_lst, List.not_mem_nil, not_false_eq_true, List.nodup_cons, Bool.false_eq_true, ↓reduceIte, List.nodup_nil, true_and, and_true])
  simp only [h1]
  refine ⟨mul_ok (wide ha) (wide hc), mul_ok (wide hb) (wide hd), _, _, rfl, pos_ne hab.2.1 hcd.2.1, log_of (prod_lt hb hd), ?_⟩
  (simp (config := { maxSteps := 100000000 }) only [Ev.wS, Ev.wE.eq_1, Ev.wE.eq_2, Ev.wE.eq_3, Ev.wE.eq_4, Ev.wE.eq_6, Ev.wE.eq_7, Ev.wE.eq_8, Ev.wE.eq_9, Ev.wE.eq_10, Ev.wE.eq_11, Ev.wE.eq_12, Ev.wE.eq_13, Ev.wE.eq_14, Ev.wE.eq_15, Ev.wE.eq_16, Ev.wE.eq_17, Ev.wE.eq_18, Ev.wE.eq_19, Ev.wE.eq_20, Ev.wE.eq_21, Ev.wE.eq_22, Ev.wE.eq_23, Ev.wE.eq_24, Ev.wE.eq_25, Ev.wE.eq_26, Ev.wE.eq_27, Ev.wE_var, Ev.optK_some, Ev.selR_val, Ev.selR_own, Ev.rdS_val, Ev.rdS_own, Ev.fzS_val, Ev.fzS_own, Ev.argS_val, Ev.argS_own, Ev.wT, Ev.wAs, Ev.wEs, Ev.wI, Ev.wO, Ev.wG_nam, Ev.wG_tup, Ev.wGs_nil, Ev.wGs_cons, Ev.Tg.n, Ev.wipeE, Ev.restE, List.getD_cons_zero, List.getD_cons_succ, Ev.same2, Ev.items, Ev.rdK_val, Ev.rdK_tmp, Ev.rdK_at, Ev.rdsK, Ev.fzK_val, Ev.fzK_tmp, Ev.fzK_at, Ev.stW_val, Ev.stW_tmp, Ev.stW_bor, Ev.nbW_val, Ev.nbW_tmp, Ev.nbW_bor, Ev.binW_add, Ev.binW_sub, Ev.binW_mul, Ev.binW_div, Ev.binW_mod, Ev.binW_pow, Ev.binW_lst, Ev.binW_tup, Ev.binW_str, Ev.binW_rep, Ev.cmpW_lt, Ev.cmpW_le, Ev.cmpW_gt, Ev.cmpW_ge, Ev.cmpW_eq, Ev.cmpW_ne, Ev.cmpW_is, Ev.cmpW_isN, Ev.cmpW_inT, Ev.cmpW_inL, Ev.cmpW_niT, Ev.cmpW_niL, Ev.ixW_tup, Ev.ixW_lst, Ev.bltW_abs, Ev.bltW_int, Ev.bltW_gcd, Ev.bltW_lenT, Ev.bltW_lenL, Ev.bltW_scr, Ev.bltW_listL, Ev.bltW_listT, Ev.bltW_tupL, Ev.bltW_tupT, List.replicate, List.append_nil, List.cons_append, List.nil_append, List.getElem?_cons_zero, List.getElem?_cons_succ, List.length_cons, List.length_nil, List.set_cons_zero, List.set_cons_succ, Ev.argsOf, Ev.argOf_val, Ev.argOf_at, Ev.bors, Ev.backs_val, Ev.backs_bor, Ev.backs_nil, Ev.loses, Ev.retW_val, Ev.retW_tmp, Ev.parOf, Ev.outsOf, List.replicate_zero, Nat.sub_self, Ev.isOwnL, List.getElem?_nil, reduceCtorEq, decide_eq_true_eq, Ev.cmpOk_int, Ev.cmpOk_bl, Ev.cmpOk_non, Ev.cmpOk_nil, Ev.cmpOk_nilT, Ev.peq_int, Ev.peq_bl, Ev.peq_str, Ev.peq_non, Ev.peq_nil, Ev.peq_nilT, Ev.peq_consL, Ev.isT_non_int, Ev.isT_non_bool, Ev.isT_non_str, Ev.isT_non_tuple, Ev.isT_non_list, Ev.tyOk_non, Ev.isT_bl_int, Ev.isT_bl_bool, Ev.isT_bl_str, Ev.isT_bl_tuple, Ev.isT_bl_list, Ev.tyOk_bl, Ev.isT_int_int, Ev.isT_int_bool, Ev.isT_int_str, Ev.isT_int_tuple, Ev.isT_int_list, Ev.tyOk_int, Ev.isT_str_int, Ev.isT_str_bool, Ev.isT_str_str, Ev.isT_str_tuple, Ev.isT_str_list, Ev.tyOk_str, Ev.isT_tup_int, Ev.isT_tup_bool, Ev.isT_tup_str, Ev.isT_tup_tuple, Ev.isT_tup_list, Ev.tyOk_tup, Ev.isT_lst_int, Ev.isT_lst_bool, Ev.isT_lst_str, Ev.isT_lst_tuple, Ev.isT_lst_list, Ev.tyOk_lst, List.not_mem_nil, not_false_eq_true, List.nodup_cons, Bool.false_eq_true, ↓reduceIte, List.nodup_nil, true_and, and_true])
  exact hk
def S_lead : FnS := fun ss Kp _ => ∃ a b c d, ss = [.val (.tup [.int a, .int b]), .val (.tup [.int c, .int d])] ∧ canon a b ∧ canon c d ∧ Kp false (.int (a * d - c * b)) ss
theorem ok_lead {Φ : Tbl} : ∀ ss Kp Xk, S_lead ss Kp Xk → bodyS Φ 2 2 B_lead ss Kp Xk := by
  rintro ss Kp Xk ⟨a, b, c, d, rfl, hab, hcd, hk⟩
  refine ⟨rfl, ?_⟩
  obtain ⟨ha, hb⟩ := canon_abs hab
  obtain ⟨hc, hd⟩ := canon_abs hcd
  unfold B_lead
  (simp (config := { maxSteps := 100000000 }) only [Ev.wS, Ev.wE.eq_1, Ev.wE.eq_2, Ev.wE.eq_3, Ev.wE.eq_4, Ev.wE.eq_6, Ev.wE.eq_7, Ev.wE.eq_8, Ev.wE.eq_9, Ev.wE.eq_10, Ev.wE.eq_11, Ev.wE.eq_12, Ev.wE.eq_13, Ev.wE.eq_14, Ev.wE.eq_15, Ev.wE.eq_16, Ev.wE.eq_17, Ev.wE.eq_18, Ev.wE.eq_19, Ev.wE.eq_20, Ev.wE.eq_21, Ev.wE.eq_22, Ev.wE.eq_23, Ev.wE.eq_24, Ev.wE.eq_25, Ev.wE.eq_26, Ev.wE.eq_27, Ev.wE_var, Ev.optK_some, Ev.selR_val, Ev.selR_own, Ev.rdS_val, Ev.rdS_own, Ev.fzS_val, Ev.fzS_own, Ev.argS_val, Ev.argS_own, Ev.wT, Ev.wAs, Ev.wEs, Ev.wI, Ev.wO, Ev.wG_nam, Ev.wG_tup, Ev.wGs_nil, Ev.wGs_cons, Ev.Tg.n, Ev.wipeE, Ev.restE, List.getD_cons_zero, List.getD_cons_succ, Ev.same2, Ev.items, Ev.rdK_val, Ev.rdK_tmp, Ev.rdK_at, Ev.rdsK, Ev.fzK_val, Ev.fzK_tmp, Ev.fzK_at, Ev.stW_val, Ev.stW_tmp, Ev.stW_bor, Ev.nbW_val, Ev.nbW_tmp, Ev.nbW_bor, Ev.binW_add, Ev.binW_sub, Ev.binW_mul, Ev.binW_div, Ev.binW_mod, Ev.binW_pow, Ev.binW_lst, Ev.binW_tup, Ev.binW_str, Ev.binW_rep, Ev.cmpW_lt, Ev.cmpW_le, Ev.cmpW_gt, Ev.cmpW_ge, Ev.cmpW_eq, Ev.cmpW_ne, Ev.cmpW_is, Ev.cmpW_isN, Ev.cmpW_inT, Ev.cmpW_inL, Ev.cmpW_niT, Ev.cmpW_niL, Ev.ixW_tup, Ev.ixW_lst, Ev.bltW_abs, Ev.bltW_int, Ev.bltW_gcd, Ev.bltW_lenT, Ev.bltW_lenL, Ev.bltW_scr, Ev.bltW_listL, Ev.bltW_listT, Ev.bltW_tupL, Ev.bltW_tupT, List.replicate, List.append_nil, List.cons_append, List.nil_append, List.getElem?_cons_zero, List.getElem?_cons_succ, List.length_cons, List.length_nil, List.set_cons_zero, List.set_cons_succ, Ev.argsOf, Ev.argOf_val, Ev.argOf_at, Ev.bors, Ev.backs_val, Ev.backs_bor, Ev.backs_nil, Ev.loses, Ev.retW_val, Ev.retW_tmp, Ev.parOf, Ev.outsOf, List.replicate_zero, Nat.sub_self, Ev.isOwnL, List.getElem?_nil, reduceCtorEq, decide_eq_true_eq, Ev.cmpOk_int, Ev.cmpOk_bl, Ev.cmpOk_non, Ev.cmpOk_nil, Ev.cmpOk_nilT, Ev.peq_int, Ev.peq_bl, Ev.peq_str, Ev.peq_non, Ev.peq_nil, Ev.peq_nilT, Ev.peq_consL, Ev.isT_non_int, Ev.isT_non_bool, Ev.isT_non_str, Ev.isT_non_tuple, Ev.isT_non_list, Ev.tyOk_non, Ev.isT_bl_int, Ev.isT_bl_bool, Ev.isT_bl_str, Ev.isT_bl_tuple, Ev.isT_bl_list, Ev.tyOk_bl, Ev.isT_int_int, Ev.isT_int_bool, Ev.isT_int_str, Ev.isT_int_tuple, Ev.isT_int_list, Ev.tyOk_int, Ev.isT_str_int, Ev.isT_str_bool, Ev.isT_str_str, Ev.isT_str_tuple, Ev.isT_str_list, Ev.tyOk_str, Ev.isT_tup_int, Ev.isT_tup_bool, Ev.isT_tup_str, Ev.isT_tup_tuple, Ev.isT_tup_list, Ev.tyOk_tup, Ev.isT_lst_int, Ev.isT_lst_bool, Ev.isT_lst_str, Ev.isT_lst_tuple, Ev.isT_lst_list, Ev.tyOk_lst, List.not_mem_nil, not_false_eq_true, List.nodup_cons, Bool.false_eq_true, ↓reduceIte, List.nodup_nil, true_and, and_true])
  simp only [atI0, atI1, ex_some]
  (simp (config := { maxSteps := 100000000 }) only [Ev.wS, Ev.wE.eq_1, Ev.wE.eq_2, Ev.wE.eq_3, Ev.wE.eq_4, Ev.wE.eq_6, Ev.wE.eq_7, Ev.wE.eq_8, Ev.wE.eq_9, Ev.wE.eq_10, Ev.wE.eq_11, Ev.wE.eq_12, Ev.wE.eq_13, Ev.wE.eq_14, Ev.wE.eq_15, Ev.wE.eq_16, Ev.wE.eq_17, Ev.wE.eq_18, Ev.wE.eq_19, Ev.wE.eq_20, Ev.wE.eq_21, Ev.wE.eq_22, Ev.wE.eq_23, Ev.wE.eq_24, Ev.wE.eq_25, Ev.wE.eq_26, Ev.wE.eq_27, Ev.wE_var, Ev.optK_some, Ev.selR_val, Ev.selR_own, Ev.rdS_val, Ev.rdS_own, Ev.fzS_val, Ev.fzS_own, Ev.argS_val, Ev.argS_own, Ev.wT, Ev.wAs, Ev.wEs, Ev.wI, Ev.wO, Ev.wG_nam, Ev.wG_tup, Ev.wGs_nil, Ev.wGs_cons, Ev.Tg.n, Ev.wipeE, Ev.restE, List.getD_cons_zero, List.getD_cons_succ, Ev.same2, Ev.items, Ev.rdK_val, Ev.rdK_tmp, Ev.rdK_at, Ev.rdsK, Ev.fzK_val, Ev.fzK_tmp, Ev.fzK_at, Ev.stW_val, Ev.stW_tmp, Ev.stW_bor, Ev.nbW_val, Ev.nbW_tmp, Ev.nbW_bor, Ev.binW_add, Ev.binW_sub, Ev.binW_mul, Ev.binW_div, Ev.binW_mod, Ev.binW_pow, Ev.binW_lst, Ev.binW_tup, Ev.binW_str, Ev.binW_rep, Ev.cmpW_lt, Ev.cmpW_le, Ev.cmpW_gt, Ev.cmpW_ge, Ev.cmpW_eq, Ev.cmpW_ne, Ev.cmpW_is, Ev.cmpW_isN, Ev.cmpW_inT, Ev.cmpW_inL, Ev.cmpW_niT, Ev.cmpW_niL, Ev.ixW_tup, Ev.ixW_lst, Ev.bltW_abs, Ev.bltW_int, Ev.bltW_gcd, Ev.bltW_lenT, Ev.bltW_lenL, Ev.bltW_scr, Ev.bltW_listL, Ev.bltW_listT, Ev.bltW_tupL, Ev.bltW_tupT, List.replicate, List.append_nil, List.cons_append, List.nil_append, List.getElem?_cons_zero, List.getElem?_cons_succ, List.length_cons, List.length_nil, List.set_cons_zero, List.set_cons_succ, Ev.argsOf, Ev.argOf_val, Ev.argOf_at, Ev.bors, Ev.backs_val, Ev.backs_bor, Ev.backs_nil, Ev.loses, Ev.retW_val, Ev.retW_tmp, Ev.parOf, Ev.outsOf, List.replicate_zero, Nat.sub_self, Ev.isOwnL, List.getElem?_nil, reduceCtorEq, decide_eq_true_eq, Ev.cmpOk_int, Ev.cmpOk_bl, Ev.cmpOk_non, Ev.cmpOk_nil, Ev.cmpOk_nilT, Ev.peq_int, Ev.peq_bl, Ev.peq_str, Ev.peq_non, Ev.peq_nil, Ev.peq_nilT, Ev.peq_consL, Ev.isT_non_int, Ev.isT_non_bool, Ev.isT_non_str, Ev.isT_non_tuple, Ev.isT_non_list, Ev.tyOk_non, Ev.isT_bl_int, Ev.isT_bl_bool, Ev.isT_bl_str, Ev.isT_bl_tuple, Ev.isT_bl_list, Ev.tyOk_bl, Ev.isT_int_int, Ev.isT_int_bool, Ev.isT_int_str, Ev.isT_int_tuple, Ev.isT_int_list, Ev.tyOk_int, Ev.isT_str_int, Ev.isT_str_bool, Ev.isT_str_str, Ev.isT_str_tuple, Ev.isT_str_list, Ev.tyOk_str, Ev.isT_tup_int, Ev.isT_tup_bool, Ev.isT_tup_str, Ev.isT_tup_tuple, Ev.isT_tup_list, Ev.tyOk_tup, Ev.isT_lst_int, Ev.isT_lst_bool, Ev.isT_lst_str, Ev.isT_lst_tuple, Ev.isT_lst_list, Ev.tyOk_lst, List.not_mem_nil, not_false_eq_true, List.nodup_cons, Bool.false_eq_true, ↓reduceIte, List.nodup_nil, true_and, and_true])
  exact ⟨mul_ok (wide ha) (wide hd), mul_ok (wide hc) (wide hb), hk⟩
theorem quo_is {x : PV} (h : isQuoP x = true) : ∃ a b, x = .tup [.int a, .int b] ∧ canon a b := by
  unfold isQuoP at h
  split at h
  · rename_i y z
    simp only [Bool.and_eq_true] at h
    obtain ⟨h1, h2, h3⟩ := h
    cases y with
    | int a => cases z with
      | int b =>
        simp only [isWholeP, Bool.and_eq_true, decide_eq_true_eq] at h1 h2
        exact ⟨a, b, rfl, h1, h2⟩
      | _ => simp [isWholeP] at h2
    | _ => simp [isWholeP] at h1
  · cases h
def S_two (g : Int → Int → Int → Int → PV) : FnS := fun ss Kp Xk => ∃ x y, ss = [.val x, .val y] ∧ quoOk x ∧ quoOk y ∧ (isQuoP x = false → Xk "InvalidQuotient") ∧ (isQuoP x = true → isQuoP y = false → Xk "InvalidQuotient") ∧
  (∀ a b c d, x = .tup [.int a, .int b] → y = .tup [.int c, .int d] → isQuoP x = true → isQuoP y = true → Kp false (g a b c d) ss)
def S_quotient_sum : FnS := S_two fun a b c d => plainP (a * d + c * b) (b * d)
theorem ok_quotient_sum {Φ : Tbl} (h1 : Φ.fn "need_quotient" = some S_need_quotient) (h2 : Φ.fn "plus" = some S_plus) : ∀ ss Kp Xk, S_quotient_sum ss Kp Xk → bodyS Φ 2 2 B_quotient_sum ss Kp Xk := by
  rintro ss Kp Xk ⟨x, y, rfl, qx, qy, e1, e2, hk⟩
  refine ⟨rfl, ?_⟩
  unfold B_quotient_sum
  (simp (config := { maxSteps := 100000000 }) only [Ev.wS, Ev.wE.eq_1, Ev.wE.eq_2, Ev.wE.eq_3, Ev.wE.eq_4, Ev.wE.eq_6, Ev.wE.eq_7, Ev.wE.eq_8, Ev.wE.eq_9, Ev.wE.eq_10, Ev.wE.eq_11, Ev.wE.eq_12, Ev.wE.eq_13, Ev.wE.eq_14, Ev.wE.eq_15, Ev.wE.eq_16, Ev.wE.eq_17, Ev.wE.eq_18, Ev.wE.eq_19, Ev.wE.eq_20, Ev.wE.eq_21, Ev.wE.eq_22, Ev.wE.eq_23, Ev.wE.eq_24, Ev.wE.eq_25, Ev.wE.eq_26, Ev.wE.eq_27, Ev.wE_var, Ev.optK_some, Ev.selR_val, Ev.selR_own, Ev.rdS_val, Ev.rdS_own, Ev.fzS_val, Ev.fzS_own, Ev.argS_val, Ev.argS_own, Ev.wT, Ev.wAs, Ev.wEs, Ev.wI, Ev.wO, Ev.wG_nam, Ev.wG_tup, Ev.wGs_nil, Ev.wGs_cons, Ev.Tg.n, Ev.wipeE, Ev.restE, List.getD_cons_zero, List.getD_cons_succ, Ev.same2, Ev.items, Ev.rdK_val, Ev.rdK_tmp, Ev.rdK_at, Ev.rdsK, Ev.fzK_val, Ev.fzK_tmp, Ev.fzK_at, Ev.stW_val, Ev.stW_tmp, Ev.stW_bor, Ev.nbW_val, Ev.nbW_tmp, Ev.nbW_bor, Ev.binW_add, Ev.binW_sub, Ev.binW_mul, Ev.binW_div, Ev.binW_mod, Ev.binW_pow, Ev.binW_lst, Ev.binW_tup, Ev.binW_str, Ev.binW_rep, Ev.cmpW_lt, Ev.cmpW_le, Ev.cmpW_gt, Ev.cmpW_ge, Ev.cmpW_eq, Ev.cmpW_ne, Ev.cmpW_is, Ev.cmpW_isN, Ev.cmpW_inT, Ev.cmpW_inL, Ev.cmpW_niT, Ev.cmpW_niL, Ev.ixW_tup, Ev.ixW_lst, Ev.bltW_abs, Ev.bltW_int, Ev.bltW_gcd, Ev.bltW_lenT, Ev.bltW_lenL, Ev.bltW_scr, Ev.bltW_listL, Ev.bltW_listT, Ev.bltW_tupL, Ev.bltW_tupT, List.replicate, List.append_nil, List.cons_append, List.nil_append, List.getElem?_cons_zero, List.getElem?_cons_succ, List.length_cons, List.length_nil, List.set_cons_zero, List.set_cons_succ, Ev.argsOf, Ev.argOf_val, Ev.argOf_at, Ev.bors, Ev.backs_val, Ev.backs_bor, Ev.backs_nil, Ev.loses, Ev.retW_val, Ev.retW_tmp, Ev.parOf, Ev.outsOf, List.replicate_zero, Nat.sub_self, Ev.isOwnL, List.getElem?_nil, reduceCtorEq, decide_eq_true_eq, Ev.cmpOk_int, Ev.cmpOk_bl, Ev.cmpOk_non, Ev.cmpOk_nil, Ev.cmpOk_nilT, Ev.peq_int, Ev.peq_bl, Ev.peq_str, Ev.peq_non, Ev.peq_nil, Ev.peq_nilT, Ev.peq_consL, Ev.isT_non_int, Ev.isT_non_bool, Ev.isT_non_str, Ev.isT_non_tuple, Ev.isT_non_list, Ev.tyOk_non, Ev.isT_bl_int, Ev.isT_bl_bool, Ev.isT_bl_str, Ev.isT_bl_tuple, Ev.isT_bl_list, Ev.tyOk_bl, Ev.isT_int_int, Ev.isT_int_bool, Ev.isT_int_str, Ev.isT_int_tuple, Ev.isT_int_list, Ev.tyOk_int, Ev.isT_str_int, Ev.isT_str_bool, Ev.isT_str_str, Ev.isT_str_tuple, Ev.isT_str_list, Ev.tyOk_str, Ev.isT_tup_int, Ev.isT_tup_bool, Ev.isT_tup_str, Ev.isT_tup_tuple, Ev.isT_tup_list, Ev.tyOk_tup, Ev.isT_lst_int, Ev.isT_lst_bool, Ev.isT_lst_str, Ev.isT_lst_tuple, Ev.isT_lst_list, Ev.tyOk_lst, List.not_mem_nil, not_false_eq_true, List.nodup_cons, Bool.false_eq_true, ↓reduceIte, List.nodup_nil, true_and, and_true])
  simp only [h1, h2]
  refine ⟨x, rfl, qx, fun hx => ?_, e1⟩
  (simp (config := { maxSteps := 100000000 }) only [Ev.wS, Ev.wE.eq_1, Ev.wE.eq_2, Ev.wE.eq_3, Ev.wE.eq_4, Ev.wE.eq_6, Ev.wE.eq_7, Ev.wE.eq_8, Ev.wE.eq_9, Ev.wE.eq_10, Ev.wE.eq_11, Ev.wE.eq_12, Ev.wE.eq_13, Ev.wE.eq_14, Ev.wE.eq_15, Ev.wE.eq_16, Ev.wE.eq_17, Ev.wE.eq_18, Ev.wE.eq_19, Ev.wE.eq_20, Ev.wE.eq_21, Ev.wE.eq_22, Ev.wE.eq_23, Ev.wE.eq_24, Ev.wE.eq_25, Ev.wE.eq_26, Ev.wE.eq_27, Ev.wE_var, Ev.optK_some, Ev.selR_val, Ev.selR_own, Ev.rdS_val, Ev.rdS_own, Ev.fzS_val, Ev.fzS_own, Ev.argS_val, Ev.argS_own, Ev.wT, Ev.wAs, Ev.wEs, Ev.wI, Ev.wO, Ev.wG_nam, Ev.wG_tup, Ev.wGs_nil, Ev.wGs_cons, Ev.Tg.n, Ev.wipeE, Ev.restE, List.getD_cons_zero, List.getD_cons_succ, Ev.same2, Ev.items, Ev.rdK_val, Ev.rdK_tmp, Ev.rdK_at, Ev.rdsK, Ev.fzK_val, Ev.fzK_tmp, Ev.fzK_at, Ev.stW_val, Ev.stW_tmp, Ev.stW_bor, Ev.nbW_val, Ev.nbW_tmp, Ev.nbW_bor, Ev.binW_add, Ev.binW_sub, Ev.binW_mul, Ev.binW_div, Ev.binW_mod, Ev.binW_pow, Ev.binW_lst, Ev.binW_tup, Ev.binW_str, Ev.binW_rep, Ev.cmpW_lt, Ev.cmpW_le, Ev.cmpW_gt, Ev.cmpW_ge, Ev.cmpW_eq, Ev.cmpW_ne, Ev.cmpW_is, Ev.cmpW_isN, Ev.cmpW_inT, Ev.cmpW_inL, Ev.cmpW_niT, Ev.cmpW_niL, Ev.ixW_tup, Ev.ixW_lst, Ev.bltW_abs, Ev.bltW_int, Ev.bltW_gcd, Ev.bltW_lenT, Ev.bltW_lenL, Ev.bltW_scr, Ev.bltW_listL, Ev.bltW_listT, Ev.bltW_tupL, Ev.bltW_tupT, List.replicate, List.append_nil, List.cons_append, List.nil_append, List.getElem?_cons_zero, List.getElem?_cons_succ, List.length_cons, List.length_nil, List.set_cons_zero, List.set_cons_succ, Ev.argsOf, Ev.argOf_val, Ev.argOf_at, Ev.bors, Ev.backs_val, Ev.backs_bor, Ev.backs_nil, Ev.loses, Ev.retW_val, Ev.retW_tmp, Ev.parOf, Ev.outsOf, List.replicate_zero, Nat.sub_self, Ev.isOwnL, List.getElem?_nil, reduceCtorEq, decide_eq_true_eq, Ev.cmpOk_int, Ev.cmpOk_bl, Ev.cmpOk_non, Ev.cmpOk_nil, Ev.cmpOk_nilT, Ev.peq_int, Ev.peq_bl, Ev.peq_str, Ev.peq_non, Ev.peq_nil, Ev.peq_nilT, Ev.peq_consL, Ev.isT_non_int, Ev.isT_non_bool, Ev.isT_non_str, Ev.isT_non_tuple, Ev.isT_non_list, Ev.tyOk_non, Ev.isT_bl_int, Ev.isT_bl_bool, Ev.isT_bl_str, Ev.isT_bl_tuple, Ev.isT_bl_list, Ev.tyOk_bl, Ev.isT_int_int, Ev.isT_int_bool, Ev.isT_int_str, Ev.isT_int_tuple, Ev.isT_int_list, Ev.tyOk_int, Ev.isT_str_int, Ev.isT_str_bool, Ev.isT_str_str, Ev.isT_str_tuple, Ev.isT_str_list, Ev.tyOk_str, Ev.isT_tup_int, Ev.isT_tup_bool, Ev.isT_tup_str, Ev.isT_tup_tuple, Ev.isT_tup_list, Ev.tyOk_tup, Ev.isT_lst_int, Ev.isT_lst_bool, Ev.isT_lst_str, Ev.isT_lst_tuple, Ev.isT_lst_list, Ev.tyOk_lst, List.not_mem_nil, not_false_eq_true, List.nodup_cons, Bool.false_eq_true, ↓reduceIte, List.nodup_nil, true_and, and_true])
  refine ⟨y, rfl, qy, fun hy => ?_, e2 hx⟩
  obtain ⟨a, b, rfl, hab⟩ := quo_is hx
  obtain ⟨c, d, rfl, hcd⟩ := quo_is hy
  (simp (config := { maxSteps := 100000000 }) only [Ev.wS, Ev.wE.eq_1, Ev.wE.eq_2, Ev.wE.eq_3, Ev.wE.eq_4, Ev.wE.eq_6, Ev.wE.eq_7, Ev.wE.eq_8, Ev.wE.eq_9, Ev.wE.eq_10, Ev.wE.eq_11, Ev.wE.eq_12, Ev.wE.eq_13, Ev.wE.eq_14, Ev.wE.eq_15, Ev.wE.eq_16, Ev.wE.eq_17, Ev.wE.eq_18, Ev.wE.eq_19, Ev.wE.eq_20, Ev.wE.eq_21, Ev.wE.eq_22, Ev.wE.eq_23, Ev.wE.eq_24, Ev.wE.eq_25, Ev.wE.eq_26, Ev.wE.eq_27, Ev.wE_var, Ev.optK_some, Ev.selR_val, Ev.selR_own, Ev.rdS_val, Ev.rdS_own, Ev.fzS_val, Ev.fzS_own, Ev.argS_val, Ev.argS_own, Ev.wT, Ev.wAs, Ev.wEs, Ev.wI, Ev.wO, Ev.wG_nam, Ev.wG_tup, Ev.wGs_nil, Ev.wGs_cons, Ev.Tg.n, Ev.wipeE, Ev.restE, List.getD_cons_zero, List.getD_cons_succ, Ev.same2, Ev.items, Ev.rdK_val, Ev.rdK_tmp, Ev.rdK_at, Ev.rdsK, Ev.fzK_val, Ev.fzK_tmp, Ev.fzK_at, Ev.stW_val, Ev.stW_tmp, Ev.stW_bor, Ev.nbW_val, Ev.nbW_tmp, Ev.nbW_bor, Ev.binW_add, Ev.binW_sub, Ev.binW_mul, Ev.binW_div, Ev.binW_mod, Ev.binW_pow, Ev.binW_lst, Ev.binW_tup, Ev.binW_str, Ev.binW_rep, Ev.cmpW_lt, Ev.cmpW_le, Ev.cmpW_gt, Ev.cmpW_ge, Ev.cmpW_eq, Ev.cmpW_ne, Ev.cmpW_is, Ev.cmpW_isN, Ev.cmpW_inT, Ev.cmpW_inL, Ev.cmpW_niT, Ev.cmpW_niL, Ev.ixW_tup, Ev.ixW_lst, Ev.bltW_abs, Ev.bltW_int, Ev.bltW_gcd, Ev.bltW_lenT, Ev.bltW_lenL, Ev.bltW_scr, Ev.bltW_listL, Ev.bltW_listT, Ev.bltW_tupL, Ev.bltW_tupT, List.replicate, List.append_nil, List.cons_append, List.nil_append, List.getElem?_cons_zero, List.getElem?_cons_succ, List.length_cons, List.length_nil, List.set_cons_zero, List.set_cons_succ, Ev.argsOf, Ev.argOf_val, Ev.argOf_at, Ev.bors, Ev.backs_val, Ev.backs_bor, Ev.backs_nil, Ev.loses, Ev.retW_val, Ev.retW_tmp, Ev.parOf, Ev.outsOf, List.replicate_zero, Nat.sub_self, Ev.isOwnL, List.getElem?_nil, reduceCtorEq, decide_eq_true_eq, Ev.cmpOk_int, Ev.cmpOk_bl, Ev.cmpOk_non, Ev.cmpOk_nil, Ev.cmpOk_nilT, Ev.peq_int, Ev.peq_bl, Ev.peq_str, Ev.peq_non, Ev.peq_nil, Ev.peq_nilT, Ev.peq_consL, Ev.isT_non_int, Ev.isT_non_bool, Ev.isT_non_str, Ev.isT_non_tuple, Ev.isT_non_list, Ev.tyOk_non, Ev.isT_bl_int, Ev.isT_bl_bool, Ev.isT_bl_str, Ev.isT_bl_tuple, Ev.isT_bl_list, Ev.tyOk_bl, Ev.isT_int_int, Ev.isT_int_bool, Ev.isT_int_str, Ev.isT_int_tuple, Ev.isT_int_list, Ev.tyOk_int, Ev.isT_str_int, Ev.isT_str_bool, Ev.isT_str_str, Ev.isT_str_tuple, Ev.isT_str_list, Ev.tyOk_str, Ev.isT_tup_int, Ev.isT_tup_bool, Ev.isT_tup_str, Ev.isT_tup_tuple, Ev.isT_tup_list, Ev.tyOk_tup, Ev.isT_lst_int, Ev.isT_lst_bool, Ev.isT_lst_str, Ev.isT_lst_tuple, Ev.isT_lst_list, Ev.tyOk_lst, List.not_mem_nil, not_false_eq_true, List.nodup_cons, Bool.false_eq_true, ↓reduceIte, List.nodup_nil, true_and, and_true])
  refine ⟨a, b, c, d, rfl, hab, hcd, ?_⟩
  (simp (config := { maxSteps := 100000000 }) only [Ev.wS, Ev.wE.eq_1, Ev.wE.eq_2, Ev.wE.eq_3, Ev.wE.eq_4, Ev.wE.eq_6, Ev.wE.eq_7, Ev.wE.eq_8, Ev.wE.eq_9, Ev.wE.eq_10, Ev.wE.eq_11, Ev.wE.eq_12, Ev.wE.eq_13, Ev.wE.eq_14, Ev.wE.eq_15, Ev.wE.eq_16, Ev.wE.eq_17, Ev.wE.eq_18, Ev.wE.eq_19, Ev.wE.eq_20, Ev.wE.eq_21, Ev.wE.eq_22, Ev.wE.eq_23, Ev.wE.eq_24, Ev.wE.eq_25, Ev.wE.eq_26, Ev.wE.eq_27, Ev.wE_var, Ev.optK_some, Ev.selR_val, Ev.selR_own, Ev.rdS_val, Ev.rdS_own, Ev.fzS_val, Ev.fzS_own, Ev.argS_val, Ev.argS_own, Ev.wT, Ev.wAs, Ev.wEs, Ev.wI, Ev.wO, Ev.wG_nam, Ev.wG_tup, Ev.wGs_nil, Ev.wGs_cons, Ev.Tg.n, Ev.wipeE, Ev.restE, List.getD_cons_zero, List.getD_cons_succ, Ev.same2, Ev.items, Ev.rdK_val, Ev.rdK_tmp, Ev.rdK_at, Ev.rdsK, Ev.fzK_val, Ev.fzK_tmp, Ev.fzK_at, Ev.stW_val, Ev.stW_tmp, Ev.stW_bor, Ev.nbW_val, Ev.nbW_tmp, Ev.nbW_bor, Ev.binW_add, Ev.binW_sub, Ev.binW_mul, Ev.binW_div, Ev.binW_mod, Ev.binW_pow, Ev.binW_lst, Ev.binW_tup, Ev.binW_str, Ev.binW_rep, Ev.cmpW_lt, Ev.cmpW_le, Ev.cmpW_gt, Ev.cmpW_ge, Ev.cmpW_eq, Ev.cmpW_ne, Ev.cmpW_is, Ev.cmpW_isN, Ev.cmpW_inT, Ev.cmpW_inL, Ev.cmpW_niT, Ev.cmpW_niL, Ev.ixW_tup, Ev.ixW_lst, Ev.bltW_abs, Ev.bltW_int, Ev.bltW_gcd, Ev.bltW_lenT, Ev.bltW_lenL, Ev.bltW_scr, Ev.bltW_listL, Ev.bltW_listT, Ev.bltW_tupL, Ev.bltW_tupT, List.replicate, List.append_nil, List.cons_append, List.nil_append, List.getElem?_cons_zero, List.getElem?_cons_succ, List.length_cons, List.length_nil, List.set_cons_zero, List.set_cons_succ, Ev.argsOf, Ev.argOf_val, Ev.argOf_at, Ev.bors, Ev.backs_val, Ev.backs_bor, Ev.backs_nil, Ev.loses, Ev.retW_val, Ev.retW_tmp, Ev.parOf, Ev.outsOf, List.replicate_zero, Nat.sub_self, Ev.isOwnL, List.getElem?_nil, reduceCtorEq, decide_eq_true_eq, Ev.cmpOk_int, Ev.cmpOk_bl, Ev.cmpOk_non, Ev.cmpOk_nil, Ev.cmpOk_nilT, Ev.peq_int, Ev.peq_bl, Ev.peq_str, Ev.peq_non, Ev.peq_nil, Ev.peq_nilT, Ev.peq_consL, Ev.isT_non_int, Ev.isT_non_bool, Ev.isT_non_str, Ev.isT_non_tuple, Ev.isT_non_list, Ev.tyOk_non, Ev.isT_bl_int, Ev.isT_bl_bool, Ev.isT_bl_str, Ev.isT_bl_tuple, Ev.isT_bl_list, Ev.tyOk_bl, Ev.isT_int_int, Ev.isT_int_bool, Ev.isT_int_str, Ev.isT_int_tuple, Ev.isT_int_list, Ev.tyOk_int, Ev.isT_str_int, Ev.isT_str_bool, Ev.isT_str_str, Ev.isT_str_tuple, Ev.isT_str_list, Ev.tyOk_str, Ev.isT_tup_int, Ev.isT_tup_bool, Ev.isT_tup_str, Ev.isT_tup_tuple, Ev.isT_tup_list, Ev.tyOk_tup, Ev.isT_lst_int, Ev.isT_lst_bool, Ev.isT_lst_str, Ev.isT_lst_tuple, Ev.isT_lst_list, Ev.tyOk_lst, List.not_mem_nil, not_false_eq_true, List.nodup_cons, Bool.false_eq_true, ↓reduceIte, List.nodup_nil, true_and, and_true])
  exact hk a b c d rfl rfl hx hy
def S_quotient_product : FnS := S_two fun a b c d => plainP (a * c) (b * d)
theorem ok_quotient_product {Φ : Tbl} (h1 : Φ.fn "need_quotient" = some S_need_quotient) (h2 : Φ.fn "times" = some S_times) : ∀ ss Kp Xk, S_quotient_product ss Kp Xk → bodyS Φ 2 2 B_quotient_product ss Kp Xk := by
  rintro ss Kp Xk ⟨x, y, rfl, qx, qy, e1, e2, hk⟩
  refine ⟨rfl, ?_⟩
  unfold B_quotient_product
  (simp (config := { maxSteps := 100000000 }) only [Ev.wS, Ev.wE.eq_1, Ev.wE.eq_2, Ev.wE.eq_3, Ev.wE.eq_4, Ev.wE.eq_6, Ev.wE.eq_7, Ev.wE.eq_8, Ev.wE.eq_9, Ev.wE.eq_10, Ev.wE.eq_11, Ev.wE.eq_12, Ev.wE.eq_13, Ev.wE.eq_14, Ev.wE.eq_15, Ev.wE.eq_16, Ev.wE.eq_17, Ev.wE.eq_18, Ev.wE.eq_19, Ev.wE.eq_20, Ev.wE.eq_21, Ev.wE.eq_22, Ev.wE.eq_23, Ev.wE.eq_24, Ev.wE.eq_25, Ev.wE.eq_26, Ev.wE.eq_27, Ev.wE_var, Ev.optK_some, Ev.selR_val, Ev.selR_own, Ev.rdS_val, Ev.rdS_own, Ev.fzS_val, Ev.fzS_own, Ev.argS_val, Ev.argS_own, Ev.wT, Ev.wAs, Ev.wEs, Ev.wI, Ev.wO, Ev.wG_nam, Ev.wG_tup, Ev.wGs_nil, Ev.wGs_cons, Ev.Tg.n, Ev.wipeE, Ev.restE, List.getD_cons_zero, List.getD_cons_succ, Ev.same2, Ev.items, Ev.rdK_val, Ev.rdK_tmp, Ev.rdK_at, Ev.rdsK, Ev.fzK_val, Ev.fzK_tmp, Ev.fzK_at, Ev.stW_val, Ev.stW_tmp, Ev.stW_bor, Ev.nbW_val, Ev.nbW_tmp, Ev.nbW_bor, Ev.binW_add, Ev.binW_sub, Ev.binW_mul, Ev.binW_div, Ev.binW_mod, Ev.binW_pow, Ev.binW_lst, Ev.binW_tup, Ev.binW_str, Ev.binW_rep, Ev.cmpW_lt, Ev.cmpW_le, Ev.cmpW_gt, Ev.cmpW_ge, Ev.cmpW_eq, Ev.cmpW_ne, Ev.cmpW_is, Ev.cmpW_isN, Ev.cmpW_inT, Ev.cmpW_inL, Ev.cmpW_niT, Ev.cmpW_niL, Ev.ixW_tup, Ev.ixW_lst, Ev.bltW_abs, Ev.bltW_int, Ev.bltW_gcd, Ev.bltW_lenT, Ev.bltW_lenL, Ev.bltW_scr, Ev.bltW_listL, Ev.bltW_listT, Ev.bltW_tupL, Ev.bltW_tupT, List.replicate, List.append_nil, List.cons_append, List.nil_append, List.getElem?_cons_zero, List.getElem?_cons_succ, List.length_cons, List.length_nil, List.set_cons_zero, List.set_cons_succ, Ev.argsOf, Ev.argOf_val, Ev.argOf_at, Ev.bors, Ev.backs_val, Ev.backs_bor, Ev.backs_nil, Ev.loses, Ev.retW_val, Ev.retW_tmp, Ev.parOf, Ev.outsOf, List.replicate_zero, Nat.sub_self, Ev.isOwnL, List.getElem?_nil, reduceCtorEq, decide_eq_true_eq, Ev.cmpOk_int, Ev.cmpOk_bl, Ev.cmpOk_non, Ev.cmpOk_nil, Ev.cmpOk_nilT, Ev.peq_int, Ev.peq_bl, Ev.peq_str, Ev.peq_non, Ev.peq_nil, Ev.peq_nilT, Ev.peq_consL, Ev.isT_non_int, Ev.isT_non_bool, Ev.isT_non_str, Ev.isT_non_tuple, Ev.isT_non_list, Ev.tyOk_non, Ev.isT_bl_int, Ev.isT_bl_bool, Ev.isT_bl_str, Ev.isT_bl_tuple, Ev.isT_bl_list, Ev.tyOk_bl, Ev.isT_int_int, Ev.isT_int_bool, Ev.isT_int_str, Ev.isT_int_tuple, Ev.isT_int_list, Ev.tyOk_int, Ev.isT_str_int, Ev.isT_str_bool, Ev.isT_str_str, Ev.isT_str_tuple, Ev.isT_str_list, Ev.tyOk_str, Ev.isT_tup_int, Ev.isT_tup_bool, Ev.isT_tup_str, Ev.isT_tup_tuple, Ev.isT_tup_list, Ev.tyOk_tup, Ev.isT_lst_int, Ev.isT_lst_bool, Ev.isT_lst_str, Ev.isT_lst_tuple, Ev.isT_lst_list, Ev.tyOk_lst, List.not_mem_nil, not_false_eq_true, List.nodup_cons, Bool.false_eq_true, ↓reduceIte, List.nodup_nil, true_and, and_true])
  simp only [h1, h2]
  refine ⟨x, rfl, qx, fun hx => ?_, e1⟩
  (simp (config := { maxSteps := 100000000 }) only [Ev.wS, Ev.wE.eq_1, Ev.wE.eq_2, Ev.wE.eq_3, Ev.wE.eq_4, Ev.wE.eq_6, Ev.wE.eq_7, Ev.wE.eq_8, Ev.wE.eq_9, Ev.wE.eq_10, Ev.wE.eq_11, Ev.wE.eq_12, Ev.wE.eq_13, Ev.wE.eq_14, Ev.wE.eq_15, Ev.wE.eq_16, Ev.wE.eq_17, Ev.wE.eq_18, Ev.wE.eq_19, Ev.wE.eq_20, Ev.wE.eq_21, Ev.wE.eq_22, Ev.wE.eq_23, Ev.wE.eq_24, Ev.wE.eq_25, Ev.wE.eq_26, Ev.wE.eq_27, Ev.wE_var, Ev.optK_some, Ev.selR_val, Ev.selR_own, Ev.rdS_val, Ev.rdS_own, Ev.fzS_val, Ev.fzS_own, Ev.argS_val, Ev.argS_own, Ev.wT, Ev.wAs, Ev.wEs, Ev.wI, Ev.wO, Ev.wG_nam, Ev.wG_tup, Ev.wGs_nil, Ev.wGs_cons, Ev.Tg.n, Ev.wipeE, Ev.restE, List.getD_cons_zero, List.getD_cons_succ, Ev.same2, Ev.items, Ev.rdK_val, Ev.rdK_tmp, Ev.rdK_at, Ev.rdsK, Ev.fzK_val, Ev.fzK_tmp, Ev.fzK_at, Ev.stW_val, Ev.stW_tmp, Ev.stW_bor, Ev.nbW_val, Ev.nbW_tmp, Ev.nbW_bor, Ev.binW_add, Ev.binW_sub, Ev.binW_mul, Ev.binW_div, Ev.binW_mod, Ev.binW_pow, Ev.binW_lst, Ev.binW_tup, Ev.binW_str, Ev.binW_rep, Ev.cmpW_lt, Ev.cmpW_le, Ev.cmpW_gt, Ev.cmpW_ge, Ev.cmpW_eq, Ev.cmpW_ne, Ev.cmpW_is, Ev.cmpW_isN, Ev.cmpW_inT, Ev.cmpW_inL, Ev.cmpW_niT, Ev.cmpW_niL, Ev.ixW_tup, Ev.ixW_lst, Ev.bltW_abs, Ev.bltW_int, Ev.bltW_gcd, Ev.bltW_lenT, Ev.bltW_lenL, Ev.bltW_scr, Ev.bltW_listL, Ev.bltW_listT, Ev.bltW_tupL, Ev.bltW_tupT, List.replicate, List.append_nil, List.cons_append, List.nil_append, List.getElem?_cons_zero, List.getElem?_cons_succ, List.length_cons, List.length_nil, List.set_cons_zero, List.set_cons_succ, Ev.argsOf, Ev.argOf_val, Ev.argOf_at, Ev.bors, Ev.backs_val, Ev.backs_bor, Ev.backs_nil, Ev.loses, Ev.retW_val, Ev.retW_tmp, Ev.parOf, Ev.outsOf, List.replicate_zero, Nat.sub_self, Ev.isOwnL, List.getElem?_nil, reduceCtorEq, decide_eq_true_eq, Ev.cmpOk_int, Ev.cmpOk_bl, Ev.cmpOk_non, Ev.cmpOk_nil, Ev.cmpOk_nilT, Ev.peq_int, Ev.peq_bl, Ev.peq_str, Ev.peq_non, Ev.peq_nil, Ev.peq_nilT, Ev.peq_consL, Ev.isT_non_int, Ev.isT_non_bool, Ev.isT_non_str, Ev.isT_non_tuple, Ev.isT_non_list, Ev.tyOk_non, Ev.isT_bl_int, Ev.isT_bl_bool, Ev.isT_bl_str, Ev.isT_bl_tuple, Ev.isT_bl_list, Ev.tyOk_bl, Ev.isT_int_int, Ev.isT_int_bool, Ev.isT_int_str, Ev.isT_int_tuple, Ev.isT_int_list, Ev.tyOk_int, Ev.isT_str_int, Ev.isT_str_bool, Ev.isT_str_str, Ev.isT_str_tuple, Ev.isT_str_list, Ev.tyOk_str, Ev.isT_tup_int, Ev.isT_tup_bool, Ev.isT_tup_str, Ev.isT_tup_tuple, Ev.isT_tup_list, Ev.tyOk_tup, Ev.isT_lst_int, Ev.isT_lst_bool, Ev.isT_lst_str, Ev.isT_lst_tuple, Ev.isT_lst_list, Ev.tyOk_lst, List.not_mem_nil, not_false_eq_true, List.nodup_cons, Bool.false_eq_true, ↓reduceIte, List.nodup_nil, true_and, and_true])
  refine ⟨y, rfl, qy, fun hy => ?_, e2 hx⟩
  obtain ⟨a, b, rfl, hab⟩ := quo_is hx
  obtain ⟨c, d, rfl, hcd⟩ := quo_is hy
  (simp (config := { maxSteps := 100000000 }) only [Ev.wS, Ev.wE.eq_1, Ev.wE.eq_2, Ev.wE.eq_3, Ev.wE.eq_4, Ev.wE.eq_6, Ev.wE.eq_7, Ev.wE.eq_8, Ev.wE.eq_9, Ev.wE.eq_10, Ev.wE.eq_11, Ev.wE.eq_12, Ev.wE.eq_13, Ev.wE.eq_14, Ev.wE.eq_15, Ev.wE.eq_16, Ev.wE.eq_17, Ev.wE.eq_18, Ev.wE.eq_19, Ev.wE.eq_20, Ev.wE.eq_21, Ev.wE.eq_22, Ev.wE.eq_23, Ev.wE.eq_24, Ev.wE.eq_25, Ev.wE.eq_26, Ev.wE.eq_27, Ev.wE_var, Ev.optK_some, Ev.selR_val, Ev.selR_own, Ev.rdS_val, Ev.rdS_own, Ev.fzS_val, Ev.fzS_own, Ev.argS_val, Ev.argS_own, Ev.wT, Ev.wAs, Ev.wEs, Ev.wI, Ev.wO, Ev.wG_nam, Ev.wG_tup, Ev.wGs_nil, Ev.wGs_cons, Ev.Tg.n, Ev.wipeE, Ev.restE, List.getD_cons_zero, List.getD_cons_succ, Ev.same2, Ev.items, Ev.rdK_val, Ev.rdK_tmp, Ev.rdK_at, Ev.rdsK, Ev.fzK_val, Ev.fzK_tmp, Ev.fzK_at, Ev.stW_val, Ev.stW_tmp, Ev.stW_bor, Ev.nbW_val, Ev.nbW_tmp, Ev.nbW_bor, Ev.binW_add, Ev.binW_sub, Ev.binW_mul, Ev.binW_div, Ev.binW_mod, Ev.binW_pow, Ev.binW_lst, Ev.binW_tup, Ev.binW_str, Ev.binW_rep, Ev.cmpW_lt, Ev.cmpW_le, Ev.cmpW_gt, Ev.cmpW_ge, Ev.cmpW_eq, Ev.cmpW_ne, Ev.cmpW_is, Ev.cmpW_isN, Ev.cmpW_inT, Ev.cmpW_inL, Ev.cmpW_niT, Ev.cmpW_niL, Ev.ixW_tup, Ev.ixW_lst, Ev.bltW_abs, Ev.bltW_int, Ev.bltW_gcd, Ev.bltW_lenT, Ev.bltW_lenL, Ev.bltW_scr, Ev.bltW_listL, Ev.bltW_listT, Ev.bltW_tupL, Ev.bltW_tupT, List.replicate, List.append_nil, List.cons_append, List.nil_append, List.getElem?_cons_zero, List.getElem?_cons_succ, List.length_cons, List.length_nil, List.set_cons_zero, List.set_cons_succ, Ev.argsOf, Ev.argOf_val, Ev.argOf_at, Ev.bors, Ev.backs_val, Ev.backs_bor, Ev.backs_nil, Ev.loses, Ev.retW_val, Ev.retW_tmp, Ev.parOf, Ev.outsOf, List.replicate_zero, Nat.sub_self, Ev.isOwnL, List.getElem?_nil, reduceCtorEq, decide_eq_true_eq, Ev.cmpOk_int, Ev.cmpOk_bl, Ev.cmpOk_non, Ev.cmpOk_nil, Ev.cmpOk_nilT, Ev.peq_int, Ev.peq_bl, Ev.peq_str, Ev.peq_non, Ev.peq_nil, Ev.peq_nilT, Ev.peq_consL, Ev.isT_non_int, Ev.isT_non_bool, Ev.isT_non_str, Ev.isT_non_tuple, Ev.isT_non_list, Ev.tyOk_non, Ev.isT_bl_int, Ev.isT_bl_bool, Ev.isT_bl_str, Ev.isT_bl_tuple, Ev.isT_bl_list, Ev.tyOk_bl, Ev.isT_int_int, Ev.isT_int_bool, Ev.isT_int_str, Ev.isT_int_tuple, Ev.isT_int_list, Ev.tyOk_int, Ev.isT_str_int, Ev.isT_str_bool, Ev.isT_str_str, Ev.isT_str_tuple, Ev.isT_str_list, Ev.tyOk_str, Ev.isT_tup_int, Ev.isT_tup_bool, Ev.isT_tup_str, Ev.isT_tup_tuple, Ev.isT_tup_list, Ev.tyOk_tup, Ev.isT_lst_int, Ev.isT_lst_bool, Ev.isT_lst_str, Ev.isT_lst_tuple, Ev.isT_lst_list, Ev.tyOk_lst, List.not_mem_nil, not_false_eq_true, List.nodup_cons, Bool.false_eq_true, ↓reduceIte, List.nodup_nil, true_and, and_true])
  refine ⟨a, b, c, d, rfl, hab, hcd, ?_⟩
  (simp (config := { maxSteps := 100000000 }) only [Ev.wS, Ev.wE.eq_1, Ev.wE.eq_2, Ev.wE.eq_3, Ev.wE.eq_4, Ev.wE.eq_6, Ev.wE.eq_7, Ev.wE.eq_8, Ev.wE.eq_9, Ev.wE.eq_10, Ev.wE.eq_11, Ev.wE.eq_12, Ev.wE.eq_13, Ev.wE.eq_14, Ev.wE.eq_15, Ev.wE.eq_16, Ev.wE.eq_17, Ev.wE.eq_18, Ev.wE.eq_19, Ev.wE.eq_20, Ev.wE.eq_21, Ev.wE.eq_22, Ev.wE.eq_23, Ev.wE.eq_24, Ev.wE.eq_25, Ev.wE.eq_26, Ev.wE.eq_27, Ev.wE_var, Ev.optK_some, Ev.selR_val, Ev.selR_own, Ev.rdS_val, Ev.rdS_own, Ev.fzS_val, Ev.fzS_own, Ev.argS_val, Ev.argS_own, Ev.wT, Ev.wAs, Ev.wEs, Ev.wI, Ev.wO, Ev.wG_nam, Ev.wG_tup, Ev.wGs_nil, Ev.wGs_cons, Ev.Tg.n, Ev.wipeE, Ev.restE, List.getD_cons_zero, List.getD_cons_succ, Ev.same2, Ev.items, Ev.rdK_val, Ev.rdK_tmp, Ev.rdK_at, Ev.rdsK, Ev.fzK_val, Ev.fzK_tmp, Ev.fzK_at, Ev.stW_val, Ev.stW_tmp, Ev.stW_bor, Ev.nbW_val, Ev.nbW_tmp, Ev.nbW_bor, Ev.binW_add, Ev.binW_sub, Ev.binW_mul, Ev.binW_div, Ev.binW_mod, Ev.binW_pow, Ev.binW_lst, Ev.binW_tup, Ev.binW_str, Ev.binW_rep, Ev.cmpW_lt, Ev.cmpW_le, Ev.cmpW_gt, Ev.cmpW_ge, Ev.cmpW_eq, Ev.cmpW_ne, Ev.cmpW_is, Ev.cmpW_isN, Ev.cmpW_inT, Ev.cmpW_inL, Ev.cmpW_niT, Ev.cmpW_niL, Ev.ixW_tup, Ev.ixW_lst, Ev.bltW_abs, Ev.bltW_int, Ev.bltW_gcd, Ev.bltW_lenT, Ev.bltW_lenL, Ev.bltW_scr, Ev.bltW_listL, Ev.bltW_listT, Ev.bltW_tupL, Ev.bltW_tupT, List.replicate, List.append_nil, List.cons_append, List.nil_append, List.getElem?_cons_zero, List.getElem?_cons_succ, List.length_cons, List.length_nil, List.set_cons_zero, List.set_cons_succ, Ev.argsOf, Ev.argOf_val, Ev.argOf_at, Ev.bors, Ev.backs_val, Ev.backs_bor, Ev.backs_nil, Ev.loses, Ev.retW_val, Ev.retW_tmp, Ev.parOf, Ev.outsOf, List.replicate_zero, Nat.sub_self, Ev.isOwnL, List.getElem?_nil, reduceCtorEq, decide_eq_true_eq, Ev.cmpOk_int, Ev.cmpOk_bl, Ev.cmpOk_non, Ev.cmpOk_nil, Ev.cmpOk_nilT, Ev.peq_int, Ev.peq_bl, Ev.peq_str, Ev.peq_non, Ev.peq_nil, Ev.peq_nilT, Ev.peq_consL, Ev.isT_non_int, Ev.isT_non_bool, Ev.isT_non_str, Ev.isT_non_tuple, Ev.isT_non_list, Ev.tyOk_non, Ev.isT_bl_int, Ev.isT_bl_bool, Ev.isT_bl_str, Ev.isT_bl_tuple, Ev.isT_bl_list, Ev.tyOk_bl, Ev.isT_int_int, Ev.isT_int_bool, Ev.isT_int_str, Ev.isT_int_tuple, Ev.isT_int_list, Ev.tyOk_int, Ev.isT_str_int, Ev.isT_str_bool, Ev.isT_str_str, Ev.isT_str_tuple, Ev.isT_str_list, Ev.tyOk_str, Ev.isT_tup_int, Ev.isT_tup_bool, Ev.isT_tup_str, Ev.isT_tup_tuple, Ev.isT_tup_list, Ev.tyOk_tup, Ev.isT_lst_int, Ev.isT_lst_bool, Ev.isT_lst_str, Ev.isT_lst_tuple, Ev.isT_lst_list, Ev.tyOk_lst, List.not_mem_nil, not_false_eq_true, List.nodup_cons, Bool.false_eq_true, ↓reduceIte, List.nodup_nil, true_and, and_true])
  exact hk a b c d rfl rfl hx hy
def S_is_greater : FnS := S_two fun a b c d => .bl (decide (0 < a * d - c * b))
theorem ok_is_greater {Φ : Tbl} (h1 : Φ.fn "need_quotient" = some S_need_quotient) (h2 : Φ.fn "lead" = some S_lead) : ∀ ss Kp Xk, S_is_greater ss Kp Xk → bodyS Φ 2 2 B_is_greater ss Kp Xk := by
  rintro ss Kp Xk ⟨x, y, rfl, qx, qy, e1, e2, hk⟩
  refine ⟨rfl, ?_⟩
  unfold B_is_greater
  (simp (config := { maxSteps := 100000000 }) only [Ev.wS, Ev.wE.eq_1, Ev.wE.eq_2, Ev.wE.eq_3, Ev.wE.eq_4, Ev.wE.eq_6, Ev.wE.eq_7, Ev.wE.eq_8, Ev.wE.eq_9, Ev.wE.eq_10, Ev.wE.eq_11, Ev.wE.eq_12, Ev.wE.eq_13, Ev.wE.eq_14, Ev.wE.eq_15, Ev.wE.eq_16, Ev.wE.eq_17, Ev.wE.eq_18, Ev.wE.eq_19, Ev.wE.eq_20, Ev.wE.eq_21, Ev.wE.eq_22, Ev.wE.eq_23, Ev.wE.eq_24, Ev.wE.eq_25, Ev.wE.eq_26, Ev.wE.eq_27, Ev.wE_var, Ev.optK_some, Ev.selR_val, Ev.selR_own, Ev.rdS_val, Ev.rdS_own, Ev.fzS_val, Ev.fzS_own, Ev.argS_val, Ev.argS_own, Ev.wT, Ev.wAs, Ev.wEs, Ev.wI, Ev.wO, Ev.wG_nam, Ev.wG_tup, Ev.wGs_nil, Ev.wGs_cons, Ev.Tg.n, Ev.wipeE, Ev.restE, List.getD_cons_zero, List.getD_cons_succ, Ev.same2, Ev.items, Ev.rdK_val, Ev.rdK_tmp, Ev.rdK_at, Ev.rdsK, Ev.fzK_val, Ev.fzK_tmp, Ev.fzK_at, Ev.stW_val, Ev.stW_tmp, Ev.stW_bor, Ev.nbW_val, Ev.nbW_tmp, Ev.nbW_bor, Ev.binW_add, Ev.binW_sub, Ev.binW_mul, Ev.binW_div, Ev.binW_mod, Ev.binW_pow, Ev.binW_lst, Ev.binW_tup, Ev.binW_str, Ev.binW_rep, Ev.cmpW_lt, Ev.cmpW_le, Ev.cmpW_gt, Ev.cmpW_ge, Ev.cmpW_eq, Ev.cmpW_ne, Ev.cmpW_is, Ev.cmpW_isN, Ev.cmpW_inT, Ev.cmpW_inL, Ev.cmpW_niT, Ev.cmpW_niL, Ev.ixW_tup, Ev.ixW_lst, Ev.bltW_abs, Ev.bltW_int, Ev.bltW_gcd, Ev.bltW_lenT, Ev.bltW_lenL, Ev.bltW_scr, Ev.bltW_listL, Ev.bltW_listT, Ev.bltW_tupL, Ev.bltW_tupT, List.replicate, List.append_nil, List.cons_append, List.nil_append, List.getElem?_cons_zero, List.getElem?_cons_succ, List.length_cons, List.length_nil, List.set_cons_zero, List.set_cons_succ, Ev.argsOf, Ev.argOf_val, Ev.argOf_at, Ev.bors, Ev.backs_val, Ev.backs_bor, Ev.backs_nil, Ev.loses, Ev.retW_val, Ev.retW_tmp, Ev.parOf, Ev.outsOf, List.replicate_zero, Nat.sub_self, Ev.isOwnL, List.getElem?_nil, reduceCtorEq, decide_eq_true_eq, Ev.cmpOk_int, Ev.cmpOk_bl, Ev.cmpOk_non, Ev.cmpOk_nil, Ev.cmpOk_nilT, Ev.peq_int, Ev.peq_bl, Ev.peq_str, Ev.peq_non, Ev.peq_nil, Ev.peq_nilT, Ev.peq_consL, Ev.isT_non_int, Ev.isT_non_bool, Ev.isT_non_str, Ev.isT_non_tuple, Ev.isT_non_list, Ev.tyOk_non, Ev.isT_bl_int, Ev.isT_bl_bool, Ev.isT_bl_str, Ev.isT_bl_tuple, Ev.isT_bl_list, Ev.tyOk_bl, Ev.isT_int_int, Ev.isT_int_bool, Ev.isT_int_str, Ev.isT_int_tuple, Ev.isT_int_list, Ev.tyOk_int, Ev.isT_str_int, Ev.isT_str_bool, Ev.isT_str_str, Ev.isT_str_tuple, Ev.isT_str_list, Ev.tyOk_str, Ev.isT_tup_int, Ev.isT_tup_bool, Ev.isT_tup_str, Ev.isT_tup_tuple, Ev.isT_tup_list, Ev.tyOk_tup, Ev.isT_lst_int, Ev.isT_lst_bool, Ev.isT_lst_str, Ev.isT_lst_tuple, Ev.isT_lst_list, Ev.tyOk_lst, List.not_mem_nil, not_false_eq_true, List.nodup_cons, Bool.false_eq_true, ↓reduceIte, List.nodup_nil, true_and, and_true])
  simp only [h1, h2]
  refine ⟨x, rfl, qx, fun hx => ?_, e1⟩
  (simp (config := { maxSteps := 100000000 }) only [Ev.wS, Ev.wE.eq_1, Ev.wE.eq_2, Ev.wE.eq_3, Ev.wE.eq_4, Ev.wE.eq_6, Ev.wE.eq_7, Ev.wE.eq_8, Ev.wE.eq_9, Ev.wE.eq_10, Ev.wE.eq_11, Ev.wE.eq_12, Ev.wE.eq_13, Ev.wE.eq_14, Ev.wE.eq_15, Ev.wE.eq_16, Ev.wE.eq_17, Ev.wE.eq_18, Ev.wE.eq_19, Ev.wE.eq_20, Ev.wE.eq_21, Ev.wE.eq_22, Ev.wE.eq_23, Ev.wE.eq_24, Ev.wE.eq_25, Ev.wE.eq_26, Ev.wE.eq_27, Ev.wE_var, Ev.optK_some, Ev.selR_val, Ev.selR_own, Ev.rdS_val, Ev.rdS_own, Ev.fzS_val, Ev.fzS_own, Ev.argS_val, Ev.argS_own, Ev.wT, Ev.wAs, Ev.wEs, Ev.wI, Ev.wO, Ev.wG_nam, Ev.wG_tup, Ev.wGs_nil, Ev.wGs_cons, Ev.Tg.n, Ev.wipeE, Ev.restE, List.getD_cons_zero, List.getD_cons_succ, Ev.same2, Ev.items, Ev.rdK_val, Ev.rdK_tmp, Ev.rdK_at, Ev.rdsK, Ev.fzK_val, Ev.fzK_tmp, Ev.fzK_at, Ev.stW_val, Ev.stW_tmp, Ev.stW_bor, Ev.nbW_val, Ev.nbW_tmp, Ev.nbW_bor, Ev.binW_add, Ev.binW_sub, Ev.binW_mul, Ev.binW_div, Ev.binW_mod, Ev.binW_pow, Ev.binW_lst, Ev.binW_tup, Ev.binW_str, Ev.binW_rep, Ev.cmpW_lt, Ev.cmpW_le, Ev.cmpW_gt, Ev.cmpW_ge, Ev.cmpW_eq, Ev.cmpW_ne, Ev.cmpW_is, Ev.cmpW_isN, Ev.cmpW_inT, Ev.cmpW_inL, Ev.cmpW_niT, Ev.cmpW_niL, Ev.ixW_tup, Ev.ixW_lst, Ev.bltW_abs, Ev.bltW_int, Ev.bltW_gcd, Ev.bltW_lenT, Ev.bltW_lenL, Ev.bltW_scr, Ev.bltW_listL, Ev.bltW_listT, Ev.bltW_tupL, Ev.bltW_tupT, List.replicate, List.append_nil, List.cons_append, List.nil_append, List.getElem?_cons_zero, List.getElem?_cons_succ, List.length_cons, List.length_nil, List.set_cons_zero, List.set_cons_succ, Ev.argsOf, Ev.argOf_val, Ev.argOf_at, Ev.bors, Ev.backs_val, Ev.backs_bor, Ev.backs_nil, Ev.loses, Ev.retW_val, Ev.retW_tmp, Ev.parOf, Ev.outsOf, List.replicate_zero, Nat.sub_self, Ev.isOwnL, List.getElem?_nil, reduceCtorEq, decide_eq_true_eq, Ev.cmpOk_int, Ev.cmpOk_bl, Ev.cmpOk_non, Ev.cmpOk_nil, Ev.cmpOk_nilT, Ev.peq_int, Ev.peq_bl, Ev.peq_str, Ev.peq_non, Ev.peq_nil, Ev.peq_nilT, Ev.peq_consL, Ev.isT_non_int, Ev.isT_non_bool, Ev.isT_non_str, Ev.isT_non_tuple, Ev.isT_non_list, Ev.tyOk_non, Ev.isT_bl_int, Ev.isT_bl_bool, Ev.isT_bl_str, Ev.isT_bl_tuple, Ev.isT_bl_list, Ev.tyOk_bl, Ev.isT_int_int, Ev.isT_int_bool, Ev.isT_int_str, Ev.isT_int_tuple, Ev.isT_int_list, Ev.tyOk_int, Ev.isT_str_int, Ev.isT_str_bool, Ev.isT_str_str, Ev.isT_str_tuple, Ev.isT_str_list, Ev.tyOk_str, Ev.isT_tup_int, Ev.isT_tup_bool, Ev.isT_tup_str, Ev.isT_tup_tuple, Ev.isT_tup_list, Ev.tyOk_tup, Ev.isT_lst_int, Ev.isT_lst_bool, Ev.isT_lst_str, Ev.isT_lst_tuple, Ev.isT_lst_list, Ev.tyOk_lst, List.not_mem_nil, not_false_eq_true, List.nodup_cons, Bool.false_eq_true, ↓reduceIte, List.nodup_nil, true_and, and_true])
  refine ⟨y, rfl, qy, fun hy => ?_, e2 hx⟩
  obtain ⟨a, b, rfl, hab⟩ := quo_is hx
  obtain ⟨c, d, rfl, hcd⟩ := quo_is hy
  (simp (config := { maxSteps := 100000000 }) only [Ev.wS, Ev.wE.eq_1, Ev.wE.eq_2, Ev.wE.eq_3, Ev.wE.eq_4, Ev.wE.eq_6, Ev.wE.eq_7, Ev.wE.eq_8, Ev.wE.eq_9, Ev.wE.eq_10, Ev.wE.eq_11, Ev.wE.eq_12, Ev.wE.eq_13, Ev.wE.eq_14, Ev.wE.eq_15, Ev.wE.eq_16, Ev.wE.eq_17, Ev.wE.eq_18, Ev.wE.eq_19, Ev.wE.eq_20, Ev.wE.eq_21, Ev.wE.eq_22, Ev.wE.eq_23, Ev.wE.eq_24, Ev.wE.eq_25, Ev.wE.eq_26, Ev.wE.eq_27, Ev.wE_var, Ev.optK_some, Ev.selR_val, Ev.selR_own, Ev.rdS_val, Ev.rdS_own, Ev.fzS_val, Ev.fzS_own, Ev.argS_val, Ev.argS_own, Ev.wT, Ev.wAs, Ev.wEs, Ev.wI, Ev.wO, Ev.wG_nam, Ev.wG_tup, Ev.wGs_nil, Ev.wGs_cons, Ev.Tg.n, Ev.wipeE, Ev.restE, List.getD_cons_zero, List.getD_cons_succ, Ev.same2, Ev.items, Ev.rdK_val, Ev.rdK_tmp, Ev.rdK_at, Ev.rdsK, Ev.fzK_val, Ev.fzK_tmp, Ev.fzK_at, Ev.stW_val, Ev.stW_tmp, Ev.stW_bor, Ev.nbW_val, Ev.nbW_tmp, Ev.nbW_bor, Ev.binW_add, Ev.binW_sub, Ev.binW_mul, Ev.binW_div, Ev.binW_mod, Ev.binW_pow, Ev.binW_lst, Ev.binW_tup, Ev.binW_str, Ev.binW_rep, Ev.cmpW_lt, Ev.cmpW_le, Ev.cmpW_gt, Ev.cmpW_ge, Ev.cmpW_eq, Ev.cmpW_ne, Ev.cmpW_is, Ev.cmpW_isN, Ev.cmpW_inT, Ev.cmpW_inL, Ev.cmpW_niT, Ev.cmpW_niL, Ev.ixW_tup, Ev.ixW_lst, Ev.bltW_abs, Ev.bltW_int, Ev.bltW_gcd, Ev.bltW_lenT, Ev.bltW_lenL, Ev.bltW_scr, Ev.bltW_listL, Ev.bltW_listT, Ev.bltW_tupL, Ev.bltW_tupT, List.replicate, List.append_nil, List.cons_append, List.nil_append, List.getElem?_cons_zero, List.getElem?_cons_succ, List.length_cons, List.length_nil, List.set_cons_zero, List.set_cons_succ, Ev.argsOf, Ev.argOf_val, Ev.argOf_at, Ev.bors, Ev.backs_val, Ev.backs_bor, Ev.backs_nil, Ev.loses, Ev.retW_val, Ev.retW_tmp, Ev.parOf, Ev.outsOf, List.replicate_zero, Nat.sub_self, Ev.isOwnL, List.getElem?_nil, reduceCtorEq, decide_eq_true_eq, Ev.cmpOk_int, Ev.cmpOk_bl, Ev.cmpOk_non, Ev.cmpOk_nil, Ev.cmpOk_nilT, Ev.peq_int, Ev.peq_bl, Ev.peq_str, Ev.peq_non, Ev.peq_nil, Ev.peq_nilT, Ev.peq_consL, Ev.isT_non_int, Ev.isT_non_bool, Ev.isT_non_str, Ev.isT_non_tuple, Ev.isT_non_list, Ev.tyOk_non, Ev.isT_bl_int, Ev.isT_bl_bool, Ev.isT_bl_str, Ev.isT_bl_tuple, Ev.isT_bl_list, Ev.tyOk_bl, Ev.isT_int_int, Ev.isT_int_bool, Ev.isT_int_str, Ev.isT_int_tuple, Ev.isT_int_list, Ev.tyOk_int, Ev.isT_str_int, Ev.isT_str_bool, Ev.isT_str_str, Ev.isT_str_tuple, Ev.isT_str_list, Ev.tyOk_str, Ev.isT_tup_int, Ev.isT_tup_bool, Ev.isT_tup_str, Ev.isT_tup_tuple, Ev.isT_tup_list, Ev.tyOk_tup, Ev.isT_lst_int, Ev.isT_lst_bool, Ev.isT_lst_str, Ev.isT_lst_tuple, Ev.isT_lst_list, Ev.tyOk_lst, List.not_mem_nil, not_false_eq_true, List.nodup_cons, Bool.false_eq_true, ↓reduceIte, List.nodup_nil, true_and, and_true])
  refine ⟨a, b, c, d, rfl, hab, hcd, ?_⟩
  (simp (config := { maxSteps := 100000000 }) only [Ev.wS, Ev.wE.eq_1, Ev.wE.eq_2, Ev.wE.eq_3, Ev.wE.eq_4, Ev.wE.eq_6, Ev.wE.eq_7, Ev.wE.eq_8, Ev.wE.eq_9, Ev.wE.eq_10, Ev.wE.eq_11, Ev.wE.eq_12, Ev.wE.eq_13, Ev.wE.eq_14, Ev.wE.eq_15, Ev.wE.eq_16, Ev.wE.eq_17, Ev.wE.eq_18, Ev.wE.eq_19, Ev.wE.eq_20, Ev.wE.eq_21, Ev.wE.eq_22, Ev.wE.eq_23, Ev.wE.eq_24, Ev.wE.eq_25, Ev.wE.eq_26, Ev.wE.eq_27, Ev.wE_var, Ev.optK_some, Ev.selR_val, Ev.selR_own, Ev.rdS_val, Ev.rdS_own, Ev.fzS_val, Ev.fzS_own, Ev.argS_val, Ev.argS_own, Ev.wT, Ev.wAs, Ev.wEs, Ev.wI, Ev.wO, Ev.wG_nam, Ev.wG_tup, Ev.wGs_nil, Ev.wGs_cons, Ev.Tg.n, Ev.wipeE, Ev.restE, List.getD_cons_zero, List.getD_cons_succ, Ev.same2, Ev.items, Ev.rdK_val, Ev.rdK_tmp, Ev.rdK_at, Ev.rdsK, Ev.fzK_val, Ev.fzK_tmp, Ev.fzK_at, Ev.stW_val, Ev.stW_tmp, Ev.stW_bor, Ev.nbW_val, Ev.nbW_tmp, Ev.nbW_bor, Ev.binW_add, Ev.binW_sub, Ev.binW_mul, Ev.binW_div, Ev.binW_mod, Ev.binW_pow, Ev.binW_lst, Ev.binW_tup, Ev.binW_str, Ev.binW_rep, Ev.cmpW_lt, Ev.cmpW_le, Ev.cmpW_gt, Ev.cmpW_ge, Ev.cmpW_eq, Ev.cmpW_ne, Ev.cmpW_is, Ev.cmpW_isN, Ev.cmpW_inT, Ev.cmpW_inL, Ev.cmpW_niT, Ev.cmpW_niL, Ev.ixW_tup, Ev.ixW_lst, Ev.bltW_abs, Ev.bltW_int, Ev.bltW_gcd, Ev.bltW_lenT, Ev.bltW_lenL, Ev.bltW_scr, Ev.bltW_listL, Ev.bltW_listT, Ev.bltW_tupL, Ev.bltW_tupT, List.replicate, List.append_nil, List.cons_append, List.nil_append, List.getElem?_cons_zero, List.getElem?_cons_succ, List.length_cons, List.length_nil, List.set_cons_zero, List.set_cons_succ, Ev.argsOf, Ev.argOf_val, Ev.argOf_at, Ev.bors, Ev.backs_val, Ev.backs_bor, Ev.backs_nil, Ev.loses, Ev.retW_val, Ev.retW_tmp, Ev.parOf, Ev.outsOf, List.replicate_zero, Nat.sub_self, Ev.isOwnL, List.getElem?_nil, reduceCtorEq, decide_eq_true_eq, Ev.cmpOk_int, Ev.cmpOk_bl, Ev.cmpOk_non, Ev.cmpOk_nil, Ev.cmpOk_nilT, Ev.peq_int, Ev.peq_bl, Ev.peq_str, Ev.peq_non, Ev.peq_nil, Ev.peq_nilT, Ev.peq_consL, Ev.isT_non_int, Ev.isT_non_bool, Ev.isT_non_str, Ev.isT_non_tuple, Ev.isT_non_list, Ev.tyOk_non, Ev.isT_bl_int, Ev.isT_bl_bool, Ev.isT_bl_str, Ev.isT_bl_tuple, Ev.isT_bl_list, Ev.tyOk_bl, Ev.isT_int_int, Ev.isT_int_bool, Ev.isT_int_str, Ev.isT_int_tuple, Ev.isT_int_list, Ev.tyOk_int, Ev.isT_str_int, Ev.isT_str_bool, Ev.isT_str_str, Ev.isT_str_tuple, Ev.isT_str_list, Ev.tyOk_str, Ev.isT_tup_int, Ev.isT_tup_bool, Ev.isT_tup_str, Ev.isT_tup_tuple, Ev.isT_tup_list, Ev.tyOk_tup, Ev.isT_lst_int, Ev.isT_lst_bool, Ev.isT_lst_str, Ev.isT_lst_tuple, Ev.isT_lst_list, Ev.tyOk_lst, List.not_mem_nil, not_false_eq_true, List.nodup_cons, Bool.false_eq_true, ↓reduceIte, List.nodup_nil, true_and, and_true])
  exact hk a b c d rfl rfl hx hy
def S_quotient_by : FnS := fun ss Kp Xk => ∃ x y, ss = [.val x, .val y] ∧ quoOk x ∧ quoOk y ∧ (isQuoP x = false → Xk "InvalidQuotient") ∧ (isQuoP x = true → isQuoP y = false → Xk "InvalidQuotient") ∧
  (∀ a b c d, x = .tup [.int a, .int b] → y = .tup [.int c, .int d] → isQuoP x = true → isQuoP y = true → (c = 0 → Xk "NotFound") ∧ (c ≠ 0 → Kp false (plainP (a * d) (b * c)) ss))
theorem ok_quotient_by {Φ : Tbl} (h1 : Φ.fn "need_quotient" = some S_need_quotient) (h2 : Φ.fn "plain" = some S_plain) : ∀ ss Kp Xk, S_quotient_by ss Kp Xk → bodyS Φ 2 2 B_quotient_by ss Kp Xk := by
  rintro ss Kp Xk ⟨x, y, rfl, qx, qy, e1, e2, hk⟩
  refine ⟨rfl, ?_⟩
  unfold B_quotient_by
  (simp (config := { maxSteps := 100000000 }) only [Ev.wS, Ev.wE.eq_1, Ev.wE.eq_2, Ev.wE.eq_3, Ev.wE.eq_4, Ev.wE.eq_6, Ev.wE.eq_7, Ev.wE.eq_8, Ev.wE.eq_9, Ev.wE.eq_10, Ev.wE.eq_11, Ev.wE.eq_12, Ev.wE.eq_13, Ev.wE.eq_14, Ev.wE.eq_15, Ev.wE.eq_16, Ev.wE.eq_17, Ev.wE.eq_18, Ev.wE.eq_19, Ev.wE.eq_20, Ev.wE.eq_21, Ev.wE.eq_22, Ev.wE.eq_23, Ev.wE.eq_24, Ev.wE.eq_25, Ev.wE.eq_26, Ev.wE.eq_27, Ev.wE_var, Ev.optK_some, Ev.selR_val, Ev.selR_own, Ev.rdS_val, Ev.rdS_own, Ev.fzS_val, Ev.fzS_own, Ev.argS_val, Ev.argS_own, Ev.wT, Ev.wAs, Ev.wEs, Ev.wI, Ev.wO, Ev.wG_nam, Ev.wG_tup, Ev.wGs_nil, Ev.wGs_cons, Ev.Tg.n, Ev.wipeE, Ev.restE, List.getD_cons_zero, List.getD_cons_succ, Ev.same2, Ev.items, Ev.rdK_val, Ev.rdK_tmp, Ev.rdK_at, Ev.rdsK, Ev.fzK_val, Ev.fzK_tmp, Ev.fzK_at, Ev.stW_val, Ev.stW_tmp, Ev.stW_bor, Ev.nbW_val, Ev.nbW_tmp, Ev.nbW_bor, Ev.binW_add, Ev.binW_sub, Ev.binW_mul, Ev.binW_div, Ev.binW_mod, Ev.binW_pow, Ev.binW_lst, Ev.binW_tup, Ev.binW_str, Ev.binW_rep, Ev.cmpW_lt, Ev.cmpW_le, Ev.cmpW_gt, Ev.cmpW_ge, Ev.cmpW_eq, Ev.cmpW_ne, Ev.cmpW_is, Ev.cmpW_isN, Ev.cmpW_inT, Ev.cmpW_inL, Ev.cmpW_niT, Ev.cmpW_niL, Ev.ixW_tup, Ev.ixW_lst, Ev.bltW_abs, Ev.bltW_int, Ev.bltW_gcd, Ev.bltW_lenT, Ev.bltW_lenL, Ev.bltW_scr, Ev.bltW_listL, Ev.bltW_listT, Ev.bltW_tupL, Ev.bltW_tupT, List.replicate, List.append_nil, List.cons_append, List.nil_append, List.getElem?_cons_zero, List.getElem?_cons_succ, List.length_cons, List.length_nil, List.set_cons_zero, List.set_cons_succ, Ev.argsOf, Ev.argOf_val, Ev.argOf_at, Ev.bors, Ev.backs_val, Ev.backs_bor, Ev.backs_nil, Ev.loses, Ev.retW_val, Ev.retW_tmp, Ev.parOf, Ev.outsOf, List.replicate_zero, Nat.sub_self, Ev.isOwnL, List.getElem?_nil, reduceCtorEq, decide_eq_true_eq, Ev.cmpOk_int, Ev.cmpOk_bl, Ev.cmpOk_non, Ev.cmpOk_nil, Ev.cmpOk_nilT, Ev.peq_int, Ev.peq_bl, Ev.peq_str, Ev.peq_non, Ev.peq_nil, Ev.peq_nilT, Ev.peq_consL, Ev.isT_non_int, Ev.isT_non_bool, Ev.isT_non_str, Ev.isT_non_tuple, Ev.isT_non_list, Ev.tyOk_non, Ev.isT_bl_int, Ev.isT_bl_bool, Ev.isT_bl_str, Ev.isT_bl_tuple, Ev.isT_bl_list, Ev.tyOk_bl, Ev.isT_int_int, Ev.isT_int_bool, Ev.isT_int_str, Ev.isT_int_tuple, Ev.isT_int_list, Ev.tyOk_int, Ev.isT_str_int, Ev.isT_str_bool, Ev.isT_str_str, Ev.isT_str_tuple, Ev.isT_str_list, Ev.tyOk_str, Ev.isT_tup_int, Ev.isT_tup_bool, Ev.isT_tup_str, Ev.isT_tup_tuple, Ev.isT_tup_list, Ev.tyOk_tup, Ev.isT_lst_int, Ev.isT_lst_bool, Ev.isT_lst_str, Ev.isT_lst_tuple, Ev.isT_lst_list, Ev.tyOk_lst, List.not_mem_nil, not_false_eq_true, List.nodup_cons, Bool.false_eq_true, ↓reduceIte, List.nodup_nil, true_and, and_true])
  simp only [h1, h2]
  refine ⟨x, rfl, qx, fun hx => ?_, e1⟩
  (simp (config := { maxSteps := 100000000 }) only [Ev.wS, Ev.wE.eq_1, Ev.wE.eq_2, Ev.wE.eq_3, Ev.wE.eq_4, Ev.wE.eq_6, Ev.wE.eq_7, Ev.wE.eq_8, Ev.wE.eq_9, Ev.wE.eq_10, Ev.wE.eq_11, Ev.wE.eq_12, Ev.wE.eq_13, Ev.wE.eq_14, Ev.wE.eq_15, Ev.wE.eq_16, Ev.wE.eq_17, Ev.wE.eq_18, Ev.wE.eq_19, Ev.wE.eq_20, Ev.wE.eq_21, Ev.wE.eq_22, Ev.wE.eq_23, Ev.wE.eq_24, Ev.wE.eq_25, Ev.wE.eq_26, Ev.wE.eq_27, Ev.wE_var, Ev.optK_some, Ev.selR_val, Ev.selR_own, Ev.rdS_val, Ev.rdS_own, Ev.fzS_val, Ev.fzS_own, Ev.argS_val, Ev.argS_own, Ev.wT, Ev.wAs, Ev.wEs, Ev.wI, Ev.wO, Ev.wG_nam, Ev.wG_tup, Ev.wGs_nil, Ev.wGs_cons, Ev.Tg.n, Ev.wipeE, Ev.restE, List.getD_cons_zero, List.getD_cons_succ, Ev.same2, Ev.items, Ev.rdK_val, Ev.rdK_tmp, Ev.rdK_at, Ev.rdsK, Ev.fzK_val, Ev.fzK_tmp, Ev.fzK_at, Ev.stW_val, Ev.stW_tmp, Ev.stW_bor, Ev.nbW_val, Ev.nbW_tmp, Ev.nbW_bor, Ev.binW_add, Ev.binW_sub, Ev.binW_mul, Ev.binW_div, Ev.binW_mod, Ev.binW_pow, Ev.binW_lst, Ev.binW_tup, Ev.binW_str, Ev.binW_rep, Ev.cmpW_lt, Ev.cmpW_le, Ev.cmpW_gt, Ev.cmpW_ge, Ev.cmpW_eq, Ev.cmpW_ne, Ev.cmpW_is, Ev.cmpW_isN, Ev.cmpW_inT, Ev.cmpW_inL, Ev.cmpW_niT, Ev.cmpW_niL, Ev.ixW_tup, Ev.ixW_lst, Ev.bltW_abs, Ev.bltW_int, Ev.bltW_gcd, Ev.bltW_lenT, Ev.bltW_lenL, Ev.bltW_scr, Ev.bltW_listL, Ev.bltW_listT, Ev.bltW_tupL, Ev.bltW_tupT, List.replicate, List.append_nil, List.cons_append, List.nil_append, List.getElem?_cons_zero, List.getElem?_cons_succ, List.length_cons, List.length_nil, List.set_cons_zero, List.set_cons_succ, Ev.argsOf, Ev.argOf_val, Ev.argOf_at, Ev.bors, Ev.backs_val, Ev.backs_bor, Ev.backs_nil, Ev.loses, Ev.retW_val, Ev.retW_tmp, Ev.parOf, Ev.outsOf, List.replicate_zero, Nat.sub_self, Ev.isOwnL, List.getElem?_nil, reduceCtorEq, decide_eq_true_eq, Ev.cmpOk_int, Ev.cmpOk_bl, Ev.cmpOk_non, Ev.cmpOk_nil, Ev.cmpOk_nilT, Ev.peq_int, Ev.peq_bl, Ev.peq_str, Ev.peq_non, Ev.peq_nil, Ev.peq_nilT, Ev.peq_consL, Ev.isT_non_int, Ev.isT_non_bool, Ev.isT_non_str, Ev.isT_non_tuple, Ev.isT_non_list, Ev.tyOk_non, Ev.isT_bl_int, Ev.isT_bl_bool, Ev.isT_bl_str, Ev.isT_bl_tuple, Ev.isT_bl_list, Ev.tyOk_bl, Ev.isT_int_int, Ev.isT_int_bool, Ev.isT_int_str, Ev.isT_int_tuple, Ev.isT_int_list, Ev.tyOk_int, Ev.isT_str_int, Ev.isT_str_bool, Ev.isT_str_str, Ev.isT_str_tuple, Ev.isT_str_list, Ev.tyOk_str, Ev.isT_tup_int, Ev.isT_tup_bool, Ev.isT_tup_str, Ev.isT_tup_tuple, Ev.isT_tup_list, Ev.tyOk_tup, Ev.isT_lst_int, Ev.isT_lst_bool, Ev.isT_lst_str, Ev.isT_lst_tuple, Ev.isT_lst_list, Ev.tyOk_lst, List.not_mem_nil, not_false_eq_true, List.nodup_cons, Bool.false_eq_true, ↓reduceIte, List.nodup_nil, true_and, and_true])
  refine ⟨y, rfl, qy, fun hy => ?_, e2 hx⟩
  obtain ⟨a, b, rfl, hab⟩ := quo_is hx
  obtain ⟨c, d, rfl, hcd⟩ := quo_is hy
  obtain ⟨k1, k2⟩ := hk a b c d rfl rfl hx hy
  obtain ⟨ha, hb⟩ := canon_abs hab
  obtain ⟨hc, hd⟩ := canon_abs hcd
  (simp (config := { maxSteps := 100000000 }) only [Ev.wS, Ev.wE.eq_1, Ev.wE.eq_2, Ev.wE.eq_3, Ev.wE.eq_4, Ev.wE.eq_6, Ev.wE.eq_7, Ev.wE.eq_8, Ev.wE.eq_9, Ev.wE.eq_10, Ev.wE.eq_11, Ev.wE.eq_12, Ev.wE.eq_13, Ev.wE.eq_14, Ev.wE.eq_15, Ev.wE.eq_16, Ev.wE.eq_17, Ev.wE.eq_18, Ev.wE.eq_19, Ev.wE.eq_20, Ev.wE.eq_21, Ev.wE.eq_22, Ev.wE.eq_23, Ev.wE.eq_24, Ev.wE.eq_25, Ev.wE.eq_26, Ev.wE.eq_27, Ev.wE_var, Ev.optK_some, Ev.selR_val, Ev.selR_own, Ev.rdS_val, Ev.rdS_own, Ev.fzS_val, Ev.fzS_own, Ev.argS_val, Ev.argS_own, Ev.wT, Ev.wAs, Ev.wEs, Ev.wI, Ev.wO, Ev.wG_nam, Ev.wG_tup, Ev.wGs_nil, Ev.wGs_cons, Ev.Tg.n, Ev.wipeE, Ev.restE, List.getD_cons_zero, List.getD_cons_succ, Ev.same2, Ev.items, Ev.rdK_val, Ev.rdK_tmp, Ev.rdK_at, Ev.rdsK, Ev.fzK_val, Ev.fzK_tmp, Ev.fzK_at, Ev.stW_val, Ev.stW_tmp, Ev.stW_bor, Ev.nbW_val, Ev.nbW_tmp, Ev.nbW_bor, Ev.binW_add, Ev.binW_sub, Ev.binW_mul, Ev.binW_div, Ev.binW_mod, Ev.binW_pow, Ev.binW_lst, Ev.binW_tup, Ev.binW_str, Ev.binW_rep, Ev.cmpW_lt, Ev.cmpW_le, Ev.cmpW_gt, Ev.cmpW_ge, Ev.cmpW_eq, Ev.cmpW_ne, Ev.cmpW_is, Ev.cmpW_isN, Ev.cmpW_inT, Ev.cmpW_inL, Ev.cmpW_niT, Ev.cmpW_niL, Ev.ixW_tup, Ev.ixW_lst, Ev.bltW_abs, Ev.bltW_int, Ev.bltW_gcd, Ev.bltW_lenT, Ev.bltW_lenL, Ev.bltW_scr, Ev.bltW_listL, Ev.bltW_listT, Ev.bltW_tupL, Ev.bltW_tupT, List.replicate, List.append_nil, List.cons_append, List.nil_append, List.getElem?_cons_zero, List.getElem?_cons_succ, List.length_cons, List.length_nil, List.set_cons_zero, List.set_cons_succ, Ev.argsOf, Ev.argOf_val, Ev.argOf_at, Ev.bors, Ev.backs_val, Ev.backs_bor, Ev.backs_nil, Ev.loses, Ev.retW_val, Ev.retW_tmp, Ev.parOf, Ev.outsOf, List.replicate_zero, Nat.sub_self, Ev.isOwnL, List.getElem?_nil, reduceCtorEq, decide_eq_true_eq, Ev.cmpOk_int, Ev.cmpOk_bl, Ev.cmpOk_non, Ev.cmpOk_nil, Ev.cmpOk_nilT, Ev.peq_int, Ev.peq_bl, Ev.peq_str, Ev.peq_non, Ev.peq_nil, Ev.peq_nilT, Ev.peq_consL, Ev.isT_non_int, Ev.isT_non_bool, Ev.isT_non_str, Ev.isT_non_tuple, Ev.isT_non_list, Ev.tyOk_non, Ev.isT_bl_int, Ev.isT_bl_bool, Ev.isT_bl_str, Ev.isT_bl_tuple, Ev.isT_bl_list, Ev.tyOk_bl, Ev.isT_int_int, Ev.isT_int_bool, Ev.isT_int_str, Ev.isT_int_tuple, Ev.isT_int_list, Ev.tyOk_int, Ev.isT_str_int, Ev.isT_str_bool, Ev.isT_str_str, Ev.isT_str_tuple, Ev.isT_str_list, Ev.tyOk_str, Ev.isT_tup_int, Ev.isT_tup_bool, Ev.isT_tup_str, Ev.isT_tup_tuple, Ev.isT_tup_list, Ev.tyOk_tup, Ev.isT_lst_int, Ev.isT_lst_bool, Ev.isT_lst_str, Ev.isT_lst_tuple, Ev.isT_lst_list, Ev.tyOk_lst, List.not_mem_nil, not_false_eq_true, List.nodup_cons, Bool.false_eq_true, ↓reduceIte, List.nodup_nil, true_and, and_true])
  simp only [atI0, atI1, ex_some]
  (simp (config := { maxSteps := 100000000 }) only [Ev.wS, Ev.wE.eq_1, Ev.wE.eq_2, Ev.wE.eq_3, Ev.wE.eq_4, Ev.wE.eq_6, Ev.wE.eq_7, Ev.wE.eq_8, Ev.wE.eq_9, Ev.wE.eq_10, Ev.wE.eq_11, Ev.wE.eq_12, Ev.wE.eq_13, Ev.wE.eq_14, Ev.wE.eq_15, Ev.wE.eq_16, Ev.wE.eq_17, Ev.wE.eq_18, Ev.wE.eq_19, Ev.wE.eq_20, Ev.wE.eq_21, Ev.wE.eq_22, Ev.wE.eq_23, Ev.wE.eq_24, Ev.wE.eq_25, Ev.wE.eq_26, Ev.wE.eq_27, Ev.wE_var, Ev.optK_some, Ev.selR_val, Ev.selR_own, Ev.rdS_val, Ev.rdS_own, Ev.fzS_val, Ev.fzS_own, Ev.argS_val, Ev.argS_own, Ev.wT, Ev.wAs, Ev.wEs, Ev.wI, Ev.wO, Ev.wG_nam, Ev.wG_tup, Ev.wGs_nil, Ev.wGs_cons, Ev.Tg.n, Ev.wipeE, Ev.restE, List.getD_cons_zero, List.getD_cons_succ, Ev.same2, Ev.items, Ev.rdK_val, Ev.rdK_tmp, Ev.rdK_at, Ev.rdsK, Ev.fzK_val, Ev.fzK_tmp, Ev.fzK_at, Ev.stW_val, Ev.stW_tmp, Ev.stW_bor, Ev.nbW_val, Ev.nbW_tmp, Ev.nbW_bor, Ev.binW_add, Ev.binW_sub, Ev.binW_mul, Ev.binW_div, Ev.binW_mod, Ev.binW_pow, Ev.binW_lst, Ev.binW_tup, Ev.binW_str, Ev.binW_rep, Ev.cmpW_lt, Ev.cmpW_le, Ev.cmpW_gt, Ev.cmpW_ge, Ev.cmpW_eq, Ev.cmpW_ne, Ev.cmpW_is, Ev.cmpW_isN, Ev.cmpW_inT, Ev.cmpW_inL, Ev.cmpW_niT, Ev.cmpW_niL, Ev.ixW_tup, Ev.ixW_lst, Ev.bltW_abs, Ev.bltW_int, Ev.bltW_gcd, Ev.bltW_lenT, Ev.bltW_lenL, Ev.bltW_scr, Ev.bltW_listL, Ev.bltW_listT, Ev.bltW_tupL, Ev.bltW_tupT, List.replicate, List.append_nil, List.cons_append, List.nil_append, List.getElem?_cons_zero, List.getElem?_cons_succ, List.length_cons, List.length_nil, List.set_cons_zero, List.set_cons_succ, Ev.argsOf, Ev.argOf_val, Ev.argOf_at, Ev.bors, Ev.backs_val, Ev.backs_bor, Ev.backs_nil, Ev.loses, Ev.retW_val, Ev.retW_tmp, Ev.parOf, Ev.outsOf, List.replicate_zero, Nat.sub_self, Ev.isOwnL, List.getElem?_nil, reduceCtorEq, decide_eq_true_eq, Ev.cmpOk_int, Ev.cmpOk_bl, Ev.cmpOk_non, Ev.cmpOk_nil, Ev.cmpOk_nilT, Ev.peq_int, Ev.peq_bl, Ev.peq_str, Ev.peq_non, Ev.peq_nil, Ev.peq_nilT, Ev.peq_consL, Ev.isT_non_int, Ev.isT_non_bool, Ev.isT_non_str, Ev.isT_non_tuple, Ev.isT_non_list, Ev.tyOk_non, Ev.isT_bl_int, Ev.isT_bl_bool, Ev.isT_bl_str, Ev.isT_bl_tuple, Ev.isT_bl_list, Ev.tyOk_bl, Ev.isT_int_int, Ev.isT_int_bool, Ev.isT_int_str, Ev.isT_int_tuple, Ev.isT_int_list, Ev.tyOk_int, Ev.isT_str_int, Ev.isT_str_bool, Ev.isT_str_str, Ev.isT_str_tuple, Ev.isT_str_list, Ev.tyOk_str, Ev.isT_tup_int, Ev.isT_tup_bool, Ev.isT_tup_str, Ev.isT_tup_tuple, Ev.isT_tup_list, Ev.tyOk_tup, Ev.isT_lst_int, Ev.isT_lst_bool, Ev.isT_lst_str, Ev.isT_lst_tuple, Ev.isT_lst_list, Ev.tyOk_lst, List.not_mem_nil, not_false_eq_true, List.nodup_cons, Bool.false_eq_true, ↓reduceIte, List.nodup_nil, true_and, and_true])
  by_cases h0 : c = 0
  · rw [if_pos h0]
    exact k1 h0
  · rw [if_neg h0]
    refine ⟨mul_ok (wide ha) (wide hd), mul_ok (wide hb) (wide hc), _, _, rfl, Int.mul_ne_zero (by have := hab.2.1; omega) h0, log_of (prod_lt hb hc), ?_⟩
    (simp (config := { maxSteps := 100000000 }) only [Ev.wS, Ev.wE.eq_1, Ev.wE.eq_2, Ev.wE.eq_3, Ev.wE.eq_4, Ev.wE.eq_6, Ev.wE.eq_7, Ev.wE.eq_8, Ev.wE.eq_9, Ev.wE.eq_10, Ev.wE.eq_11, Ev.wE.eq_12, Ev.wE.eq_13, Ev.wE.eq_14, Ev.wE.eq_15, Ev.wE.eq_16, Ev.wE.eq_17, Ev.wE.eq_18, Ev.wE.eq_19, Ev.wE.eq_20, Ev.wE.eq_21, Ev.wE.eq_22, Ev.wE.eq_23, Ev.wE.eq_24, Ev.wE.eq_25, Ev.wE.eq_26, Ev.wE.eq_27, Ev.wE_var, Ev.optK_some, Ev.selR_val, Ev.selR_own, Ev.rdS_val, Ev.rdS_own, Ev.fzS_val, Ev.fzS_own, Ev.argS_val, Ev.argS_own, Ev.wT, Ev.wAs, Ev.wEs, Ev.wI, Ev.wO, Ev.wG_nam, Ev.wG_tup, Ev.wGs_nil, Ev.wGs_cons, Ev.Tg.n, Ev.wipeE, Ev.restE, List.getD_cons_zero, List.getD_cons_succ, Ev.same2, Ev.items, Ev.rdK_val, Ev.rdK_tmp, Ev.rdK_at, Ev.rdsK, Ev.fzK_val, Ev.fzK_tmp, Ev.fzK_at, Ev.stW_val, Ev.stW_tmp, Ev.stW_bor, Ev.nbW_val, Ev.nbW_tmp, Ev.nbW_bor, Ev.binW_add, Ev.binW_sub, Ev.binW_mul, Ev.binW_div, Ev.binW_mod, Ev.binW_pow, Ev.binW_lst, Ev.binW_tup, Ev.binW_str, Ev.binW_rep, Ev.cmpW_lt, Ev.cmpW_le, Ev.cmpW_gt, Ev.cmpW_ge, Ev.cmpW_eq, Ev.cmpW_ne, Ev.cmpW_is, Ev.cmpW_isN, Ev.cmpW_inT, Ev.cmpW_inL, Ev.cmpW_niT, Ev.cmpW_niL, Ev.ixW_tup, Ev.ixW_lst, Ev.bltW_abs, Ev.bltW_int, Ev.bltW_gcd, Ev.bltW_lenT, Ev.bltW_lenL, Ev.bltW_scr, Ev.bltW_listL, Ev.bltW_listT, Ev.bltW_tupL, Ev.bltW_tupT, List.replicate, List.append_nil, List.cons_append, List.nil_append, List.getElem?_cons_zero, List.getElem?_cons_succ, List.length_cons, List.length_nil, List.set_cons_zero, List.set_cons_succ, Ev.argsOf, Ev.argOf_val, Ev.argOf_at, Ev.bors, Ev.backs_val, Ev.backs_bor, Ev.backs_nil, Ev.loses, Ev.retW_val, Ev.retW_tmp, Ev.parOf, Ev.outsOf, List.replicate_zero, Nat.sub_self, Ev.isOwnL, List.getElem?_nil, reduceCtorEq, decide_eq_true_eq, Ev.cmpOk_int, Ev.cmpOk_bl, Ev.cmpOk_non, Ev.cmpOk_nil, Ev.cmpOk_nilT, Ev.peq_int, Ev.peq_bl, Ev.peq_str, Ev.peq_non, Ev.peq_nil, Ev.peq_nilT, Ev.peq_consL, Ev.isT_non_int, Ev.isT_non_bool, Ev.isT_non_str, Ev.isT_non_tuple, Ev.isT_non_list, Ev.tyOk_non, Ev.isT_bl_int, Ev.isT_bl_bool, Ev.isT_bl_str, Ev.isT_bl_tuple, Ev.isT_bl_list, Ev.tyOk_bl, Ev.isT_int_int, Ev.isT_int_bool, Ev.isT_int_str, Ev.isT_int_tuple, Ev.isT_int_list, Ev.tyOk_int, Ev.isT_str_int, Ev.isT_str_bool, Ev.isT_str_str, Ev.isT_str_tuple, Ev.isT_str_list, Ev.tyOk_str, Ev.isT_tup_int, Ev.isT_tup_bool, Ev.isT_tup_str, Ev.isT_tup_tuple, Ev.isT_tup_list, Ev.tyOk_tup, Ev.isT_lst_int, Ev.isT_lst_bool, Ev.isT_lst_str, Ev.isT_lst_tuple, Ev.isT_lst_list, Ev.tyOk_lst, List.not_mem_nil, not_false_eq_true, List.nodup_cons, Bool.false_eq_true, ↓reduceIte, List.nodup_nil, true_and, and_true])
    exact k2 h0
theorem whole_is {x : PV} {lo hi : Int} (h : isWholeP x lo hi = true) : ∃ i, x = .int i ∧ lo ≤ i ∧ i ≤ hi := by
  cases x with
  | int i =>
    simp only [isWholeP, Bool.and_eq_true, decide_eq_true_eq] at h
    exact ⟨i, rfl, h⟩
  | _ => simp [isWholeP] at h
def S_quotient : FnS := fun ss Kp Xk => ∃ x y, ss = [.val x, .val y] ∧ tyOk x = true ∧ tyOk y = true ∧ (isWholeP x (-GR) GR = false → Xk "InvalidNumber") ∧ (isWholeP x (-GR) GR = true → isWholeP y (-GR) GR = false → Xk "InvalidNumber") ∧
  (∀ t b, x = .int t → y = .int b → isWholeP x (-GR) GR = true → isWholeP y (-GR) GR = true → (b = 0 → Xk "InvalidNumber") ∧ (b ≠ 0 → Kp false (plainP t b) ss))
theorem ok_quotient {Φ : Tbl} (h1 : Φ.fn "need_whole" = some S_need_whole) (h2 : Φ.fn "plain" = some S_plain) (hc : Φ.con "GREAT" = some (.int GR)) : ∀ ss Kp Xk, S_quotient ss Kp Xk → bodyS Φ 2 2 B_quotient ss Kp Xk := by
  rintro ss Kp Xk ⟨x, y, rfl, tx, ty, e1, e2, hk⟩
  refine ⟨rfl, ?_⟩
  unfold B_quotient
  (simp (config := { maxSteps := 100000000 }) only [Ev.wS, Ev.wE.eq_1, Ev.wE.eq_2, Ev.wE.eq_3, Ev.wE.eq_4, Ev.wE.eq_6, Ev.wE.eq_7, Ev.wE.eq_8, Ev.wE.eq_9, Ev.wE.eq_10, Ev.wE.eq_11, Ev.wE.eq_12, Ev.wE.eq_13, Ev.wE.eq_14, Ev.wE.eq_15, Ev.wE.eq_16, Ev.wE.eq_17, Ev.wE.eq_18, Ev.wE.eq_19, Ev.wE.eq_20, Ev.wE.eq_21, Ev.wE.eq_22, Ev.wE.eq_23, Ev.wE.eq_24, Ev.wE.eq_25, Ev.wE.eq_26, Ev.wE.eq_27, Ev.wE_var, Ev.optK_some, Ev.selR_val, Ev.selR_own, Ev.rdS_val, Ev.rdS_own, Ev.fzS_val, Ev.fzS_own, Ev.argS_val, Ev.argS_own, Ev.wT, Ev.wAs, Ev.wEs, Ev.wI, Ev.wO, Ev.wG_nam, Ev.wG_tup, Ev.wGs_nil, Ev.wGs_cons, Ev.Tg.n, Ev.wipeE, Ev.restE, List.getD_cons_zero, List.getD_cons_succ, Ev.same2, Ev.items, Ev.rdK_val, Ev.rdK_tmp, Ev.rdK_at, Ev.rdsK, Ev.fzK_val, Ev.fzK_tmp, Ev.fzK_at, Ev.stW_val, Ev.stW_tmp, Ev.stW_bor, Ev.nbW_val, Ev.nbW_tmp, Ev.nbW_bor, Ev.binW_add, Ev.binW_sub, Ev.binW_mul, Ev.binW_div, Ev.binW_mod, Ev.binW_pow, Ev.binW_lst, Ev.binW_tup, Ev.binW_str, Ev.binW_rep, Ev.cmpW_lt, Ev.cmpW_le, Ev.cmpW_gt, Ev.cmpW_ge, Ev.cmpW_eq, Ev.cmpW_ne, Ev.cmpW_is, Ev.cmpW_isN, Ev.cmpW_inT, Ev.cmpW_inL, Ev.cmpW_niT, Ev.cmpW_niL, Ev.ixW_tup, Ev.ixW_lst, Ev.bltW_abs, Ev.bltW_int, Ev.bltW_gcd, Ev.bltW_lenT, Ev.bltW_lenL, Ev.bltW_scr, Ev.bltW_listL, Ev.bltW_listT, Ev.bltW_tupL, Ev.bltW_tupT, List.replicate, List.append_nil, List.cons_append, List.nil_append, List.getElem?_cons_zero, List.getElem?_cons_succ, List.length_cons, List.length_nil, List.set_cons_zero, List.set_cons_succ, Ev.argsOf, Ev.argOf_val, Ev.argOf_at, Ev.bors, Ev.backs_val, Ev.backs_bor, Ev.backs_nil, Ev.loses, Ev.retW_val, Ev.retW_tmp, Ev.parOf, Ev.outsOf, List.replicate_zero, Nat.sub_self, Ev.isOwnL, List.getElem?_nil, reduceCtorEq, decide_eq_true_eq, Ev.cmpOk_int, Ev.cmpOk_bl, Ev.cmpOk_non, Ev.cmpOk_nil, Ev.cmpOk_nilT, Ev.peq_int, Ev.peq_bl, Ev.peq_str, Ev.peq_non, Ev.peq_nil, Ev.peq_nilT, Ev.peq_consL, Ev.isT_non_int, Ev.isT_non_bool, Ev.isT_non_str, Ev.isT_non_tuple, Ev.isT_non_list, Ev.tyOk_non, Ev.isT_bl_int, Ev.isT_bl_bool, Ev.isT_bl_str, Ev.isT_bl_tuple, Ev.isT_bl_list, Ev.tyOk_bl, Ev.isT_int_int, Ev.isT_int_bool, Ev.isT_int_str, Ev.isT_int_tuple, Ev.isT_int_list, Ev.tyOk_int, Ev.isT_str_int, Ev.isT_str_bool, Ev.isT_str_str, Ev.isT_str_tuple, Ev.isT_str_list, Ev.tyOk_str, Ev.isT_tup_int, Ev.isT_tup_bool, Ev.isT_tup_str, Ev.isT_tup_tuple, Ev.isT_tup_list, Ev.tyOk_tup, Ev.isT_lst_int, Ev.isT_lst_bool, Ev.isT_lst_str, Ev.isT_lst_tuple, Ev.isT_lst_list, Ev.tyOk_lst, List.not_mem_nil, not_false_eq_true, List.nodup_cons, Bool.false_eq_true, ↓reduceIte, List.nodup_nil, true_and, and_true])
  simp only [h1, h2, hc]
  refine ⟨x, -GR, GR, rfl, tx, fun hx => ?_, e1⟩
  (simp (config := { maxSteps := 100000000 }) only [Ev.wS, Ev.wE.eq_1, Ev.wE.eq_2, Ev.wE.eq_3, Ev.wE.eq_4, Ev.wE.eq_6, Ev.wE.eq_7, Ev.wE.eq_8, Ev.wE.eq_9, Ev.wE.eq_10, Ev.wE.eq_11, Ev.wE.eq_12, Ev.wE.eq_13, Ev.wE.eq_14, Ev.wE.eq_15, Ev.wE.eq_16, Ev.wE.eq_17, Ev.wE.eq_18, Ev.wE.eq_19, Ev.wE.eq_20, Ev.wE.eq_21, Ev.wE.eq_22, Ev.wE.eq_23, Ev.wE.eq_24, Ev.wE.eq_25, Ev.wE.eq_26, Ev.wE.eq_27, Ev.wE_var, Ev.optK_some, Ev.selR_val, Ev.selR_own, Ev.rdS_val, Ev.rdS_own, Ev.fzS_val, Ev.fzS_own, Ev.argS_val, Ev.argS_own, Ev.wT, Ev.wAs, Ev.wEs, Ev.wI, Ev.wO, Ev.wG_nam, Ev.wG_tup, Ev.wGs_nil, Ev.wGs_cons, Ev.Tg.n, Ev.wipeE, Ev.restE, List.getD_cons_zero, List.getD_cons_succ, Ev.same2, Ev.items, Ev.rdK_val, Ev.rdK_tmp, Ev.rdK_at, Ev.rdsK, Ev.fzK_val, Ev.fzK_tmp, Ev.fzK_at, Ev.stW_val, Ev.stW_tmp, Ev.stW_bor, Ev.nbW_val, Ev.nbW_tmp, Ev.nbW_bor, Ev.binW_add, Ev.binW_sub, Ev.binW_mul, Ev.binW_div, Ev.binW_mod, Ev.binW_pow, Ev.binW_lst, Ev.binW_tup, Ev.binW_str, Ev.binW_rep, Ev.cmpW_lt, Ev.cmpW_le, Ev.cmpW_gt, Ev.cmpW_ge, Ev.cmpW_eq, Ev.cmpW_ne, Ev.cmpW_is, Ev.cmpW_isN, Ev.cmpW_inT, Ev.cmpW_inL, Ev.cmpW_niT, Ev.cmpW_niL, Ev.ixW_tup, Ev.ixW_lst, Ev.bltW_abs, Ev.bltW_int, Ev.bltW_gcd, Ev.bltW_lenT, Ev.bltW_lenL, Ev.bltW_scr, Ev.bltW_listL, Ev.bltW_listT, Ev.bltW_tupL, Ev.bltW_tupT, List.replicate, List.append_nil, List.cons_append, List.nil_append, List.getElem?_cons_zero, List.getElem?_cons_succ, List.length_cons, List.length_nil, List.set_cons_zero, List.set_cons_succ, Ev.argsOf, Ev.argOf_val, Ev.argOf_at, Ev.bors, Ev.backs_val, Ev.backs_bor, Ev.backs_nil, Ev.loses, Ev.retW_val, Ev.retW_tmp, Ev.parOf, Ev.outsOf, List.replicate_zero, Nat.sub_self, Ev.isOwnL, List.getElem?_nil, reduceCtorEq, decide_eq_true_eq, Ev.cmpOk_int, Ev.cmpOk_bl, Ev.cmpOk_non, Ev.cmpOk_nil, Ev.cmpOk_nilT, Ev.peq_int, Ev.peq_bl, Ev.peq_str, Ev.peq_non, Ev.peq_nil, Ev.peq_nilT, Ev.peq_consL, Ev.isT_non_int, Ev.isT_non_bool, Ev.isT_non_str, Ev.isT_non_tuple, Ev.isT_non_list, Ev.tyOk_non, Ev.isT_bl_int, Ev.isT_bl_bool, Ev.isT_bl_str, Ev.isT_bl_tuple, Ev.isT_bl_list, Ev.tyOk_bl, Ev.isT_int_int, Ev.isT_int_bool, Ev.isT_int_str, Ev.isT_int_tuple, Ev.isT_int_list, Ev.tyOk_int, Ev.isT_str_int, Ev.isT_str_bool, Ev.isT_str_str, Ev.isT_str_tuple, Ev.isT_str_list, Ev.tyOk_str, Ev.isT_tup_int, Ev.isT_tup_bool, Ev.isT_tup_str, Ev.isT_tup_tuple, Ev.isT_tup_list, Ev.tyOk_tup, Ev.isT_lst_int, Ev.isT_lst_bool, Ev.isT_lst_str, Ev.isT_lst_tuple, Ev.isT_lst_list, Ev.tyOk_lst, List.not_mem_nil, not_false_eq_true, List.nodup_cons, Bool.false_eq_true, ↓reduceIte, List.nodup_nil, true_and, and_true])
  refine ⟨y, -GR, GR, rfl, ty, fun hy => ?_, e2 hx⟩
  obtain ⟨t, rfl, ht⟩ := whole_is hx
  obtain ⟨b, rfl, hb⟩ := whole_is hy
  obtain ⟨k1, k2⟩ := hk t b rfl rfl hx hy
  (simp (config := { maxSteps := 100000000 }) only [Ev.wS, Ev.wE.eq_1, Ev.wE.eq_2, Ev.wE.eq_3, Ev.wE.eq_4, Ev.wE.eq_6, Ev.wE.eq_7, Ev.wE.eq_8, Ev.wE.eq_9, Ev.wE.eq_10, Ev.wE.eq_11, Ev.wE.eq_12, Ev.wE.eq_13, Ev.wE.eq_14, Ev.wE.eq_15, Ev.wE.eq_16, Ev.wE.eq_17, Ev.wE.eq_18, Ev.wE.eq_19, Ev.wE.eq_20, Ev.wE.eq_21, Ev.wE.eq_22, Ev.wE.eq_23, Ev.wE.eq_24, Ev.wE.eq_25, Ev.wE.eq_26, Ev.wE.eq_27, Ev.wE_var, Ev.optK_some, Ev.selR_val, Ev.selR_own, Ev.rdS_val, Ev.rdS_own, Ev.fzS_val, Ev.fzS_own, Ev.argS_val, Ev.argS_own, Ev.wT, Ev.wAs, Ev.wEs, Ev.wI, Ev.wO, Ev.wG_nam, Ev.wG_tup, Ev.wGs_nil, Ev.wGs_cons, Ev.Tg.n, Ev.wipeE, Ev.restE, List.getD_cons_zero, List.getD_cons_succ, Ev.same2, Ev.items, Ev.rdK_val, Ev.rdK_tmp, Ev.rdK_at, Ev.rdsK, Ev.fzK_val, Ev.fzK_tmp, Ev.fzK_at, Ev.stW_val, Ev.stW_tmp, Ev.stW_bor, Ev.nbW_val, Ev.nbW_tmp, Ev.nbW_bor, Ev.binW_add, Ev.binW_sub, Ev.binW_mul, Ev.binW_div, Ev.binW_mod, Ev.binW_pow, Ev.binW_lst, Ev.binW_tup, Ev.binW_str, Ev.binW_rep, Ev.cmpW_lt, Ev.cmpW_le, Ev.cmpW_gt, Ev.cmpW_ge, Ev.cmpW_eq, Ev.cmpW_ne, Ev.cmpW_is, Ev.cmpW_isN, Ev.cmpW_inT, Ev.cmpW_inL, Ev.cmpW_niT, Ev.cmpW_niL, Ev.ixW_tup, Ev.ixW_lst, Ev.bltW_abs, Ev.bltW_int, Ev.bltW_gcd, Ev.bltW_lenT, Ev.bltW_lenL, Ev.bltW_scr, Ev.bltW_listL, Ev.bltW_listT, Ev.bltW_tupL, Ev.bltW_tupT, List.replicate, List.append_nil, List.cons_append, List.nil_append, List.getElem?_cons_zero, List.getElem?_cons_succ, List.length_cons, List.length_nil, List.set_cons_zero, List.set_cons_succ, Ev.argsOf, Ev.argOf_val, Ev.argOf_at, Ev.bors, Ev.backs_val, Ev.backs_bor, Ev.backs_nil, Ev.loses, Ev.retW_val, Ev.retW_tmp, Ev.parOf, Ev.outsOf, List.replicate_zero, Nat.sub_self, Ev.isOwnL, List.getElem?_nil, reduceCtorEq, decide_eq_true_eq, Ev.cmpOk_int, Ev.cmpOk_bl, Ev.cmpOk_non, Ev.cmpOk_nil, Ev.cmpOk_nilT, Ev.peq_int, Ev.peq_bl, Ev.peq_str, Ev.peq_non, Ev.peq_nil, Ev.peq_nilT, Ev.peq_consL, Ev.isT_non_int, Ev.isT_non_bool, Ev.isT_non_str, Ev.isT_non_tuple, Ev.isT_non_list, Ev.tyOk_non, Ev.isT_bl_int, Ev.isT_bl_bool, Ev.isT_bl_str, Ev.isT_bl_tuple, Ev.isT_bl_list, Ev.tyOk_bl, Ev.isT_int_int, Ev.isT_int_bool, Ev.isT_int_str, Ev.isT_int_tuple, Ev.isT_int_list, Ev.tyOk_int, Ev.isT_str_int, Ev.isT_str_bool, Ev.isT_str_str, Ev.isT_str_tuple, Ev.isT_str_list, Ev.tyOk_str, Ev.isT_tup_int, Ev.isT_tup_bool, Ev.isT_tup_str, Ev.isT_tup_tuple, Ev.isT_tup_list, Ev.tyOk_tup, Ev.isT_lst_int, Ev.isT_lst_bool, Ev.isT_lst_str, Ev.isT_lst_tuple, Ev.isT_lst_list, Ev.tyOk_lst, List.not_mem_nil, not_false_eq_true, List.nodup_cons, Bool.false_eq_true, ↓reduceIte, List.nodup_nil, true_and, and_true])
  by_cases h0 : b = 0
  · rw [if_pos h0]
    exact k1 h0
  · rw [if_neg h0]
    refine ⟨t, b, rfl, h0, log_of (Nat.lt_trans (abs_GR hb) (Nat.pow_lt_pow_right (by decide) (by decide))), ?_⟩
    (simp (config := { maxSteps := 100000000 }) only [Ev.wS, Ev.wE.eq_1, Ev.wE.eq_2, Ev.wE.eq_3, Ev.wE.eq_4, Ev.wE.eq_6, Ev.wE.eq_7, Ev.wE.eq_8, Ev.wE.eq_9, Ev.wE.eq_10, Ev.wE.eq_11, Ev.wE.eq_12, Ev.wE.eq_13, Ev.wE.eq_14, Ev.wE.eq_15, Ev.wE.eq_16, Ev.wE.eq_17, Ev.wE.eq_18, Ev.wE.eq_19, Ev.wE.eq_20, Ev.wE.eq_21, Ev.wE.eq_22, Ev.wE.eq_23, Ev.wE.eq_24, Ev.wE.eq_25, Ev.wE.eq_26, Ev.wE.eq_27, Ev.wE_var, Ev.optK_some, Ev.selR_val, Ev.selR_own, Ev.rdS_val, Ev.rdS_own, Ev.fzS_val, Ev.fzS_own, Ev.argS_val, Ev.argS_own, Ev.wT, Ev.wAs, Ev.wEs, Ev.wI, Ev.wO, Ev.wG_nam, Ev.wG_tup, Ev.wGs_nil, Ev.wGs_cons, Ev.Tg.n, Ev.wipeE, Ev.restE, List.getD_cons_zero, List.getD_cons_succ, Ev.same2, Ev.items, Ev.rdK_val, Ev.rdK_tmp, Ev.rdK_at, Ev.rdsK, Ev.fzK_val, Ev.fzK_tmp, Ev.fzK_at, Ev.stW_val, Ev.stW_tmp, Ev.stW_bor, Ev.nbW_val, Ev.nbW_tmp, Ev.nbW_bor, Ev.binW_add, Ev.binW_sub, Ev.binW_mul, Ev.binW_div, Ev.binW_mod, Ev.binW_pow, Ev.binW_lst, Ev.binW_tup, Ev.binW_str, Ev.binW_rep, Ev.cmpW_lt, Ev.cmpW_le, Ev.cmpW_gt, Ev.cmpW_ge, Ev.cmpW_eq, Ev.cmpW_ne, Ev.cmpW_is, Ev.cmpW_isN, Ev.cmpW_inT, Ev.cmpW_inL, Ev.cmpW_niT, Ev.cmpW_niL, Ev.ixW_tup, Ev.ixW_lst, Ev.bltW_abs, Ev.bltW_int, Ev.bltW_gcd, Ev.bltW_lenT, Ev.bltW_lenL, Ev.bltW_scr, Ev.bltW_listL, Ev.bltW_listT, Ev.bltW_tupL, Ev.bltW_tupT, List.replicate, List.append_nil, List.cons_append, List.nil_append, List.getElem?_cons_zero, List.getElem?_cons_succ, List.length_cons, List.length_nil, List.set_cons_zero, List.set_cons_succ, Ev.argsOf, Ev.argOf_val, Ev.argOf_at, Ev.bors, Ev.backs_val, Ev.backs_bor, Ev.backs_nil, Ev.loses, Ev.retW_val, Ev.retW_tmp, Ev.parOf, Ev.outsOf, List.replicate_zero, Nat.sub_self, Ev.isOwnL, List.getElem?_nil, reduceCtorEq, decide_eq_true_eq, Ev.cmpOk_int, Ev.cmpOk_bl, Ev.cmpOk_non, Ev.cmpOk_nil, Ev.cmpOk_nilT, Ev.peq_int, Ev.peq_bl, Ev.peq_str, Ev.peq_non, Ev.peq_nil, Ev.peq_nilT, Ev.peq_consL, Ev.isT_non_int, Ev.isT_non_bool, Ev.isT_non_str, Ev.isT_non_tuple, Ev.isT_non_list, Ev.tyOk_non, Ev.isT_bl_int, Ev.isT_bl_bool, Ev.isT_bl_str, Ev.isT_bl_tuple, Ev.isT_bl_list, Ev.tyOk_bl, Ev.isT_int_int, Ev.isT_int_bool, Ev.isT_int_str, Ev.isT_int_tuple, Ev.isT_int_list, Ev.tyOk_int, Ev.isT_str_int, Ev.isT_str_bool, Ev.isT_str_str, Ev.isT_str_tuple, Ev.isT_str_list, Ev.tyOk_str, Ev.isT_tup_int, Ev.isT_tup_bool, Ev.isT_tup_str, Ev.isT_tup_tuple, Ev.isT_tup_list, Ev.tyOk_tup, Ev.isT_lst_int, Ev.isT_lst_bool, Ev.isT_lst_str, Ev.isT_lst_tuple, Ev.isT_lst_list, Ev.tyOk_lst, List.not_mem_nil, not_false_eq_true, List.nodup_cons, Bool.false_eq_true, ↓reduceIte, List.nodup_nil, true_and, and_true])
    exact k2 h0
end K
namespace K
open PySem PySem.Spec PyProof.Rows L2 Ev
theorem ixo {P : Nat → Prop} : (∃ j, ixN (0 + 1 + 1) 0 = some j ∧ P j) = P 0 := propext ⟨fun ⟨j, e, h⟩ => by have e' : some 0 = some j := e; cases e'; exact h, fun h => ⟨0, rfl, h⟩⟩
theorem ixi {P : Nat → Prop} : (∃ j, ixN (0 + 1 + 1) 1 = some j ∧ P j) = P 1 := propext ⟨fun ⟨j, e, h⟩ => by have e' : some 1 = some j := e; cases e'; exact h, fun h => ⟨1, rfl, h⟩⟩
/-- the cup: what is left of the script's number; the seed -/
def cupOk (a b : Int) : Prop := 0 ≤ a ∧ (0 ≤ b ∧ b < 2 ^ 40)
def S__law_cup : FnS := fun ss Kp _ => ∃ ns : List Int, ss = [.val (.scr ns)] ∧ ns.length ≤ 63 ∧ (∀ z ∈ ns, Builtin.Int.intBits z ≤ 1048576) ∧ ∀ a b, cupOk a b → Kp true (.lst [.int a, .int b]) ss
theorem ok__law_cup {Φ : Tbl} : ∀ ss Kp Xk, S__law_cup ss Kp Xk → bodyS Φ 1 2 B__law_cup ss Kp Xk := by
  rintro ss Kp Xk ⟨ns, rfl, hl, hb, hk⟩
  refine ⟨rfl, ?_⟩
  unfold B__law_cup
  (simp (config := { maxSteps := 100000000 }) only [Ev.wS, Ev.wE.eq_1, Ev.wE.eq_2, Ev.wE.eq_3, Ev.wE.eq_4, Ev.wE.eq_6, Ev.wE.eq_7, Ev.wE.eq_8, Ev.wE.eq_9, Ev.wE.eq_10, Ev.wE.eq_11, Ev.wE.eq_12, Ev.wE.eq_13, Ev.wE.eq_14, Ev.wE.eq_15, Ev.wE.eq_16, Ev.wE.eq_17, Ev.wE.eq_18, Ev.wE.eq_19, Ev.wE.eq_20, Ev.wE.eq_21, Ev.wE.eq_22, Ev.wE.eq_23, Ev.wE.eq_24, Ev.wE.eq_25, Ev.wE.eq_26, Ev.wE.eq_27, Ev.wE_var, Ev.optK_some, Ev.selR_val, Ev.selR_own, Ev.rdS_val, Ev.rdS_own, Ev.fzS_val, Ev.fzS_own, Ev.argS_val, Ev.argS_own, Ev.wT, Ev.wAs, Ev.wEs, Ev.wI, Ev.wO, Ev.wG_nam, Ev.wG_tup, Ev.wGs_nil, Ev.wGs_cons, Ev.Tg.n, Ev.wipeE, Ev.restE, List.getD_cons_zero, List.getD_cons_succ, Ev.same2, Ev.items, Ev.rdK_val, Ev.rdK_tmp, Ev.rdK_at, Ev.rdsK, Ev.fzK_val, Ev.fzK_tmp, Ev.fzK_at, Ev.stW_val, Ev.stW_tmp, Ev.stW_bor, Ev.nbW_val, Ev.nbW_tmp, Ev.nbW_bor, Ev.binW_add, Ev.binW_sub, Ev.binW_mul, Ev.binW_div, Ev.binW_mod, Ev.binW_pow, Ev.binW_lst, Ev.binW_tup, Ev.binW_str, Ev.binW_rep, Ev.cmpW_lt, Ev.cmpW_le, Ev.cmpW_gt, Ev.cmpW_ge, Ev.cmpW_eq, Ev.cmpW_ne, Ev.cmpW_is, Ev.cmpW_isN, Ev.cmpW_inT, Ev.cmpW_inL, Ev.cmpW_niT, Ev.cmpW_niL, Ev.ixW_tup, Ev.ixW_lst, Ev.bltW_abs, Ev.bltW_int, Ev.bltW_gcd, Ev.bltW_lenT, Ev.bltW_lenL, Ev.bltW_scr, Ev.bltW_listL, Ev.bltW_listT, Ev.bltW_tupL, Ev.bltW_tupT, List.replicate, List.append_nil, List.cons_append, List.nil_append, List.getElem?_cons_zero, List.getElem?_cons_succ, List.length_cons, List.length_nil, List.set_cons_zero, List.set_cons_succ, Ev.argsOf, Ev.argOf_val, Ev.argOf_at, Ev.bors, Ev.backs_val, Ev.backs_bor, Ev.backs_nil, Ev.loses, Ev.retW_val, Ev.retW_tmp, Ev.parOf, Ev.outsOf, List.replicate_zero, Nat.sub_self, Ev.isOwnL, List.getElem?_nil, reduceCtorEq, decide_eq_true_eq, Ev.cmpOk_int, Ev.cmpOk_bl, Ev.cmpOk_non, Ev.cmpOk_nil, Ev.cmpOk_nilT, Ev.peq_int, Ev.peq_bl, Ev.peq_str, Ev.peq_non, Ev.peq_nil, Ev.peq_nilT, Ev.peq_consL, Ev.isT_non_int, Ev.isT_non_bool, Ev.isT_non_str, Ev.isT_non_tuple, Ev.isT_non_list, Ev.tyOk_non, Ev.isT_bl_int, Ev.isT_bl_bool, Ev.isT_bl_str, Ev.isT_bl_tuple, Ev.isT_bl_list, Ev.tyOk_bl, Ev.isT_int_int, Ev.isT_int_bool, Ev.isT_int_str, Ev.isT_int_tuple, Ev.isT_int_list, Ev.tyOk_int, Ev.isT_str_int, Ev.isT_str_bool, Ev.isT_str_str, Ev.isT_str_tuple, Ev.isT_str_list, Ev.tyOk_str, Ev.isT_tup_int, Ev.isT_tup_bool, Ev.isT_tup_str, Ev.isT_tup_tuple, Ev.isT_tup_list, Ev.tyOk_tup, Ev.isT_lst_int, Ev.isT_lst_bool, Ev.isT_lst_str, Ev.isT_lst_tuple, Ev.isT_lst_list, Ev.tyOk_lst, List.not_mem_nil, not_false_eq_true, List.nodup_cons, Bool.false_eq_true, ↓reduceIte, List.nodup_nil, true_and, and_true])
  obtain ⟨c, hc, hcb⟩ : ∃ c : Int, (∀ (P : PV → Prop), (∃ x, atI (ns.map PV.int ++ [PV.int 0]) 0 = some x ∧ P x) = P (.int c)) ∧ Builtin.Int.intBits c ≤ 1048576 := by
    cases ns with
    | nil => exact ⟨0, fun P => by simp only [List.map_nil, List.nil_append, atI0, ex_some], by decide⟩
    | cons n r => exact ⟨n, fun P => by simp only [List.map_cons, List.cons_append, atI0, ex_some], hb n (by simp)⟩
  rw [hc]
  (simp (config := { maxSteps := 100000000 }) only [Ev.wS, Ev.wE.eq_1, Ev.wE.eq_2, Ev.wE.eq_3, Ev.wE.eq_4, Ev.wE.eq_6, Ev.wE.eq_7, Ev.wE.eq_8, Ev.wE.eq_9, Ev.wE.eq_10, Ev.wE.eq_11, Ev.wE.eq_12, Ev.wE.eq_13, Ev.wE.eq_14, Ev.wE.eq_15, Ev.wE.eq_16, Ev.wE.eq_17, Ev.wE.eq_18, Ev.wE.eq_19, Ev.wE.eq_20, Ev.wE.eq_21, Ev.wE.eq_22, Ev.wE.eq_23, Ev.wE.eq_24, Ev.wE.eq_25, Ev.wE.eq_26, Ev.wE.eq_27, Ev.wE_var, Ev.optK_some, Ev.selR_val, Ev.selR_own, Ev.rdS_val, Ev.rdS_own, Ev.fzS_val, Ev.fzS_own, Ev.argS_val, Ev.argS_own, Ev.wT, Ev.wAs, Ev.wEs, Ev.wI, Ev.wO, Ev.wG_nam, Ev.wG_tup, Ev.wGs_nil, Ev.wGs_cons, Ev.Tg.n, Ev.wipeE, Ev.restE, List.getD_cons_zero, List.getD_cons_succ, Ev.same2, Ev.items, Ev.rdK_val, Ev.rdK_tmp, Ev.rdK_at, Ev.rdsK, Ev.fzK_val, Ev.fzK_tmp, Ev.fzK_at, Ev.stW_val, Ev.stW_tmp, Ev.stW_bor, Ev.nbW_val, Ev.nbW_tmp, Ev.nbW_bor, Ev.binW_add, Ev.binW_sub, Ev.binW_mul, Ev.binW_div, Ev.binW_mod, Ev.binW_pow, Ev.binW_lst, Ev.binW_tup, Ev.binW_str, Ev.binW_rep, Ev.cmpW_lt, Ev.cmpW_le, Ev.cmpW_gt, Ev.cmpW_ge, Ev.cmpW_eq, Ev.cmpW_ne, Ev.cmpW_is, Ev.cmpW_isN, Ev.cmpW_inT, Ev.cmpW_inL, Ev.cmpW_niT, Ev.cmpW_niL, Ev.ixW_tup, Ev.ixW_lst, Ev.bltW_abs, Ev.bltW_int, Ev.bltW_gcd, Ev.bltW_lenT, Ev.bltW_lenL, Ev.bltW_scr, Ev.bltW_listL, Ev.bltW_listT, Ev.bltW_tupL, Ev.bltW_tupT, List.replicate, List.append_nil, List.cons_append, List.nil_append, List.getElem?_cons_zero, List.getElem?_cons_succ, List.length_cons, List.length_nil, List.set_cons_zero, List.set_cons_succ, Ev.argsOf, Ev.argOf_val, Ev.argOf_at, Ev.bors, Ev.backs_val, Ev.backs_bor, Ev.backs_nil, Ev.loses, Ev.retW_val, Ev.retW_tmp, Ev.parOf, Ev.outsOf, List.replicate_zero, Nat.sub_self, Ev.isOwnL, List.getElem?_nil, reduceCtorEq, decide_eq_true_eq, Ev.cmpOk_int, Ev.cmpOk_bl, Ev.cmpOk_non, Ev.cmpOk_nil, Ev.cmpOk_nilT, Ev.peq_int, Ev.peq_bl, Ev.peq_str, Ev.peq_non, Ev.peq_nil, Ev.peq_nilT, Ev.peq_consL, Ev.isT_non_int, Ev.isT_non_bool, Ev.isT_non_str, Ev.isT_non_tuple, Ev.isT_non_list, Ev.tyOk_non, Ev.isT_bl_int, Ev.isT_bl_bool, Ev.isT_bl_str, Ev.isT_bl_tuple, Ev.isT_bl_list, Ev.tyOk_bl, Ev.isT_int_int, Ev.isT_int_bool, Ev.isT_int_str, Ev.isT_int_tuple, Ev.isT_int_list, Ev.tyOk_int, Ev.isT_str_int, Ev.isT_str_bool, Ev.isT_str_str, Ev.isT_str_tuple, Ev.isT_str_list, Ev.tyOk_str, Ev.isT_tup_int, Ev.isT_tup_bool, Ev.isT_tup_str, Ev.isT_tup_tuple, Ev.isT_tup_list, Ev.tyOk_tup, Ev.isT_lst_int, Ev.isT_lst_bool, Ev.isT_lst_str, Ev.isT_lst_tuple, Ev.isT_lst_list, Ev.tyOk_lst, List.not_mem_nil, not_false_eq_true, List.nodup_cons, Bool.false_eq_true, ↓reduceIte, List.nodup_nil, true_and, and_true])
  generalize hd : (if c < 0 then -c else c) = d
  have h0 : 0 ≤ d := by split at hd <;> omega
  have hda : d.natAbs = c.natAbs := by split at hd <;> omega
  have hl2 : d.natAbs.log2 ≤ 1048576 := by
    rw [hda]
    unfold Builtin.Int.intBits at hcb
    split at hcb
    · rename_i h
      have : c.natAbs = 0 := by simpa using h
      rw [this]
      decide
    · omega
  have hm : Ev.MulOk d 401 := by
    unfold Ev.MulOk
    have : (401 : Int).natAbs.log2 = 8 := by decide
    omega
  have hsz : (List.map PV.int ns).length + (0 + 1) ≤ sizeLine := by
    rw [List.length_map]
    have : 64 ≤ sizeLine := by decide
    omega
  have hmod : 0 ≤ (d * 401 + 5923).fmod 1924129563 ∧ (d * 401 + 5923).fmod 1924129563 < 1924129563 := by
    rw [Int.fmod_eq_emod_of_nonneg _ (by decide)]
    omega
  have hp : CPow 10 18 := by unfold CPow; decide
  have b2 : ∀ a : Int, 0 ≤ a → cupOk a ((d * 401 + 5923).fmod 1924129563 + 257) := fun a ha => ⟨ha, by omega, by omega⟩
  refine ⟨by decide, hsz, hp, ?_⟩
  split
  · refine ⟨by unfold DivOk; decide, hm, by decide, by decide, hk _ _ (b2 _ ?_)⟩
    rw [Int.fdiv_eq_ediv_of_nonneg _ (by decide)]
    omega
  · exact ⟨hm, by decide, by decide, hk _ _ (b2 _ (by decide))⟩
def S__law_roll : FnS := fun ss Kp _ => ∃ a b m, ss = [.own (.lst [.int a, .int b]), .val (.int m)] ∧ cupOk a b ∧ 0 < m ∧ m.natAbs.log2 < 9000 ∧ ∀ a' b' r, cupOk a' b' → 0 ≤ r → r < m → Kp false (.int r) [.own (.lst [.int a', .int b']), .val (.int m)]
theorem fmod_in {x m : Int} (h : 0 < m) : 0 ≤ x.fmod m ∧ x.fmod m < m := by
  rw [Int.fmod_eq_emod_of_nonneg _ (by omega)]
  exact ⟨Int.emod_nonneg _ (by omega), Int.emod_lt_of_pos _ h⟩
theorem fdiv_in {x m : Int} (h : 0 < m) (hx : 0 ≤ x) : 0 ≤ x.fdiv m := by
  rw [Int.fdiv_eq_ediv_of_nonneg _ (by omega)]
  exact Int.ediv_nonneg hx (by omega)
theorem small_mul {x y : Int} (hx : x.natAbs < 2 ^ 400) (hy : y.natAbs < 2 ^ 400) : Ev.MulOk x y := mul_ok (Nat.lt_trans hx (Nat.pow_lt_pow_right (by decide) (by decide))) (Nat.lt_trans hy (Nat.pow_lt_pow_right (by decide) (by decide)))
theorem ok__law_roll {Φ : Tbl} : ∀ ss Kp Xk, S__law_roll ss Kp Xk → bodyS Φ 2 4 B__law_roll ss Kp Xk := by
  rintro ss Kp Xk ⟨a, b, m, rfl, ⟨ha, hb0, hb1⟩, hm, hl, hk⟩
  refine ⟨rfl, ?_⟩
  unfold B__law_roll
  (repeat (first | (simp (config := { maxSteps := 100000000 }) only [Ev.wS, Ev.wE.eq_1, Ev.wE.eq_2, Ev.wE.eq_3, Ev.wE.eq_4, Ev.wE.eq_6, Ev.wE.eq_7, Ev.wE.eq_8, Ev.wE.eq_9, Ev.wE.eq_10, Ev.wE.eq_11, Ev.wE.eq_12, Ev.wE.eq_13, Ev.wE.eq_14, Ev.wE.eq_15, Ev.wE.eq_16, Ev.wE.eq_17, Ev.wE.eq_18, Ev.wE.eq_19, Ev.wE.eq_20, Ev.wE.eq_21, Ev.wE.eq_22, Ev.wE.eq_23, Ev.wE.eq_24, Ev.wE.eq_25, Ev.wE.eq_26, Ev.wE.eq_27, Ev.wE_var, Ev.optK_some, Ev.selR_val, Ev.selR_own, Ev.rdS_val, Ev.rdS_own, Ev.fzS_val, Ev.fzS_own, Ev.argS_val, Ev.argS_own, Ev.wT, Ev.wAs, Ev.wEs, Ev.wI, Ev.wO, Ev.wG_nam, Ev.wG_tup, Ev.wGs_nil, Ev.wGs_cons, Ev.Tg.n, Ev.wipeE, Ev.restE, List.getD_cons_zero, List.getD_cons_succ, Ev.same2, Ev.items, Ev.rdK_val, Ev.rdK_tmp, Ev.rdK_at, Ev.rdsK, Ev.fzK_val, Ev.fzK_tmp, Ev.fzK_at, Ev.stW_val, Ev.stW_tmp, Ev.stW_bor, Ev.nbW_val, Ev.nbW_tmp, Ev.nbW_bor, Ev.binW_add, Ev.binW_sub, Ev.binW_mul, Ev.binW_div, Ev.binW_mod, Ev.binW_pow, Ev.binW_lst, Ev.binW_tup, Ev.binW_str, Ev.binW_rep, Ev.cmpW_lt, Ev.cmpW_le, Ev.cmpW_gt, Ev.cmpW_ge, Ev.cmpW_eq, Ev.cmpW_ne, Ev.cmpW_is, Ev.cmpW_isN, Ev.cmpW_inT, Ev.cmpW_inL, Ev.cmpW_niT, Ev.cmpW_niL, Ev.ixW_tup, Ev.ixW_lst, Ev.bltW_abs, Ev.bltW_int, Ev.bltW_gcd, Ev.bltW_lenT, Ev.bltW_lenL, Ev.bltW_scr, Ev.bltW_listL, Ev.bltW_listT, Ev.bltW_tupL, Ev.bltW_tupT, List.replicate, List.append_nil, List.cons_append, List.nil_append, List.getElem?_cons_zero, List.getElem?_cons_succ, List.length_cons, List.length_nil, List.set_cons_zero, List.set_cons_succ, Ev.argsOf, Ev.argOf_val, Ev.argOf_at, Ev.bors, Ev.backs_val, Ev.backs_bor, Ev.backs_nil, Ev.loses, Ev.retW_val, Ev.retW_tmp, Ev.parOf, Ev.outsOf, List.replicate_zero, Nat.sub_self, Ev.isOwnL, List.getElem?_nil, reduceCtorEq, decide_eq_true_eq, Ev.cmpOk_int, Ev.cmpOk_bl, Ev.cmpOk_non, Ev.cmpOk_nil, Ev.cmpOk_nilT, Ev.peq_int, Ev.peq_bl, Ev.peq_str, Ev.peq_non, Ev.peq_nil, Ev.peq_nilT, Ev.peq_consL, Ev.isT_non_int, Ev.isT_non_bool, Ev.isT_non_str, Ev.isT_non_tuple, Ev.isT_non_list, Ev.tyOk_non, Ev.isT_bl_int, Ev.isT_bl_bool, Ev.isT_bl_str, Ev.isT_bl_tuple, Ev.isT_bl_list, Ev.tyOk_bl, Ev.isT_int_int, Ev.isT_int_bool, Ev.isT_int_str, Ev.isT_int_tuple, Ev.isT_int_list, Ev.tyOk_int, Ev.isT_str_int, Ev.isT_str_bool, Ev.isT_str_str, Ev.isT_str_tuple, Ev.isT_str_list, Ev.tyOk_str, Ev.isT_tup_int, Ev.isT_tup_bool, Ev.isT_tup_str, Ev.isT_tup_tuple, Ev.isT_tup_list, Ev.tyOk_tup, Ev.isT_lst_int, Ev.isT_lst_bool, Ev.isT_lst_str, Ev.isT_lst_tuple, Ev.isT_lst_list, Ev.tyOk_lst, List.not_mem_nil, not_false_eq_true, List.nodup_cons, Bool.false_eq_true, ↓reduceIte, List.nodup_nil, true_and, and_true]) | (simp only [atI0, atI1, ex_some, ixo, ixi])))
  split
  · exact ⟨by omega, ⟨by omega, hl⟩, hk _ _ _ ⟨fdiv_in hm ha, hb0, hb1⟩ (fmod_in hm).1 (fmod_in hm).2⟩
  · obtain ⟨s1, s2⟩ := fmod_in (x := b * 29437 + 9613) (m := 2147483543) (by decide)
    refine ⟨?_, by decide, ?_, by decide, by unfold DivOk; decide, by omega, hk _ _ _ ⟨ha, s1, by omega⟩ (fmod_in hm).1 (fmod_in hm).2⟩
    · exact small_mul (by omega) (by decide)
    · exact small_mul (by omega) (by omega)
def S__law_some : FnS := fun ss Kp _ => ∃ a b xs, ss = [.own (.lst [.int a, .int b]), .val (.lst xs)] ∧ cupOk a b ∧ 0 < xs.length ∧ xs.length < 1000 ∧ ∀ a' b' x, cupOk a' b' → x ∈ xs → Kp false x [.own (.lst [.int a', .int b']), .val (.lst xs)]
theorem ok__law_some {Φ : Tbl} (h1 : Φ.fn "_law_roll" = some S__law_roll) : ∀ ss Kp Xk, S__law_some ss Kp Xk → bodyS Φ 2 2 B__law_some ss Kp Xk := by
  rintro ss Kp Xk ⟨a, b, xs, rfl, hc, h0, hl, hk⟩
  refine ⟨rfl, ?_⟩
  unfold B__law_some
  (simp (config := { maxSteps := 100000000 }) only [Ev.wS, Ev.wE.eq_1, Ev.wE.eq_2, Ev.wE.eq_3, Ev.wE.eq_4, Ev.wE.eq_6, Ev.wE.eq_7, Ev.wE.eq_8, Ev.wE.eq_9, Ev.wE.eq_10, Ev.wE.eq_11, Ev.wE.eq_12, Ev.wE.eq_13, Ev.wE.eq_14, Ev.wE.eq_15, Ev.wE.eq_16, Ev.wE.eq_17, Ev.wE.eq_18, Ev.wE.eq_19, Ev.wE.eq_20, Ev.wE.eq_21, Ev.wE.eq_22, Ev.wE.eq_23, Ev.wE.eq_24, Ev.wE.eq_25, Ev.wE.eq_26, Ev.wE.eq_27, Ev.wE_var, Ev.optK_some, Ev.selR_val, Ev.selR_own, Ev.rdS_val, Ev.rdS_own, Ev.fzS_val, Ev.fzS_own, Ev.argS_val, Ev.argS_own, Ev.wT, Ev.wAs, Ev.wEs, Ev.wI, Ev.wO, Ev.wG_nam, Ev.wG_tup, Ev.wGs_nil, Ev.wGs_cons, Ev.Tg.n, Ev.wipeE, Ev.restE, List.getD_cons_zero, List.getD_cons_succ, Ev.same2, Ev.items, Ev.rdK_val, Ev.rdK_tmp, Ev.rdK_at, Ev.rdsK, Ev.fzK_val, Ev.fzK_tmp, Ev.fzK_at, Ev.stW_val, Ev.stW_tmp, Ev.stW_bor, Ev.nbW_val, Ev.nbW_tmp, Ev.nbW_bor, Ev.binW_add, Ev.binW_sub, Ev.binW_mul, Ev.binW_div, Ev.binW_mod, Ev.binW_pow, Ev.binW_lst, Ev.binW_tup, Ev.binW_str, Ev.binW_rep, Ev.cmpW_lt, Ev.cmpW_le, Ev.cmpW_gt, Ev.cmpW_ge, Ev.cmpW_eq, Ev.cmpW_ne, Ev.cmpW_is, Ev.cmpW_isN, Ev.cmpW_inT, Ev.cmpW_inL, Ev.cmpW_niT, Ev.cmpW_niL, Ev.ixW_tup, Ev.ixW_lst, Ev.bltW_abs, Ev.bltW_int, Ev.bltW_gcd, Ev.bltW_lenT, Ev.bltW_lenL, Ev.bltW_scr, Ev.bltW_listL, Ev.bltW_listT, Ev.bltW_tupL, Ev.bltW_tupT, List.replicate, List.append_nil, List.cons_append, List.nil_append, List.getElem?_cons_zero, List.getElem?_cons_succ, List.length_cons, List.length_nil, List.set_cons_zero, List.set_cons_succ, Ev.argsOf, Ev.argOf_val, Ev.argOf_at, Ev.bors, Ev.backs_val, Ev.backs_bor, Ev.backs_nil, Ev.loses, Ev.retW_val, Ev.retW_tmp, Ev.parOf, Ev.outsOf, List.replicate_zero, Nat.sub_self, Ev.isOwnL, List.getElem?_nil, reduceCtorEq, decide_eq_true_eq, Ev.cmpOk_int, Ev.cmpOk_bl, Ev.cmpOk_non, Ev.cmpOk_nil, Ev.cmpOk_nilT, Ev.peq_int, Ev.peq_bl, Ev.peq_str, Ev.peq_non, Ev.peq_nil, Ev.peq_nilT, Ev.peq_consL, Ev.isT_non_int, Ev.isT_non_bool, Ev.isT_non_str, Ev.isT_non_tuple, Ev.isT_non_list, Ev.tyOk_non, Ev.isT_bl_int, Ev.isT_bl_bool, Ev.isT_bl_str, Ev.isT_bl_tuple, Ev.isT_bl_list, Ev.tyOk_bl, Ev.isT_int_int, Ev.isT_int_bool, Ev.isT_int_str, Ev.isT_int_tuple, Ev.isT_int_list, Ev.tyOk_int, Ev.isT_str_int, Ev.isT_str_bool, Ev.isT_str_str, Ev.isT_str_tuple, Ev.isT_str_list, Ev.tyOk_str, Ev.isT_tup_int, Ev.isT_tup_bool, Ev.isT_tup_str, Ev.isT_tup_tuple, Ev.isT_tup_list, Ev.tyOk_tup, Ev.isT_lst_int, Ev.isT_lst_bool, Ev.isT_lst_str, Ev.isT_lst_tuple, Ev.isT_lst_list, Ev.tyOk_lst, List.not_mem_nil, not_false_eq_true, List.nodup_cons, Bool.false_eq_true, ↓reduceIte, List.nodup_nil, true_and, and_true])
  simp only [h1]
  refine ⟨a, b, xs.length, rfl, hc, by omega, ?_, fun a' b' r hc' r0 r1 => ?_⟩
  · have : (xs.length : Int).natAbs < 2 ^ 10 := by omega
    have := small_log this (by decide)
    omega
  · (simp (config := { maxSteps := 100000000 }) only [Ev.wS, Ev.wE.eq_1, Ev.wE.eq_2, Ev.wE.eq_3, Ev.wE.eq_4, Ev.wE.eq_6, Ev.wE.eq_7, Ev.wE.eq_8, Ev.wE.eq_9, Ev.wE.eq_10, Ev.wE.eq_11, Ev.wE.eq_12, Ev.wE.eq_13, Ev.wE.eq_14, Ev.wE.eq_15, Ev.wE.eq_16, Ev.wE.eq_17, Ev.wE.eq_18, Ev.wE.eq_19, Ev.wE.eq_20, Ev.wE.eq_21, Ev.wE.eq_22, Ev.wE.eq_23, Ev.wE.eq_24, Ev.wE.eq_25, Ev.wE.eq_26, Ev.wE.eq_27, Ev.wE_var, Ev.optK_some, Ev.selR_val, Ev.selR_own, Ev.rdS_val, Ev.rdS_own, Ev.fzS_val, Ev.fzS_own, Ev.argS_val, Ev.argS_own, Ev.wT, Ev.wAs, Ev.wEs, Ev.wI, Ev.wO, Ev.wG_nam, Ev.wG_tup, Ev.wGs_nil, Ev.wGs_cons, Ev.Tg.n, Ev.wipeE, Ev.restE, List.getD_cons_zero, List.getD_cons_succ, Ev.same2, Ev.items, Ev.rdK_val, Ev.rdK_tmp, Ev.rdK_at, Ev.rdsK, Ev.fzK_val, Ev.fzK_tmp, Ev.fzK_at, Ev.stW_val, Ev.stW_tmp, Ev.stW_bor, Ev.nbW_val, Ev.nbW_tmp, Ev.nbW_bor, Ev.binW_add, Ev.binW_sub, Ev.binW_mul, Ev.binW_div, Ev.binW_mod, Ev.binW_pow, Ev.binW_lst, Ev.binW_tup, Ev.binW_str, Ev.binW_rep, Ev.cmpW_lt, Ev.cmpW_le, Ev.cmpW_gt, Ev.cmpW_ge, Ev.cmpW_eq, Ev.cmpW_ne, Ev.cmpW_is, Ev.cmpW_isN, Ev.cmpW_inT, Ev.cmpW_inL, Ev.cmpW_niT, Ev.cmpW_niL, Ev.ixW_tup, Ev.ixW_lst, Ev.bltW_abs, Ev.bltW_int, Ev.bltW_gcd, Ev.bltW_lenT, Ev.bltW_lenL, Ev.bltW_scr, Ev.bltW_listL, Ev.bltW_listT, Ev.bltW_tupL, Ev.bltW_tupT, List.replicate, List.append_nil, List.cons_append, List.nil_append, List.getElem?_cons_zero, List.getElem?_cons_succ, List.length_cons, List.length_nil, List.set_cons_zero, List.set_cons_succ, Ev.argsOf, Ev.argOf_val, Ev.argOf_at, Ev.bors, Ev.backs_val, Ev.backs_bor, Ev.backs_nil, Ev.loses, Ev.retW_val, Ev.retW_tmp, Ev.parOf, Ev.outsOf, List.replicate_zero, Nat.sub_self, Ev.isOwnL, List.getElem?_nil, reduceCtorEq, decide_eq_true_eq, Ev.cmpOk_int, Ev.cmpOk_bl, Ev.cmpOk_non, Ev.cmpOk_nil, Ev.cmpOk_nilT, Ev.peq_int, Ev.peq_bl, Ev.peq_str, Ev.peq_non, Ev.peq_nil, Ev.peq_nilT, Ev.peq_consL, Ev.isT_non_int, Ev.isT_non_bool, Ev.isT_non_str, Ev.isT_non_tuple, Ev.isT_non_list, Ev.tyOk_non, Ev.isT_bl_int, Ev.isT_bl_bool, Ev.isT_bl_str, Ev.isT_bl_tuple, Ev.isT_bl_list, Ev.tyOk_bl, Ev.isT_int_int, Ev.isT_int_bool, Ev.isT_int_str, Ev.isT_int_tuple, Ev.isT_int_list, Ev.tyOk_int, Ev.isT_str_int, Ev.isT_str_bool, Ev.isT_str_str, Ev.isT_str_tuple, Ev.isT_str_list, Ev.tyOk_str, Ev.isT_tup_int, Ev.isT_tup_bool, Ev.isT_tup_str, Ev.isT_tup_tuple, Ev.isT_tup_list, Ev.tyOk_tup, Ev.isT_lst_int, Ev.isT_lst_bool, Ev.isT_lst_str, Ev.isT_lst_tuple, Ev.isT_lst_list, Ev.tyOk_lst, List.not_mem_nil, not_false_eq_true, List.nodup_cons, Bool.false_eq_true, ↓reduceIte, List.nodup_nil, true_and, and_true])
    obtain ⟨n, rfl⟩ : ∃ n : Nat, r = n := ⟨r.toNat, by omega⟩
    have hn : n < xs.length := by omega
    refine ⟨xs[n], ?_, hk _ _ _ hc' (List.getElem_mem hn)⟩
    simp [atI, ixN, hn]
/-- a slot that shows x -/
def Hold (x : PV) (s : Slot) : Prop := s = .val x ∨ (s = .own x ∧ ∃ xs, x = .lst xs)
def sortP : PV → Int
  | .non => 0 | .bl _ => 1 | .int _ => 2 | .str _ => 3 | .tup _ => 4 | .lst _ => 5 | _ => 6
def S__law_sort : FnS := fun ss Kp _ => ∃ x s, ss = [s] ∧ Hold x s ∧ tyOk x = true ∧ Kp false (.int (sortP x)) ss
theorem ok__law_sort {Φ : Tbl} : ∀ ss Kp Xk, S__law_sort ss Kp Xk → bodyS Φ 1 1 B__law_sort ss Kp Xk := by
  rintro ss Kp Xk ⟨x, s, rfl, hs, ht, hk⟩
  refine ⟨rfl, ?_⟩
  unfold B__law_sort
  rcases hs with rfl | ⟨rfl, xs, rfl⟩
  · (simp (config := { maxSteps := 100000000 }) only [Ev.wS, Ev.wE.eq_1, Ev.wE.eq_2, Ev.wE.eq_3, Ev.wE.eq_4, Ev.wE.eq_6, Ev.wE.eq_7, Ev.wE.eq_8, Ev.wE.eq_9, Ev.wE.eq_10, Ev.wE.eq_11, Ev.wE.eq_12, Ev.wE.eq_13, Ev.wE.eq_14, Ev.wE.eq_15, Ev.wE.eq_16, Ev.wE.eq_17, Ev.wE.eq_18, Ev.wE.eq_19, Ev.wE.eq_20, Ev.wE.eq_21, Ev.wE.eq_22, Ev.wE.eq_23, Ev.wE.eq_24, Ev.wE.eq_25, Ev.wE.eq_26, Ev.wE.eq_27, Ev.wE_var, Ev.optK_some, Ev.selR_val, Ev.selR_own, Ev.rdS_val, Ev.rdS_own, Ev.fzS_val, Ev.fzS_own, Ev.argS_val, Ev.argS_own, Ev.wT, Ev.wAs, Ev.wEs, Ev.wI, Ev.wO, Ev.wG_nam, Ev.wG_tup, Ev.wGs_nil, Ev.wGs_cons, Ev.Tg.n, Ev.wipeE, Ev.restE, List.getD_cons_zero, List.getD_cons_succ, Ev.same2, Ev.items, Ev.rdK_val, Ev.rdK_tmp, Ev.rdK_at, Ev.rdsK, Ev.fzK_val, Ev.fzK_tmp, Ev.fzK_at, Ev.stW_val, Ev.stW_tmp, Ev.stW_bor, Ev.nbW_val, Ev.nbW_tmp, Ev.nbW_bor, Ev.binW_add, Ev.binW_sub, Ev.binW_mul, Ev.binW_div, Ev.binW_mod, Ev.binW_pow, Ev.binW_lst, Ev.binW_tup, Ev.binW_str, Ev.binW_rep, Ev.cmpW_lt, Ev.cmpW_le, Ev.cmpW_gt, Ev.cmpW_ge, Ev.cmpW_eq, Ev.cmpW_ne, Ev.cmpW_is, Ev.cmpW_isN, Ev.cmpW_inT, Ev.cmpW_inL, Ev.cmpW_niT, Ev.cmpW_niL, Ev.ixW_tup, Ev.ixW_lst, Ev.bltW_abs, Ev.bltW_int, Ev.bltW_gcd, Ev.bltW_lenT, Ev.bltW_lenL, Ev.bltW_scr, Ev.bltW_listL, Ev.bltW_listT, Ev.bltW_tupL, Ev.bltW_tupT, List.replicate, List.append_nil, List.cons_append, List.nil_append, List.getElem?_cons_zero, List.getElem?_cons_succ, List.length_cons, List.length_nil, List.set_cons_zero, List.set_cons_succ, Ev.argsOf, Ev.argOf_val, Ev.argOf_at, Ev.bors, Ev.backs_val, Ev.backs_bor, Ev.backs_nil, Ev.loses, Ev.retW_val, Ev.retW_tmp, Ev.parOf, Ev.outsOf, List.replicate_zero, Nat.sub_self, Ev.isOwnL, List.getElem?_nil, reduceCtorEq, decide_eq_true_eq, Ev.cmpOk_int, Ev.cmpOk_bl, Ev.cmpOk_non, Ev.cmpOk_nil, Ev.cmpOk_nilT, Ev.peq_int, Ev.peq_bl, Ev.peq_str, Ev.peq_non, Ev.peq_nil, Ev.peq_nilT, Ev.peq_consL, Ev.isT_non_int, Ev.isT_non_bool, Ev.isT_non_str, Ev.isT_non_tuple, Ev.isT_non_list, Ev.tyOk_non, Ev.isT_bl_int, Ev.isT_bl_bool, Ev.isT_bl_str, Ev.isT_bl_tuple, Ev.isT_bl_list, Ev.tyOk_bl, Ev.isT_int_int, Ev.isT_int_bool, Ev.isT_int_str, Ev.isT_int_tuple, Ev.isT_int_list, Ev.tyOk_int, Ev.isT_str_int, Ev.isT_str_bool, Ev.isT_str_str, Ev.isT_str_tuple, Ev.isT_str_list, Ev.tyOk_str, Ev.isT_tup_int, Ev.isT_tup_bool, Ev.isT_tup_str, Ev.isT_tup_tuple, Ev.isT_tup_list, Ev.tyOk_tup, Ev.isT_lst_int, Ev.isT_lst_bool, Ev.isT_lst_str, Ev.isT_lst_tuple, Ev.isT_lst_list, Ev.tyOk_lst, List.not_mem_nil, not_false_eq_true, List.nodup_cons, Bool.false_eq_true, ↓reduceIte, List.nodup_nil, true_and, and_true])
    simp only [isiW_int ht, isiW_bool ht, isiW_str ht, isiW_tuple ht, isiW_list ht]
    cases x <;> first | exact hk | (exact absurd ht (by simp [tyOk]))
  · (simp (config := { maxSteps := 100000000 }) only [Ev.wS, Ev.wE.eq_1, Ev.wE.eq_2, Ev.wE.eq_3, Ev.wE.eq_4, Ev.wE.eq_6, Ev.wE.eq_7, Ev.wE.eq_8, Ev.wE.eq_9, Ev.wE.eq_10, Ev.wE.eq_11, Ev.wE.eq_12, Ev.wE.eq_13, Ev.wE.eq_14, Ev.wE.eq_15, Ev.wE.eq_16, Ev.wE.eq_17, Ev.wE.eq_18, Ev.wE.eq_19, Ev.wE.eq_20, Ev.wE.eq_21, Ev.wE.eq_22, Ev.wE.eq_23, Ev.wE.eq_24, Ev.wE.eq_25, Ev.wE.eq_26, Ev.wE.eq_27, Ev.wE_var, Ev.optK_some, Ev.selR_val, Ev.selR_own, Ev.rdS_val, Ev.rdS_own, Ev.fzS_val, Ev.fzS_own, Ev.argS_val, Ev.argS_own, Ev.wT, Ev.wAs, Ev.wEs, Ev.wI, Ev.wO, Ev.wG_nam, Ev.wG_tup, Ev.wGs_nil, Ev.wGs_cons, Ev.Tg.n, Ev.wipeE, Ev.restE, List.getD_cons_zero, List.getD_cons_succ, Ev.same2, Ev.items, Ev.rdK_val, Ev.rdK_tmp, Ev.rdK_at, Ev.rdsK, Ev.fzK_val, Ev.fzK_tmp, Ev.fzK_at, Ev.stW_val, Ev.stW_tmp, Ev.stW_bor, Ev.nbW_val, Ev.nbW_tmp, Ev.nbW_bor, Ev.binW_add, Ev.binW_sub, Ev.binW_mul, Ev.binW_div, Ev.binW_mod, Ev.binW_pow, Ev.binW_lst, Ev.binW_tup, Ev.binW_str, Ev.binW_rep, Ev.cmpW_lt, Ev.cmpW_le, Ev.cmpW_gt, Ev.cmpW_ge, Ev.cmpW_eq, Ev.cmpW_ne, Ev.cmpW_is, Ev.cmpW_isN, Ev.cmpW_inT, Ev.cmpW_inL, Ev.cmpW_niT, Ev.cmpW_niL, Ev.ixW_tup, Ev.ixW_lst, Ev.bltW_abs, Ev.bltW_int, Ev.bltW_gcd, Ev.bltW_lenT, Ev.bltW_lenL, Ev.bltW_scr, Ev.bltW_listL, Ev.bltW_listT, Ev.bltW_tupL, Ev.bltW_tupT, List.replicate, List.append_nil, List.cons_append, List.nil_append, List.getElem?_cons_zero, List.getElem?_cons_succ, List.length_cons, List.length_nil, List.set_cons_zero, List.set_cons_succ, Ev.argsOf, Ev.argOf_val, Ev.argOf_at, Ev.bors, Ev.backs_val, Ev.backs_bor, Ev.backs_nil, Ev.loses, Ev.retW_val, Ev.retW_tmp, Ev.parOf, Ev.outsOf, List.replicate_zero, Nat.sub_self, Ev.isOwnL, List.getElem?_nil, reduceCtorEq, decide_eq_true_eq, Ev.cmpOk_int, Ev.cmpOk_bl, Ev.cmpOk_non, Ev.cmpOk_nil, Ev.cmpOk_nilT, Ev.peq_int, Ev.peq_bl, Ev.peq_str, Ev.peq_non, Ev.peq_nil, Ev.peq_nilT, Ev.peq_consL, Ev.isT_non_int, Ev.isT_non_bool, Ev.isT_non_str, Ev.isT_non_tuple, Ev.isT_non_list, Ev.tyOk_non, Ev.isT_bl_int, Ev.isT_bl_bool, Ev.isT_bl_str, Ev.isT_bl_tuple, Ev.isT_bl_list, Ev.tyOk_bl, Ev.isT_int_int, Ev.isT_int_bool, Ev.isT_int_str, Ev.isT_int_tuple, Ev.isT_int_list, Ev.tyOk_int, Ev.isT_str_int, Ev.isT_str_bool, Ev.isT_str_str, Ev.isT_str_tuple, Ev.isT_str_list, Ev.tyOk_str, Ev.isT_tup_int, Ev.isT_tup_bool, Ev.isT_tup_str, Ev.isT_tup_tuple, Ev.isT_tup_list, Ev.tyOk_tup, Ev.isT_lst_int, Ev.isT_lst_bool, Ev.isT_lst_str, Ev.isT_lst_tuple, Ev.isT_lst_list, Ev.tyOk_lst, List.not_mem_nil, not_false_eq_true, List.nodup_cons, Bool.false_eq_true, ↓reduceIte, List.nodup_nil, true_and, and_true])
    simp only [isiW_int ht, isiW_bool ht, isiW_str ht, isiW_tuple ht, isiW_list ht]
    exact hk
/-! ### the divisor -/
theorem euclid_step {a b : Nat} (hb : 0 < b) (h : b ≤ a) : 2 * (a % b) < a := by
  have h1 := Nat.mod_lt a hb
  have h2 := Nat.div_add_mod a b
  have h3 : 1 ≤ a / b := Nat.div_pos h hb
  have h4 : b ≤ b * (a / b) := Nat.le_mul_of_pos_right b h3
  omega
def S__law_divisor : FnS := fun ss Kp _ => ∃ a b : Nat, ss = [.val (.int (a : Int)), .val (.int (b : Int))] ∧ b < 2 ^ 500 ∧ Kp false (.int (Nat.gcd a b : Nat)) ss
/-- ahead of turn n: the two numbers have g; from the second on their product is halved by each turn -/
def Eu (a b g : Nat) : Nat → SE → Prop
  | 0, ρ => ∃ z, ρ = [.val (.int (a : Int)), .val (.int (b : Int)), z]
  | n + 1, ρ => ∃ (c d : Nat) (z : Slot), ρ = [.val (.int (c : Int)), .val (.int (d : Int)), z] ∧ Nat.gcd c d = g ∧ d ≤ c ∧ c * d * 2 ^ n < 2 ^ 1000
theorem eu_next {c d n : Nat} (hd : 0 < d) (h : d ≤ c) (hp : c * d * 2 ^ n < 2 ^ 1000) : d * (c % d) * 2 ^ (n + 1) < 2 ^ 1000 := by
  have h1 := euclid_step hd h
  have h2 : d * (c % d) * 2 ^ (n + 1) = d * (2 * (c % d)) * 2 ^ n := by
    rw [Nat.pow_succ, Nat.mul_comm (2 ^ n) 2, ← Nat.mul_assoc, Nat.mul_assoc d, Nat.mul_comm (c % d) 2]
  have h3 : d * (2 * (c % d)) ≤ d * c := Nat.mul_le_mul_left d (Nat.le_of_lt h1)
  rw [h2]
  calc d * (2 * (c % d)) * 2 ^ n ≤ d * c * 2 ^ n := Nat.mul_le_mul_right _ h3
    _ = c * d * 2 ^ n := by rw [Nat.mul_comm d c]
    _ < 2 ^ 1000 := hp
theorem gcd_next {c d : Nat} : Nat.gcd d (c % d) = Nat.gcd c d := by rw [Nat.gcd_comm d (c % d), ← Nat.gcd_rec, Nat.gcd_comm]
theorem ok__law_divisor {Φ : Tbl} : ∀ ss Kp Xk, S__law_divisor ss Kp Xk → bodyS Φ 2 3 B__law_divisor ss Kp Xk := by
  rintro ss Kp Xk ⟨a, b, rfl, hb, hk⟩
  refine ⟨rfl, ?_⟩
  unfold B__law_divisor
  (simp (config := { maxSteps := 100000000 }) only [Ev.wS, Ev.wE.eq_1, Ev.wE.eq_2, Ev.wE.eq_3, Ev.wE.eq_4, Ev.wE.eq_6, Ev.wE.eq_7, Ev.wE.eq_8, Ev.wE.eq_9, Ev.wE.eq_10, Ev.wE.eq_11, Ev.wE.eq_12, Ev.wE.eq_13, Ev.wE.eq_14, Ev.wE.eq_15, Ev.wE.eq_16, Ev.wE.eq_17, Ev.wE.eq_18, Ev.wE.eq_19, Ev.wE.eq_20, Ev.wE.eq_21, Ev.wE.eq_22, Ev.wE.eq_23, Ev.wE.eq_24, Ev.wE.eq_25, Ev.wE.eq_26, Ev.wE.eq_27, Ev.wE_var, Ev.optK_some, Ev.selR_val, Ev.selR_own, Ev.rdS_val, Ev.rdS_own, Ev.fzS_val, Ev.fzS_own, Ev.argS_val, Ev.argS_own, Ev.wT, Ev.wAs, Ev.wEs, Ev.wI, Ev.wO, Ev.wG_nam, Ev.wG_tup, Ev.wGs_nil, Ev.wGs_cons, Ev.Tg.n, Ev.wipeE, Ev.restE, List.getD_cons_zero, List.getD_cons_succ, Ev.same2, Ev.items, Ev.rdK_val, Ev.rdK_tmp, Ev.rdK_at, Ev.rdsK, Ev.fzK_val, Ev.fzK_tmp, Ev.fzK_at, Ev.stW_val, Ev.stW_tmp, Ev.stW_bor, Ev.nbW_val, Ev.nbW_tmp, Ev.nbW_bor, Ev.binW_add, Ev.binW_sub, Ev.binW_mul, Ev.binW_div, Ev.binW_mod, Ev.binW_pow, Ev.binW_lst, Ev.binW_tup, Ev.binW_str, Ev.binW_rep, Ev.cmpW_lt, Ev.cmpW_le, Ev.cmpW_gt, Ev.cmpW_ge, Ev.cmpW_eq, Ev.cmpW_ne, Ev.cmpW_is, Ev.cmpW_isN, Ev.cmpW_inT, Ev.cmpW_inL, Ev.cmpW_niT, Ev.cmpW_niL, Ev.ixW_tup, Ev.ixW_lst, Ev.bltW_abs, Ev.bltW_int, Ev.bltW_gcd, Ev.bltW_lenT, Ev.bltW_lenL, Ev.bltW_scr, Ev.bltW_listL, Ev.bltW_listT, Ev.bltW_tupL, Ev.bltW_tupT, List.replicate, List.append_nil, List.cons_append, List.nil_append, List.getElem?_cons_zero, List.getElem?_cons_succ, List.length_cons, List.length_nil, List.set_cons_zero, List.set_cons_succ, Ev.argsOf, Ev.argOf_val, Ev.argOf_at, Ev.bors, Ev.backs_val, Ev.backs_bor, Ev.backs_nil, Ev.loses, Ev.retW_val, Ev.retW_tmp, Ev.parOf, Ev.outsOf, List.replicate_zero, Nat.sub_self, Ev.isOwnL, List.getElem?_nil, reduceCtorEq, decide_eq_true_eq, Ev.cmpOk_int, Ev.cmpOk_bl, Ev.cmpOk_non, Ev.cmpOk_nil, Ev.cmpOk_nilT, Ev.peq_int, Ev.peq_bl, Ev.peq_str, Ev.peq_non, Ev.peq_nil, Ev.peq_nilT, Ev.peq_consL, Ev.isT_non_int, Ev.isT_non_bool, Ev.isT_non_str, Ev.isT_non_tuple, Ev.isT_non_list, Ev.tyOk_non, Ev.isT_bl_int, Ev.isT_bl_bool, Ev.isT_bl_str, Ev.isT_bl_tuple, Ev.isT_bl_list, Ev.tyOk_bl, Ev.isT_int_int, Ev.isT_int_bool, Ev.isT_int_str, Ev.isT_int_tuple, Ev.isT_int_list, Ev.tyOk_int, Ev.isT_str_int, Ev.isT_str_bool, Ev.isT_str_str, Ev.isT_str_tuple, Ev.isT_str_list, Ev.tyOk_str, Ev.isT_tup_int, Ev.isT_tup_bool, Ev.isT_tup_str, Ev.isT_tup_tuple, Ev.isT_tup_list, Ev.tyOk_tup, Ev.isT_lst_int, Ev.isT_lst_bool, Ev.isT_lst_str, Ev.isT_lst_tuple, Ev.isT_lst_list, Ev.tyOk_lst, List.not_mem_nil, not_false_eq_true, List.nodup_cons, Bool.false_eq_true, ↓reduceIte, List.nodup_nil, true_and, and_true])
  refine ⟨by decide, loopF_inv (Eu a b (Nat.gcd a b)) _ 0 _ ⟨_, rfl⟩ (fun i y ρ hy hi D' k1 _ _ k4 => ?_) fun ρ h => ?_⟩
  · have st : ∃ (c d : Nat) (z : Slot), ρ = [.val (.int (c : Int)), .val (.int (d : Int)), z] ∧ Nat.gcd c d = Nat.gcd a b ∧ (0 < d → Eu a b (Nat.gcd a b) (i + 1) [.val (.int (d : Int)), .val (.int ((c % d : Nat) : Int)), .val y]) := by
      rw [Nat.zero_add] at hi
      cases i with
      | zero =>
        obtain ⟨z, e⟩ := hi
        refine ⟨a, b, z, e, rfl, fun h0 => ⟨b, a % b, _, rfl, gcd_next, Nat.le_of_lt (Nat.mod_lt _ h0), ?_⟩⟩
        have h1 : a % b < 2 ^ 500 := Nat.lt_trans (Nat.mod_lt _ h0) hb
        rw [Nat.pow_zero, Nat.mul_one]
        calc b * (a % b) < 2 ^ 500 * 2 ^ 500 := Nat.mul_lt_mul'' hb h1
          _ = 2 ^ 1000 := by rw [← Nat.pow_add]
      | succ n =>
        obtain ⟨c, d, z, e, hg, hd, hp⟩ := hi
        exact ⟨c, d, z, e, hg, fun h0 => ⟨d, c % d, _, rfl, by rw [gcd_next, hg], Nat.le_of_lt (Nat.mod_lt _ h0), eu_next h0 hd hp⟩⟩
    obtain ⟨c, d, z, rfl, hg, hn⟩ := st
    (simp (config := { maxSteps := 100000000 }) only [Ev.wS, Ev.wE.eq_1, Ev.wE.eq_2, Ev.wE.eq_3, Ev.wE.eq_4, Ev.wE.eq_6, Ev.wE.eq_7, Ev.wE.eq_8, Ev.wE.eq_9, Ev.wE.eq_10, Ev.wE.eq_11, Ev.wE.eq_12, Ev.wE.eq_13, Ev.wE.eq_14, Ev.wE.eq_15, Ev.wE.eq_16, Ev.wE.eq_17, Ev.wE.eq_18, Ev.wE.eq_19, Ev.wE.eq_20, Ev.wE.eq_21, Ev.wE.eq_22, Ev.wE.eq_23, Ev.wE.eq_24, Ev.wE.eq_25, Ev.wE.eq_26, Ev.wE.eq_27, Ev.wE_var, Ev.optK_some, Ev.selR_val, Ev.selR_own, Ev.rdS_val, Ev.rdS_own, Ev.fzS_val, Ev.fzS_own, Ev.argS_val, Ev.argS_own, Ev.wT, Ev.wAs, Ev.wEs, Ev.wI, Ev.wO, Ev.wG_nam, Ev.wG_tup, Ev.wGs_nil, Ev.wGs_cons, Ev.Tg.n, Ev.wipeE, Ev.restE, List.getD_cons_zero, List.getD_cons_succ, Ev.same2, Ev.items, Ev.rdK_val, Ev.rdK_tmp, Ev.rdK_at, Ev.rdsK, Ev.fzK_val, Ev.fzK_tmp, Ev.fzK_at, Ev.stW_val, Ev.stW_tmp, Ev.stW_bor, Ev.nbW_val, Ev.nbW_tmp, Ev.nbW_bor, Ev.binW_add, Ev.binW_sub, Ev.binW_mul, Ev.binW_div, Ev.binW_mod, Ev.binW_pow, Ev.binW_lst, Ev.binW_tup, Ev.binW_str, Ev.binW_rep, Ev.cmpW_lt, Ev.cmpW_le, Ev.cmpW_gt, Ev.cmpW_ge, Ev.cmpW_eq, Ev.cmpW_ne, Ev.cmpW_is, Ev.cmpW_isN, Ev.cmpW_inT, Ev.cmpW_inL, Ev.cmpW_niT, Ev.cmpW_niL, Ev.ixW_tup, Ev.ixW_lst, Ev.bltW_abs, Ev.bltW_int, Ev.bltW_gcd, Ev.bltW_lenT, Ev.bltW_lenL, Ev.bltW_scr, Ev.bltW_listL, Ev.bltW_listT, Ev.bltW_tupL, Ev.bltW_tupT, List.replicate, List.append_nil, List.cons_append, List.nil_append, List.getElem?_cons_zero, List.getElem?_cons_succ, List.length_cons, List.length_nil, List.set_cons_zero, List.set_cons_succ, Ev.argsOf, Ev.argOf_val, Ev.argOf_at, Ev.bors, Ev.backs_val, Ev.backs_bor, Ev.backs_nil, Ev.loses, Ev.retW_val, Ev.retW_tmp, Ev.parOf, Ev.outsOf, List.replicate_zero, Nat.sub_self, Ev.isOwnL, List.getElem?_nil, reduceCtorEq, decide_eq_true_eq, Ev.cmpOk_int, Ev.cmpOk_bl, Ev.cmpOk_non, Ev.cmpOk_nil, Ev.cmpOk_nilT, Ev.peq_int, Ev.peq_bl, Ev.peq_str, Ev.peq_non, Ev.peq_nil, Ev.peq_nilT, Ev.peq_consL, Ev.isT_non_int, Ev.isT_non_bool, Ev.isT_non_str, Ev.isT_non_tuple, Ev.isT_non_list, Ev.tyOk_non, Ev.isT_bl_int, Ev.isT_bl_bool, Ev.isT_bl_str, Ev.isT_bl_tuple, Ev.isT_bl_list, Ev.tyOk_bl, Ev.isT_int_int, Ev.isT_int_bool, Ev.isT_int_str, Ev.isT_int_tuple, Ev.isT_int_list, Ev.tyOk_int, Ev.isT_str_int, Ev.isT_str_bool, Ev.isT_str_str, Ev.isT_str_tuple, Ev.isT_str_list, Ev.tyOk_str, Ev.isT_tup_int, Ev.isT_tup_bool, Ev.isT_tup_str, Ev.isT_tup_tuple, Ev.isT_tup_list, Ev.tyOk_tup, Ev.isT_lst_int, Ev.isT_lst_bool, Ev.isT_lst_str, Ev.isT_lst_tuple, Ev.isT_lst_list, Ev.tyOk_lst, List.not_mem_nil, not_false_eq_true, List.nodup_cons, Bool.false_eq_true, ↓reduceIte, List.nodup_nil, true_and, and_true])
    by_cases h0 : d = 0
    · subst h0
      rw [if_pos (by rfl)]
      rw [k4]
      rw [Nat.gcd_zero_right] at hg
      (simp (config := { maxSteps := 100000000 }) only [Ev.wS, Ev.wE.eq_1, Ev.wE.eq_2, Ev.wE.eq_3, Ev.wE.eq_4, Ev.wE.eq_6, Ev.wE.eq_7, Ev.wE.eq_8, Ev.wE.eq_9, Ev.wE.eq_10, Ev.wE.eq_11, Ev.wE.eq_12, Ev.wE.eq_13, Ev.wE.eq_14, Ev.wE.eq_15, Ev.wE.eq_16, Ev.wE.eq_17, Ev.wE.eq_18, Ev.wE.eq_19, Ev.wE.eq_20, Ev.wE.eq_21, Ev.wE.eq_22, Ev.wE.eq_23, Ev.wE.eq_24, Ev.wE.eq_25, Ev.wE.eq_26, Ev.wE.eq_27, Ev.wE_var, Ev.optK_some, Ev.selR_val, Ev.selR_own, Ev.rdS_val, Ev.rdS_own, Ev.fzS_val, Ev.fzS_own, Ev.argS_val, Ev.argS_own, Ev.wT, Ev.wAs, Ev.wEs, Ev.wI, Ev.wO, Ev.wG_nam, Ev.wG_tup, Ev.wGs_nil, Ev.wGs_cons, Ev.Tg.n, Ev.wipeE, Ev.restE, List.getD_cons_zero, List.getD_cons_succ, Ev.same2, Ev.items, Ev.rdK_val, Ev.rdK_tmp, Ev.rdK_at, Ev.rdsK, Ev.fzK_val, Ev.fzK_tmp, Ev.fzK_at, Ev.stW_val, Ev.stW_tmp, Ev.stW_bor, Ev.nbW_val, Ev.nbW_tmp, Ev.nbW_bor, Ev.binW_add, Ev.binW_sub, Ev.binW_mul, Ev.binW_div, Ev.binW_mod, Ev.binW_pow, Ev.binW_lst, Ev.binW_tup, Ev.binW_str, Ev.binW_rep, Ev.cmpW_lt, Ev.cmpW_le, Ev.cmpW_gt, Ev.cmpW_ge, Ev.cmpW_eq, Ev.cmpW_ne, Ev.cmpW_is, Ev.cmpW_isN, Ev.cmpW_inT, Ev.cmpW_inL, Ev.cmpW_niT, Ev.cmpW_niL, Ev.ixW_tup, Ev.ixW_lst, Ev.bltW_abs, Ev.bltW_int, Ev.bltW_gcd, Ev.bltW_lenT, Ev.bltW_lenL, Ev.bltW_scr, Ev.bltW_listL, Ev.bltW_listT, Ev.bltW_tupL, Ev.bltW_tupT, List.replicate, List.append_nil, List.cons_append, List.nil_append, List.getElem?_cons_zero, List.getElem?_cons_succ, List.length_cons, List.length_nil, List.set_cons_zero, List.set_cons_succ, Ev.argsOf, Ev.argOf_val, Ev.argOf_at, Ev.bors, Ev.backs_val, Ev.backs_bor, Ev.backs_nil, Ev.loses, Ev.retW_val, Ev.retW_tmp, Ev.parOf, Ev.outsOf, List.replicate_zero, Nat.sub_self, Ev.isOwnL, List.getElem?_nil, reduceCtorEq, decide_eq_true_eq, Ev.cmpOk_int, Ev.cmpOk_bl, Ev.cmpOk_non, Ev.cmpOk_nil, Ev.cmpOk_nilT, Ev.peq_int, Ev.peq_bl, Ev.peq_str, Ev.peq_non, Ev.peq_nil, Ev.peq_nilT, Ev.peq_consL, Ev.isT_non_int, Ev.isT_non_bool, Ev.isT_non_str, Ev.isT_non_tuple, Ev.isT_non_list, Ev.tyOk_non, Ev.isT_bl_int, Ev.isT_bl_bool, Ev.isT_bl_str, Ev.isT_bl_tuple, Ev.isT_bl_list, Ev.tyOk_bl, Ev.isT_int_int, Ev.isT_int_bool, Ev.isT_int_str, Ev.isT_int_tuple, Ev.isT_int_list, Ev.tyOk_int, Ev.isT_str_int, Ev.isT_str_bool, Ev.isT_str_str, Ev.isT_str_tuple, Ev.isT_str_list, Ev.tyOk_str, Ev.isT_tup_int, Ev.isT_tup_bool, Ev.isT_tup_str, Ev.isT_tup_tuple, Ev.isT_tup_list, Ev.tyOk_tup, Ev.isT_lst_int, Ev.isT_lst_bool, Ev.isT_lst_str, Ev.isT_lst_tuple, Ev.isT_lst_list, Ev.tyOk_lst, List.not_mem_nil, not_false_eq_true, List.nodup_cons, Bool.false_eq_true, ↓reduceIte, List.nodup_nil, true_and, and_true])
      rw [hg]
      exact hk
    · rw [if_neg (by omega)]
      refine ⟨by omega, k1 _ ?_⟩
      have e : (c : Int).fmod (d : Int) = ((c % d : Nat) : Int) := by
        rw [Int.fmod_eq_emod_of_nonneg _ (by omega)]
        rfl
      rw [e, Nat.zero_add]
      exact hn (by omega)
  · have hl : (rngP 0 1200).length = 1200 := by simp [rngP]
    rw [hl] at h
    obtain ⟨c, d, z, rfl, hg, hd, hp⟩ := h
    have h0 : d = 0 := by
      rcases Nat.eq_zero_or_pos d with h | h
      · exact h
      · have h1 : 1 ≤ c * d := Nat.mul_pos (by omega) h
        have h2 : 2 ^ 1199 ≤ c * d * 2 ^ 1199 := Nat.le_mul_of_pos_left _ h1
        have h3 : (2 : Nat) ^ 1000 < 2 ^ 1199 := Nat.pow_lt_pow_right (by decide) (by decide)
        exact absurd (Nat.lt_trans (Nat.lt_of_le_of_lt h2 hp) h3) (Nat.lt_irrefl _)
    subst h0
    rw [Nat.gcd_zero_right] at hg
    (simp (config := { maxSteps := 100000000 }) only [Ev.wS, Ev.wE.eq_1, Ev.wE.eq_2, Ev.wE.eq_3, Ev.wE.eq_4, Ev.wE.eq_6, Ev.wE.eq_7, Ev.wE.eq_8, Ev.wE.eq_9, Ev.wE.eq_10, Ev.wE.eq_11, Ev.wE.eq_12, Ev.wE.eq_13, Ev.wE.eq_14, Ev.wE.eq_15, Ev.wE.eq_16, Ev.wE.eq_17, Ev.wE.eq_18, Ev.wE.eq_19, Ev.wE.eq_20, Ev.wE.eq_21, Ev.wE.eq_22, Ev.wE.eq_23, Ev.wE.eq_24, Ev.wE.eq_25, Ev.wE.eq_26, Ev.wE.eq_27, Ev.wE_var, Ev.optK_some, Ev.selR_val, Ev.selR_own, Ev.rdS_val, Ev.rdS_own, Ev.fzS_val, Ev.fzS_own, Ev.argS_val, Ev.argS_own, Ev.wT, Ev.wAs, Ev.wEs, Ev.wI, Ev.wO, Ev.wG_nam, Ev.wG_tup, Ev.wGs_nil, Ev.wGs_cons, Ev.Tg.n, Ev.wipeE, Ev.restE, List.getD_cons_zero, List.getD_cons_succ, Ev.same2, Ev.items, Ev.rdK_val, Ev.rdK_tmp, Ev.rdK_at, Ev.rdsK, Ev.fzK_val, Ev.fzK_tmp, Ev.fzK_at, Ev.stW_val, Ev.stW_tmp, Ev.stW_bor, Ev.nbW_val, Ev.nbW_tmp, Ev.nbW_bor, Ev.binW_add, Ev.binW_sub, Ev.binW_mul, Ev.binW_div, Ev.binW_mod, Ev.binW_pow, Ev.binW_lst, Ev.binW_tup, Ev.binW_str, Ev.binW_rep, Ev.cmpW_lt, Ev.cmpW_le, Ev.cmpW_gt, Ev.cmpW_ge, Ev.cmpW_eq, Ev.cmpW_ne, Ev.cmpW_is, Ev.cmpW_isN, Ev.cmpW_inT, Ev.cmpW_inL, Ev.cmpW_niT, Ev.cmpW_niL, Ev.ixW_tup, Ev.ixW_lst, Ev.bltW_abs, Ev.bltW_int, Ev.bltW_gcd, Ev.bltW_lenT, Ev.bltW_lenL, Ev.bltW_scr, Ev.bltW_listL, Ev.bltW_listT, Ev.bltW_tupL, Ev.bltW_tupT, List.replicate, List.append_nil, List.cons_append, List.nil_append, List.getElem?_cons_zero, List.getElem?_cons_succ, List.length_cons, List.length_nil, List.set_cons_zero, List.set_cons_succ, Ev.argsOf, Ev.argOf_val, Ev.argOf_at, Ev.bors, Ev.backs_val, Ev.backs_bor, Ev.backs_nil, Ev.loses, Ev.retW_val, Ev.retW_tmp, Ev.parOf, Ev.outsOf, List.replicate_zero, Nat.sub_self, Ev.isOwnL, List.getElem?_nil, reduceCtorEq, decide_eq_true_eq, Ev.cmpOk_int, Ev.cmpOk_bl, Ev.cmpOk_non, Ev.cmpOk_nil, Ev.cmpOk_nilT, Ev.peq_int, Ev.peq_bl, Ev.peq_str, Ev.peq_non, Ev.peq_nil, Ev.peq_nilT, Ev.peq_consL, Ev.isT_non_int, Ev.isT_non_bool, Ev.isT_non_str, Ev.isT_non_tuple, Ev.isT_non_list, Ev.tyOk_non, Ev.isT_bl_int, Ev.isT_bl_bool, Ev.isT_bl_str, Ev.isT_bl_tuple, Ev.isT_bl_list, Ev.tyOk_bl, Ev.isT_int_int, Ev.isT_int_bool, Ev.isT_int_str, Ev.isT_int_tuple, Ev.isT_int_list, Ev.tyOk_int, Ev.isT_str_int, Ev.isT_str_bool, Ev.isT_str_str, Ev.isT_str_tuple, Ev.isT_str_list, Ev.tyOk_str, Ev.isT_tup_int, Ev.isT_tup_bool, Ev.isT_tup_str, Ev.isT_tup_tuple, Ev.isT_tup_list, Ev.tyOk_tup, Ev.isT_lst_int, Ev.isT_lst_bool, Ev.isT_lst_str, Ev.isT_lst_tuple, Ev.isT_lst_list, Ev.tyOk_lst, List.not_mem_nil, not_false_eq_true, List.nodup_cons, Bool.false_eq_true, ↓reduceIte, List.nodup_nil, true_and, and_true])
    rw [hg]
    exact hk
def S__law_plain : FnS := fun ss Kp _ => ∃ t b, ss = [.val (.int t), .val (.int b)] ∧ b ≠ 0 ∧ b.natAbs < 2 ^ 500 ∧ Kp false (plainP t b) ss
theorem abs_nat (i : Int) : (if i < 0 then -i else i) = ((i.natAbs : Nat) : Int) := by split <;> omega
theorem ok__law_plain {Φ : Tbl} (h1 : Φ.fn "_law_divisor" = some S__law_divisor) : ∀ ss Kp Xk, S__law_plain ss Kp Xk → bodyS Φ 2 3 B__law_plain ss Kp Xk := by
  rintro ss Kp Xk ⟨t, b, rfl, h0, hb, hk⟩
  refine ⟨rfl, ?_⟩
  have hd := sgn_div (t := t) h0 (by have := small_log hb (by decide); omega)
  unfold B__law_plain
  (simp (config := { maxSteps := 100000000 }) only [Ev.wS, Ev.wE.eq_1, Ev.wE.eq_2, Ev.wE.eq_3, Ev.wE.eq_4, Ev.wE.eq_6, Ev.wE.eq_7, Ev.wE.eq_8, Ev.wE.eq_9, Ev.wE.eq_10, Ev.wE.eq_11, Ev.wE.eq_12, Ev.wE.eq_13, Ev.wE.eq_14, Ev.wE.eq_15, Ev.wE.eq_16, Ev.wE.eq_17, Ev.wE.eq_18, Ev.wE.eq_19, Ev.wE.eq_20, Ev.wE.eq_21, Ev.wE.eq_22, Ev.wE.eq_23, Ev.wE.eq_24, Ev.wE.eq_25, Ev.wE.eq_26, Ev.wE.eq_27, Ev.wE_var, Ev.optK_some, Ev.selR_val, Ev.selR_own, Ev.rdS_val, Ev.rdS_own, Ev.fzS_val, Ev.fzS_own, Ev.argS_val, Ev.argS_own, Ev.wT, Ev.wAs, Ev.wEs, Ev.wI, Ev.wO, Ev.wG_nam, Ev.wG_tup, Ev.wGs_nil, Ev.wGs_cons, Ev.Tg.n, Ev.wipeE, Ev.restE, List.getD_cons_zero, List.getD_cons_succ, Ev.same2, Ev.items, Ev.rdK_val, Ev.rdK_tmp, Ev.rdK_at, Ev.rdsK, Ev.fzK_val, Ev.fzK_tmp, Ev.fzK_at, Ev.stW_val, Ev.stW_tmp, Ev.stW_bor, Ev.nbW_val, Ev.nbW_tmp, Ev.nbW_bor, Ev.binW_add, Ev.binW_sub, Ev.binW_mul, Ev.binW_div, Ev.binW_mod, Ev.binW_pow, Ev.binW_lst, Ev.binW_tup, Ev.binW_str, Ev.binW_rep, Ev.cmpW_lt, Ev.cmpW_le, Ev.cmpW_gt, Ev.cmpW_ge, Ev.cmpW_eq, Ev.cmpW_ne, Ev.cmpW_is, Ev.cmpW_isN, Ev.cmpW_inT, Ev.cmpW_inL, Ev.cmpW_niT, Ev.cmpW_niL, Ev.ixW_tup, Ev.ixW_lst, Ev.bltW_abs, Ev.bltW_int, Ev.bltW_gcd, Ev.bltW_lenT, Ev.bltW_lenL, Ev.bltW_scr, Ev.bltW_listL, Ev.bltW_listT, Ev.bltW_tupL, Ev.bltW_tupT, List.replicate, List.append_nil, List.cons_append, List.nil_append, List.getElem?_cons_zero, List.getElem?_cons_succ, List.length_cons, List.length_nil, List.set_cons_zero, List.set_cons_succ, Ev.argsOf, Ev.argOf_val, Ev.argOf_at, Ev.bors, Ev.backs_val, Ev.backs_bor, Ev.backs_nil, Ev.loses, Ev.retW_val, Ev.retW_tmp, Ev.parOf, Ev.outsOf, List.replicate_zero, Nat.sub_self, Ev.isOwnL, List.getElem?_nil, reduceCtorEq, decide_eq_true_eq, Ev.cmpOk_int, Ev.cmpOk_bl, Ev.cmpOk_non, Ev.cmpOk_nil, Ev.cmpOk_nilT, Ev.peq_int, Ev.peq_bl, Ev.peq_str, Ev.peq_non, Ev.peq_nil, Ev.peq_nilT, Ev.peq_consL, Ev.isT_non_int, Ev.isT_non_bool, Ev.isT_non_str, Ev.isT_non_tuple, Ev.isT_non_list, Ev.tyOk_non, Ev.isT_bl_int, Ev.isT_bl_bool, Ev.isT_bl_str, Ev.isT_bl_tuple, Ev.isT_bl_list, Ev.tyOk_bl, Ev.isT_int_int, Ev.isT_int_bool, Ev.isT_int_str, Ev.isT_int_tuple, Ev.isT_int_list, Ev.tyOk_int, Ev.isT_str_int, Ev.isT_str_bool, Ev.isT_str_str, Ev.isT_str_tuple, Ev.isT_str_list, Ev.tyOk_str, Ev.isT_tup_int, Ev.isT_tup_bool, Ev.isT_tup_str, Ev.isT_tup_tuple, Ev.isT_tup_list, Ev.tyOk_tup, Ev.isT_lst_int, Ev.isT_lst_bool, Ev.isT_lst_str, Ev.isT_lst_tuple, Ev.isT_lst_list, Ev.tyOk_lst, List.not_mem_nil, not_false_eq_true, List.nodup_cons, Bool.false_eq_true, ↓reduceIte, List.nodup_nil, true_and, and_true])
  simp only [h1, abs_nat]
  refine ⟨t.natAbs, b.natAbs, rfl, hb, ?_⟩
  (simp (config := { maxSteps := 100000000 }) only [Ev.wS, Ev.wE.eq_1, Ev.wE.eq_2, Ev.wE.eq_3, Ev.wE.eq_4, Ev.wE.eq_6, Ev.wE.eq_7, Ev.wE.eq_8, Ev.wE.eq_9, Ev.wE.eq_10, Ev.wE.eq_11, Ev.wE.eq_12, Ev.wE.eq_13, Ev.wE.eq_14, Ev.wE.eq_15, Ev.wE.eq_16, Ev.wE.eq_17, Ev.wE.eq_18, Ev.wE.eq_19, Ev.wE.eq_20, Ev.wE.eq_21, Ev.wE.eq_22, Ev.wE.eq_23, Ev.wE.eq_24, Ev.wE.eq_25, Ev.wE.eq_26, Ev.wE.eq_27, Ev.wE_var, Ev.optK_some, Ev.selR_val, Ev.selR_own, Ev.rdS_val, Ev.rdS_own, Ev.fzS_val, Ev.fzS_own, Ev.argS_val, Ev.argS_own, Ev.wT, Ev.wAs, Ev.wEs, Ev.wI, Ev.wO, Ev.wG_nam, Ev.wG_tup, Ev.wGs_nil, Ev.wGs_cons, Ev.Tg.n, Ev.wipeE, Ev.restE, List.getD_cons_zero, List.getD_cons_succ, Ev.same2, Ev.items, Ev.rdK_val, Ev.rdK_tmp, Ev.rdK_at, Ev.rdsK, Ev.fzK_val, Ev.fzK_tmp, Ev.fzK_at, Ev.stW_val, Ev.stW_tmp, Ev.stW_bor, Ev.nbW_val, Ev.nbW_tmp, Ev.nbW_bor, Ev.binW_add, Ev.binW_sub, Ev.binW_mul, Ev.binW_div, Ev.binW_mod, Ev.binW_pow, Ev.binW_lst, Ev.binW_tup, Ev.binW_str, Ev.binW_rep, Ev.cmpW_lt, Ev.cmpW_le, Ev.cmpW_gt, Ev.cmpW_ge, Ev.cmpW_eq, Ev.cmpW_ne, Ev.cmpW_is, Ev.cmpW_isN, Ev.cmpW_inT, Ev.cmpW_inL, Ev.cmpW_niT, Ev.cmpW_niL, Ev.ixW_tup, Ev.ixW_lst, Ev.bltW_abs, Ev.bltW_int, Ev.bltW_gcd, Ev.bltW_lenT, Ev.bltW_lenL, Ev.bltW_scr, Ev.bltW_listL, Ev.bltW_listT, Ev.bltW_tupL, Ev.bltW_tupT, List.replicate, List.append_nil, List.cons_append, List.nil_append, List.getElem?_cons_zero, List.getElem?_cons_succ, List.length_cons, List.length_nil, List.set_cons_zero, List.set_cons_succ, Ev.argsOf, Ev.argOf_val, Ev.argOf_at, Ev.bors, Ev.backs_val, Ev.backs_bor, Ev.backs_nil, Ev.loses, Ev.retW_val, Ev.retW_tmp, Ev.parOf, Ev.outsOf, List.replicate_zero, Nat.sub_self, Ev.isOwnL, List.getElem?_nil, reduceCtorEq, decide_eq_true_eq, Ev.cmpOk_int, Ev.cmpOk_bl, Ev.cmpOk_non, Ev.cmpOk_nil, Ev.cmpOk_nilT, Ev.peq_int, Ev.peq_bl, Ev.peq_str, Ev.peq_non, Ev.peq_nil, Ev.peq_nilT, Ev.peq_consL, Ev.isT_non_int, Ev.isT_non_bool, Ev.isT_non_str, Ev.isT_non_tuple, Ev.isT_non_list, Ev.tyOk_non, Ev.isT_bl_int, Ev.isT_bl_bool, Ev.isT_bl_str, Ev.isT_bl_tuple, Ev.isT_bl_list, Ev.tyOk_bl, Ev.isT_int_int, Ev.isT_int_bool, Ev.isT_int_str, Ev.isT_int_tuple, Ev.isT_int_list, Ev.tyOk_int, Ev.isT_str_int, Ev.isT_str_bool, Ev.isT_str_str, Ev.isT_str_tuple, Ev.isT_str_list, Ev.tyOk_str, Ev.isT_tup_int, Ev.isT_tup_bool, Ev.isT_tup_str, Ev.isT_tup_tuple, Ev.isT_tup_list, Ev.tyOk_tup, Ev.isT_lst_int, Ev.isT_lst_bool, Ev.isT_lst_str, Ev.isT_lst_tuple, Ev.isT_lst_list, Ev.tyOk_lst, List.not_mem_nil, not_false_eq_true, List.nodup_cons, Bool.false_eq_true, ↓reduceIte, List.nodup_nil, true_and, and_true])
  unfold plainP sgn at hk
  unfold sgn at hd
  by_cases h : b > 0
  · simp only [h, ↓reduceIte] at hk hd
    rw [if_pos h]
    exact ⟨hd, hd, by decide, hk⟩
  · simp only [h, ↓reduceIte] at hk hd
    rw [if_neg h]
    exact ⟨hd, hd, by decide, hk⟩
def S__law_great : FnS := fun ss Kp _ => ∃ a b n, ss = [.own (.lst [.int a, .int b]), .val (.int n)] ∧ cupOk a b ∧ 0 ≤ n ∧ n ≤ GR ∧ ∀ a' b' r, cupOk a' b' → 0 ≤ r → r ≤ n → Kp false (.int r) [.own (.lst [.int a', .int b']), .val (.int n)]
theorem ok__law_great {Φ : Tbl} (h1 : Φ.fn "_law_roll" = some S__law_roll) : ∀ ss Kp Xk, S__law_great ss Kp Xk → bodyS Φ 2 4 B__law_great ss Kp Xk := by
  rintro ss Kp Xk ⟨a, b, n, rfl, hc, h0, hn, hk⟩
  refine ⟨rfl, ?_⟩
  unfold B__law_great
  (simp (config := { maxSteps := 100000000 }) only [Ev.wS, Ev.wE.eq_1, Ev.wE.eq_2, Ev.wE.eq_3, Ev.wE.eq_4, Ev.wE.eq_6, Ev.wE.eq_7, Ev.wE.eq_8, Ev.wE.eq_9, Ev.wE.eq_10, Ev.wE.eq_11, Ev.wE.eq_12, Ev.wE.eq_13, Ev.wE.eq_14, Ev.wE.eq_15, Ev.wE.eq_16, Ev.wE.eq_17, Ev.wE.eq_18, Ev.wE.eq_19, Ev.wE.eq_20, Ev.wE.eq_21, Ev.wE.eq_22, Ev.wE.eq_23, Ev.wE.eq_24, Ev.wE.eq_25, Ev.wE.eq_26, Ev.wE.eq_27, Ev.wE_var, Ev.optK_some, Ev.selR_val, Ev.selR_own, Ev.rdS_val, Ev.rdS_own, Ev.fzS_val, Ev.fzS_own, Ev.argS_val, Ev.argS_own, Ev.wT, Ev.wAs, Ev.wEs, Ev.wI, Ev.wO, Ev.wG_nam, Ev.wG_tup, Ev.wGs_nil, Ev.wGs_cons, Ev.Tg.n, Ev.wipeE, Ev.restE, List.getD_cons_zero, List.getD_cons_succ, Ev.same2, Ev.items, Ev.rdK_val, Ev.rdK_tmp, Ev.rdK_at, Ev.rdsK, Ev.fzK_val, Ev.fzK_tmp, Ev.fzK_at, Ev.stW_val, Ev.stW_tmp, Ev.stW_bor, Ev.nbW_val, Ev.nbW_tmp, Ev.nbW_bor, Ev.binW_add, Ev.binW_sub, Ev.binW_mul, Ev.binW_div, Ev.binW_mod, Ev.binW_pow, Ev.binW_lst, Ev.binW_tup, Ev.binW_str, Ev.binW_rep, Ev.cmpW_lt, Ev.cmpW_le, Ev.cmpW_gt, Ev.cmpW_ge, Ev.cmpW_eq, Ev.cmpW_ne, Ev.cmpW_is, Ev.cmpW_isN, Ev.cmpW_inT, Ev.cmpW_inL, Ev.cmpW_niT, Ev.cmpW_niL, Ev.ixW_tup, Ev.ixW_lst, Ev.bltW_abs, Ev.bltW_int, Ev.bltW_gcd, Ev.bltW_lenT, Ev.bltW_lenL, Ev.bltW_scr, Ev.bltW_listL, Ev.bltW_listT, Ev.bltW_tupL, Ev.bltW_tupT, List.replicate, List.append_nil, List.cons_append, List.nil_append, List.getElem?_cons_zero, List.getElem?_cons_succ, List.length_cons, List.length_nil, List.set_cons_zero, List.set_cons_succ, Ev.argsOf, Ev.argOf_val, Ev.argOf_at, Ev.bors, Ev.backs_val, Ev.backs_bor, Ev.backs_nil, Ev.loses, Ev.retW_val, Ev.retW_tmp, Ev.parOf, Ev.outsOf, List.replicate_zero, Nat.sub_self, Ev.isOwnL, List.getElem?_nil, reduceCtorEq, decide_eq_true_eq, Ev.cmpOk_int, Ev.cmpOk_bl, Ev.cmpOk_non, Ev.cmpOk_nil, Ev.cmpOk_nilT, Ev.peq_int, Ev.peq_bl, Ev.peq_str, Ev.peq_non, Ev.peq_nil, Ev.peq_nilT, Ev.peq_consL, Ev.isT_non_int, Ev.isT_non_bool, Ev.isT_non_str, Ev.isT_non_tuple, Ev.isT_non_list, Ev.tyOk_non, Ev.isT_bl_int, Ev.isT_bl_bool, Ev.isT_bl_str, Ev.isT_bl_tuple, Ev.isT_bl_list, Ev.tyOk_bl, Ev.isT_int_int, Ev.isT_int_bool, Ev.isT_int_str, Ev.isT_int_tuple, Ev.isT_int_list, Ev.tyOk_int, Ev.isT_str_int, Ev.isT_str_bool, Ev.isT_str_str, Ev.isT_str_tuple, Ev.isT_str_list, Ev.tyOk_str, Ev.isT_tup_int, Ev.isT_tup_bool, Ev.isT_tup_str, Ev.isT_tup_tuple, Ev.isT_tup_list, Ev.tyOk_tup, Ev.isT_lst_int, Ev.isT_lst_bool, Ev.isT_lst_str, Ev.isT_lst_tuple, Ev.isT_lst_list, Ev.tyOk_lst, List.not_mem_nil, not_false_eq_true, List.nodup_cons, Bool.false_eq_true, ↓reduceIte, List.nodup_nil, true_and, and_true])
  refine ⟨by decide, loopF_inv (fun _ ρ => ∃ a' b' r z, ρ = [.own (.lst [.int a', .int b']), .val (.int n), .val (.int r), z] ∧ cupOk a' b' ∧ 0 ≤ r ∧ r ≤ n) _ 0 _ ⟨a, b, 0, _, rfl, hc, by omega, h0⟩ (fun i y ρ hy hi D' k1 _ _ _ => ?_) fun ρ h => ?_⟩
  · obtain ⟨a', b', r, z, rfl, hc', hr0, hr1⟩ := hi
    (simp (config := { maxSteps := 100000000 }) only [Ev.wS, Ev.wE.eq_1, Ev.wE.eq_2, Ev.wE.eq_3, Ev.wE.eq_4, Ev.wE.eq_6, Ev.wE.eq_7, Ev.wE.eq_8, Ev.wE.eq_9, Ev.wE.eq_10, Ev.wE.eq_11, Ev.wE.eq_12, Ev.wE.eq_13, Ev.wE.eq_14, Ev.wE.eq_15, Ev.wE.eq_16, Ev.wE.eq_17, Ev.wE.eq_18, Ev.wE.eq_19, Ev.wE.eq_20, Ev.wE.eq_21, Ev.wE.eq_22, Ev.wE.eq_23, Ev.wE.eq_24, Ev.wE.eq_25, Ev.wE.eq_26, Ev.wE.eq_27, Ev.wE_var, Ev.optK_some, Ev.selR_val, Ev.selR_own, Ev.rdS_val, Ev.rdS_own, Ev.fzS_val, Ev.fzS_own, Ev.argS_val, Ev.argS_own, Ev.wT, Ev.wAs, Ev.wEs, Ev.wI, Ev.wO, Ev.wG_nam, Ev.wG_tup, Ev.wGs_nil, Ev.wGs_cons, Ev.Tg.n, Ev.wipeE, Ev.restE, List.getD_cons_zero, List.getD_cons_succ, Ev.same2, Ev.items, Ev.rdK_val, Ev.rdK_tmp, Ev.rdK_at, Ev.rdsK, Ev.fzK_val, Ev.fzK_tmp, Ev.fzK_at, Ev.stW_val, Ev.stW_tmp, Ev.stW_bor, Ev.nbW_val, Ev.nbW_tmp, Ev.nbW_bor, Ev.binW_add, Ev.binW_sub, Ev.binW_mul, Ev.binW_div, Ev.binW_mod, Ev.binW_pow, Ev.binW_lst, Ev.binW_tup, Ev.binW_str, Ev.binW_rep, Ev.cmpW_lt, Ev.cmpW_le, Ev.cmpW_gt, Ev.cmpW_ge, Ev.cmpW_eq, Ev.cmpW_ne, Ev.cmpW_is, Ev.cmpW_isN, Ev.cmpW_inT, Ev.cmpW_inL, Ev.cmpW_niT, Ev.cmpW_niL, Ev.ixW_tup, Ev.ixW_lst, Ev.bltW_abs, Ev.bltW_int, Ev.bltW_gcd, Ev.bltW_lenT, Ev.bltW_lenL, Ev.bltW_scr, Ev.bltW_listL, Ev.bltW_listT, Ev.bltW_tupL, Ev.bltW_tupT, List.replicate, List.append_nil, List.cons_append, List.nil_append, List.getElem?_cons_zero, List.getElem?_cons_succ, List.length_cons, List.length_nil, List.set_cons_zero, List.set_cons_succ, Ev.argsOf, Ev.argOf_val, Ev.argOf_at, Ev.bors, Ev.backs_val, Ev.backs_bor, Ev.backs_nil, Ev.loses, Ev.retW_val, Ev.retW_tmp, Ev.parOf, Ev.outsOf, List.replicate_zero, Nat.sub_self, Ev.isOwnL, List.getElem?_nil, reduceCtorEq, decide_eq_true_eq, Ev.cmpOk_int, Ev.cmpOk_bl, Ev.cmpOk_non, Ev.cmpOk_nil, Ev.cmpOk_nilT, Ev.peq_int, Ev.peq_bl, Ev.peq_str, Ev.peq_non, Ev.peq_nil, Ev.peq_nilT, Ev.peq_consL, Ev.isT_non_int, Ev.isT_non_bool, Ev.isT_non_str, Ev.isT_non_tuple, Ev.isT_non_list, Ev.tyOk_non, Ev.isT_bl_int, Ev.isT_bl_bool, Ev.isT_bl_str, Ev.isT_bl_tuple, Ev.isT_bl_list, Ev.tyOk_bl, Ev.isT_int_int, Ev.isT_int_bool, Ev.isT_int_str, Ev.isT_int_tuple, Ev.isT_int_list, Ev.tyOk_int, Ev.isT_str_int, Ev.isT_str_bool, Ev.isT_str_str, Ev.isT_str_tuple, Ev.isT_str_list, Ev.tyOk_str, Ev.isT_tup_int, Ev.isT_tup_bool, Ev.isT_tup_str, Ev.isT_tup_tuple, Ev.isT_tup_list, Ev.tyOk_tup, Ev.isT_lst_int, Ev.isT_lst_bool, Ev.isT_lst_str, Ev.isT_lst_tuple, Ev.isT_lst_list, Ev.tyOk_lst, List.not_mem_nil, not_false_eq_true, List.nodup_cons, Bool.false_eq_true, ↓reduceIte, List.nodup_nil, true_and, and_true])
    simp only [h1]
    have p18 : CPow 10 18 := by unfold CPow; decide
    have p9 : CPow 10 9 := by unfold CPow; decide
    have e18 : (10 : Int) ^ (18 : Int).toNat = 1000000000000000000 := by decide
    have e9 : (10 : Int) ^ (9 : Int).toNat = 1000000000 := by decide
    rw [e18, e9]
    have hr : r.natAbs < 2 ^ 400 := Nat.lt_trans (abs_GR ⟨by omega, by omega⟩) (Nat.pow_lt_pow_right (by decide) (by decide))
    refine ⟨p18, small_mul hr (by decide), p9, a', b', 1000000000, rfl, hc', by decide, by decide, fun a2 b2 r2 hc2 q0 q1 => ?_⟩
    (simp (config := { maxSteps := 100000000 }) only [Ev.wS, Ev.wE.eq_1, Ev.wE.eq_2, Ev.wE.eq_3, Ev.wE.eq_4, Ev.wE.eq_6, Ev.wE.eq_7, Ev.wE.eq_8, Ev.wE.eq_9, Ev.wE.eq_10, Ev.wE.eq_11, Ev.wE.eq_12, Ev.wE.eq_13, Ev.wE.eq_14, Ev.wE.eq_15, Ev.wE.eq_16, Ev.wE.eq_17, Ev.wE.eq_18, Ev.wE.eq_19, Ev.wE.eq_20, Ev.wE.eq_21, Ev.wE.eq_22, Ev.wE.eq_23, Ev.wE.eq_24, Ev.wE.eq_25, Ev.wE.eq_26, Ev.wE.eq_27, Ev.wE_var, Ev.optK_some, Ev.selR_val, Ev.selR_own, Ev.rdS_val, Ev.rdS_own, Ev.fzS_val, Ev.fzS_own, Ev.argS_val, Ev.argS_own, Ev.wT, Ev.wAs, Ev.wEs, Ev.wI, Ev.wO, Ev.wG_nam, Ev.wG_tup, Ev.wGs_nil, Ev.wGs_cons, Ev.Tg.n, Ev.wipeE, Ev.restE, List.getD_cons_zero, List.getD_cons_succ, Ev.same2, Ev.items, Ev.rdK_val, Ev.rdK_tmp, Ev.rdK_at, Ev.rdsK, Ev.fzK_val, Ev.fzK_tmp, Ev.fzK_at, Ev.stW_val, Ev.stW_tmp, Ev.stW_bor, Ev.nbW_val, Ev.nbW_tmp, Ev.nbW_bor, Ev.binW_add, Ev.binW_sub, Ev.binW_mul, Ev.binW_div, Ev.binW_mod, Ev.binW_pow, Ev.binW_lst, Ev.binW_tup, Ev.binW_str, Ev.binW_rep, Ev.cmpW_lt, Ev.cmpW_le, Ev.cmpW_gt, Ev.cmpW_ge, Ev.cmpW_eq, Ev.cmpW_ne, Ev.cmpW_is, Ev.cmpW_isN, Ev.cmpW_inT, Ev.cmpW_inL, Ev.cmpW_niT, Ev.cmpW_niL, Ev.ixW_tup, Ev.ixW_lst, Ev.bltW_abs, Ev.bltW_int, Ev.bltW_gcd, Ev.bltW_lenT, Ev.bltW_lenL, Ev.bltW_scr, Ev.bltW_listL, Ev.bltW_listT, Ev.bltW_tupL, Ev.bltW_tupT, List.replicate, List.append_nil, List.cons_append, List.nil_append, List.getElem?_cons_zero, List.getElem?_cons_succ, List.length_cons, List.length_nil, List.set_cons_zero, List.set_cons_succ, Ev.argsOf, Ev.argOf_val, Ev.argOf_at, Ev.bors, Ev.backs_val, Ev.backs_bor, Ev.backs_nil, Ev.loses, Ev.retW_val, Ev.retW_tmp, Ev.parOf, Ev.outsOf, List.replicate_zero, Nat.sub_self, Ev.isOwnL, List.getElem?_nil, reduceCtorEq, decide_eq_true_eq, Ev.cmpOk_int, Ev.cmpOk_bl, Ev.cmpOk_non, Ev.cmpOk_nil, Ev.cmpOk_nilT, Ev.peq_int, Ev.peq_bl, Ev.peq_str, Ev.peq_non, Ev.peq_nil, Ev.peq_nilT, Ev.peq_consL, Ev.isT_non_int, Ev.isT_non_bool, Ev.isT_non_str, Ev.isT_non_tuple, Ev.isT_non_list, Ev.tyOk_non, Ev.isT_bl_int, Ev.isT_bl_bool, Ev.isT_bl_str, Ev.isT_bl_tuple, Ev.isT_bl_list, Ev.tyOk_bl, Ev.isT_int_int, Ev.isT_int_bool, Ev.isT_int_str, Ev.isT_int_tuple, Ev.isT_int_list, Ev.tyOk_int, Ev.isT_str_int, Ev.isT_str_bool, Ev.isT_str_str, Ev.isT_str_tuple, Ev.isT_str_list, Ev.tyOk_str, Ev.isT_tup_int, Ev.isT_tup_bool, Ev.isT_tup_str, Ev.isT_tup_tuple, Ev.isT_tup_list, Ev.tyOk_tup, Ev.isT_lst_int, Ev.isT_lst_bool, Ev.isT_lst_str, Ev.isT_lst_tuple, Ev.isT_lst_list, Ev.tyOk_lst, List.not_mem_nil, not_false_eq_true, List.nodup_cons, Bool.false_eq_true, ↓reduceIte, List.nodup_nil, true_and, and_true])
    have hr2 : r2.natAbs < 2 ^ 400 := Nat.lt_of_lt_of_le (show r2.natAbs < 2 ^ 30 from by omega) (Nat.pow_le_pow_right (by decide) (by decide))
    refine ⟨p9, small_mul hr2 (by decide), p9, a2, b2, 1000000000, rfl, hc2, by decide, by decide, fun a3 b3 r3 hc3 q2 q3 => ?_⟩
    (simp (config := { maxSteps := 100000000 }) only [Ev.wS, Ev.wE.eq_1, Ev.wE.eq_2, Ev.wE.eq_3, Ev.wE.eq_4, Ev.wE.eq_6, Ev.wE.eq_7, Ev.wE.eq_8, Ev.wE.eq_9, Ev.wE.eq_10, Ev.wE.eq_11, Ev.wE.eq_12, Ev.wE.eq_13, Ev.wE.eq_14, Ev.wE.eq_15, Ev.wE.eq_16, Ev.wE.eq_17, Ev.wE.eq_18, Ev.wE.eq_19, Ev.wE.eq_20, Ev.wE.eq_21, Ev.wE.eq_22, Ev.wE.eq_23, Ev.wE.eq_24, Ev.wE.eq_25, Ev.wE.eq_26, Ev.wE.eq_27, Ev.wE_var, Ev.optK_some, Ev.selR_val, Ev.selR_own, Ev.rdS_val, Ev.rdS_own, Ev.fzS_val, Ev.fzS_own, Ev.argS_val, Ev.argS_own, Ev.wT, Ev.wAs, Ev.wEs, Ev.wI, Ev.wO, Ev.wG_nam, Ev.wG_tup, Ev.wGs_nil, Ev.wGs_cons, Ev.Tg.n, Ev.wipeE, Ev.restE, List.getD_cons_zero, List.getD_cons_succ, Ev.same2, Ev.items, Ev.rdK_val, Ev.rdK_tmp, Ev.rdK_at, Ev.rdsK, Ev.fzK_val, Ev.fzK_tmp, Ev.fzK_at, Ev.stW_val, Ev.stW_tmp, Ev.stW_bor, Ev.nbW_val, Ev.nbW_tmp, Ev.nbW_bor, Ev.binW_add, Ev.binW_sub, Ev.binW_mul, Ev.binW_div, Ev.binW_mod, Ev.binW_pow, Ev.binW_lst, Ev.binW_tup, Ev.binW_str, Ev.binW_rep, Ev.cmpW_lt, Ev.cmpW_le, Ev.cmpW_gt, Ev.cmpW_ge, Ev.cmpW_eq, Ev.cmpW_ne, Ev.cmpW_is, Ev.cmpW_isN, Ev.cmpW_inT, Ev.cmpW_inL, Ev.cmpW_niT, Ev.cmpW_niL, Ev.ixW_tup, Ev.ixW_lst, Ev.bltW_abs, Ev.bltW_int, Ev.bltW_gcd, Ev.bltW_lenT, Ev.bltW_lenL, Ev.bltW_scr, Ev.bltW_listL, Ev.bltW_listT, Ev.bltW_tupL, Ev.bltW_tupT, List.replicate, List.append_nil, List.cons_append, List.nil_append, List.getElem?_cons_zero, List.getElem?_cons_succ, List.length_cons, List.length_nil, List.set_cons_zero, List.set_cons_succ, Ev.argsOf, Ev.argOf_val, Ev.argOf_at, Ev.bors, Ev.backs_val, Ev.backs_bor, Ev.backs_nil, Ev.loses, Ev.retW_val, Ev.retW_tmp, Ev.parOf, Ev.outsOf, List.replicate_zero, Nat.sub_self, Ev.isOwnL, List.getElem?_nil, reduceCtorEq, decide_eq_true_eq, Ev.cmpOk_int, Ev.cmpOk_bl, Ev.cmpOk_non, Ev.cmpOk_nil, Ev.cmpOk_nilT, Ev.peq_int, Ev.peq_bl, Ev.peq_str, Ev.peq_non, Ev.peq_nil, Ev.peq_nilT, Ev.peq_consL, Ev.isT_non_int, Ev.isT_non_bool, Ev.isT_non_str, Ev.isT_non_tuple, Ev.isT_non_list, Ev.tyOk_non, Ev.isT_bl_int, Ev.isT_bl_bool, Ev.isT_bl_str, Ev.isT_bl_tuple, Ev.isT_bl_list, Ev.tyOk_bl, Ev.isT_int_int, Ev.isT_int_bool, Ev.isT_int_str, Ev.isT_int_tuple, Ev.isT_int_list, Ev.tyOk_int, Ev.isT_str_int, Ev.isT_str_bool, Ev.isT_str_str, Ev.isT_str_tuple, Ev.isT_str_list, Ev.tyOk_str, Ev.isT_tup_int, Ev.isT_tup_bool, Ev.isT_tup_str, Ev.isT_tup_tuple, Ev.isT_tup_list, Ev.tyOk_tup, Ev.isT_lst_int, Ev.isT_lst_bool, Ev.isT_lst_str, Ev.isT_lst_tuple, Ev.isT_lst_list, Ev.tyOk_lst, List.not_mem_nil, not_false_eq_true, List.nodup_cons, Bool.false_eq_true, ↓reduceIte, List.nodup_nil, true_and, and_true])
    obtain ⟨f0, f1⟩ := fmod_in (x := r * 1000000000000000000 + r2 * 1000000000 + r3) (m := n + 1) (by omega)
    exact ⟨by omega, k1 _ ⟨a3, b3, _, _, rfl, hc3, f0, by omega⟩⟩
  · obtain ⟨a', b', r, z, rfl, hc', hr0, hr1⟩ := h
    (simp (config := { maxSteps := 100000000 }) only [Ev.wS, Ev.wE.eq_1, Ev.wE.eq_2, Ev.wE.eq_3, Ev.wE.eq_4, Ev.wE.eq_6, Ev.wE.eq_7, Ev.wE.eq_8, Ev.wE.eq_9, Ev.wE.eq_10, Ev.wE.eq_11, Ev.wE.eq_12, Ev.wE.eq_13, Ev.wE.eq_14, Ev.wE.eq_15, Ev.wE.eq_16, Ev.wE.eq_17, Ev.wE.eq_18, Ev.wE.eq_19, Ev.wE.eq_20, Ev.wE.eq_21, Ev.wE.eq_22, Ev.wE.eq_23, Ev.wE.eq_24, Ev.wE.eq_25, Ev.wE.eq_26, Ev.wE.eq_27, Ev.wE_var, Ev.optK_some, Ev.selR_val, Ev.selR_own, Ev.rdS_val, Ev.rdS_own, Ev.fzS_val, Ev.fzS_own, Ev.argS_val, Ev.argS_own, Ev.wT, Ev.wAs, Ev.wEs, Ev.wI, Ev.wO, Ev.wG_nam, Ev.wG_tup, Ev.wGs_nil, Ev.wGs_cons, Ev.Tg.n, Ev.wipeE, Ev.restE, List.getD_cons_zero, List.getD_cons_succ, Ev.same2, Ev.items, Ev.rdK_val, Ev.rdK_tmp, Ev.rdK_at, Ev.rdsK, Ev.fzK_val, Ev.fzK_tmp, Ev.fzK_at, Ev.stW_val, Ev.stW_tmp, Ev.stW_bor, Ev.nbW_val, Ev.nbW_tmp, Ev.nbW_bor, Ev.binW_add, Ev.binW_sub, Ev.binW_mul, Ev.binW_div, Ev.binW_mod, Ev.binW_pow, Ev.binW_lst, Ev.binW_tup, Ev.binW_str, Ev.binW_rep, Ev.cmpW_lt, Ev.cmpW_le, Ev.cmpW_gt, Ev.cmpW_ge, Ev.cmpW_eq, Ev.cmpW_ne, Ev.cmpW_is, Ev.cmpW_isN, Ev.cmpW_inT, Ev.cmpW_inL, Ev.cmpW_niT, Ev.cmpW_niL, Ev.ixW_tup, Ev.ixW_lst, Ev.bltW_abs, Ev.bltW_int, Ev.bltW_gcd, Ev.bltW_lenT, Ev.bltW_lenL, Ev.bltW_scr, Ev.bltW_listL, Ev.bltW_listT, Ev.bltW_tupL, Ev.bltW_tupT, List.replicate, List.append_nil, List.cons_append, List.nil_append, List.getElem?_cons_zero, List.getElem?_cons_succ, List.length_cons, List.length_nil, List.set_cons_zero, List.set_cons_succ, Ev.argsOf, Ev.argOf_val, Ev.argOf_at, Ev.bors, Ev.backs_val, Ev.backs_bor, Ev.backs_nil, Ev.loses, Ev.retW_val, Ev.retW_tmp, Ev.parOf, Ev.outsOf, List.replicate_zero, Nat.sub_self, Ev.isOwnL, List.getElem?_nil, reduceCtorEq, decide_eq_true_eq, Ev.cmpOk_int, Ev.cmpOk_bl, Ev.cmpOk_non, Ev.cmpOk_nil, Ev.cmpOk_nilT, Ev.peq_int, Ev.peq_bl, Ev.peq_str, Ev.peq_non, Ev.peq_nil, Ev.peq_nilT, Ev.peq_consL, Ev.isT_non_int, Ev.isT_non_bool, Ev.isT_non_str, Ev.isT_non_tuple, Ev.isT_non_list, Ev.tyOk_non, Ev.isT_bl_int, Ev.isT_bl_bool, Ev.isT_bl_str, Ev.isT_bl_tuple, Ev.isT_bl_list, Ev.tyOk_bl, Ev.isT_int_int, Ev.isT_int_bool, Ev.isT_int_str, Ev.isT_int_tuple, Ev.isT_int_list, Ev.tyOk_int, Ev.isT_str_int, Ev.isT_str_bool, Ev.isT_str_str, Ev.isT_str_tuple, Ev.isT_str_list, Ev.tyOk_str, Ev.isT_tup_int, Ev.isT_tup_bool, Ev.isT_tup_str, Ev.isT_tup_tuple, Ev.isT_tup_list, Ev.tyOk_tup, Ev.isT_lst_int, Ev.isT_lst_bool, Ev.isT_lst_str, Ev.isT_lst_tuple, Ev.isT_lst_list, Ev.tyOk_lst, List.not_mem_nil, not_false_eq_true, List.nodup_cons, Bool.false_eq_true, ↓reduceIte, List.nodup_nil, true_and, and_true])
    exact hk _ _ _ hc' hr0 hr1
/-- made plain, it is a quotient -/
theorem plain_quo {t b : Int} (ht : -GR ≤ t ∧ t ≤ GR) (hb : 1 ≤ b ∧ b ≤ GR) : ∃ u v, plainP t b = .tup [.int u, .int v] ∧ isQuoP (.tup [.int u, .int v]) = true := by
  have hg : 0 < Nat.gcd t.natAbs b.natAbs := gcd_pos (by omega)
  have es : sgn t b = ((Nat.gcd t.natAbs b.natAbs : Nat) : Int) := by unfold sgn; rw [if_pos (by omega)]
  obtain ⟨u, hu⟩ : ((Nat.gcd t.natAbs b.natAbs : Nat) : Int) ∣ t := Int.ofNat_dvd_left.mpr (Nat.gcd_dvd_left _ _)
  obtain ⟨v, hv⟩ : ((Nat.gcd t.natAbs b.natAbs : Nat) : Int) ∣ b := Int.ofNat_dvd_left.mpr (Nat.gcd_dvd_right _ _)
  generalize hG : Nat.gcd t.natAbs b.natAbs = g at *
  have hg0 : (g : Int) ≠ 0 := by omega
  have e1 : t.fdiv (g : Int) = u := by
    rw [Int.fdiv_eq_ediv_of_nonneg _ (by omega), hu]
    exact Int.mul_ediv_cancel_left _ hg0
  have e2 : b.fdiv (g : Int) = v := by
    rw [Int.fdiv_eq_ediv_of_nonneg _ (by omega), hv]
    exact Int.mul_ediv_cancel_left _ hg0
  refine ⟨u, v, by unfold plainP; rw [es, e1, e2], ?_⟩
  have cop : Nat.gcd u.natAbs v.natAbs = 1 := by
    have h1 : Nat.gcd (g * u.natAbs) (g * v.natAbs) = g * Nat.gcd u.natAbs v.natAbs := Nat.gcd_mul_left _ _ _
    have h2 : t.natAbs = g * u.natAbs := by rw [hu, Int.natAbs_mul, Int.natAbs_natCast]
    have h3 : b.natAbs = g * v.natAbs := by rw [hv, Int.natAbs_mul, Int.natAbs_natCast]
    rw [← h2, ← h3, hG] at h1
    have h4 : g * 1 = g * Nat.gcd u.natAbs v.natAbs := by omega
    exact (Nat.eq_of_mul_eq_mul_left hg h4).symm
  have hv1 : 1 ≤ v := by
    rcases Int.lt_or_le v 1 with h | h
    · have : (g : Int) * v ≤ 0 := Int.mul_nonpos_of_nonneg_of_nonpos (by omega) (by omega)
      omega
    · exact h
  have le : ∀ w : Int, w.natAbs ≤ g * w.natAbs := fun w => Nat.le_mul_of_pos_left _ hg
  have h2 : t.natAbs = g * u.natAbs := by rw [hu, Int.natAbs_mul, Int.natAbs_natCast]
  have h3 : b.natAbs = g * v.natAbs := by rw [hv, Int.natAbs_mul, Int.natAbs_natCast]
  have l1 := le u
  have l2 := le v
  simp only [isQuoP, isWholeP, copP, cop, decide_true, Bool.and_true, Bool.and_eq_true, decide_eq_true_eq]
  exact ⟨⟨by omega, by omega⟩, hv1, by omega⟩
def S__law_quotient : FnS := fun ss Kp _ => ∃ a b, ss = [.own (.lst [.int a, .int b])] ∧ cupOk a b ∧ ∀ a' b' u v, cupOk a' b' → isQuoP (.tup [.int u, .int v]) = true → Kp false (.tup [.int u, .int v]) [.own (.lst [.int a', .int b'])]
theorem ok__law_quotient {Φ : Tbl} (h1 : Φ.fn "_law_some" = some S__law_some) (h2 : Φ.fn "_law_great" = some S__law_great) (h3 : Φ.fn "_law_plain" = some S__law_plain) : ∀ ss Kp Xk, S__law_quotient ss Kp Xk → bodyS Φ 1 2 B__law_quotient ss Kp Xk := by
  rintro ss Kp Xk ⟨a, b, rfl, hc, hk⟩
  refine ⟨rfl, ?_⟩
  unfold B__law_quotient
  (simp (config := { maxSteps := 100000000 }) only [Ev.wS, Ev.wE.eq_1, Ev.wE.eq_2, Ev.wE.eq_3, Ev.wE.eq_4, Ev.wE.eq_6, Ev.wE.eq_7, Ev.wE.eq_8, Ev.wE.eq_9, Ev.wE.eq_10, Ev.wE.eq_11, Ev.wE.eq_12, Ev.wE.eq_13, Ev.wE.eq_14, Ev.wE.eq_15, Ev.wE.eq_16, Ev.wE.eq_17, Ev.wE.eq_18, Ev.wE.eq_19, Ev.wE.eq_20, Ev.wE.eq_21, Ev.wE.eq_22, Ev.wE.eq_23, Ev.wE.eq_24, Ev.wE.eq_25, Ev.wE.eq_26, Ev.wE.eq_27, Ev.wE_var, Ev.optK_some, Ev.selR_val, Ev.selR_own, Ev.rdS_val, Ev.rdS_own, Ev.fzS_val, Ev.fzS_own, Ev.argS_val, Ev.argS_own, Ev.wT, Ev.wAs, Ev.wEs, Ev.wI, Ev.wO, Ev.wG_nam, Ev.wG_tup, Ev.wGs_nil, Ev.wGs_cons, Ev.Tg.n, Ev.wipeE, Ev.restE, List.getD_cons_zero, List.getD_cons_succ, Ev.same2, Ev.items, Ev.rdK_val, Ev.rdK_tmp, Ev.rdK_at, Ev.rdsK, Ev.fzK_val, Ev.fzK_tmp, Ev.fzK_at, Ev.stW_val, Ev.stW_tmp, Ev.stW_bor, Ev.nbW_val, Ev.nbW_tmp, Ev.nbW_bor, Ev.binW_add, Ev.binW_sub, Ev.binW_mul, Ev.binW_div, Ev.binW_mod, Ev.binW_pow, Ev.binW_lst, Ev.binW_tup, Ev.binW_str, Ev.binW_rep, Ev.cmpW_lt, Ev.cmpW_le, Ev.cmpW_gt, Ev.cmpW_ge, Ev.cmpW_eq, Ev.cmpW_ne, Ev.cmpW_is, Ev.cmpW_isN, Ev.cmpW_inT, Ev.cmpW_inL, Ev.cmpW_niT, Ev.cmpW_niL, Ev.ixW_tup, Ev.ixW_lst, Ev.bltW_abs, Ev.bltW_int, Ev.bltW_gcd, Ev.bltW_lenT, Ev.bltW_lenL, Ev.bltW_scr, Ev.bltW_listL, Ev.bltW_listT, Ev.bltW_tupL, Ev.bltW_tupT, List.replicate, List.append_nil, List.cons_append, List.nil_append, List.getElem?_cons_zero, List.getElem?_cons_succ, List.length_cons, List.length_nil, List.set_cons_zero, List.set_cons_succ, Ev.argsOf, Ev.argOf_val, Ev.argOf_at, Ev.bors, Ev.backs_val, Ev.backs_bor, Ev.backs_nil, Ev.loses, Ev.retW_val, Ev.retW_tmp, Ev.parOf, Ev.outsOf, List.replicate_zero, Nat.sub_self, Ev.isOwnL, List.getElem?_nil, reduceCtorEq, decide_eq_true_eq, Ev.cmpOk_int, Ev.cmpOk_bl, Ev.cmpOk_non, Ev.cmpOk_nil, Ev.cmpOk_nilT, Ev.peq_int, Ev.peq_bl, Ev.peq_str, Ev.peq_non, Ev.peq_nil, Ev.peq_nilT, Ev.peq_consL, Ev.isT_non_int, Ev.isT_non_bool, Ev.isT_non_str, Ev.isT_non_tuple, Ev.isT_non_list, Ev.tyOk_non, Ev.isT_bl_int, Ev.isT_bl_bool, Ev.isT_bl_str, Ev.isT_bl_tuple, Ev.isT_bl_list, Ev.tyOk_bl, Ev.isT_int_int, Ev.isT_int_bool, Ev.isT_int_str, Ev.isT_int_tuple, Ev.isT_int_list, Ev.tyOk_int, Ev.isT_str_int, Ev.isT_str_bool, Ev.isT_str_str, Ev.isT_str_tuple, Ev.isT_str_list, Ev.tyOk_str, Ev.isT_tup_int, Ev.isT_tup_bool, Ev.isT_tup_str, Ev.isT_tup_tuple, Ev.isT_tup_list, Ev.tyOk_tup, Ev.isT_lst_int, Ev.isT_lst_bool, Ev.isT_lst_str, Ev.isT_lst_tuple, Ev.isT_lst_list, Ev.tyOk_lst, List.not_mem_nil, not_false_eq_true, List.nodup_cons, Bool.false_eq_true, ↓reduceIte, List.nodup_nil, true_and, and_true])
  simp only [h1, h2, h3]
  have p12 : CPow 10 12 := by unfold CPow; decide
  have p60 : CPow 10 60 := by unfold CPow; decide
  have e12 : (10 : Int) ^ (12 : Int).toNat = 1000000000000 := by decide
  have e60 : (10 : Int) ^ (60 : Int).toNat = GR := by decide
  rw [e12, e60]
  refine ⟨p12, p60, by decide, a, b, _, rfl, hc, by decide, by decide, fun a1 b1 x hc1 hx => ?_⟩
  obtain ⟨n, rfl, hn⟩ : ∃ n : Int, x = .int n ∧ (1 ≤ n ∧ n ≤ GR) := by
    simp only [List.mem_cons, List.not_mem_nil, or_false] at hx
    rcases hx with e | e | e | e <;> subst e
    · exact ⟨_, rfl, by decide⟩
    · exact ⟨_, rfl, by decide⟩
    · exact ⟨_, rfl, by decide⟩
    · exact ⟨_, rfl, by decide⟩
  (simp (config := { maxSteps := 100000000 }) only [Ev.wS, Ev.wE.eq_1, Ev.wE.eq_2, Ev.wE.eq_3, Ev.wE.eq_4, Ev.wE.eq_6, Ev.wE.eq_7, Ev.wE.eq_8, Ev.wE.eq_9, Ev.wE.eq_10, Ev.wE.eq_11, Ev.wE.eq_12, Ev.wE.eq_13, Ev.wE.eq_14, Ev.wE.eq_15, Ev.wE.eq_16, Ev.wE.eq_17, Ev.wE.eq_18, Ev.wE.eq_19, Ev.wE.eq_20, Ev.wE.eq_21, Ev.wE.eq_22, Ev.wE.eq_23, Ev.wE.eq_24, Ev.wE.eq_25, Ev.wE.eq_26, Ev.wE.eq_27, Ev.wE_var, Ev.optK_some, Ev.selR_val, Ev.selR_own, Ev.rdS_val, Ev.rdS_own, Ev.fzS_val, Ev.fzS_own, Ev.argS_val, Ev.argS_own, Ev.wT, Ev.wAs, Ev.wEs, Ev.wI, Ev.wO, Ev.wG_nam, Ev.wG_tup, Ev.wGs_nil, Ev.wGs_cons, Ev.Tg.n, Ev.wipeE, Ev.restE, List.getD_cons_zero, List.getD_cons_succ, Ev.same2, Ev.items, Ev.rdK_val, Ev.rdK_tmp, Ev.rdK_at, Ev.rdsK, Ev.fzK_val, Ev.fzK_tmp, Ev.fzK_at, Ev.stW_val, Ev.stW_tmp, Ev.stW_bor, Ev.nbW_val, Ev.nbW_tmp, Ev.nbW_bor, Ev.binW_add, Ev.binW_sub, Ev.binW_mul, Ev.binW_div, Ev.binW_mod, Ev.binW_pow, Ev.binW_lst, Ev.binW_tup, Ev.binW_str, Ev.binW_rep, Ev.cmpW_lt, Ev.cmpW_le, Ev.cmpW_gt, Ev.cmpW_ge, Ev.cmpW_eq, Ev.cmpW_ne, Ev.cmpW_is, Ev.cmpW_isN, Ev.cmpW_inT, Ev.cmpW_inL, Ev.cmpW_niT, Ev.cmpW_niL, Ev.ixW_tup, Ev.ixW_lst, Ev.bltW_abs, Ev.bltW_int, Ev.bltW_gcd, Ev.bltW_lenT, Ev.bltW_lenL, Ev.bltW_scr, Ev.bltW_listL, Ev.bltW_listT, Ev.bltW_tupL, Ev.bltW_tupT, List.replicate, List.append_nil, List.cons_append, List.nil_append, List.getElem?_cons_zero, List.getElem?_cons_succ, List.length_cons, List.length_nil, List.set_cons_zero, List.set_cons_succ, Ev.argsOf, Ev.argOf_val, Ev.argOf_at, Ev.bors, Ev.backs_val, Ev.backs_bor, Ev.backs_nil, Ev.loses, Ev.retW_val, Ev.retW_tmp, Ev.parOf, Ev.outsOf, List.replicate_zero, Nat.sub_self, Ev.isOwnL, List.getElem?_nil, reduceCtorEq, decide_eq_true_eq, Ev.cmpOk_int, Ev.cmpOk_bl, Ev.cmpOk_non, Ev.cmpOk_nil, Ev.cmpOk_nilT, Ev.peq_int, Ev.peq_bl, Ev.peq_str, Ev.peq_non, Ev.peq_nil, Ev.peq_nilT, Ev.peq_consL, Ev.isT_non_int, Ev.isT_non_bool, Ev.isT_non_str, Ev.isT_non_tuple, Ev.isT_non_list, Ev.tyOk_non, Ev.isT_bl_int, Ev.isT_bl_bool, Ev.isT_bl_str, Ev.isT_bl_tuple, Ev.isT_bl_list, Ev.tyOk_bl, Ev.isT_int_int, Ev.isT_int_bool, Ev.isT_int_str, Ev.isT_int_tuple, Ev.isT_int_list, Ev.tyOk_int, Ev.isT_str_int, Ev.isT_str_bool, Ev.isT_str_str, Ev.isT_str_tuple, Ev.isT_str_list, Ev.tyOk_str, Ev.isT_tup_int, Ev.isT_tup_bool, Ev.isT_tup_str, Ev.isT_tup_tuple, Ev.isT_tup_list, Ev.tyOk_tup, Ev.isT_lst_int, Ev.isT_lst_bool, Ev.isT_lst_str, Ev.isT_lst_tuple, Ev.isT_lst_list, Ev.tyOk_lst, List.not_mem_nil, not_false_eq_true, List.nodup_cons, Bool.false_eq_true, ↓reduceIte, List.nodup_nil, true_and, and_true])
  refine ⟨a1, b1, n, rfl, hc1, by omega, hn.2, fun a2 b2 r hc2 r0 r1 => ?_⟩
  (simp (config := { maxSteps := 100000000 }) only [Ev.wS, Ev.wE.eq_1, Ev.wE.eq_2, Ev.wE.eq_3, Ev.wE.eq_4, Ev.wE.eq_6, Ev.wE.eq_7, Ev.wE.eq_8, Ev.wE.eq_9, Ev.wE.eq_10, Ev.wE.eq_11, Ev.wE.eq_12, Ev.wE.eq_13, Ev.wE.eq_14, Ev.wE.eq_15, Ev.wE.eq_16, Ev.wE.eq_17, Ev.wE.eq_18, Ev.wE.eq_19, Ev.wE.eq_20, Ev.wE.eq_21, Ev.wE.eq_22, Ev.wE.eq_23, Ev.wE.eq_24, Ev.wE.eq_25, Ev.wE.eq_26, Ev.wE.eq_27, Ev.wE_var, Ev.optK_some, Ev.selR_val, Ev.selR_own, Ev.rdS_val, Ev.rdS_own, Ev.fzS_val, Ev.fzS_own, Ev.argS_val, Ev.argS_own, Ev.wT, Ev.wAs, Ev.wEs, Ev.wI, Ev.wO, Ev.wG_nam, Ev.wG_tup, Ev.wGs_nil, Ev.wGs_cons, Ev.Tg.n, Ev.wipeE, Ev.restE, List.getD_cons_zero, List.getD_cons_succ, Ev.same2, Ev.items, Ev.rdK_val, Ev.rdK_tmp, Ev.rdK_at, Ev.rdsK, Ev.fzK_val, Ev.fzK_tmp, Ev.fzK_at, Ev.stW_val, Ev.stW_tmp, Ev.stW_bor, Ev.nbW_val, Ev.nbW_tmp, Ev.nbW_bor, Ev.binW_add, Ev.binW_sub, Ev.binW_mul, Ev.binW_div, Ev.binW_mod, Ev.binW_pow, Ev.binW_lst, Ev.binW_tup, Ev.binW_str, Ev.binW_rep, Ev.cmpW_lt, Ev.cmpW_le, Ev.cmpW_gt, Ev.cmpW_ge, Ev.cmpW_eq, Ev.cmpW_ne, Ev.cmpW_is, Ev.cmpW_isN, Ev.cmpW_inT, Ev.cmpW_inL, Ev.cmpW_niT, Ev.cmpW_niL, Ev.ixW_tup, Ev.ixW_lst, Ev.bltW_abs, Ev.bltW_int, Ev.bltW_gcd, Ev.bltW_lenT, Ev.bltW_lenL, Ev.bltW_scr, Ev.bltW_listL, Ev.bltW_listT, Ev.bltW_tupL, Ev.bltW_tupT, List.replicate, List.append_nil, List.cons_append, List.nil_append, List.getElem?_cons_zero, List.getElem?_cons_succ, List.length_cons, List.length_nil, List.set_cons_zero, List.set_cons_succ, Ev.argsOf, Ev.argOf_val, Ev.argOf_at, Ev.bors, Ev.backs_val, Ev.backs_bor, Ev.backs_nil, Ev.loses, Ev.retW_val, Ev.retW_tmp, Ev.parOf, Ev.outsOf, List.replicate_zero, Nat.sub_self, Ev.isOwnL, List.getElem?_nil, reduceCtorEq, decide_eq_true_eq, Ev.cmpOk_int, Ev.cmpOk_bl, Ev.cmpOk_non, Ev.cmpOk_nil, Ev.cmpOk_nilT, Ev.peq_int, Ev.peq_bl, Ev.peq_str, Ev.peq_non, Ev.peq_nil, Ev.peq_nilT, Ev.peq_consL, Ev.isT_non_int, Ev.isT_non_bool, Ev.isT_non_str, Ev.isT_non_tuple, Ev.isT_non_list, Ev.tyOk_non, Ev.isT_bl_int, Ev.isT_bl_bool, Ev.isT_bl_str, Ev.isT_bl_tuple, Ev.isT_bl_list, Ev.tyOk_bl, Ev.isT_int_int, Ev.isT_int_bool, Ev.isT_int_str, Ev.isT_int_tuple, Ev.isT_int_list, Ev.tyOk_int, Ev.isT_str_int, Ev.isT_str_bool, Ev.isT_str_str, Ev.isT_str_tuple, Ev.isT_str_list, Ev.tyOk_str, Ev.isT_tup_int, Ev.isT_tup_bool, Ev.isT_tup_str, Ev.isT_tup_tuple, Ev.isT_tup_list, Ev.tyOk_tup, Ev.isT_lst_int, Ev.isT_lst_bool, Ev.isT_lst_str, Ev.isT_lst_tuple, Ev.isT_lst_list, Ev.tyOk_lst, List.not_mem_nil, not_false_eq_true, List.nodup_cons, Bool.false_eq_true, ↓reduceIte, List.nodup_nil, true_and, and_true])
  refine ⟨by decide, a2, b2, _, rfl, hc2, by decide, by decide, fun a3 b3 y hc3 hy => ?_⟩
  obtain ⟨s, rfl, hs⟩ : ∃ s : Int, y = .int s ∧ (s = 1 ∨ s = -1) := by
    simp only [List.mem_cons, List.not_mem_nil, or_false] at hy
    rcases hy with e | e <;> subst e
    · exact ⟨_, rfl, .inl rfl⟩
    · exact ⟨_, rfl, .inr rfl⟩
  have ht : -GR ≤ r * s ∧ r * s ≤ GR := by
    rcases hs with rfl | rfl <;> constructor <;> omega
  (simp (config := { maxSteps := 100000000 }) only [Ev.wS, Ev.wE.eq_1, Ev.wE.eq_2, Ev.wE.eq_3, Ev.wE.eq_4, Ev.wE.eq_6, Ev.wE.eq_7, Ev.wE.eq_8, Ev.wE.eq_9, Ev.wE.eq_10, Ev.wE.eq_11, Ev.wE.eq_12, Ev.wE.eq_13, Ev.wE.eq_14, Ev.wE.eq_15, Ev.wE.eq_16, Ev.wE.eq_17, Ev.wE.eq_18, Ev.wE.eq_19, Ev.wE.eq_20, Ev.wE.eq_21, Ev.wE.eq_22, Ev.wE.eq_23, Ev.wE.eq_24, Ev.wE.eq_25, Ev.wE.eq_26, Ev.wE.eq_27, Ev.wE_var, Ev.optK_some, Ev.selR_val, Ev.selR_own, Ev.rdS_val, Ev.rdS_own, Ev.fzS_val, Ev.fzS_own, Ev.argS_val, Ev.argS_own, Ev.wT, Ev.wAs, Ev.wEs, Ev.wI, Ev.wO, Ev.wG_nam, Ev.wG_tup, Ev.wGs_nil, Ev.wGs_cons, Ev.Tg.n, Ev.wipeE, Ev.restE, List.getD_cons_zero, List.getD_cons_succ, Ev.same2, Ev.items, Ev.rdK_val, Ev.rdK_tmp, Ev.rdK_at, Ev.rdsK, Ev.fzK_val, Ev.fzK_tmp, Ev.fzK_at, Ev.stW_val, Ev.stW_tmp, Ev.stW_bor, Ev.nbW_val, Ev.nbW_tmp, Ev.nbW_bor, Ev.binW_add, Ev.binW_sub, Ev.binW_mul, Ev.binW_div, Ev.binW_mod, Ev.binW_pow, Ev.binW_lst, Ev.binW_tup, Ev.binW_str, Ev.binW_rep, Ev.cmpW_lt, Ev.cmpW_le, Ev.cmpW_gt, Ev.cmpW_ge, Ev.cmpW_eq, Ev.cmpW_ne, Ev.cmpW_is, Ev.cmpW_isN, Ev.cmpW_inT, Ev.cmpW_inL, Ev.cmpW_niT, Ev.cmpW_niL, Ev.ixW_tup, Ev.ixW_lst, Ev.bltW_abs, Ev.bltW_int, Ev.bltW_gcd, Ev.bltW_lenT, Ev.bltW_lenL, Ev.bltW_scr, Ev.bltW_listL, Ev.bltW_listT, Ev.bltW_tupL, Ev.bltW_tupT, List.replicate, List.append_nil, List.cons_append, List.nil_append, List.getElem?_cons_zero, List.getElem?_cons_succ, List.length_cons, List.length_nil, List.set_cons_zero, List.set_cons_succ, Ev.argsOf, Ev.argOf_val, Ev.argOf_at, Ev.bors, Ev.backs_val, Ev.backs_bor, Ev.backs_nil, Ev.loses, Ev.retW_val, Ev.retW_tmp, Ev.parOf, Ev.outsOf, List.replicate_zero, Nat.sub_self, Ev.isOwnL, List.getElem?_nil, reduceCtorEq, decide_eq_true_eq, Ev.cmpOk_int, Ev.cmpOk_bl, Ev.cmpOk_non, Ev.cmpOk_nil, Ev.cmpOk_nilT, Ev.peq_int, Ev.peq_bl, Ev.peq_str, Ev.peq_non, Ev.peq_nil, Ev.peq_nilT, Ev.peq_consL, Ev.isT_non_int, Ev.isT_non_bool, Ev.isT_non_str, Ev.isT_non_tuple, Ev.isT_non_list, Ev.tyOk_non, Ev.isT_bl_int, Ev.isT_bl_bool, Ev.isT_bl_str, Ev.isT_bl_tuple, Ev.isT_bl_list, Ev.tyOk_bl, Ev.isT_int_int, Ev.isT_int_bool, Ev.isT_int_str, Ev.isT_int_tuple, Ev.isT_int_list, Ev.tyOk_int, Ev.isT_str_int, Ev.isT_str_bool, Ev.isT_str_str, Ev.isT_str_tuple, Ev.isT_str_list, Ev.tyOk_str, Ev.isT_tup_int, Ev.isT_tup_bool, Ev.isT_tup_str, Ev.isT_tup_tuple, Ev.isT_tup_list, Ev.tyOk_tup, Ev.isT_lst_int, Ev.isT_lst_bool, Ev.isT_lst_str, Ev.isT_lst_tuple, Ev.isT_lst_list, Ev.tyOk_lst, List.not_mem_nil, not_false_eq_true, List.nodup_cons, Bool.false_eq_true, ↓reduceIte, List.nodup_nil, true_and, and_true])
  refine ⟨small_mul (Nat.lt_trans (abs_GR ⟨by omega, by omega⟩) (Nat.pow_lt_pow_right (by decide) (by decide))) (by rcases hs with rfl | rfl <;> decide), a3, b3, n - 1, rfl, hc3, by omega, by omega, fun a4 b4 q hc4 q0 q1 => ?_⟩
  (simp (config := { maxSteps := 100000000 }) only [Ev.wS, Ev.wE.eq_1, Ev.wE.eq_2, Ev.wE.eq_3, Ev.wE.eq_4, Ev.wE.eq_6, Ev.wE.eq_7, Ev.wE.eq_8, Ev.wE.eq_9, Ev.wE.eq_10, Ev.wE.eq_11, Ev.wE.eq_12, Ev.wE.eq_13, Ev.wE.eq_14, Ev.wE.eq_15, Ev.wE.eq_16, Ev.wE.eq_17, Ev.wE.eq_18, Ev.wE.eq_19, Ev.wE.eq_20, Ev.wE.eq_21, Ev.wE.eq_22, Ev.wE.eq_23, Ev.wE.eq_24, Ev.wE.eq_25, Ev.wE.eq_26, Ev.wE.eq_27, Ev.wE_var, Ev.optK_some, Ev.selR_val, Ev.selR_own, Ev.rdS_val, Ev.rdS_own, Ev.fzS_val, Ev.fzS_own, Ev.argS_val, Ev.argS_own, Ev.wT, Ev.wAs, Ev.wEs, Ev.wI, Ev.wO, Ev.wG_nam, Ev.wG_tup, Ev.wGs_nil, Ev.wGs_cons, Ev.Tg.n, Ev.wipeE, Ev.restE, List.getD_cons_zero, List.getD_cons_succ, Ev.same2, Ev.items, Ev.rdK_val, Ev.rdK_tmp, Ev.rdK_at, Ev.rdsK, Ev.fzK_val, Ev.fzK_tmp, Ev.fzK_at, Ev.stW_val, Ev.stW_tmp, Ev.stW_bor, Ev.nbW_val, Ev.nbW_tmp, Ev.nbW_bor, Ev.binW_add, Ev.binW_sub, Ev.binW_mul, Ev.binW_div, Ev.binW_mod, Ev.binW_pow, Ev.binW_lst, Ev.binW_tup, Ev.binW_str, Ev.binW_rep, Ev.cmpW_lt, Ev.cmpW_le, Ev.cmpW_gt, Ev.cmpW_ge, Ev.cmpW_eq, Ev.cmpW_ne, Ev.cmpW_is, Ev.cmpW_isN, Ev.cmpW_inT, Ev.cmpW_inL, Ev.cmpW_niT, Ev.cmpW_niL, Ev.ixW_tup, Ev.ixW_lst, Ev.bltW_abs, Ev.bltW_int, Ev.bltW_gcd, Ev.bltW_lenT, Ev.bltW_lenL, Ev.bltW_scr, Ev.bltW_listL, Ev.bltW_listT, Ev.bltW_tupL, Ev.bltW_tupT, List.replicate, List.append_nil, List.cons_append, List.nil_append, List.getElem?_cons_zero, List.getElem?_cons_succ, List.length_cons, List.length_nil, List.set_cons_zero, List.set_cons_succ, Ev.argsOf, Ev.argOf_val, Ev.argOf_at, Ev.bors, Ev.backs_val, Ev.backs_bor, Ev.backs_nil, Ev.loses, Ev.retW_val, Ev.retW_tmp, Ev.parOf, Ev.outsOf, List.replicate_zero, Nat.sub_self, Ev.isOwnL, List.getElem?_nil, reduceCtorEq, decide_eq_true_eq, Ev.cmpOk_int, Ev.cmpOk_bl, Ev.cmpOk_non, Ev.cmpOk_nil, Ev.cmpOk_nilT, Ev.peq_int, Ev.peq_bl, Ev.peq_str, Ev.peq_non, Ev.peq_nil, Ev.peq_nilT, Ev.peq_consL, Ev.isT_non_int, Ev.isT_non_bool, Ev.isT_non_str, Ev.isT_non_tuple, Ev.isT_non_list, Ev.tyOk_non, Ev.isT_bl_int, Ev.isT_bl_bool, Ev.isT_bl_str, Ev.isT_bl_tuple, Ev.isT_bl_list, Ev.tyOk_bl, Ev.isT_int_int, Ev.isT_int_bool, Ev.isT_int_str, Ev.isT_int_tuple, Ev.isT_int_list, Ev.tyOk_int, Ev.isT_str_int, Ev.isT_str_bool, Ev.isT_str_str, Ev.isT_str_tuple, Ev.isT_str_list, Ev.tyOk_str, Ev.isT_tup_int, Ev.isT_tup_bool, Ev.isT_tup_str, Ev.isT_tup_tuple, Ev.isT_tup_list, Ev.tyOk_tup, Ev.isT_lst_int, Ev.isT_lst_bool, Ev.isT_lst_str, Ev.isT_lst_tuple, Ev.isT_lst_list, Ev.tyOk_lst, List.not_mem_nil, not_false_eq_true, List.nodup_cons, Bool.false_eq_true, ↓reduceIte, List.nodup_nil, true_and, and_true])
  refine ⟨_, _, rfl, by omega, Nat.lt_trans (abs_GR ⟨by omega, by omega⟩) (Nat.pow_lt_pow_right (by decide) (by decide)), ?_⟩
  (simp (config := { maxSteps := 100000000 }) only [Ev.wS, Ev.wE.eq_1, Ev.wE.eq_2, Ev.wE.eq_3, Ev.wE.eq_4, Ev.wE.eq_6, Ev.wE.eq_7, Ev.wE.eq_8, Ev.wE.eq_9, Ev.wE.eq_10, Ev.wE.eq_11, Ev.wE.eq_12, Ev.wE.eq_13, Ev.wE.eq_14, Ev.wE.eq_15, Ev.wE.eq_16, Ev.wE.eq_17, Ev.wE.eq_18, Ev.wE.eq_19, Ev.wE.eq_20, Ev.wE.eq_21, Ev.wE.eq_22, Ev.wE.eq_23, Ev.wE.eq_24, Ev.wE.eq_25, Ev.wE.eq_26, Ev.wE.eq_27, Ev.wE_var, Ev.optK_some, Ev.selR_val, Ev.selR_own, Ev.rdS_val, Ev.rdS_own, Ev.fzS_val, Ev.fzS_own, Ev.argS_val, Ev.argS_own, Ev.wT, Ev.wAs, Ev.wEs, Ev.wI, Ev.wO, Ev.wG_nam, Ev.wG_tup, Ev.wGs_nil, Ev.wGs_cons, Ev.Tg.n, Ev.wipeE, Ev.restE, List.getD_cons_zero, List.getD_cons_succ, Ev.same2, Ev.items, Ev.rdK_val, Ev.rdK_tmp, Ev.rdK_at, Ev.rdsK, Ev.fzK_val, Ev.fzK_tmp, Ev.fzK_at, Ev.stW_val, Ev.stW_tmp, Ev.stW_bor, Ev.nbW_val, Ev.nbW_tmp, Ev.nbW_bor, Ev.binW_add, Ev.binW_sub, Ev.binW_mul, Ev.binW_div, Ev.binW_mod, Ev.binW_pow, Ev.binW_lst, Ev.binW_tup, Ev.binW_str, Ev.binW_rep, Ev.cmpW_lt, Ev.cmpW_le, Ev.cmpW_gt, Ev.cmpW_ge, Ev.cmpW_eq, Ev.cmpW_ne, Ev.cmpW_is, Ev.cmpW_isN, Ev.cmpW_inT, Ev.cmpW_inL, Ev.cmpW_niT, Ev.cmpW_niL, Ev.ixW_tup, Ev.ixW_lst, Ev.bltW_abs, Ev.bltW_int, Ev.bltW_gcd, Ev.bltW_lenT, Ev.bltW_lenL, Ev.bltW_scr, Ev.bltW_listL, Ev.bltW_listT, Ev.bltW_tupL, Ev.bltW_tupT, List.replicate, List.append_nil, List.cons_append, List.nil_append, List.getElem?_cons_zero, List.getElem?_cons_succ, List.length_cons, List.length_nil, List.set_cons_zero, List.set_cons_succ, Ev.argsOf, Ev.argOf_val, Ev.argOf_at, Ev.bors, Ev.backs_val, Ev.backs_bor, Ev.backs_nil, Ev.loses, Ev.retW_val, Ev.retW_tmp, Ev.parOf, Ev.outsOf, List.replicate_zero, Nat.sub_self, Ev.isOwnL, List.getElem?_nil, reduceCtorEq, decide_eq_true_eq, Ev.cmpOk_int, Ev.cmpOk_bl, Ev.cmpOk_non, Ev.cmpOk_nil, Ev.cmpOk_nilT, Ev.peq_int, Ev.peq_bl, Ev.peq_str, Ev.peq_non, Ev.peq_nil, Ev.peq_nilT, Ev.peq_consL, Ev.isT_non_int, Ev.isT_non_bool, Ev.isT_non_str, Ev.isT_non_tuple, Ev.isT_non_list, Ev.tyOk_non, Ev.isT_bl_int, Ev.isT_bl_bool, Ev.isT_bl_str, Ev.isT_bl_tuple, Ev.isT_bl_list, Ev.tyOk_bl, Ev.isT_int_int, Ev.isT_int_bool, Ev.isT_int_str, Ev.isT_int_tuple, Ev.isT_int_list, Ev.tyOk_int, Ev.isT_str_int, Ev.isT_str_bool, Ev.isT_str_str, Ev.isT_str_tuple, Ev.isT_str_list, Ev.tyOk_str, Ev.isT_tup_int, Ev.isT_tup_bool, Ev.isT_tup_str, Ev.isT_tup_tuple, Ev.isT_tup_list, Ev.tyOk_tup, Ev.isT_lst_int, Ev.isT_lst_bool, Ev.isT_lst_str, Ev.isT_lst_tuple, Ev.isT_lst_list, Ev.tyOk_lst, List.not_mem_nil, not_false_eq_true, List.nodup_cons, Bool.false_eq_true, ↓reduceIte, List.nodup_nil, true_and, and_true])
  obtain ⟨u, v, e, hq⟩ := plain_quo ht (b := 1 + q) ⟨by omega, by omega⟩
  rw [e]
  exact hk _ _ _ _ hc4 hq
end K
namespace K
open PySem PySem.Spec PyProof.Rows L2 Ev
def Lk : Nat → PV → Prop
  | 0, x => flatP x = true ∧ cmpOk x
  | n + 1, x => (flatP x = true ∧ cmpOk x) ∨ ∃ xs, (x = .tup xs ∨ x = .lst xs) ∧ xs.length < 1000 ∧ ∀ y ∈ xs, Lk n y
def S_like (n : Nat) : FnS := fun ss Kp _ => ∃ x s1 s2, ss = [s1, s2] ∧ Hold x s1 ∧ Hold x s2 ∧ Lk n x ∧ ∀ t1 t2, Hold x t1 → Hold x t2 → Kp false (.bl true) [t1, t2]
theorem flat_self {x : PV} (h : flatP x = true) : peq x x = true ∧ (sortP x = 0 ∨ sortP x = 1 ∨ sortP x = 2 ∨ sortP x = 3) ∧ tyOk x = true := by
  cases x with
  | non => exact ⟨rfl, by decide, rfl⟩
  | bl b => exact ⟨by simp [peq_bl], by simp [sortP], rfl⟩
  | int i => exact ⟨by simp [peq_int], by simp [sortP], rfl⟩
  | str s => exact ⟨by simp [peq_str], by simp [sortP], rfl⟩
  | _ => cases h
theorem lk_ty {n : Nat} {x : PV} (h : Lk n x) : tyOk x = true := by
  cases n with
  | zero => exact (flat_self h.1).2.2
  | succ n =>
    rcases h with h | ⟨xs, h | h, _⟩
    · exact (flat_self h.1).2.2
    · subst h; rfl
    · subst h; rfl
theorem hold_val {x : PV} : Hold x (.val x) := .inl rfl
theorem hold_own {xs : List PV} : Hold (.lst xs) (.own (.lst xs)) := .inr ⟨rfl, xs, rfl⟩
theorem zip_self : ∀ (xs : List PV) (i : Nat) (y : PV), (zipP xs xs)[i]? = some y → ∃ x, x ∈ xs ∧ y = .tup [x, x]
  | [], i, y, h => by simp [zipP] at h
  | x :: xs, 0, y, h => by
    simp [zipP] at h
    exact ⟨x, List.mem_cons_self, h.symm⟩
  | x :: xs, i + 1, y, h => by
    obtain ⟨z, h1, h2⟩ := zip_self xs i y (by simpa [zipP] using h)
    exact ⟨z, List.mem_cons_of_mem _ h1, h2⟩
theorem ok__law_like {Φ : Tbl} {n : Nat} (h1 : Φ.fn "_law_sort" = some S__law_sort) (h2 : ∀ m, n = m + 1 → Φ.fn "_law_like" = some (S_like m)) : ∀ ss Kp Xk, S_like n ss Kp Xk → bodyS Φ 2 5 B__law_like ss Kp Xk := by
  rintro ss Kp Xk ⟨x, s1, s2, rfl, q1, q2, hx, hk⟩
  refine ⟨rfl, ?_⟩
  have ty := lk_ty hx
  unfold B__law_like
  have flat : flatP x = true → (s1 = .val x ∧ s2 = .val x) := fun hf => by
    refine ⟨?_, ?_⟩
    · rcases q1 with e | ⟨_, xs, e⟩
      · exact e
      · subst e; cases hf
    · rcases q2 with e | ⟨_, xs, e⟩
      · exact e
      · subst e; cases hf
  have atom : flatP x = true → cmpOk x → wS Φ (parOf [s1, s2]) B__law_like (fun _ c => Xk c) ([s1, s2] ++ List.replicate (5 - 2) Slot.un) { nx := fun ρ => Kp false .non (outsOf [s1, s2] ρ), rt := fun ρ r => retW [s1, s2] Kp ρ r } := fun hf hc => by
    obtain ⟨rfl, rfl⟩ := flat hf
    obtain ⟨p1, p2, p3⟩ := flat_self hf
    unfold B__law_like
    (simp (config := { maxSteps := 100000000 }) only [Ev.wS, Ev.wE.eq_1, Ev.wE.eq_2, Ev.wE.eq_3, Ev.wE.eq_4, Ev.wE.eq_6, Ev.wE.eq_7, Ev.wE.eq_8, Ev.wE.eq_9, Ev.wE.eq_10, Ev.wE.eq_11, Ev.wE.eq_12, Ev.wE.eq_13, Ev.wE.eq_14, Ev.wE.eq_15, Ev.wE.eq_16, Ev.wE.eq_17, Ev.wE.eq_18, Ev.wE.eq_19, Ev.wE.eq_20, Ev.wE.eq_21, Ev.wE.eq_22, Ev.wE.eq_23, Ev.wE.eq_24, Ev.wE.eq_25, Ev.wE.eq_26, Ev.wE.eq_27, Ev.wE_var, Ev.optK_some, Ev.selR_val, Ev.selR_own, Ev.rdS_val, Ev.rdS_own, Ev.fzS_val, Ev.fzS_own, Ev.argS_val, Ev.argS_own, Ev.wT, Ev.wAs, Ev.wEs, Ev.wI, Ev.wO, Ev.wG_nam, Ev.wG_tup, Ev.wGs_nil, Ev.wGs_cons, Ev.Tg.n, Ev.wipeE, Ev.restE, List.getD_cons_zero, List.getD_cons_succ, Ev.same2, Ev.items, Ev.rdK_val, Ev.rdK_tmp, Ev.rdK_at, Ev.rdsK, Ev.fzK_val, Ev.fzK_tmp, Ev.fzK_at, Ev.stW_val, Ev.stW_tmp, Ev.stW_bor, Ev.nbW_val, Ev.nbW_tmp, Ev.nbW_bor, Ev.binW_add, Ev.binW_sub, Ev.binW_mul, Ev.binW_div, Ev.binW_mod, Ev.binW_pow, Ev.binW_lst, Ev.binW_tup, Ev.binW_str, Ev.binW_rep, Ev.cmpW_lt, Ev.cmpW_le, Ev.cmpW_gt, Ev.cmpW_ge, Ev.cmpW_eq, Ev.cmpW_ne, Ev.cmpW_is, Ev.cmpW_isN, Ev.cmpW_inT, Ev.cmpW_inL, Ev.cmpW_niT, Ev.cmpW_niL, Ev.ixW_tup, Ev.ixW_lst, Ev.bltW_abs, Ev.bltW_int, Ev.bltW_gcd, Ev.bltW_lenT, Ev.bltW_lenL, Ev.bltW_scr, Ev.bltW_listL, Ev.bltW_listT, Ev.bltW_tupL, Ev.bltW_tupT, List.replicate, List.append_nil, List.cons_append, List.nil_append, List.getElem?_cons_zero, List.getElem?_cons_succ, List.length_cons, List.length_nil, List.set_cons_zero, List.set_cons_succ, Ev.argsOf, Ev.argOf_val, Ev.argOf_at, Ev.bors, Ev.backs_val, Ev.backs_bor, Ev.backs_nil, Ev.loses, Ev.retW_val, Ev.retW_tmp, Ev.parOf, Ev.outsOf, List.replicate_zero, Nat.sub_self, Ev.isOwnL, List.getElem?_nil, reduceCtorEq, decide_eq_true_eq, Ev.cmpOk_int, Ev.cmpOk_bl, Ev.cmpOk_non, Ev.cmpOk_nil, Ev.cmpOk_nilT, Ev.peq_int, Ev.peq_bl, Ev.peq_str, Ev.peq_non, Ev.peq_nil, Ev.peq_nilT, Ev.peq_consL, Ev.isT_non_int, Ev.isT_non_bool, Ev.isT_non_str, Ev.isT_non_tuple, Ev.isT_non_list, Ev.tyOk_non, Ev.isT_bl_int, Ev.isT_bl_bool, Ev.isT_bl_str, Ev.isT_bl_tuple, Ev.isT_bl_list, Ev.tyOk_bl, Ev.isT_int_int, Ev.isT_int_bool, Ev.isT_int_str, Ev.isT_int_tuple, Ev.isT_int_list, Ev.tyOk_int, Ev.isT_str_int, Ev.isT_str_bool, Ev.isT_str_str, Ev.isT_str_tuple, Ev.isT_str_list, Ev.tyOk_str, Ev.isT_tup_int, Ev.isT_tup_bool, Ev.isT_tup_str, Ev.isT_tup_tuple, Ev.isT_tup_list, Ev.tyOk_tup, Ev.isT_lst_int, Ev.isT_lst_bool, Ev.isT_lst_str, Ev.isT_lst_tuple, Ev.isT_lst_list, Ev.tyOk_lst, List.not_mem_nil, not_false_eq_true, List.nodup_cons, Bool.false_eq_true, ↓reduceIte, List.nodup_nil, true_and, and_true])
    simp only [h1]
    refine ⟨x, _, rfl, hold_val, ty, ?_⟩
    (simp (config := { maxSteps := 100000000 }) only [Ev.wS, Ev.wE.eq_1, Ev.wE.eq_2, Ev.wE.eq_3, Ev.wE.eq_4, Ev.wE.eq_6, Ev.wE.eq_7, Ev.wE.eq_8, Ev.wE.eq_9, Ev.wE.eq_10, Ev.wE.eq_11, Ev.wE.eq_12, Ev.wE.eq_13, Ev.wE.eq_14, Ev.wE.eq_15, Ev.wE.eq_16, Ev.wE.eq_17, Ev.wE.eq_18, Ev.wE.eq_19, Ev.wE.eq_20, Ev.wE.eq_21, Ev.wE.eq_22, Ev.wE.eq_23, Ev.wE.eq_24, Ev.wE.eq_25, Ev.wE.eq_26, Ev.wE.eq_27, Ev.wE_var, Ev.optK_some, Ev.selR_val, Ev.selR_own, Ev.rdS_val, Ev.rdS_own, Ev.fzS_val, Ev.fzS_own, Ev.argS_val, Ev.argS_own, Ev.wT, Ev.wAs, Ev.wEs, Ev.wI, Ev.wO, Ev.wG_nam, Ev.wG_tup, Ev.wGs_nil, Ev.wGs_cons, Ev.Tg.n, Ev.wipeE, Ev.restE, List.getD_cons_zero, List.getD_cons_succ, Ev.same2, Ev.items, Ev.rdK_val, Ev.rdK_tmp, Ev.rdK_at, Ev.rdsK, Ev.fzK_val, Ev.fzK_tmp, Ev.fzK_at, Ev.stW_val, Ev.stW_tmp, Ev.stW_bor, Ev.nbW_val, Ev.nbW_tmp, Ev.nbW_bor, Ev.binW_add, Ev.binW_sub, Ev.binW_mul, Ev.binW_div, Ev.binW_mod, Ev.binW_pow, Ev.binW_lst, Ev.binW_tup, Ev.binW_str, Ev.binW_rep, Ev.cmpW_lt, Ev.cmpW_le, Ev.cmpW_gt, Ev.cmpW_ge, Ev.cmpW_eq, Ev.cmpW_ne, Ev.cmpW_is, Ev.cmpW_isN, Ev.cmpW_inT, Ev.cmpW_inL, Ev.cmpW_niT, Ev.cmpW_niL, Ev.ixW_tup, Ev.ixW_lst, Ev.bltW_abs, Ev.bltW_int, Ev.bltW_gcd, Ev.bltW_lenT, Ev.bltW_lenL, Ev.bltW_scr, Ev.bltW_listL, Ev.bltW_listT, Ev.bltW_tupL, Ev.bltW_tupT, List.replicate, List.append_nil, List.cons_append, List.nil_append, List.getElem?_cons_zero, List.getElem?_cons_succ, List.length_cons, List.length_nil, List.set_cons_zero, List.set_cons_succ, Ev.argsOf, Ev.argOf_val, Ev.argOf_at, Ev.bors, Ev.backs_val, Ev.backs_bor, Ev.backs_nil, Ev.loses, Ev.retW_val, Ev.retW_tmp, Ev.parOf, Ev.outsOf, List.replicate_zero, Nat.sub_self, Ev.isOwnL, List.getElem?_nil, reduceCtorEq, decide_eq_true_eq, Ev.cmpOk_int, Ev.cmpOk_bl, Ev.cmpOk_non, Ev.cmpOk_nil, Ev.cmpOk_nilT, Ev.peq_int, Ev.peq_bl, Ev.peq_str, Ev.peq_non, Ev.peq_nil, Ev.peq_nilT, Ev.peq_consL, Ev.isT_non_int, Ev.isT_non_bool, Ev.isT_non_str, Ev.isT_non_tuple, Ev.isT_non_list, Ev.tyOk_non, Ev.isT_bl_int, Ev.isT_bl_bool, Ev.isT_bl_str, Ev.isT_bl_tuple, Ev.isT_bl_list, Ev.tyOk_bl, Ev.isT_int_int, Ev.isT_int_bool, Ev.isT_int_str, Ev.isT_int_tuple, Ev.isT_int_list, Ev.tyOk_int, Ev.isT_str_int, Ev.isT_str_bool, Ev.isT_str_str, Ev.isT_str_tuple, Ev.isT_str_list, Ev.tyOk_str, Ev.isT_tup_int, Ev.isT_tup_bool, Ev.isT_tup_str, Ev.isT_tup_tuple, Ev.isT_tup_list, Ev.tyOk_tup, Ev.isT_lst_int, Ev.isT_lst_bool, Ev.isT_lst_str, Ev.isT_lst_tuple, Ev.isT_lst_list, Ev.tyOk_lst, List.not_mem_nil, not_false_eq_true, List.nodup_cons, Bool.false_eq_true, ↓reduceIte, List.nodup_nil, true_and, and_true])
    refine ⟨x, _, rfl, hold_val, ty, ?_⟩
    (simp (config := { maxSteps := 100000000 }) only [Ev.wS, Ev.wE.eq_1, Ev.wE.eq_2, Ev.wE.eq_3, Ev.wE.eq_4, Ev.wE.eq_6, Ev.wE.eq_7, Ev.wE.eq_8, Ev.wE.eq_9, Ev.wE.eq_10, Ev.wE.eq_11, Ev.wE.eq_12, Ev.wE.eq_13, Ev.wE.eq_14, Ev.wE.eq_15, Ev.wE.eq_16, Ev.wE.eq_17, Ev.wE.eq_18, Ev.wE.eq_19, Ev.wE.eq_20, Ev.wE.eq_21, Ev.wE.eq_22, Ev.wE.eq_23, Ev.wE.eq_24, Ev.wE.eq_25, Ev.wE.eq_26, Ev.wE.eq_27, Ev.wE_var, Ev.optK_some, Ev.selR_val, Ev.selR_own, Ev.rdS_val, Ev.rdS_own, Ev.fzS_val, Ev.fzS_own, Ev.argS_val, Ev.argS_own, Ev.wT, Ev.wAs, Ev.wEs, Ev.wI, Ev.wO, Ev.wG_nam, Ev.wG_tup, Ev.wGs_nil, Ev.wGs_cons, Ev.Tg.n, Ev.wipeE, Ev.restE, List.getD_cons_zero, List.getD_cons_succ, Ev.same2, Ev.items, Ev.rdK_val, Ev.rdK_tmp, Ev.rdK_at, Ev.rdsK, Ev.fzK_val, Ev.fzK_tmp, Ev.fzK_at, Ev.stW_val, Ev.stW_tmp, Ev.stW_bor, Ev.nbW_val, Ev.nbW_tmp, Ev.nbW_bor, Ev.binW_add, Ev.binW_sub, Ev.binW_mul, Ev.binW_div, Ev.binW_mod, Ev.binW_pow, Ev.binW_lst, Ev.binW_tup, Ev.binW_str, Ev.binW_rep, Ev.cmpW_lt, Ev.cmpW_le, Ev.cmpW_gt, Ev.cmpW_ge, Ev.cmpW_eq, Ev.cmpW_ne, Ev.cmpW_is, Ev.cmpW_isN, Ev.cmpW_inT, Ev.cmpW_inL, Ev.cmpW_niT, Ev.cmpW_niL, Ev.ixW_tup, Ev.ixW_lst, Ev.bltW_abs, Ev.bltW_int, Ev.bltW_gcd, Ev.bltW_lenT, Ev.bltW_lenL, Ev.bltW_scr, Ev.bltW_listL, Ev.bltW_listT, Ev.bltW_tupL, Ev.bltW_tupT, List.replicate, List.append_nil, List.cons_append, List.nil_append, List.getElem?_cons_zero, List.getElem?_cons_succ, List.length_cons, List.length_nil, List.set_cons_zero, List.set_cons_succ, Ev.argsOf, Ev.argOf_val, Ev.argOf_at, Ev.bors, Ev.backs_val, Ev.backs_bor, Ev.backs_nil, Ev.loses, Ev.retW_val, Ev.retW_tmp, Ev.parOf, Ev.outsOf, List.replicate_zero, Nat.sub_self, Ev.isOwnL, List.getElem?_nil, reduceCtorEq, decide_eq_true_eq, Ev.cmpOk_int, Ev.cmpOk_bl, Ev.cmpOk_non, Ev.cmpOk_nil, Ev.cmpOk_nilT, Ev.peq_int, Ev.peq_bl, Ev.peq_str, Ev.peq_non, Ev.peq_nil, Ev.peq_nilT, Ev.peq_consL, Ev.isT_non_int, Ev.isT_non_bool, Ev.isT_non_str, Ev.isT_non_tuple, Ev.isT_non_list, Ev.tyOk_non, Ev.isT_bl_int, Ev.isT_bl_bool, Ev.isT_bl_str, Ev.isT_bl_tuple, Ev.isT_bl_list, Ev.tyOk_bl, Ev.isT_int_int, Ev.isT_int_bool, Ev.isT_int_str, Ev.isT_int_tuple, Ev.isT_int_list, Ev.tyOk_int, Ev.isT_str_int, Ev.isT_str_bool, Ev.isT_str_str, Ev.isT_str_tuple, Ev.isT_str_list, Ev.tyOk_str, Ev.isT_tup_int, Ev.isT_tup_bool, Ev.isT_tup_str, Ev.isT_tup_tuple, Ev.isT_tup_list, Ev.tyOk_tup, Ev.isT_lst_int, Ev.isT_lst_bool, Ev.isT_lst_str, Ev.isT_lst_tuple, Ev.isT_lst_list, Ev.tyOk_lst, List.not_mem_nil, not_false_eq_true, List.nodup_cons, Bool.false_eq_true, ↓reduceIte, List.nodup_nil, true_and, and_true])
    rw [if_neg (by simp), if_neg (by omega)]
    refine ⟨by decide, rfl, rfl, ?_⟩
    rw [if_neg]
    · refine ⟨hc, hc, ?_⟩
      rw [p1]
      exact hk _ _ hold_val hold_val
    · simp [peq_int]
      omega
  have seq : ∀ m xs, n = m + 1 → (x = .tup xs ∨ x = .lst xs) → xs.length < 1000 → (∀ y ∈ xs, Lk m y) → wS Φ (parOf [s1, s2]) B__law_like (fun _ c => Xk c) ([s1, s2] ++ List.replicate (5 - 2) Slot.un) { nx := fun ρ => Kp false .non (outsOf [s1, s2] ρ), rt := fun ρ r => retW [s1, s2] Kp ρ r } := fun m xs hn hxs hl hy => by
    have hlike := h2 m hn
    unfold B__law_like
    rcases hxs with rfl | rfl
    · have g : ∀ s, Hold (.tup xs) s → s = .val (.tup xs) := fun s q => by
        rcases q with e | ⟨_, ys, e⟩
        · exact e
        · cases e
      obtain rfl := g _ q1
      obtain rfl := g _ q2
      · (simp (config := { maxSteps := 100000000 }) only [Ev.wS, Ev.wE.eq_1, Ev.wE.eq_2, Ev.wE.eq_3, Ev.wE.eq_4, Ev.wE.eq_6, Ev.wE.eq_7, Ev.wE.eq_8, Ev.wE.eq_9, Ev.wE.eq_10, Ev.wE.eq_11, Ev.wE.eq_12, Ev.wE.eq_13, Ev.wE.eq_14, Ev.wE.eq_15, Ev.wE.eq_16, Ev.wE.eq_17, Ev.wE.eq_18, Ev.wE.eq_19, Ev.wE.eq_20, Ev.wE.eq_21, Ev.wE.eq_22, Ev.wE.eq_23, Ev.wE.eq_24, Ev.wE.eq_25, Ev.wE.eq_26, Ev.wE.eq_27, Ev.wE_var, Ev.optK_some, Ev.selR_val, Ev.selR_own, Ev.rdS_val, Ev.rdS_own, Ev.fzS_val, Ev.fzS_own, Ev.argS_val, Ev.argS_own, Ev.wT, Ev.wAs, Ev.wEs, Ev.wI, Ev.wO, Ev.wG_nam, Ev.wG_tup, Ev.wGs_nil, Ev.wGs_cons, Ev.Tg.n, Ev.wipeE, Ev.restE, List.getD_cons_zero, List.getD_cons_succ, Ev.same2, Ev.items, Ev.rdK_val, Ev.rdK_tmp, Ev.rdK_at, Ev.rdsK, Ev.fzK_val, Ev.fzK_tmp, Ev.fzK_at, Ev.stW_val, Ev.stW_tmp, Ev.stW_bor, Ev.nbW_val, Ev.nbW_tmp, Ev.nbW_bor, Ev.binW_add, Ev.binW_sub, Ev.binW_mul, Ev.binW_div, Ev.binW_mod, Ev.binW_pow, Ev.binW_lst, Ev.binW_tup, Ev.binW_str, Ev.binW_rep, Ev.cmpW_lt, Ev.cmpW_le, Ev.cmpW_gt, Ev.cmpW_ge, Ev.cmpW_eq, Ev.cmpW_ne, Ev.cmpW_is, Ev.cmpW_isN, Ev.cmpW_inT, Ev.cmpW_inL, Ev.cmpW_niT, Ev.cmpW_niL, Ev.ixW_tup, Ev.ixW_lst, Ev.bltW_abs, Ev.bltW_int, Ev.bltW_gcd, Ev.bltW_lenT, Ev.bltW_lenL, Ev.bltW_scr, Ev.bltW_listL, Ev.bltW_listT, Ev.bltW_tupL, Ev.bltW_tupT, List.replicate, List.append_nil, List.cons_append, List.nil_append, List.getElem?_cons_zero, List.getElem?_cons_succ, List.length_cons, List.length_nil, List.set_cons_zero, List.set_cons_succ, Ev.argsOf, Ev.argOf_val, Ev.argOf_at, Ev.bors, Ev.backs_val, Ev.backs_bor, Ev.backs_nil, Ev.loses, Ev.retW_val, Ev.retW_tmp, Ev.parOf, Ev.outsOf, List.replicate_zero, Nat.sub_self, Ev.isOwnL, List.getElem?_nil, reduceCtorEq, decide_eq_true_eq, Ev.cmpOk_int, Ev.cmpOk_bl, Ev.cmpOk_non, Ev.cmpOk_nil, Ev.cmpOk_nilT, Ev.peq_int, Ev.peq_bl, Ev.peq_str, Ev.peq_non, Ev.peq_nil, Ev.peq_nilT, Ev.peq_consL, Ev.isT_non_int, Ev.isT_non_bool, Ev.isT_non_str, Ev.isT_non_tuple, Ev.isT_non_list, Ev.tyOk_non, Ev.isT_bl_int, Ev.isT_bl_bool, Ev.isT_bl_str, Ev.isT_bl_tuple, Ev.isT_bl_list, Ev.tyOk_bl, Ev.isT_int_int, Ev.isT_int_bool, Ev.isT_int_str, Ev.isT_int_tuple, Ev.isT_int_list, Ev.tyOk_int, Ev.isT_str_int, Ev.isT_str_bool, Ev.isT_str_str, Ev.isT_str_tuple, Ev.isT_str_list, Ev.tyOk_str, Ev.isT_tup_int, Ev.isT_tup_bool, Ev.isT_tup_str, Ev.isT_tup_tuple, Ev.isT_tup_list, Ev.tyOk_tup, Ev.isT_lst_int, Ev.isT_lst_bool, Ev.isT_lst_str, Ev.isT_lst_tuple, Ev.isT_lst_list, Ev.tyOk_lst, List.not_mem_nil, not_false_eq_true, List.nodup_cons, Bool.false_eq_true, ↓reduceIte, List.nodup_nil, true_and, and_true])
        simp only [h1]
        refine ⟨_, _, rfl, by first | exact hold_val | exact hold_own, ty, ?_⟩
        (simp (config := { maxSteps := 100000000 }) only [Ev.wS, Ev.wE.eq_1, Ev.wE.eq_2, Ev.wE.eq_3, Ev.wE.eq_4, Ev.wE.eq_6, Ev.wE.eq_7, Ev.wE.eq_8, Ev.wE.eq_9, Ev.wE.eq_10, Ev.wE.eq_11, Ev.wE.eq_12, Ev.wE.eq_13, Ev.wE.eq_14, Ev.wE.eq_15, Ev.wE.eq_16, Ev.wE.eq_17, Ev.wE.eq_18, Ev.wE.eq_19, Ev.wE.eq_20, Ev.wE.eq_21, Ev.wE.eq_22, Ev.wE.eq_23, Ev.wE.eq_24, Ev.wE.eq_25, Ev.wE.eq_26, Ev.wE.eq_27, Ev.wE_var, Ev.optK_some, Ev.selR_val, Ev.selR_own, Ev.rdS_val, Ev.rdS_own, Ev.fzS_val, Ev.fzS_own, Ev.argS_val, Ev.argS_own, Ev.wT, Ev.wAs, Ev.wEs, Ev.wI, Ev.wO, Ev.wG_nam, Ev.wG_tup, Ev.wGs_nil, Ev.wGs_cons, Ev.Tg.n, Ev.wipeE, Ev.restE, List.getD_cons_zero, List.getD_cons_succ, Ev.same2, Ev.items, Ev.rdK_val, Ev.rdK_tmp, Ev.rdK_at, Ev.rdsK, Ev.fzK_val, Ev.fzK_tmp, Ev.fzK_at, Ev.stW_val, Ev.stW_tmp, Ev.stW_bor, Ev.nbW_val, Ev.nbW_tmp, Ev.nbW_bor, Ev.binW_add, Ev.binW_sub, Ev.binW_mul, Ev.binW_div, Ev.binW_mod, Ev.binW_pow, Ev.binW_lst, Ev.binW_tup, Ev.binW_str, Ev.binW_rep, Ev.cmpW_lt, Ev.cmpW_le, Ev.cmpW_gt, Ev.cmpW_ge, Ev.cmpW_eq, Ev.cmpW_ne, Ev.cmpW_is, Ev.cmpW_isN, Ev.cmpW_inT, Ev.cmpW_inL, Ev.cmpW_niT, Ev.cmpW_niL, Ev.ixW_tup, Ev.ixW_lst, Ev.bltW_abs, Ev.bltW_int, Ev.bltW_gcd, Ev.bltW_lenT, Ev.bltW_lenL, Ev.bltW_scr, Ev.bltW_listL, Ev.bltW_listT, Ev.bltW_tupL, Ev.bltW_tupT, List.replicate, List.append_nil, List.cons_append, List.nil_append, List.getElem?_cons_zero, List.getElem?_cons_succ, List.length_cons, List.length_nil, List.set_cons_zero, List.set_cons_succ, Ev.argsOf, Ev.argOf_val, Ev.argOf_at, Ev.bors, Ev.backs_val, Ev.backs_bor, Ev.backs_nil, Ev.loses, Ev.retW_val, Ev.retW_tmp, Ev.parOf, Ev.outsOf, List.replicate_zero, Nat.sub_self, Ev.isOwnL, List.getElem?_nil, reduceCtorEq, decide_eq_true_eq, Ev.cmpOk_int, Ev.cmpOk_bl, Ev.cmpOk_non, Ev.cmpOk_nil, Ev.cmpOk_nilT, Ev.peq_int, Ev.peq_bl, Ev.peq_str, Ev.peq_non, Ev.peq_nil, Ev.peq_nilT, Ev.peq_consL, Ev.isT_non_int, Ev.isT_non_bool, Ev.isT_non_str, Ev.isT_non_tuple, Ev.isT_non_list, Ev.tyOk_non, Ev.isT_bl_int, Ev.isT_bl_bool, Ev.isT_bl_str, Ev.isT_bl_tuple, Ev.isT_bl_list, Ev.tyOk_bl, Ev.isT_int_int, Ev.isT_int_bool, Ev.isT_int_str, Ev.isT_int_tuple, Ev.isT_int_list, Ev.tyOk_int, Ev.isT_str_int, Ev.isT_str_bool, Ev.isT_str_str, Ev.isT_str_tuple, Ev.isT_str_list, Ev.tyOk_str, Ev.isT_tup_int, Ev.isT_tup_bool, Ev.isT_tup_str, Ev.isT_tup_tuple, Ev.isT_tup_list, Ev.tyOk_tup, Ev.isT_lst_int, Ev.isT_lst_bool, Ev.isT_lst_str, Ev.isT_lst_tuple, Ev.isT_lst_list, Ev.tyOk_lst, List.not_mem_nil, not_false_eq_true, List.nodup_cons, Bool.false_eq_true, ↓reduceIte, List.nodup_nil, true_and, and_true])
        refine ⟨_, _, rfl, by first | exact hold_val | exact hold_own, ty, ?_⟩
        (simp (config := { maxSteps := 100000000 }) only [Ev.wS, Ev.wE.eq_1, Ev.wE.eq_2, Ev.wE.eq_3, Ev.wE.eq_4, Ev.wE.eq_6, Ev.wE.eq_7, Ev.wE.eq_8, Ev.wE.eq_9, Ev.wE.eq_10, Ev.wE.eq_11, Ev.wE.eq_12, Ev.wE.eq_13, Ev.wE.eq_14, Ev.wE.eq_15, Ev.wE.eq_16, Ev.wE.eq_17, Ev.wE.eq_18, Ev.wE.eq_19, Ev.wE.eq_20, Ev.wE.eq_21, Ev.wE.eq_22, Ev.wE.eq_23, Ev.wE.eq_24, Ev.wE.eq_25, Ev.wE.eq_26, Ev.wE.eq_27, Ev.wE_var, Ev.optK_some, Ev.selR_val, Ev.selR_own, Ev.rdS_val, Ev.rdS_own, Ev.fzS_val, Ev.fzS_own, Ev.argS_val, Ev.argS_own, Ev.wT, Ev.wAs, Ev.wEs, Ev.wI, Ev.wO, Ev.wG_nam, Ev.wG_tup, Ev.wGs_nil, Ev.wGs_cons, Ev.Tg.n, Ev.wipeE, Ev.restE, List.getD_cons_zero, List.getD_cons_succ, Ev.same2, Ev.items, Ev.rdK_val, Ev.rdK_tmp, Ev.rdK_at, Ev.rdsK, Ev.fzK_val, Ev.fzK_tmp, Ev.fzK_at, Ev.stW_val, Ev.stW_tmp, Ev.stW_bor, Ev.nbW_val, Ev.nbW_tmp, Ev.nbW_bor, Ev.binW_add, Ev.binW_sub, Ev.binW_mul, Ev.binW_div, Ev.binW_mod, Ev.binW_pow, Ev.binW_lst, Ev.binW_tup, Ev.binW_str, Ev.binW_rep, Ev.cmpW_lt, Ev.cmpW_le, Ev.cmpW_gt, Ev.cmpW_ge, Ev.cmpW_eq, Ev.cmpW_ne, Ev.cmpW_is, Ev.cmpW_isN, Ev.cmpW_inT, Ev.cmpW_inL, Ev.cmpW_niT, Ev.cmpW_niL, Ev.ixW_tup, Ev.ixW_lst, Ev.bltW_abs, Ev.bltW_int, Ev.bltW_gcd, Ev.bltW_lenT, Ev.bltW_lenL, Ev.bltW_scr, Ev.bltW_listL, Ev.bltW_listT, Ev.bltW_tupL, Ev.bltW_tupT, List.replicate, List.append_nil, List.cons_append, List.nil_append, List.getElem?_cons_zero, List.getElem?_cons_succ, List.length_cons, List.length_nil, List.set_cons_zero, List.set_cons_succ, Ev.argsOf, Ev.argOf_val, Ev.argOf_at, Ev.bors, Ev.backs_val, Ev.backs_bor, Ev.backs_nil, Ev.loses, Ev.retW_val, Ev.retW_tmp, Ev.parOf, Ev.outsOf, List.replicate_zero, Nat.sub_self, Ev.isOwnL, List.getElem?_nil, reduceCtorEq, decide_eq_true_eq, Ev.cmpOk_int, Ev.cmpOk_bl, Ev.cmpOk_non, Ev.cmpOk_nil, Ev.cmpOk_nilT, Ev.peq_int, Ev.peq_bl, Ev.peq_str, Ev.peq_non, Ev.peq_nil, Ev.peq_nilT, Ev.peq_consL, Ev.isT_non_int, Ev.isT_non_bool, Ev.isT_non_str, Ev.isT_non_tuple, Ev.isT_non_list, Ev.tyOk_non, Ev.isT_bl_int, Ev.isT_bl_bool, Ev.isT_bl_str, Ev.isT_bl_tuple, Ev.isT_bl_list, Ev.tyOk_bl, Ev.isT_int_int, Ev.isT_int_bool, Ev.isT_int_str, Ev.isT_int_tuple, Ev.isT_int_list, Ev.tyOk_int, Ev.isT_str_int, Ev.isT_str_bool, Ev.isT_str_str, Ev.isT_str_tuple, Ev.isT_str_list, Ev.tyOk_str, Ev.isT_tup_int, Ev.isT_tup_bool, Ev.isT_tup_str, Ev.isT_tup_tuple, Ev.isT_tup_list, Ev.tyOk_tup, Ev.isT_lst_int, Ev.isT_lst_bool, Ev.isT_lst_str, Ev.isT_lst_tuple, Ev.isT_lst_list, Ev.tyOk_lst, List.not_mem_nil, not_false_eq_true, List.nodup_cons, Bool.false_eq_true, ↓reduceIte, List.nodup_nil, true_and, and_true])
        rw [if_neg (by simp), if_neg (by simp [sortP])]
        refine ⟨by decide, rfl, rfl, ?_⟩
        rw [if_pos (by simp [sortP, peq_int])]
        refine loopC_inv (fun _ ρ acc => acc = [] ∧ ρ = [.val (.tup xs), .val (.tup xs), .val (.int (sortP (.tup xs))), .un, .un]) _ 0 _ _ ⟨rfl, rfl⟩ (fun i y ρ acc hz hi R k1 k2 => ?_) (fun ρ acc h => ?_)
        · obtain ⟨rfl, rfl⟩ := hi
          obtain ⟨z, hz', rfl⟩ := zip_self _ _ _ hz
          (simp (config := { maxSteps := 100000000 }) only [Ev.wS, Ev.wE.eq_1, Ev.wE.eq_2, Ev.wE.eq_3, Ev.wE.eq_4, Ev.wE.eq_6, Ev.wE.eq_7, Ev.wE.eq_8, Ev.wE.eq_9, Ev.wE.eq_10, Ev.wE.eq_11, Ev.wE.eq_12, Ev.wE.eq_13, Ev.wE.eq_14, Ev.wE.eq_15, Ev.wE.eq_16, Ev.wE.eq_17, Ev.wE.eq_18, Ev.wE.eq_19, Ev.wE.eq_20, Ev.wE.eq_21, Ev.wE.eq_22, Ev.wE.eq_23, Ev.wE.eq_24, Ev.wE.eq_25, Ev.wE.eq_26, Ev.wE.eq_27, Ev.wE_var, Ev.optK_some, Ev.selR_val, Ev.selR_own, Ev.rdS_val, Ev.rdS_own, Ev.fzS_val, Ev.fzS_own, Ev.argS_val, Ev.argS_own, Ev.wT, Ev.wAs, Ev.wEs, Ev.wI, Ev.wO, Ev.wG_nam, Ev.wG_tup, Ev.wGs_nil, Ev.wGs_cons, Ev.Tg.n, Ev.wipeE, Ev.restE, List.getD_cons_zero, List.getD_cons_succ, Ev.same2, Ev.items, Ev.rdK_val, Ev.rdK_tmp, Ev.rdK_at, Ev.rdsK, Ev.fzK_val, Ev.fzK_tmp, Ev.fzK_at, Ev.stW_val, Ev.stW_tmp, Ev.stW_bor, Ev.nbW_val, Ev.nbW_tmp, Ev.nbW_bor, Ev.binW_add, Ev.binW_sub, Ev.binW_mul, Ev.binW_div, Ev.binW_mod, Ev.binW_pow, Ev.binW_lst, Ev.binW_tup, Ev.binW_str, Ev.binW_rep, Ev.cmpW_lt, Ev.cmpW_le, Ev.cmpW_gt, Ev.cmpW_ge, Ev.cmpW_eq, Ev.cmpW_ne, Ev.cmpW_is, Ev.cmpW_isN, Ev.cmpW_inT, Ev.cmpW_inL, Ev.cmpW_niT, Ev.cmpW_niL, Ev.ixW_tup, Ev.ixW_lst, Ev.bltW_abs, Ev.bltW_int, Ev.bltW_gcd, Ev.bltW_lenT, Ev.bltW_lenL, Ev.bltW_scr, Ev.bltW_listL, Ev.bltW_listT, Ev.bltW_tupL, Ev.bltW_tupT, List.replicate, List.append_nil, List.cons_append, List.nil_append, List.getElem?_cons_zero, List.getElem?_cons_succ, List.length_cons, List.length_nil, List.set_cons_zero, List.set_cons_succ, Ev.argsOf, Ev.argOf_val, Ev.argOf_at, Ev.bors, Ev.backs_val, Ev.backs_bor, Ev.backs_nil, Ev.loses, Ev.retW_val, Ev.retW_tmp, Ev.parOf, Ev.outsOf, List.replicate_zero, Nat.sub_self, Ev.isOwnL, List.getElem?_nil, reduceCtorEq, decide_eq_true_eq, Ev.cmpOk_int, Ev.cmpOk_bl, Ev.cmpOk_non, Ev.cmpOk_nil, Ev.cmpOk_nilT, Ev.peq_int, Ev.peq_bl, Ev.peq_str, Ev.peq_non, Ev.peq_nil, Ev.peq_nilT, Ev.peq_consL, Ev.isT_non_int, Ev.isT_non_bool, Ev.isT_non_str, Ev.isT_non_tuple, Ev.isT_non_list, Ev.tyOk_non, Ev.isT_bl_int, Ev.isT_bl_bool, Ev.isT_bl_str, Ev.isT_bl_tuple, Ev.isT_bl_list, Ev.tyOk_bl, Ev.isT_int_int, Ev.isT_int_bool, Ev.isT_int_str, Ev.isT_int_tuple, Ev.isT_int_list, Ev.tyOk_int, Ev.isT_str_int, Ev.isT_str_bool, Ev.isT_str_str, Ev.isT_str_tuple, Ev.isT_str_list, Ev.tyOk_str, Ev.isT_tup_int, Ev.isT_tup_bool, Ev.isT_tup_str, Ev.isT_tup_tuple, Ev.isT_tup_list, Ev.tyOk_tup, Ev.isT_lst_int, Ev.isT_lst_bool, Ev.isT_lst_str, Ev.isT_lst_tuple, Ev.isT_lst_list, Ev.tyOk_lst, List.not_mem_nil, not_false_eq_true, List.nodup_cons, Bool.false_eq_true, ↓reduceIte, List.nodup_nil, true_and, and_true])
          simp only [hlike]
          refine ⟨z, _, _, rfl, hold_val, hold_val, hy z hz', fun t1 t2 _ _ => ?_⟩
          (simp (config := { maxSteps := 100000000 }) only [Ev.wS, Ev.wE.eq_1, Ev.wE.eq_2, Ev.wE.eq_3, Ev.wE.eq_4, Ev.wE.eq_6, Ev.wE.eq_7, Ev.wE.eq_8, Ev.wE.eq_9, Ev.wE.eq_10, Ev.wE.eq_11, Ev.wE.eq_12, Ev.wE.eq_13, Ev.wE.eq_14, Ev.wE.eq_15, Ev.wE.eq_16, Ev.wE.eq_17, Ev.wE.eq_18, Ev.wE.eq_19, Ev.wE.eq_20, Ev.wE.eq_21, Ev.wE.eq_22, Ev.wE.eq_23, Ev.wE.eq_24, Ev.wE.eq_25, Ev.wE.eq_26, Ev.wE.eq_27, Ev.wE_var, Ev.optK_some, Ev.selR_val, Ev.selR_own, Ev.rdS_val, Ev.rdS_own, Ev.fzS_val, Ev.fzS_own, Ev.argS_val, Ev.argS_own, Ev.wT, Ev.wAs, Ev.wEs, Ev.wI, Ev.wO, Ev.wG_nam, Ev.wG_tup, Ev.wGs_nil, Ev.wGs_cons, Ev.Tg.n, Ev.wipeE, Ev.restE, List.getD_cons_zero, List.getD_cons_succ, Ev.same2, Ev.items, Ev.rdK_val, Ev.rdK_tmp, Ev.rdK_at, Ev.rdsK, Ev.fzK_val, Ev.fzK_tmp, Ev.fzK_at, Ev.stW_val, Ev.stW_tmp, Ev.stW_bor, Ev.nbW_val, Ev.nbW_tmp, Ev.nbW_bor, Ev.binW_add, Ev.binW_sub, Ev.binW_mul, Ev.binW_div, Ev.binW_mod, Ev.binW_pow, Ev.binW_lst, Ev.binW_tup, Ev.binW_str, Ev.binW_rep, Ev.cmpW_lt, Ev.cmpW_le, Ev.cmpW_gt, Ev.cmpW_ge, Ev.cmpW_eq, Ev.cmpW_ne, Ev.cmpW_is, Ev.cmpW_isN, Ev.cmpW_inT, Ev.cmpW_inL, Ev.cmpW_niT, Ev.cmpW_niL, Ev.ixW_tup, Ev.ixW_lst, Ev.bltW_abs, Ev.bltW_int, Ev.bltW_gcd, Ev.bltW_lenT, Ev.bltW_lenL, Ev.bltW_scr, Ev.bltW_listL, Ev.bltW_listT, Ev.bltW_tupL, Ev.bltW_tupT, List.replicate, List.append_nil, List.cons_append, List.nil_append, List.getElem?_cons_zero, List.getElem?_cons_succ, List.length_cons, List.length_nil, List.set_cons_zero, List.set_cons_succ, Ev.argsOf, Ev.argOf_val, Ev.argOf_at, Ev.bors, Ev.backs_val, Ev.backs_bor, Ev.backs_nil, Ev.loses, Ev.retW_val, Ev.retW_tmp, Ev.parOf, Ev.outsOf, List.replicate_zero, Nat.sub_self, Ev.isOwnL, List.getElem?_nil, reduceCtorEq, decide_eq_true_eq, Ev.cmpOk_int, Ev.cmpOk_bl, Ev.cmpOk_non, Ev.cmpOk_nil, Ev.cmpOk_nilT, Ev.peq_int, Ev.peq_bl, Ev.peq_str, Ev.peq_non, Ev.peq_nil, Ev.peq_nilT, Ev.peq_consL, Ev.isT_non_int, Ev.isT_non_bool, Ev.isT_non_str, Ev.isT_non_tuple, Ev.isT_non_list, Ev.tyOk_non, Ev.isT_bl_int, Ev.isT_bl_bool, Ev.isT_bl_str, Ev.isT_bl_tuple, Ev.isT_bl_list, Ev.tyOk_bl, Ev.isT_int_int, Ev.isT_int_bool, Ev.isT_int_str, Ev.isT_int_tuple, Ev.isT_int_list, Ev.tyOk_int, Ev.isT_str_int, Ev.isT_str_bool, Ev.isT_str_str, Ev.isT_str_tuple, Ev.isT_str_list, Ev.tyOk_str, Ev.isT_tup_int, Ev.isT_tup_bool, Ev.isT_tup_str, Ev.isT_tup_tuple, Ev.isT_tup_list, Ev.tyOk_tup, Ev.isT_lst_int, Ev.isT_lst_bool, Ev.isT_lst_str, Ev.isT_lst_tuple, Ev.isT_lst_list, Ev.tyOk_lst, List.not_mem_nil, not_false_eq_true, List.nodup_cons, Bool.false_eq_true, ↓reduceIte, List.nodup_nil, true_and, and_true])
          exact k2 _ ⟨rfl, rfl⟩
        · obtain ⟨rfl, rfl⟩ := h
          (simp (config := { maxSteps := 100000000 }) only [Ev.wS, Ev.wE.eq_1, Ev.wE.eq_2, Ev.wE.eq_3, Ev.wE.eq_4, Ev.wE.eq_6, Ev.wE.eq_7, Ev.wE.eq_8, Ev.wE.eq_9, Ev.wE.eq_10, Ev.wE.eq_11, Ev.wE.eq_12, Ev.wE.eq_13, Ev.wE.eq_14, Ev.wE.eq_15, Ev.wE.eq_16, Ev.wE.eq_17, Ev.wE.eq_18, Ev.wE.eq_19, Ev.wE.eq_20, Ev.wE.eq_21, Ev.wE.eq_22, Ev.wE.eq_23, Ev.wE.eq_24, Ev.wE.eq_25, Ev.wE.eq_26, Ev.wE.eq_27, Ev.wE_var, Ev.optK_some, Ev.selR_val, Ev.selR_own, Ev.rdS_val, Ev.rdS_own, Ev.fzS_val, Ev.fzS_own, Ev.argS_val, Ev.argS_own, Ev.wT, Ev.wAs, Ev.wEs, Ev.wI, Ev.wO, Ev.wG_nam, Ev.wG_tup, Ev.wGs_nil, Ev.wGs_cons, Ev.Tg.n, Ev.wipeE, Ev.restE, List.getD_cons_zero, List.getD_cons_succ, Ev.same2, Ev.items, Ev.rdK_val, Ev.rdK_tmp, Ev.rdK_at, Ev.rdsK, Ev.fzK_val, Ev.fzK_tmp, Ev.fzK_at, Ev.stW_val, Ev.stW_tmp, Ev.stW_bor, Ev.nbW_val, Ev.nbW_tmp, Ev.nbW_bor, Ev.binW_add, Ev.binW_sub, Ev.binW_mul, Ev.binW_div, Ev.binW_mod, Ev.binW_pow, Ev.binW_lst, Ev.binW_tup, Ev.binW_str, Ev.binW_rep, Ev.cmpW_lt, Ev.cmpW_le, Ev.cmpW_gt, Ev.cmpW_ge, Ev.cmpW_eq, Ev.cmpW_ne, Ev.cmpW_is, Ev.cmpW_isN, Ev.cmpW_inT, Ev.cmpW_inL, Ev.cmpW_niT, Ev.cmpW_niL, Ev.ixW_tup, Ev.ixW_lst, Ev.bltW_abs, Ev.bltW_int, Ev.bltW_gcd, Ev.bltW_lenT, Ev.bltW_lenL, Ev.bltW_scr, Ev.bltW_listL, Ev.bltW_listT, Ev.bltW_tupL, Ev.bltW_tupT, List.replicate, List.append_nil, List.cons_append, List.nil_append, List.getElem?_cons_zero, List.getElem?_cons_succ, List.length_cons, List.length_nil, List.set_cons_zero, List.set_cons_succ, Ev.argsOf, Ev.argOf_val, Ev.argOf_at, Ev.bors, Ev.backs_val, Ev.backs_bor, Ev.backs_nil, Ev.loses, Ev.retW_val, Ev.retW_tmp, Ev.parOf, Ev.outsOf, List.replicate_zero, Nat.sub_self, Ev.isOwnL, List.getElem?_nil, reduceCtorEq, decide_eq_true_eq, Ev.cmpOk_int, Ev.cmpOk_bl, Ev.cmpOk_non, Ev.cmpOk_nil, Ev.cmpOk_nilT, Ev.peq_int, Ev.peq_bl, Ev.peq_str, Ev.peq_non, Ev.peq_nil, Ev.peq_nilT, Ev.peq_consL, Ev.isT_non_int, Ev.isT_non_bool, Ev.isT_non_str, Ev.isT_non_tuple, Ev.isT_non_list, Ev.tyOk_non, Ev.isT_bl_int, Ev.isT_bl_bool, Ev.isT_bl_str, Ev.isT_bl_tuple, Ev.isT_bl_list, Ev.tyOk_bl, Ev.isT_int_int, Ev.isT_int_bool, Ev.isT_int_str, Ev.isT_int_tuple, Ev.isT_int_list, Ev.tyOk_int, Ev.isT_str_int, Ev.isT_str_bool, Ev.isT_str_str, Ev.isT_str_tuple, Ev.isT_str_list, Ev.tyOk_str, Ev.isT_tup_int, Ev.isT_tup_bool, Ev.isT_tup_str, Ev.isT_tup_tuple, Ev.isT_tup_list, Ev.tyOk_tup, Ev.isT_lst_int, Ev.isT_lst_bool, Ev.isT_lst_str, Ev.isT_lst_tuple, Ev.isT_lst_list, Ev.tyOk_lst, List.not_mem_nil, not_false_eq_true, List.nodup_cons, Bool.false_eq_true, ↓reduceIte, List.nodup_nil, true_and, and_true])
          exact ⟨by decide, hk _ _ hold_val hold_val⟩
    · rcases q1 with rfl | ⟨rfl, _⟩ <;> rcases q2 with rfl | ⟨rfl, _⟩
      · (simp (config := { maxSteps := 100000000 }) only [Ev.wS, Ev.wE.eq_1, Ev.wE.eq_2, Ev.wE.eq_3, Ev.wE.eq_4, Ev.wE.eq_6, Ev.wE.eq_7, Ev.wE.eq_8, Ev.wE.eq_9, Ev.wE.eq_10, Ev.wE.eq_11, Ev.wE.eq_12, Ev.wE.eq_13, Ev.wE.eq_14, Ev.wE.eq_15, Ev.wE.eq_16, Ev.wE.eq_17, Ev.wE.eq_18, Ev.wE.eq_19, Ev.wE.eq_20, Ev.wE.eq_21, Ev.wE.eq_22, Ev.wE.eq_23, Ev.wE.eq_24, Ev.wE.eq_25, Ev.wE.eq_26, Ev.wE.eq_27, Ev.wE_var, Ev.optK_some, Ev.selR_val, Ev.selR_own, Ev.rdS_val, Ev.rdS_own, Ev.fzS_val, Ev.fzS_own, Ev.argS_val, Ev.argS_own, Ev.wT, Ev.wAs, Ev.wEs, Ev.wI, Ev.wO, Ev.wG_nam, Ev.wG_tup, Ev.wGs_nil, Ev.wGs_cons, Ev.Tg.n, Ev.wipeE, Ev.restE, List.getD_cons_zero, List.getD_cons_succ, Ev.same2, Ev.items, Ev.rdK_val, Ev.rdK_tmp, Ev.rdK_at, Ev.rdsK, Ev.fzK_val, Ev.fzK_tmp, Ev.fzK_at, Ev.stW_val, Ev.stW_tmp, Ev.stW_bor, Ev.nbW_val, Ev.nbW_tmp, Ev.nbW_bor, Ev.binW_add, Ev.binW_sub, Ev.binW_mul, Ev.binW_div, Ev.binW_mod, Ev.binW_pow, Ev.binW_lst, Ev.binW_tup, Ev.binW_str, Ev.binW_rep, Ev.cmpW_lt, Ev.cmpW_le, Ev.cmpW_gt, Ev.cmpW_ge, Ev.cmpW_eq, Ev.cmpW_ne, Ev.cmpW_is, Ev.cmpW_isN, Ev.cmpW_inT, Ev.cmpW_inL, Ev.cmpW_niT, Ev.cmpW_niL, Ev.ixW_tup, Ev.ixW_lst, Ev.bltW_abs, Ev.bltW_int, Ev.bltW_gcd, Ev.bltW_lenT, Ev.bltW_lenL, Ev.bltW_scr, Ev.bltW_listL, Ev.bltW_listT, Ev.bltW_tupL, Ev.bltW_tupT, List.replicate, List.append_nil, List.cons_append, List.nil_append, List.getElem?_cons_zero, List.getElem?_cons_succ, List.length_cons, List.length_nil, List.set_cons_zero, List.set_cons_succ, Ev.argsOf, Ev.argOf_val, Ev.argOf_at, Ev.bors, Ev.backs_val, Ev.backs_bor, Ev.backs_nil, Ev.loses, Ev.retW_val, Ev.retW_tmp, Ev.parOf, Ev.outsOf, List.replicate_zero, Nat.sub_self, Ev.isOwnL, List.getElem?_nil, reduceCtorEq, decide_eq_true_eq, Ev.cmpOk_int, Ev.cmpOk_bl, Ev.cmpOk_non, Ev.cmpOk_nil, Ev.cmpOk_nilT, Ev.peq_int, Ev.peq_bl, Ev.peq_str, Ev.peq_non, Ev.peq_nil, Ev.peq_nilT, Ev.peq_consL, Ev.isT_non_int, Ev.isT_non_bool, Ev.isT_non_str, Ev.isT_non_tuple, Ev.isT_non_list, Ev.tyOk_non, Ev.isT_bl_int, Ev.isT_bl_bool, Ev.isT_bl_str, Ev.isT_bl_tuple, Ev.isT_bl_list, Ev.tyOk_bl, Ev.isT_int_int, Ev.isT_int_bool, Ev.isT_int_str, Ev.isT_int_tuple, Ev.isT_int_list, Ev.tyOk_int, Ev.isT_str_int, Ev.isT_str_bool, Ev.isT_str_str, Ev.isT_str_tuple, Ev.isT_str_list, Ev.tyOk_str, Ev.isT_tup_int, Ev.isT_tup_bool, Ev.isT_tup_str, Ev.isT_tup_tuple, Ev.isT_tup_list, Ev.tyOk_tup, Ev.isT_lst_int, Ev.isT_lst_bool, Ev.isT_lst_str, Ev.isT_lst_tuple, Ev.isT_lst_list, Ev.tyOk_lst, List.not_mem_nil, not_false_eq_true, List.nodup_cons, Bool.false_eq_true, ↓reduceIte, List.nodup_nil, true_and, and_true])
        simp only [h1]
        refine ⟨_, _, rfl, by first | exact hold_val | exact hold_own, ty, ?_⟩
        (simp (config := { maxSteps := 100000000 }) only [Ev.wS, Ev.wE.eq_1, Ev.wE.eq_2, Ev.wE.eq_3, Ev.wE.eq_4, Ev.wE.eq_6, Ev.wE.eq_7, Ev.wE.eq_8, Ev.wE.eq_9, Ev.wE.eq_10, Ev.wE.eq_11, Ev.wE.eq_12, Ev.wE.eq_13, Ev.wE.eq_14, Ev.wE.eq_15, Ev.wE.eq_16, Ev.wE.eq_17, Ev.wE.eq_18, Ev.wE.eq_19, Ev.wE.eq_20, Ev.wE.eq_21, Ev.wE.eq_22, Ev.wE.eq_23, Ev.wE.eq_24, Ev.wE.eq_25, Ev.wE.eq_26, Ev.wE.eq_27, Ev.wE_var, Ev.optK_some, Ev.selR_val, Ev.selR_own, Ev.rdS_val, Ev.rdS_own, Ev.fzS_val, Ev.fzS_own, Ev.argS_val, Ev.argS_own, Ev.wT, Ev.wAs, Ev.wEs, Ev.wI, Ev.wO, Ev.wG_nam, Ev.wG_tup, Ev.wGs_nil, Ev.wGs_cons, Ev.Tg.n, Ev.wipeE, Ev.restE, List.getD_cons_zero, List.getD_cons_succ, Ev.same2, Ev.items, Ev.rdK_val, Ev.rdK_tmp, Ev.rdK_at, Ev.rdsK, Ev.fzK_val, Ev.fzK_tmp, Ev.fzK_at, Ev.stW_val, Ev.stW_tmp, Ev.stW_bor, Ev.nbW_val, Ev.nbW_tmp, Ev.nbW_bor, Ev.binW_add, Ev.binW_sub, Ev.binW_mul, Ev.binW_div, Ev.binW_mod, Ev.binW_pow, Ev.binW_lst, Ev.binW_tup, Ev.binW_str, Ev.binW_rep, Ev.cmpW_lt, Ev.cmpW_le, Ev.cmpW_gt, Ev.cmpW_ge, Ev.cmpW_eq, Ev.cmpW_ne, Ev.cmpW_is, Ev.cmpW_isN, Ev.cmpW_inT, Ev.cmpW_inL, Ev.cmpW_niT, Ev.cmpW_niL, Ev.ixW_tup, Ev.ixW_lst, Ev.bltW_abs, Ev.bltW_int, Ev.bltW_gcd, Ev.bltW_lenT, Ev.bltW_lenL, Ev.bltW_scr, Ev.bltW_listL, Ev.bltW_listT, Ev.bltW_tupL, Ev.bltW_tupT, List.replicate, List.append_nil, List.cons_append, List.nil_append, List.getElem?_cons_zero, List.getElem?_cons_succ, List.length_cons, List.length_nil, List.set_cons_zero, List.set_cons_succ, Ev.argsOf, Ev.argOf_val, Ev.argOf_at, Ev.bors, Ev.backs_val, Ev.backs_bor, Ev.backs_nil, Ev.loses, Ev.retW_val, Ev.retW_tmp, Ev.parOf, Ev.outsOf, List.replicate_zero, Nat.sub_self, Ev.isOwnL, List.getElem?_nil, reduceCtorEq, decide_eq_true_eq, Ev.cmpOk_int, Ev.cmpOk_bl, Ev.cmpOk_non, Ev.cmpOk_nil, Ev.cmpOk_nilT, Ev.peq_int, Ev.peq_bl, Ev.peq_str, Ev.peq_non, Ev.peq_nil, Ev.peq_nilT, Ev.peq_consL, Ev.isT_non_int, Ev.isT_non_bool, Ev.isT_non_str, Ev.isT_non_tuple, Ev.isT_non_list, Ev.tyOk_non, Ev.isT_bl_int, Ev.isT_bl_bool, Ev.isT_bl_str, Ev.isT_bl_tuple, Ev.isT_bl_list, Ev.tyOk_bl, Ev.isT_int_int, Ev.isT_int_bool, Ev.isT_int_str, Ev.isT_int_tuple, Ev.isT_int_list, Ev.tyOk_int, Ev.isT_str_int, Ev.isT_str_bool, Ev.isT_str_str, Ev.isT_str_tuple, Ev.isT_str_list, Ev.tyOk_str, Ev.isT_tup_int, Ev.isT_tup_bool, Ev.isT_tup_str, Ev.isT_tup_tuple, Ev.isT_tup_list, Ev.tyOk_tup, Ev.isT_lst_int, Ev.isT_lst_bool, Ev.isT_lst_str, Ev.isT_lst_tuple, Ev.isT_lst_list, Ev.tyOk_lst, List.not_mem_nil, not_false_eq_true, List.nodup_cons, Bool.false_eq_true, ↓reduceIte, List.nodup_nil, true_and, and_true])
        refine ⟨_, _, rfl, by first | exact hold_val | exact hold_own, ty, ?_⟩
        (simp (config := { maxSteps := 100000000 }) only [Ev.wS, Ev.wE.eq_1, Ev.wE.eq_2, Ev.wE.eq_3, Ev.wE.eq_4, Ev.wE.eq_6, Ev.wE.eq_7, Ev.wE.eq_8, Ev.wE.eq_9, Ev.wE.eq_10, Ev.wE.eq_11, Ev.wE.eq_12, Ev.wE.eq_13, Ev.wE.eq_14, Ev.wE.eq_15, Ev.wE.eq_16, Ev.wE.eq_17, Ev.wE.eq_18, Ev.wE.eq_19, Ev.wE.eq_20, Ev.wE.eq_21, Ev.wE.eq_22, Ev.wE.eq_23, Ev.wE.eq_24, Ev.wE.eq_25, Ev.wE.eq_26, Ev.wE.eq_27, Ev.wE_var, Ev.optK_some, Ev.selR_val, Ev.selR_own, Ev.rdS_val, Ev.rdS_own, Ev.fzS_val, Ev.fzS_own, Ev.argS_val, Ev.argS_own, Ev.wT, Ev.wAs, Ev.wEs, Ev.wI, Ev.wO, Ev.wG_nam, Ev.wG_tup, Ev.wGs_nil, Ev.wGs_cons, Ev.Tg.n, Ev.wipeE, Ev.restE, List.getD_cons_zero, List.getD_cons_succ, Ev.same2, Ev.items, Ev.rdK_val, Ev.rdK_tmp, Ev.rdK_at, Ev.rdsK, Ev.fzK_val, Ev.fzK_tmp, Ev.fzK_at, Ev.stW_val, Ev.stW_tmp, Ev.stW_bor, Ev.nbW_val, Ev.nbW_tmp, Ev.nbW_bor, Ev.binW_add, Ev.binW_sub, Ev.binW_mul, Ev.binW_div, Ev.binW_mod, Ev.binW_pow, Ev.binW_lst, Ev.binW_tup, Ev.binW_str, Ev.binW_rep, Ev.cmpW_lt, Ev.cmpW_le, Ev.cmpW_gt, Ev.cmpW_ge, Ev.cmpW_eq, Ev.cmpW_ne, Ev.cmpW_is, Ev.cmpW_isN, Ev.cmpW_inT, Ev.cmpW_inL, Ev.cmpW_niT, Ev.cmpW_niL, Ev.ixW_tup, Ev.ixW_lst, Ev.bltW_abs, Ev.bltW_int, Ev.bltW_gcd, Ev.bltW_lenT, Ev.bltW_lenL, Ev.bltW_scr, Ev.bltW_listL, Ev.bltW_listT, Ev.bltW_tupL, Ev.bltW_tupT, List.replicate, List.append_nil, List.cons_append, List.nil_append, List.getElem?_cons_zero, List.getElem?_cons_succ, List.length_cons, List.length_nil, List.set_cons_zero, List.set_cons_succ, Ev.argsOf, Ev.argOf_val, Ev.argOf_at, Ev.bors, Ev.backs_val, Ev.backs_bor, Ev.backs_nil, Ev.loses, Ev.retW_val, Ev.retW_tmp, Ev.parOf, Ev.outsOf, List.replicate_zero, Nat.sub_self, Ev.isOwnL, List.getElem?_nil, reduceCtorEq, decide_eq_true_eq, Ev.cmpOk_int, Ev.cmpOk_bl, Ev.cmpOk_non, Ev.cmpOk_nil, Ev.cmpOk_nilT, Ev.peq_int, Ev.peq_bl, Ev.peq_str, Ev.peq_non, Ev.peq_nil, Ev.peq_nilT, Ev.peq_consL, Ev.isT_non_int, Ev.isT_non_bool, Ev.isT_non_str, Ev.isT_non_tuple, Ev.isT_non_list, Ev.tyOk_non, Ev.isT_bl_int, Ev.isT_bl_bool, Ev.isT_bl_str, Ev.isT_bl_tuple, Ev.isT_bl_list, Ev.tyOk_bl, Ev.isT_int_int, Ev.isT_int_bool, Ev.isT_int_str, Ev.isT_int_tuple, Ev.isT_int_list, Ev.tyOk_int, Ev.isT_str_int, Ev.isT_str_bool, Ev.isT_str_str, Ev.isT_str_tuple, Ev.isT_str_list, Ev.tyOk_str, Ev.isT_tup_int, Ev.isT_tup_bool, Ev.isT_tup_str, Ev.isT_tup_tuple, Ev.isT_tup_list, Ev.tyOk_tup, Ev.isT_lst_int, Ev.isT_lst_bool, Ev.isT_lst_str, Ev.isT_lst_tuple, Ev.isT_lst_list, Ev.tyOk_lst, List.not_mem_nil, not_false_eq_true, List.nodup_cons, Bool.false_eq_true, ↓reduceIte, List.nodup_nil, true_and, and_true])
        rw [if_neg (by simp), if_neg (by simp [sortP])]
        refine ⟨by decide, rfl, rfl, ?_⟩
        rw [if_pos (by simp [sortP, peq_int])]
        refine loopC_inv (fun _ ρ acc => acc = [] ∧ ρ = [.val (.lst xs), .val (.lst xs), .val (.int (sortP (.lst xs))), .un, .un]) _ 0 _ _ ⟨rfl, rfl⟩ (fun i y ρ acc hz hi R k1 k2 => ?_) (fun ρ acc h => ?_)
        · obtain ⟨rfl, rfl⟩ := hi
          obtain ⟨z, hz', rfl⟩ := zip_self _ _ _ hz
          (simp (config := { maxSteps := 100000000 }) only [Ev.wS, Ev.wE.eq_1, Ev.wE.eq_2, Ev.wE.eq_3, Ev.wE.eq_4, Ev.wE.eq_6, Ev.wE.eq_7, Ev.wE.eq_8, Ev.wE.eq_9, Ev.wE.eq_10, Ev.wE.eq_11, Ev.wE.eq_12, Ev.wE.eq_13, Ev.wE.eq_14, Ev.wE.eq_15, Ev.wE.eq_16, Ev.wE.eq_17, Ev.wE.eq_18, Ev.wE.eq_19, Ev.wE.eq_20, Ev.wE.eq_21, Ev.wE.eq_22, Ev.wE.eq_23, Ev.wE.eq_24, Ev.wE.eq_25, Ev.wE.eq_26, Ev.wE.eq_27, Ev.wE_var, Ev.optK_some, Ev.selR_val, Ev.selR_own, Ev.rdS_val, Ev.rdS_own, Ev.fzS_val, Ev.fzS_own, Ev.argS_val, Ev.argS_own, Ev.wT, Ev.wAs, Ev.wEs, Ev.wI, Ev.wO, Ev.wG_nam, Ev.wG_tup, Ev.wGs_nil, Ev.wGs_cons, Ev.Tg.n, Ev.wipeE, Ev.restE, List.getD_cons_zero, List.getD_cons_succ, Ev.same2, Ev.items, Ev.rdK_val, Ev.rdK_tmp, Ev.rdK_at, Ev.rdsK, Ev.fzK_val, Ev.fzK_tmp, Ev.fzK_at, Ev.stW_val, Ev.stW_tmp, Ev.stW_bor, Ev.nbW_val, Ev.nbW_tmp, Ev.nbW_bor, Ev.binW_add, Ev.binW_sub, Ev.binW_mul, Ev.binW_div, Ev.binW_mod, Ev.binW_pow, Ev.binW_lst, Ev.binW_tup, Ev.binW_str, Ev.binW_rep, Ev.cmpW_lt, Ev.cmpW_le, Ev.cmpW_gt, Ev.cmpW_ge, Ev.cmpW_eq, Ev.cmpW_ne, Ev.cmpW_is, Ev.cmpW_isN, Ev.cmpW_inT, Ev.cmpW_inL, Ev.cmpW_niT, Ev.cmpW_niL, Ev.ixW_tup, Ev.ixW_lst, Ev.bltW_abs, Ev.bltW_int, Ev.bltW_gcd, Ev.bltW_lenT, Ev.bltW_lenL, Ev.bltW_scr, Ev.bltW_listL, Ev.bltW_listT, Ev.bltW_tupL, Ev.bltW_tupT, List.replicate, List.append_nil, List.cons_append, List.nil_append, List.getElem?_cons_zero, List.getElem?_cons_succ, List.length_cons, List.length_nil, List.set_cons_zero, List.set_cons_succ, Ev.argsOf, Ev.argOf_val, Ev.argOf_at, Ev.bors, Ev.backs_val, Ev.backs_bor, Ev.backs_nil, Ev.loses, Ev.retW_val, Ev.retW_tmp, Ev.parOf, Ev.outsOf, List.replicate_zero, Nat.sub_self, Ev.isOwnL, List.getElem?_nil, reduceCtorEq, decide_eq_true_eq, Ev.cmpOk_int, Ev.cmpOk_bl, Ev.cmpOk_non, Ev.cmpOk_nil, Ev.cmpOk_nilT, Ev.peq_int, Ev.peq_bl, Ev.peq_str, Ev.peq_non, Ev.peq_nil, Ev.peq_nilT, Ev.peq_consL, Ev.isT_non_int, Ev.isT_non_bool, Ev.isT_non_str, Ev.isT_non_tuple, Ev.isT_non_list, Ev.tyOk_non, Ev.isT_bl_int, Ev.isT_bl_bool, Ev.isT_bl_str, Ev.isT_bl_tuple, Ev.isT_bl_list, Ev.tyOk_bl, Ev.isT_int_int, Ev.isT_int_bool, Ev.isT_int_str, Ev.isT_int_tuple, Ev.isT_int_list, Ev.tyOk_int, Ev.isT_str_int, Ev.isT_str_bool, Ev.isT_str_str, Ev.isT_str_tuple, Ev.isT_str_list, Ev.tyOk_str, Ev.isT_tup_int, Ev.isT_tup_bool, Ev.isT_tup_str, Ev.isT_tup_tuple, Ev.isT_tup_list, Ev.tyOk_tup, Ev.isT_lst_int, Ev.isT_lst_bool, Ev.isT_lst_str, Ev.isT_lst_tuple, Ev.isT_lst_list, Ev.tyOk_lst, List.not_mem_nil, not_false_eq_true, List.nodup_cons, Bool.false_eq_true, ↓reduceIte, List.nodup_nil, true_and, and_true])
          simp only [hlike]
          refine ⟨z, _, _, rfl, hold_val, hold_val, hy z hz', fun t1 t2 _ _ => ?_⟩
          (simp (config := { maxSteps := 100000000 }) only [Ev.wS, Ev.wE.eq_1, Ev.wE.eq_2, Ev.wE.eq_3, Ev.wE.eq_4, Ev.wE.eq_6, Ev.wE.eq_7, Ev.wE.eq_8, Ev.wE.eq_9, Ev.wE.eq_10, Ev.wE.eq_11, Ev.wE.eq_12, Ev.wE.eq_13, Ev.wE.eq_14, Ev.wE.eq_15, Ev.wE.eq_16, Ev.wE.eq_17, Ev.wE.eq_18, Ev.wE.eq_19, Ev.wE.eq_20, Ev.wE.eq_21, Ev.wE.eq_22, Ev.wE.eq_23, Ev.wE.eq_24, Ev.wE.eq_25, Ev.wE.eq_26, Ev.wE.eq_27, Ev.wE_var, Ev.optK_some, Ev.selR_val, Ev.selR_own, Ev.rdS_val, Ev.rdS_own, Ev.fzS_val, Ev.fzS_own, Ev.argS_val, Ev.argS_own, Ev.wT, Ev.wAs, Ev.wEs, Ev.wI, Ev.wO, Ev.wG_nam, Ev.wG_tup, Ev.wGs_nil, Ev.wGs_cons, Ev.Tg.n, Ev.wipeE, Ev.restE, List.getD_cons_zero, List.getD_cons_succ, Ev.same2, Ev.items, Ev.rdK_val, Ev.rdK_tmp, Ev.rdK_at, Ev.rdsK, Ev.fzK_val, Ev.fzK_tmp, Ev.fzK_at, Ev.stW_val, Ev.stW_tmp, Ev.stW_bor, Ev.nbW_val, Ev.nbW_tmp, Ev.nbW_bor, Ev.binW_add, Ev.binW_sub, Ev.binW_mul, Ev.binW_div, Ev.binW_mod, Ev.binW_pow, Ev.binW_lst, Ev.binW_tup, Ev.binW_str, Ev.binW_rep, Ev.cmpW_lt, Ev.cmpW_le, Ev.cmpW_gt, Ev.cmpW_ge, Ev.cmpW_eq, Ev.cmpW_ne, Ev.cmpW_is, Ev.cmpW_isN, Ev.cmpW_inT, Ev.cmpW_inL, Ev.cmpW_niT, Ev.cmpW_niL, Ev.ixW_tup, Ev.ixW_lst, Ev.bltW_abs, Ev.bltW_int, Ev.bltW_gcd, Ev.bltW_lenT, Ev.bltW_lenL, Ev.bltW_scr, Ev.bltW_listL, Ev.bltW_listT, Ev.bltW_tupL, Ev.bltW_tupT, List.replicate, List.append_nil, List.cons_append, List.nil_append, List.getElem?_cons_zero, List.getElem?_cons_succ, List.length_cons, List.length_nil, List.set_cons_zero, List.set_cons_succ, Ev.argsOf, Ev.argOf_val, Ev.argOf_at, Ev.bors, Ev.backs_val, Ev.backs_bor, Ev.backs_nil, Ev.loses, Ev.retW_val, Ev.retW_tmp, Ev.parOf, Ev.outsOf, List.replicate_zero, Nat.sub_self, Ev.isOwnL, List.getElem?_nil, reduceCtorEq, decide_eq_true_eq, Ev.cmpOk_int, Ev.cmpOk_bl, Ev.cmpOk_non, Ev.cmpOk_nil, Ev.cmpOk_nilT, Ev.peq_int, Ev.peq_bl, Ev.peq_str, Ev.peq_non, Ev.peq_nil, Ev.peq_nilT, Ev.peq_consL, Ev.isT_non_int, Ev.isT_non_bool, Ev.isT_non_str, Ev.isT_non_tuple, Ev.isT_non_list, Ev.tyOk_non, Ev.isT_bl_int, Ev.isT_bl_bool, Ev.isT_bl_str, Ev.isT_bl_tuple, Ev.isT_bl_list, Ev.tyOk_bl, Ev.isT_int_int, Ev.isT_int_bool, Ev.isT_int_str, Ev.isT_int_tuple, Ev.isT_int_list, Ev.tyOk_int, Ev.isT_str_int, Ev.isT_str_bool, Ev.isT_str_str, Ev.isT_str_tuple, Ev.isT_str_list, Ev.tyOk_str, Ev.isT_tup_int, Ev.isT_tup_bool, Ev.isT_tup_str, Ev.isT_tup_tuple, Ev.isT_tup_list, Ev.tyOk_tup, Ev.isT_lst_int, Ev.isT_lst_bool, Ev.isT_lst_str, Ev.isT_lst_tuple, Ev.isT_lst_list, Ev.tyOk_lst, List.not_mem_nil, not_false_eq_true, List.nodup_cons, Bool.false_eq_true, ↓reduceIte, List.nodup_nil, true_and, and_true])
          exact k2 _ ⟨rfl, rfl⟩
        · obtain ⟨rfl, rfl⟩ := h
          (simp (config := { maxSteps := 100000000 }) only [Ev.wS, Ev.wE.eq_1, Ev.wE.eq_2, Ev.wE.eq_3, Ev.wE.eq_4, Ev.wE.eq_6, Ev.wE.eq_7, Ev.wE.eq_8, Ev.wE.eq_9, Ev.wE.eq_10, Ev.wE.eq_11, Ev.wE.eq_12, Ev.wE.eq_13, Ev.wE.eq_14, Ev.wE.eq_15, Ev.wE.eq_16, Ev.wE.eq_17, Ev.wE.eq_18, Ev.wE.eq_19, Ev.wE.eq_20, Ev.wE.eq_21, Ev.wE.eq_22, Ev.wE.eq_23, Ev.wE.eq_24, Ev.wE.eq_25, Ev.wE.eq_26, Ev.wE.eq_27, Ev.wE_var, Ev.optK_some, Ev.selR_val, Ev.selR_own, Ev.rdS_val, Ev.rdS_own, Ev.fzS_val, Ev.fzS_own, Ev.argS_val, Ev.argS_own, Ev.wT, Ev.wAs, Ev.wEs, Ev.wI, Ev.wO, Ev.wG_nam, Ev.wG_tup, Ev.wGs_nil, Ev.wGs_cons, Ev.Tg.n, Ev.wipeE, Ev.restE, List.getD_cons_zero, List.getD_cons_succ, Ev.same2, Ev.items, Ev.rdK_val, Ev.rdK_tmp, Ev.rdK_at, Ev.rdsK, Ev.fzK_val, Ev.fzK_tmp, Ev.fzK_at, Ev.stW_val, Ev.stW_tmp, Ev.stW_bor, Ev.nbW_val, Ev.nbW_tmp, Ev.nbW_bor, Ev.binW_add, Ev.binW_sub, Ev.binW_mul, Ev.binW_div, Ev.binW_mod, Ev.binW_pow, Ev.binW_lst, Ev.binW_tup, Ev.binW_str, Ev.binW_rep, Ev.cmpW_lt, Ev.cmpW_le, Ev.cmpW_gt, Ev.cmpW_ge, Ev.cmpW_eq, Ev.cmpW_ne, Ev.cmpW_is, Ev.cmpW_isN, Ev.cmpW_inT, Ev.cmpW_inL, Ev.cmpW_niT, Ev.cmpW_niL, Ev.ixW_tup, Ev.ixW_lst, Ev.bltW_abs, Ev.bltW_int, Ev.bltW_gcd, Ev.bltW_lenT, Ev.bltW_lenL, Ev.bltW_scr, Ev.bltW_listL, Ev.bltW_listT, Ev.bltW_tupL, Ev.bltW_tupT, List.replicate, List.append_nil, List.cons_append, List.nil_append, List.getElem?_cons_zero, List.getElem?_cons_succ, List.length_cons, List.length_nil, List.set_cons_zero, List.set_cons_succ, Ev.argsOf, Ev.argOf_val, Ev.argOf_at, Ev.bors, Ev.backs_val, Ev.backs_bor, Ev.backs_nil, Ev.loses, Ev.retW_val, Ev.retW_tmp, Ev.parOf, Ev.outsOf, List.replicate_zero, Nat.sub_self, Ev.isOwnL, List.getElem?_nil, reduceCtorEq, decide_eq_true_eq, Ev.cmpOk_int, Ev.cmpOk_bl, Ev.cmpOk_non, Ev.cmpOk_nil, Ev.cmpOk_nilT, Ev.peq_int, Ev.peq_bl, Ev.peq_str, Ev.peq_non, Ev.peq_nil, Ev.peq_nilT, Ev.peq_consL, Ev.isT_non_int, Ev.isT_non_bool, Ev.isT_non_str, Ev.isT_non_tuple, Ev.isT_non_list, Ev.tyOk_non, Ev.isT_bl_int, Ev.isT_bl_bool, Ev.isT_bl_str, Ev.isT_bl_tuple, Ev.isT_bl_list, Ev.tyOk_bl, Ev.isT_int_int, Ev.isT_int_bool, Ev.isT_int_str, Ev.isT_int_tuple, Ev.isT_int_list, Ev.tyOk_int, Ev.isT_str_int, Ev.isT_str_bool, Ev.isT_str_str, Ev.isT_str_tuple, Ev.isT_str_list, Ev.tyOk_str, Ev.isT_tup_int, Ev.isT_tup_bool, Ev.isT_tup_str, Ev.isT_tup_tuple, Ev.isT_tup_list, Ev.tyOk_tup, Ev.isT_lst_int, Ev.isT_lst_bool, Ev.isT_lst_str, Ev.isT_lst_tuple, Ev.isT_lst_list, Ev.tyOk_lst, List.not_mem_nil, not_false_eq_true, List.nodup_cons, Bool.false_eq_true, ↓reduceIte, List.nodup_nil, true_and, and_true])
          exact ⟨by decide, hk _ _ hold_val hold_val⟩
      · (simp (config := { maxSteps := 100000000 }) only [Ev.wS, Ev.wE.eq_1, Ev.wE.eq_2, Ev.wE.eq_3, Ev.wE.eq_4, Ev.wE.eq_6, Ev.wE.eq_7, Ev.wE.eq_8, Ev.wE.eq_9, Ev.wE.eq_10, Ev.wE.eq_11, Ev.wE.eq_12, Ev.wE.eq_13, Ev.wE.eq_14, Ev.wE.eq_15, Ev.wE.eq_16, Ev.wE.eq_17, Ev.wE.eq_18, Ev.wE.eq_19, Ev.wE.eq_20, Ev.wE.eq_21, Ev.wE.eq_22, Ev.wE.eq_23, Ev.wE.eq_24, Ev.wE.eq_25, Ev.wE.eq_26, Ev.wE.eq_27, Ev.wE_var, Ev.optK_some, Ev.selR_val, Ev.selR_own, Ev.rdS_val, Ev.rdS_own, Ev.fzS_val, Ev.fzS_own, Ev.argS_val, Ev.argS_own, Ev.wT, Ev.wAs, Ev.wEs, Ev.wI, Ev.wO, Ev.wG_nam, Ev.wG_tup, Ev.wGs_nil, Ev.wGs_cons, Ev.Tg.n, Ev.wipeE, Ev.restE, List.getD_cons_zero, List.getD_cons_succ, Ev.same2, Ev.items, Ev.rdK_val, Ev.rdK_tmp, Ev.rdK_at, Ev.rdsK, Ev.fzK_val, Ev.fzK_tmp, Ev.fzK_at, Ev.stW_val, Ev.stW_tmp, Ev.stW_bor, Ev.nbW_val, Ev.nbW_tmp, Ev.nbW_bor, Ev.binW_add, Ev.binW_sub, Ev.binW_mul, Ev.binW_div, Ev.binW_mod, Ev.binW_pow, Ev.binW_lst, Ev.binW_tup, Ev.binW_str, Ev.binW_rep, Ev.cmpW_lt, Ev.cmpW_le, Ev.cmpW_gt, Ev.cmpW_ge, Ev.cmpW_eq, Ev.cmpW_ne, Ev.cmpW_is, Ev.cmpW_isN, Ev.cmpW_inT, Ev.cmpW_inL, Ev.cmpW_niT, Ev.cmpW_niL, Ev.ixW_tup, Ev.ixW_lst, Ev.bltW_abs, Ev.bltW_int, Ev.bltW_gcd, Ev.bltW_lenT, Ev.bltW_lenL, Ev.bltW_scr, Ev.bltW_listL, Ev.bltW_listT, Ev.bltW_tupL, Ev.bltW_tupT, List.replicate, List.append_nil, List.cons_append, List.nil_append, List.getElem?_cons_zero, List.getElem?_cons_succ, List.length_cons, List.length_nil, List.set_cons_zero, List.set_cons_succ, Ev.argsOf, Ev.argOf_val, Ev.argOf_at, Ev.bors, Ev.backs_val, Ev.backs_bor, Ev.backs_nil, Ev.loses, Ev.retW_val, Ev.retW_tmp, Ev.parOf, Ev.outsOf, List.replicate_zero, Nat.sub_self, Ev.isOwnL, List.getElem?_nil, reduceCtorEq, decide_eq_true_eq, Ev.cmpOk_int, Ev.cmpOk_bl, Ev.cmpOk_non, Ev.cmpOk_nil, Ev.cmpOk_nilT, Ev.peq_int, Ev.peq_bl, Ev.peq_str, Ev.peq_non, Ev.peq_nil, Ev.peq_nilT, Ev.peq_consL, Ev.isT_non_int, Ev.isT_non_bool, Ev.isT_non_str, Ev.isT_non_tuple, Ev.isT_non_list, Ev.tyOk_non, Ev.isT_bl_int, Ev.isT_bl_bool, Ev.isT_bl_str, Ev.isT_bl_tuple, Ev.isT_bl_list, Ev.tyOk_bl, Ev.isT_int_int, Ev.isT_int_bool, Ev.isT_int_str, Ev.isT_int_tuple, Ev.isT_int_list, Ev.tyOk_int, Ev.isT_str_int, Ev.isT_str_bool, Ev.isT_str_str, Ev.isT_str_tuple, Ev.isT_str_list, Ev.tyOk_str, Ev.isT_tup_int, Ev.isT_tup_bool, Ev.isT_tup_str, Ev.isT_tup_tuple, Ev.isT_tup_list, Ev.tyOk_tup, Ev.isT_lst_int, Ev.isT_lst_bool, Ev.isT_lst_str, Ev.isT_lst_tuple, Ev.isT_lst_list, Ev.tyOk_lst, List.not_mem_nil, not_false_eq_true, List.nodup_cons, Bool.false_eq_true, ↓reduceIte, List.nodup_nil, true_and, and_true])
        simp only [h1]
        refine ⟨_, _, rfl, by first | exact hold_val | exact hold_own, ty, ?_⟩
        (simp (config := { maxSteps := 100000000 }) only [Ev.wS, Ev.wE.eq_1, Ev.wE.eq_2, Ev.wE.eq_3, Ev.wE.eq_4, Ev.wE.eq_6, Ev.wE.eq_7, Ev.wE.eq_8, Ev.wE.eq_9, Ev.wE.eq_10, Ev.wE.eq_11, Ev.wE.eq_12, Ev.wE.eq_13, Ev.wE.eq_14, Ev.wE.eq_15, Ev.wE.eq_16, Ev.wE.eq_17, Ev.wE.eq_18, Ev.wE.eq_19, Ev.wE.eq_20, Ev.wE.eq_21, Ev.wE.eq_22, Ev.wE.eq_23, Ev.wE.eq_24, Ev.wE.eq_25, Ev.wE.eq_26, Ev.wE.eq_27, Ev.wE_var, Ev.optK_some, Ev.selR_val, Ev.selR_own, Ev.rdS_val, Ev.rdS_own, Ev.fzS_val, Ev.fzS_own, Ev.argS_val, Ev.argS_own, Ev.wT, Ev.wAs, Ev.wEs, Ev.wI, Ev.wO, Ev.wG_nam, Ev.wG_tup, Ev.wGs_nil, Ev.wGs_cons, Ev.Tg.n, Ev.wipeE, Ev.restE, List.getD_cons_zero, List.getD_cons_succ, Ev.same2, Ev.items, Ev.rdK_val, Ev.rdK_tmp, Ev.rdK_at, Ev.rdsK, Ev.fzK_val, Ev.fzK_tmp, Ev.fzK_at, Ev.stW_val, Ev.stW_tmp, Ev.stW_bor, Ev.nbW_val, Ev.nbW_tmp, Ev.nbW_bor, Ev.binW_add, Ev.binW_sub, Ev.binW_mul, Ev.binW_div, Ev.binW_mod, Ev.binW_pow, Ev.binW_lst, Ev.binW_tup, Ev.binW_str, Ev.binW_rep, Ev.cmpW_lt, Ev.cmpW_le, Ev.cmpW_gt, Ev.cmpW_ge, Ev.cmpW_eq, Ev.cmpW_ne, Ev.cmpW_is, Ev.cmpW_isN, Ev.cmpW_inT, Ev.cmpW_inL, Ev.cmpW_niT, Ev.cmpW_niL, Ev.ixW_tup, Ev.ixW_lst, Ev.bltW_abs, Ev.bltW_int, Ev.bltW_gcd, Ev.bltW_lenT, Ev.bltW_lenL, Ev.bltW_scr, Ev.bltW_listL, Ev.bltW_listT, Ev.bltW_tupL, Ev.bltW_tupT, List.replicate, List.append_nil, List.cons_append, List.nil_append, List.getElem?_cons_zero, List.getElem?_cons_succ, List.length_cons, List.length_nil, List.set_cons_zero, List.set_cons_succ, Ev.argsOf, Ev.argOf_val, Ev.argOf_at, Ev.bors, Ev.backs_val, Ev.backs_bor, Ev.backs_nil, Ev.loses, Ev.retW_val, Ev.retW_tmp, Ev.parOf, Ev.outsOf, List.replicate_zero, Nat.sub_self, Ev.isOwnL, List.getElem?_nil, reduceCtorEq, decide_eq_true_eq, Ev.cmpOk_int, Ev.cmpOk_bl, Ev.cmpOk_non, Ev.cmpOk_nil, Ev.cmpOk_nilT, Ev.peq_int, Ev.peq_bl, Ev.peq_str, Ev.peq_non, Ev.peq_nil, Ev.peq_nilT, Ev.peq_consL, Ev.isT_non_int, Ev.isT_non_bool, Ev.isT_non_str, Ev.isT_non_tuple, Ev.isT_non_list, Ev.tyOk_non, Ev.isT_bl_int, Ev.isT_bl_bool, Ev.isT_bl_str, Ev.isT_bl_tuple, Ev.isT_bl_list, Ev.tyOk_bl, Ev.isT_int_int, Ev.isT_int_bool, Ev.isT_int_str, Ev.isT_int_tuple, Ev.isT_int_list, Ev.tyOk_int, Ev.isT_str_int, Ev.isT_str_bool, Ev.isT_str_str, Ev.isT_str_tuple, Ev.isT_str_list, Ev.tyOk_str, Ev.isT_tup_int, Ev.isT_tup_bool, Ev.isT_tup_str, Ev.isT_tup_tuple, Ev.isT_tup_list, Ev.tyOk_tup, Ev.isT_lst_int, Ev.isT_lst_bool, Ev.isT_lst_str, Ev.isT_lst_tuple, Ev.isT_lst_list, Ev.tyOk_lst, List.not_mem_nil, not_false_eq_true, List.nodup_cons, Bool.false_eq_true, ↓reduceIte, List.nodup_nil, true_and, and_true])
        refine ⟨_, _, rfl, by first | exact hold_val | exact hold_own, ty, ?_⟩
        (simp (config := { maxSteps := 100000000 }) only [Ev.wS, Ev.wE.eq_1, Ev.wE.eq_2, Ev.wE.eq_3, Ev.wE.eq_4, Ev.wE.eq_6, Ev.wE.eq_7, Ev.wE.eq_8, Ev.wE.eq_9, Ev.wE.eq_10, Ev.wE.eq_11, Ev.wE.eq_12, Ev.wE.eq_13, Ev.wE.eq_14, Ev.wE.eq_15, Ev.wE.eq_16, Ev.wE.eq_17, Ev.wE.eq_18, Ev.wE.eq_19, Ev.wE.eq_20, Ev.wE.eq_21, Ev.wE.eq_22, Ev.wE.eq_23, Ev.wE.eq_24, Ev.wE.eq_25, Ev.wE.eq_26, Ev.wE.eq_27, Ev.wE_var, Ev.optK_some, Ev.selR_val, Ev.selR_own, Ev.rdS_val, Ev.rdS_own, Ev.fzS_val, Ev.fzS_own, Ev.argS_val, Ev.argS_own, Ev.wT, Ev.wAs, Ev.wEs, Ev.wI, Ev.wO, Ev.wG_nam, Ev.wG_tup, Ev.wGs_nil, Ev.wGs_cons, Ev.Tg.n, Ev.wipeE, Ev.restE, List.getD_cons_zero, List.getD_cons_succ, Ev.same2, Ev.items, Ev.rdK_val, Ev.rdK_tmp, Ev.rdK_at, Ev.rdsK, Ev.fzK_val, Ev.fzK_tmp, Ev.fzK_at, Ev.stW_val, Ev.stW_tmp, Ev.stW_bor, Ev.nbW_val, Ev.nbW_tmp, Ev.nbW_bor, Ev.binW_add, Ev.binW_sub, Ev.binW_mul, Ev.binW_div, Ev.binW_mod, Ev.binW_pow, Ev.binW_lst, Ev.binW_tup, Ev.binW_str, Ev.binW_rep, Ev.cmpW_lt, Ev.cmpW_le, Ev.cmpW_gt, Ev.cmpW_ge, Ev.cmpW_eq, Ev.cmpW_ne, Ev.cmpW_is, Ev.cmpW_isN, Ev.cmpW_inT, Ev.cmpW_inL, Ev.cmpW_niT, Ev.cmpW_niL, Ev.ixW_tup, Ev.ixW_lst, Ev.bltW_abs, Ev.bltW_int, Ev.bltW_gcd, Ev.bltW_lenT, Ev.bltW_lenL, Ev.bltW_scr, Ev.bltW_listL, Ev.bltW_listT, Ev.bltW_tupL, Ev.bltW_tupT, List.replicate, List.append_nil, List.cons_append, List.nil_append, List.getElem?_cons_zero, List.getElem?_cons_succ, List.length_cons, List.length_nil, List.set_cons_zero, List.set_cons_succ, Ev.argsOf, Ev.argOf_val, Ev.argOf_at, Ev.bors, Ev.backs_val, Ev.backs_bor, Ev.backs_nil, Ev.loses, Ev.retW_val, Ev.retW_tmp, Ev.parOf, Ev.outsOf, List.replicate_zero, Nat.sub_self, Ev.isOwnL, List.getElem?_nil, reduceCtorEq, decide_eq_true_eq, Ev.cmpOk_int, Ev.cmpOk_bl, Ev.cmpOk_non, Ev.cmpOk_nil, Ev.cmpOk_nilT, Ev.peq_int, Ev.peq_bl, Ev.peq_str, Ev.peq_non, Ev.peq_nil, Ev.peq_nilT, Ev.peq_consL, Ev.isT_non_int, Ev.isT_non_bool, Ev.isT_non_str, Ev.isT_non_tuple, Ev.isT_non_list, Ev.tyOk_non, Ev.isT_bl_int, Ev.isT_bl_bool, Ev.isT_bl_str, Ev.isT_bl_tuple, Ev.isT_bl_list, Ev.tyOk_bl, Ev.isT_int_int, Ev.isT_int_bool, Ev.isT_int_str, Ev.isT_int_tuple, Ev.isT_int_list, Ev.tyOk_int, Ev.isT_str_int, Ev.isT_str_bool, Ev.isT_str_str, Ev.isT_str_tuple, Ev.isT_str_list, Ev.tyOk_str, Ev.isT_tup_int, Ev.isT_tup_bool, Ev.isT_tup_str, Ev.isT_tup_tuple, Ev.isT_tup_list, Ev.tyOk_tup, Ev.isT_lst_int, Ev.isT_lst_bool, Ev.isT_lst_str, Ev.isT_lst_tuple, Ev.isT_lst_list, Ev.tyOk_lst, List.not_mem_nil, not_false_eq_true, List.nodup_cons, Bool.false_eq_true, ↓reduceIte, List.nodup_nil, true_and, and_true])
        rw [if_neg (by simp), if_neg (by simp [sortP])]
        refine ⟨by decide, rfl, rfl, ?_⟩
        rw [if_pos (by simp [sortP, peq_int])]
        refine loopC_inv (fun _ ρ acc => acc = [] ∧ ρ = [.val (.lst xs), .val (.lst xs), .val (.int (sortP (.lst xs))), .un, .un]) _ 0 _ _ ⟨rfl, rfl⟩ (fun i y ρ acc hz hi R k1 k2 => ?_) (fun ρ acc h => ?_)
        · obtain ⟨rfl, rfl⟩ := hi
          obtain ⟨z, hz', rfl⟩ := zip_self _ _ _ hz
          (simp (config := { maxSteps := 100000000 }) only [Ev.wS, Ev.wE.eq_1, Ev.wE.eq_2, Ev.wE.eq_3, Ev.wE.eq_4, Ev.wE.eq_6, Ev.wE.eq_7, Ev.wE.eq_8, Ev.wE.eq_9, Ev.wE.eq_10, Ev.wE.eq_11, Ev.wE.eq_12, Ev.wE.eq_13, Ev.wE.eq_14, Ev.wE.eq_15, Ev.wE.eq_16, Ev.wE.eq_17, Ev.wE.eq_18, Ev.wE.eq_19, Ev.wE.eq_20, Ev.wE.eq_21, Ev.wE.eq_22, Ev.wE.eq_23, Ev.wE.eq_24, Ev.wE.eq_25, Ev.wE.eq_26, Ev.wE.eq_27, Ev.wE_var, Ev.optK_some, Ev.selR_val, Ev.selR_own, Ev.rdS_val, Ev.rdS_own, Ev.fzS_val, Ev.fzS_own, Ev.argS_val, Ev.argS_own, Ev.wT, Ev.wAs, Ev.wEs, Ev.wI, Ev.wO, Ev.wG_nam, Ev.wG_tup, Ev.wGs_nil, Ev.wGs_cons, Ev.Tg.n, Ev.wipeE, Ev.restE, List.getD_cons_zero, List.getD_cons_succ, Ev.same2, Ev.items, Ev.rdK_val, Ev.rdK_tmp, Ev.rdK_at, Ev.rdsK, Ev.fzK_val, Ev.fzK_tmp, Ev.fzK_at, Ev.stW_val, Ev.stW_tmp, Ev.stW_bor, Ev.nbW_val, Ev.nbW_tmp, Ev.nbW_bor, Ev.binW_add, Ev.binW_sub, Ev.binW_mul, Ev.binW_div, Ev.binW_mod, Ev.binW_pow, Ev.binW_lst, Ev.binW_tup, Ev.binW_str, Ev.binW_rep, Ev.cmpW_lt, Ev.cmpW_le, Ev.cmpW_gt, Ev.cmpW_ge, Ev.cmpW_eq, Ev.cmpW_ne, Ev.cmpW_is, Ev.cmpW_isN, Ev.cmpW_inT, Ev.cmpW_inL, Ev.cmpW_niT, Ev.cmpW_niL, Ev.ixW_tup, Ev.ixW_lst, Ev.bltW_abs, Ev.bltW_int, Ev.bltW_gcd, Ev.bltW_lenT, Ev.bltW_lenL, Ev.bltW_scr, Ev.bltW_listL, Ev.bltW_listT, Ev.bltW_tupL, Ev.bltW_tupT, List.replicate, List.append_nil, List.cons_append, List.nil_append, List.getElem?_cons_zero, List.getElem?_cons_succ, List.length_cons, List.length_nil, List.set_cons_zero, List.set_cons_succ, Ev.argsOf, Ev.argOf_val, Ev.argOf_at, Ev.bors, Ev.backs_val, Ev.backs_bor, Ev.backs_nil, Ev.loses, Ev.retW_val, Ev.retW_tmp, Ev.parOf, Ev.outsOf, List.replicate_zero, Nat.sub_self, Ev.isOwnL, List.getElem?_nil, reduceCtorEq, decide_eq_true_eq, Ev.cmpOk_int, Ev.cmpOk_bl, Ev.cmpOk_non, Ev.cmpOk_nil, Ev.cmpOk_nilT, Ev.peq_int, Ev.peq_bl, Ev.peq_str, Ev.peq_non, Ev.peq_nil, Ev.peq_nilT, Ev.peq_consL, Ev.isT_non_int, Ev.isT_non_bool, Ev.isT_non_str, Ev.isT_non_tuple, Ev.isT_non_list, Ev.tyOk_non, Ev.isT_bl_int, Ev.isT_bl_bool, Ev.isT_bl_str, Ev.isT_bl_tuple, Ev.isT_bl_list, Ev.tyOk_bl, Ev.isT_int_int, Ev.isT_int_bool, Ev.isT_int_str, Ev.isT_int_tuple, Ev.isT_int_list, Ev.tyOk_int, Ev.isT_str_int, Ev.isT_str_bool, Ev.isT_str_str, Ev.isT_str_tuple, Ev.isT_str_list, Ev.tyOk_str, Ev.isT_tup_int, Ev.isT_tup_bool, Ev.isT_tup_str, Ev.isT_tup_tuple, Ev.isT_tup_list, Ev.tyOk_tup, Ev.isT_lst_int, Ev.isT_lst_bool, Ev.isT_lst_str, Ev.isT_lst_tuple, Ev.isT_lst_list, Ev.tyOk_lst, List.not_mem_nil, not_false_eq_true, List.nodup_cons, Bool.false_eq_true, ↓reduceIte, List.nodup_nil, true_and, and_true])
          simp only [hlike]
          refine ⟨z, _, _, rfl, hold_val, hold_val, hy z hz', fun t1 t2 _ _ => ?_⟩
          (simp (config := { maxSteps := 100000000 }) only [Ev.wS, Ev.wE.eq_1, Ev.wE.eq_2, Ev.wE.eq_3, Ev.wE.eq_4, Ev.wE.eq_6, Ev.wE.eq_7, Ev.wE.eq_8, Ev.wE.eq_9, Ev.wE.eq_10, Ev.wE.eq_11, Ev.wE.eq_12, Ev.wE.eq_13, Ev.wE.eq_14, Ev.wE.eq_15, Ev.wE.eq_16, Ev.wE.eq_17, Ev.wE.eq_18, Ev.wE.eq_19, Ev.wE.eq_20, Ev.wE.eq_21, Ev.wE.eq_22, Ev.wE.eq_23, Ev.wE.eq_24, Ev.wE.eq_25, Ev.wE.eq_26, Ev.wE.eq_27, Ev.wE_var, Ev.optK_some, Ev.selR_val, Ev.selR_own, Ev.rdS_val, Ev.rdS_own, Ev.fzS_val, Ev.fzS_own, Ev.argS_val, Ev.argS_own, Ev.wT, Ev.wAs, Ev.wEs, Ev.wI, Ev.wO, Ev.wG_nam, Ev.wG_tup, Ev.wGs_nil, Ev.wGs_cons, Ev.Tg.n, Ev.wipeE, Ev.restE, List.getD_cons_zero, List.getD_cons_succ, Ev.same2, Ev.items, Ev.rdK_val, Ev.rdK_tmp, Ev.rdK_at, Ev.rdsK, Ev.fzK_val, Ev.fzK_tmp, Ev.fzK_at, Ev.stW_val, Ev.stW_tmp, Ev.stW_bor, Ev.nbW_val, Ev.nbW_tmp, Ev.nbW_bor, Ev.binW_add, Ev.binW_sub, Ev.binW_mul, Ev.binW_div, Ev.binW_mod, Ev.binW_pow, Ev.binW_lst, Ev.binW_tup, Ev.binW_str, Ev.binW_rep, Ev.cmpW_lt, Ev.cmpW_le, Ev.cmpW_gt, Ev.cmpW_ge, Ev.cmpW_eq, Ev.cmpW_ne, Ev.cmpW_is, Ev.cmpW_isN, Ev.cmpW_inT, Ev.cmpW_inL, Ev.cmpW_niT, Ev.cmpW_niL, Ev.ixW_tup, Ev.ixW_lst, Ev.bltW_abs, Ev.bltW_int, Ev.bltW_gcd, Ev.bltW_lenT, Ev.bltW_lenL, Ev.bltW_scr, Ev.bltW_listL, Ev.bltW_listT, Ev.bltW_tupL, Ev.bltW_tupT, List.replicate, List.append_nil, List.cons_append, List.nil_append, List.getElem?_cons_zero, List.getElem?_cons_succ, List.length_cons, List.length_nil, List.set_cons_zero, List.set_cons_succ, Ev.argsOf, Ev.argOf_val, Ev.argOf_at, Ev.bors, Ev.backs_val, Ev.backs_bor, Ev.backs_nil, Ev.loses, Ev.retW_val, Ev.retW_tmp, Ev.parOf, Ev.outsOf, List.replicate_zero, Nat.sub_self, Ev.isOwnL, List.getElem?_nil, reduceCtorEq, decide_eq_true_eq, Ev.cmpOk_int, Ev.cmpOk_bl, Ev.cmpOk_non, Ev.cmpOk_nil, Ev.cmpOk_nilT, Ev.peq_int, Ev.peq_bl, Ev.peq_str, Ev.peq_non, Ev.peq_nil, Ev.peq_nilT, Ev.peq_consL, Ev.isT_non_int, Ev.isT_non_bool, Ev.isT_non_str, Ev.isT_non_tuple, Ev.isT_non_list, Ev.tyOk_non, Ev.isT_bl_int, Ev.isT_bl_bool, Ev.isT_bl_str, Ev.isT_bl_tuple, Ev.isT_bl_list, Ev.tyOk_bl, Ev.isT_int_int, Ev.isT_int_bool, Ev.isT_int_str, Ev.isT_int_tuple, Ev.isT_int_list, Ev.tyOk_int, Ev.isT_str_int, Ev.isT_str_bool, Ev.isT_str_str, Ev.isT_str_tuple, Ev.isT_str_list, Ev.tyOk_str, Ev.isT_tup_int, Ev.isT_tup_bool, Ev.isT_tup_str, Ev.isT_tup_tuple, Ev.isT_tup_list, Ev.tyOk_tup, Ev.isT_lst_int, Ev.isT_lst_bool, Ev.isT_lst_str, Ev.isT_lst_tuple, Ev.isT_lst_list, Ev.tyOk_lst, List.not_mem_nil, not_false_eq_true, List.nodup_cons, Bool.false_eq_true, ↓reduceIte, List.nodup_nil, true_and, and_true])
          exact k2 _ ⟨rfl, rfl⟩
        · obtain ⟨rfl, rfl⟩ := h
          (simp (config := { maxSteps := 100000000 }) only [Ev.wS, Ev.wE.eq_1, Ev.wE.eq_2, Ev.wE.eq_3, Ev.wE.eq_4, Ev.wE.eq_6, Ev.wE.eq_7, Ev.wE.eq_8, Ev.wE.eq_9, Ev.wE.eq_10, Ev.wE.eq_11, Ev.wE.eq_12, Ev.wE.eq_13, Ev.wE.eq_14, Ev.wE.eq_15, Ev.wE.eq_16, Ev.wE.eq_17, Ev.wE.eq_18, Ev.wE.eq_19, Ev.wE.eq_20, Ev.wE.eq_21, Ev.wE.eq_22, Ev.wE.eq_23, Ev.wE.eq_24, Ev.wE.eq_25, Ev.wE.eq_26, Ev.wE.eq_27, Ev.wE_var, Ev.optK_some, Ev.selR_val, Ev.selR_own, Ev.rdS_val, Ev.rdS_own, Ev.fzS_val, Ev.fzS_own, Ev.argS_val, Ev.argS_own, Ev.wT, Ev.wAs, Ev.wEs, Ev.wI, Ev.wO, Ev.wG_nam, Ev.wG_tup, Ev.wGs_nil, Ev.wGs_cons, Ev.Tg.n, Ev.wipeE, Ev.restE, List.getD_cons_zero, List.getD_cons_succ, Ev.same2, Ev.items, Ev.rdK_val, Ev.rdK_tmp, Ev.rdK_at, Ev.rdsK, Ev.fzK_val, Ev.fzK_tmp, Ev.fzK_at, Ev.stW_val, Ev.stW_tmp, Ev.stW_bor, Ev.nbW_val, Ev.nbW_tmp, Ev.nbW_bor, Ev.binW_add, Ev.binW_sub, Ev.binW_mul, Ev.binW_div, Ev.binW_mod, Ev.binW_pow, Ev.binW_lst, Ev.binW_tup, Ev.binW_str, Ev.binW_rep, Ev.cmpW_lt, Ev.cmpW_le, Ev.cmpW_gt, Ev.cmpW_ge, Ev.cmpW_eq, Ev.cmpW_ne, Ev.cmpW_is, Ev.cmpW_isN, Ev.cmpW_inT, Ev.cmpW_inL, Ev.cmpW_niT, Ev.cmpW_niL, Ev.ixW_tup, Ev.ixW_lst, Ev.bltW_abs, Ev.bltW_int, Ev.bltW_gcd, Ev.bltW_lenT, Ev.bltW_lenL, Ev.bltW_scr, Ev.bltW_listL, Ev.bltW_listT, Ev.bltW_tupL, Ev.bltW_tupT, List.replicate, List.append_nil, List.cons_append, List.nil_append, List.getElem?_cons_zero, List.getElem?_cons_succ, List.length_cons, List.length_nil, List.set_cons_zero, List.set_cons_succ, Ev.argsOf, Ev.argOf_val, Ev.argOf_at, Ev.bors, Ev.backs_val, Ev.backs_bor, Ev.backs_nil, Ev.loses, Ev.retW_val, Ev.retW_tmp, Ev.parOf, Ev.outsOf, List.replicate_zero, Nat.sub_self, Ev.isOwnL, List.getElem?_nil, reduceCtorEq, decide_eq_true_eq, Ev.cmpOk_int, Ev.cmpOk_bl, Ev.cmpOk_non, Ev.cmpOk_nil, Ev.cmpOk_nilT, Ev.peq_int, Ev.peq_bl, Ev.peq_str, Ev.peq_non, Ev.peq_nil, Ev.peq_nilT, Ev.peq_consL, Ev.isT_non_int, Ev.isT_non_bool, Ev.isT_non_str, Ev.isT_non_tuple, Ev.isT_non_list, Ev.tyOk_non, Ev.isT_bl_int, Ev.isT_bl_bool, Ev.isT_bl_str, Ev.isT_bl_tuple, Ev.isT_bl_list, Ev.tyOk_bl, Ev.isT_int_int, Ev.isT_int_bool, Ev.isT_int_str, Ev.isT_int_tuple, Ev.isT_int_list, Ev.tyOk_int, Ev.isT_str_int, Ev.isT_str_bool, Ev.isT_str_str, Ev.isT_str_tuple, Ev.isT_str_list, Ev.tyOk_str, Ev.isT_tup_int, Ev.isT_tup_bool, Ev.isT_tup_str, Ev.isT_tup_tuple, Ev.isT_tup_list, Ev.tyOk_tup, Ev.isT_lst_int, Ev.isT_lst_bool, Ev.isT_lst_str, Ev.isT_lst_tuple, Ev.isT_lst_list, Ev.tyOk_lst, List.not_mem_nil, not_false_eq_true, List.nodup_cons, Bool.false_eq_true, ↓reduceIte, List.nodup_nil, true_and, and_true])
          exact ⟨by decide, hk _ _ hold_val hold_val⟩
      · (simp (config := { maxSteps := 100000000 }) only [Ev.wS, Ev.wE.eq_1, Ev.wE.eq_2, Ev.wE.eq_3, Ev.wE.eq_4, Ev.wE.eq_6, Ev.wE.eq_7, Ev.wE.eq_8, Ev.wE.eq_9, Ev.wE.eq_10, Ev.wE.eq_11, Ev.wE.eq_12, Ev.wE.eq_13, Ev.wE.eq_14, Ev.wE.eq_15, Ev.wE.eq_16, Ev.wE.eq_17, Ev.wE.eq_18, Ev.wE.eq_19, Ev.wE.eq_20, Ev.wE.eq_21, Ev.wE.eq_22, Ev.wE.eq_23, Ev.wE.eq_24, Ev.wE.eq_25, Ev.wE.eq_26, Ev.wE.eq_27, Ev.wE_var, Ev.optK_some, Ev.selR_val, Ev.selR_own, Ev.rdS_val, Ev.rdS_own, Ev.fzS_val, Ev.fzS_own, Ev.argS_val, Ev.argS_own, Ev.wT, Ev.wAs, Ev.wEs, Ev.wI, Ev.wO, Ev.wG_nam, Ev.wG_tup, Ev.wGs_nil, Ev.wGs_cons, Ev.Tg.n, Ev.wipeE, Ev.restE, List.getD_cons_zero, List.getD_cons_succ, Ev.same2, Ev.items, Ev.rdK_val, Ev.rdK_tmp, Ev.rdK_at, Ev.rdsK, Ev.fzK_val, Ev.fzK_tmp, Ev.fzK_at, Ev.stW_val, Ev.stW_tmp, Ev.stW_bor, Ev.nbW_val, Ev.nbW_tmp, Ev.nbW_bor, Ev.binW_add, Ev.binW_sub, Ev.binW_mul, Ev.binW_div, Ev.binW_mod, Ev.binW_pow, Ev.binW_lst, Ev.binW_tup, Ev.binW_str, Ev.binW_rep, Ev.cmpW_lt, Ev.cmpW_le, Ev.cmpW_gt, Ev.cmpW_ge, Ev.cmpW_eq, Ev.cmpW_ne, Ev.cmpW_is, Ev.cmpW_isN, Ev.cmpW_inT, Ev.cmpW_inL, Ev.cmpW_niT, Ev.cmpW_niL, Ev.ixW_tup, Ev.ixW_lst, Ev.bltW_abs, Ev.bltW_int, Ev.bltW_gcd, Ev.bltW_lenT, Ev.bltW_lenL, Ev.bltW_scr, Ev.bltW_listL, Ev.bltW_listT, Ev.bltW_tupL, Ev.bltW_tupT, List.replicate, List.append_nil, List.cons_append, List.nil_append, List.getElem?_cons_zero, List.getElem?_cons_succ, List.length_cons, List.length_nil, List.set_cons_zero, List.set_cons_succ, Ev.argsOf, Ev.argOf_val, Ev.argOf_at, Ev.bors, Ev.backs_val, Ev.backs_bor, Ev.backs_nil, Ev.loses, Ev.retW_val, Ev.retW_tmp, Ev.parOf, Ev.outsOf, List.replicate_zero, Nat.sub_self, Ev.isOwnL, List.getElem?_nil, reduceCtorEq, decide_eq_true_eq, Ev.cmpOk_int, Ev.cmpOk_bl, Ev.cmpOk_non, Ev.cmpOk_nil, Ev.cmpOk_nilT, Ev.peq_int, Ev.peq_bl, Ev.peq_str, Ev.peq_non, Ev.peq_nil, Ev.peq_nilT, Ev.peq_consL, Ev.isT_non_int, Ev.isT_non_bool, Ev.isT_non_str, Ev.isT_non_tuple, Ev.isT_non_list, Ev.tyOk_non, Ev.isT_bl_int, Ev.isT_bl_bool, Ev.isT_bl_str, Ev.isT_bl_tuple, Ev.isT_bl_list, Ev.tyOk_bl, Ev.isT_int_int, Ev.isT_int_bool, Ev.isT_int_str, Ev.isT_int_tuple, Ev.isT_int_list, Ev.tyOk_int, Ev.isT_str_int, Ev.isT_str_bool, Ev.isT_str_str, Ev.isT_str_tuple, Ev.isT_str_list, Ev.tyOk_str, Ev.isT_tup_int, Ev.isT_tup_bool, Ev.isT_tup_str, Ev.isT_tup_tuple, Ev.isT_tup_list, Ev.tyOk_tup, Ev.isT_lst_int, Ev.isT_lst_bool, Ev.isT_lst_str, Ev.isT_lst_tuple, Ev.isT_lst_list, Ev.tyOk_lst, List.not_mem_nil, not_false_eq_true, List.nodup_cons, Bool.false_eq_true, ↓reduceIte, List.nodup_nil, true_and, and_true])
        simp only [h1]
        refine ⟨_, _, rfl, by first | exact hold_val | exact hold_own, ty, ?_⟩
        (simp (config := { maxSteps := 100000000 }) only [Ev.wS, Ev.wE.eq_1, Ev.wE.eq_2, Ev.wE.eq_3, Ev.wE.eq_4, Ev.wE.eq_6, Ev.wE.eq_7, Ev.wE.eq_8, Ev.wE.eq_9, Ev.wE.eq_10, Ev.wE.eq_11, Ev.wE.eq_12, Ev.wE.eq_13, Ev.wE.eq_14, Ev.wE.eq_15, Ev.wE.eq_16, Ev.wE.eq_17, Ev.wE.eq_18, Ev.wE.eq_19, Ev.wE.eq_20, Ev.wE.eq_21, Ev.wE.eq_22, Ev.wE.eq_23, Ev.wE.eq_24, Ev.wE.eq_25, Ev.wE.eq_26, Ev.wE.eq_27, Ev.wE_var, Ev.optK_some, Ev.selR_val, Ev.selR_own, Ev.rdS_val, Ev.rdS_own, Ev.fzS_val, Ev.fzS_own, Ev.argS_val, Ev.argS_own, Ev.wT, Ev.wAs, Ev.wEs, Ev.wI, Ev.wO, Ev.wG_nam, Ev.wG_tup, Ev.wGs_nil, Ev.wGs_cons, Ev.Tg.n, Ev.wipeE, Ev.restE, List.getD_cons_zero, List.getD_cons_succ, Ev.same2, Ev.items, Ev.rdK_val, Ev.rdK_tmp, Ev.rdK_at, Ev.rdsK, Ev.fzK_val, Ev.fzK_tmp, Ev.fzK_at, Ev.stW_val, Ev.stW_tmp, Ev.stW_bor, Ev.nbW_val, Ev.nbW_tmp, Ev.nbW_bor, Ev.binW_add, Ev.binW_sub, Ev.binW_mul, Ev.binW_div, Ev.binW_mod, Ev.binW_pow, Ev.binW_lst, Ev.binW_tup, Ev.binW_str, Ev.binW_rep, Ev.cmpW_lt, Ev.cmpW_le, Ev.cmpW_gt, Ev.cmpW_ge, Ev.cmpW_eq, Ev.cmpW_ne, Ev.cmpW_is, Ev.cmpW_isN, Ev.cmpW_inT, Ev.cmpW_inL, Ev.cmpW_niT, Ev.cmpW_niL, Ev.ixW_tup, Ev.ixW_lst, Ev.bltW_abs, Ev.bltW_int, Ev.bltW_gcd, Ev.bltW_lenT, Ev.bltW_lenL, Ev.bltW_scr, Ev.bltW_listL, Ev.bltW_listT, Ev.bltW_tupL, Ev.bltW_tupT, List.replicate, List.append_nil, List.cons_append, List.nil_append, List.getElem?_cons_zero, List.getElem?_cons_succ, List.length_cons, List.length_nil, List.set_cons_zero, List.set_cons_succ, Ev.argsOf, Ev.argOf_val, Ev.argOf_at, Ev.bors, Ev.backs_val, Ev.backs_bor, Ev.backs_nil, Ev.loses, Ev.retW_val, Ev.retW_tmp, Ev.parOf, Ev.outsOf, List.replicate_zero, Nat.sub_self, Ev.isOwnL, List.getElem?_nil, reduceCtorEq, decide_eq_true_eq, Ev.cmpOk_int, Ev.cmpOk_bl, Ev.cmpOk_non, Ev.cmpOk_nil, Ev.cmpOk_nilT, Ev.peq_int, Ev.peq_bl, Ev.peq_str, Ev.peq_non, Ev.peq_nil, Ev.peq_nilT, Ev.peq_consL, Ev.isT_non_int, Ev.isT_non_bool, Ev.isT_non_str, Ev.isT_non_tuple, Ev.isT_non_list, Ev.tyOk_non, Ev.isT_bl_int, Ev.isT_bl_bool, Ev.isT_bl_str, Ev.isT_bl_tuple, Ev.isT_bl_list, Ev.tyOk_bl, Ev.isT_int_int, Ev.isT_int_bool, Ev.isT_int_str, Ev.isT_int_tuple, Ev.isT_int_list, Ev.tyOk_int, Ev.isT_str_int, Ev.isT_str_bool, Ev.isT_str_str, Ev.isT_str_tuple, Ev.isT_str_list, Ev.tyOk_str, Ev.isT_tup_int, Ev.isT_tup_bool, Ev.isT_tup_str, Ev.isT_tup_tuple, Ev.isT_tup_list, Ev.tyOk_tup, Ev.isT_lst_int, Ev.isT_lst_bool, Ev.isT_lst_str, Ev.isT_lst_tuple, Ev.isT_lst_list, Ev.tyOk_lst, List.not_mem_nil, not_false_eq_true, List.nodup_cons, Bool.false_eq_true, ↓reduceIte, List.nodup_nil, true_and, and_true])
        refine ⟨_, _, rfl, by first | exact hold_val | exact hold_own, ty, ?_⟩
        (simp (config := { maxSteps := 100000000 }) only [Ev.wS, Ev.wE.eq_1, Ev.wE.eq_2, Ev.wE.eq_3, Ev.wE.eq_4, Ev.wE.eq_6, Ev.wE.eq_7, Ev.wE.eq_8, Ev.wE.eq_9, Ev.wE.eq_10, Ev.wE.eq_11, Ev.wE.eq_12, Ev.wE.eq_13, Ev.wE.eq_14, Ev.wE.eq_15, Ev.wE.eq_16, Ev.wE.eq_17, Ev.wE.eq_18, Ev.wE.eq_19, Ev.wE.eq_20, Ev.wE.eq_21, Ev.wE.eq_22, Ev.wE.eq_23, Ev.wE.eq_24, Ev.wE.eq_25, Ev.wE.eq_26, Ev.wE.eq_27, Ev.wE_var, Ev.optK_some, Ev.selR_val, Ev.selR_own, Ev.rdS_val, Ev.rdS_own, Ev.fzS_val, Ev.fzS_own, Ev.argS_val, Ev.argS_own, Ev.wT, Ev.wAs, Ev.wEs, Ev.wI, Ev.wO, Ev.wG_nam, Ev.wG_tup, Ev.wGs_nil, Ev.wGs_cons, Ev.Tg.n, Ev.wipeE, Ev.restE, List.getD_cons_zero, List.getD_cons_succ, Ev.same2, Ev.items, Ev.rdK_val, Ev.rdK_tmp, Ev.rdK_at, Ev.rdsK, Ev.fzK_val, Ev.fzK_tmp, Ev.fzK_at, Ev.stW_val, Ev.stW_tmp, Ev.stW_bor, Ev.nbW_val, Ev.nbW_tmp, Ev.nbW_bor, Ev.binW_add, Ev.binW_sub, Ev.binW_mul, Ev.binW_div, Ev.binW_mod, Ev.binW_pow, Ev.binW_lst, Ev.binW_tup, Ev.binW_str, Ev.binW_rep, Ev.cmpW_lt, Ev.cmpW_le, Ev.cmpW_gt, Ev.cmpW_ge, Ev.cmpW_eq, Ev.cmpW_ne, Ev.cmpW_is, Ev.cmpW_isN, Ev.cmpW_inT, Ev.cmpW_inL, Ev.cmpW_niT, Ev.cmpW_niL, Ev.ixW_tup, Ev.ixW_lst, Ev.bltW_abs, Ev.bltW_int, Ev.bltW_gcd, Ev.bltW_lenT, Ev.bltW_lenL, Ev.bltW_scr, Ev.bltW_listL, Ev.bltW_listT, Ev.bltW_tupL, Ev.bltW_tupT, List.replicate, List.append_nil, List.cons_append, List.nil_append, List.getElem?_cons_zero, List.getElem?_cons_succ, List.length_cons, List.length_nil, List.set_cons_zero, List.set_cons_succ, Ev.argsOf, Ev.argOf_val, Ev.argOf_at, Ev.bors, Ev.backs_val, Ev.backs_bor, Ev.backs_nil, Ev.loses, Ev.retW_val, Ev.retW_tmp, Ev.parOf, Ev.outsOf, List.replicate_zero, Nat.sub_self, Ev.isOwnL, List.getElem?_nil, reduceCtorEq, decide_eq_true_eq, Ev.cmpOk_int, Ev.cmpOk_bl, Ev.cmpOk_non, Ev.cmpOk_nil, Ev.cmpOk_nilT, Ev.peq_int, Ev.peq_bl, Ev.peq_str, Ev.peq_non, Ev.peq_nil, Ev.peq_nilT, Ev.peq_consL, Ev.isT_non_int, Ev.isT_non_bool, Ev.isT_non_str, Ev.isT_non_tuple, Ev.isT_non_list, Ev.tyOk_non, Ev.isT_bl_int, Ev.isT_bl_bool, Ev.isT_bl_str, Ev.isT_bl_tuple, Ev.isT_bl_list, Ev.tyOk_bl, Ev.isT_int_int, Ev.isT_int_bool, Ev.isT_int_str, Ev.isT_int_tuple, Ev.isT_int_list, Ev.tyOk_int, Ev.isT_str_int, Ev.isT_str_bool, Ev.isT_str_str, Ev.isT_str_tuple, Ev.isT_str_list, Ev.tyOk_str, Ev.isT_tup_int, Ev.isT_tup_bool, Ev.isT_tup_str, Ev.isT_tup_tuple, Ev.isT_tup_list, Ev.tyOk_tup, Ev.isT_lst_int, Ev.isT_lst_bool, Ev.isT_lst_str, Ev.isT_lst_tuple, Ev.isT_lst_list, Ev.tyOk_lst, List.not_mem_nil, not_false_eq_true, List.nodup_cons, Bool.false_eq_true, ↓reduceIte, List.nodup_nil, true_and, and_true])
        rw [if_neg (by simp), if_neg (by simp [sortP])]
        refine ⟨by decide, rfl, rfl, ?_⟩
        rw [if_pos (by simp [sortP, peq_int])]
        refine loopC_inv (fun _ ρ acc => acc = [] ∧ ρ = [.val (.lst xs), .val (.lst xs), .val (.int (sortP (.lst xs))), .un, .un]) _ 0 _ _ ⟨rfl, rfl⟩ (fun i y ρ acc hz hi R k1 k2 => ?_) (fun ρ acc h => ?_)
        · obtain ⟨rfl, rfl⟩ := hi
          obtain ⟨z, hz', rfl⟩ := zip_self _ _ _ hz
          (simp (config := { maxSteps := 100000000 }) only [Ev.wS, Ev.wE.eq_1, Ev.wE.eq_2, Ev.wE.eq_3, Ev.wE.eq_4, Ev.wE.eq_6, Ev.wE.eq_7, Ev.wE.eq_8, Ev.wE.eq_9, Ev.wE.eq_10, Ev.wE.eq_11, Ev.wE.eq_12, Ev.wE.eq_13, Ev.wE.eq_14, Ev.wE.eq_15, Ev.wE.eq_16, Ev.wE.eq_17, Ev.wE.eq_18, Ev.wE.eq_19, Ev.wE.eq_20, Ev.wE.eq_21, Ev.wE.eq_22, Ev.wE.eq_23, Ev.wE.eq_24, Ev.wE.eq_25, Ev.wE.eq_26, Ev.wE.eq_27, Ev.wE_var, Ev.optK_some, Ev.selR_val, Ev.selR_own, Ev.rdS_val, Ev.rdS_own, Ev.fzS_val, Ev.fzS_own, Ev.argS_val, Ev.argS_own, Ev.wT, Ev.wAs, Ev.wEs, Ev.wI, Ev.wO, Ev.wG_nam, Ev.wG_tup, Ev.wGs_nil, Ev.wGs_cons, Ev.Tg.n, Ev.wipeE, Ev.restE, List.getD_cons_zero, List.getD_cons_succ, Ev.same2, Ev.items, Ev.rdK_val, Ev.rdK_tmp, Ev.rdK_at, Ev.rdsK, Ev.fzK_val, Ev.fzK_tmp, Ev.fzK_at, Ev.stW_val, Ev.stW_tmp, Ev.stW_bor, Ev.nbW_val, Ev.nbW_tmp, Ev.nbW_bor, Ev.binW_add, Ev.binW_sub, Ev.binW_mul, Ev.binW_div, Ev.binW_mod, Ev.binW_pow, Ev.binW_lst, Ev.binW_tup, Ev.binW_str, Ev.binW_rep, Ev.cmpW_lt, Ev.cmpW_le, Ev.cmpW_gt, Ev.cmpW_ge, Ev.cmpW_eq, Ev.cmpW_ne, Ev.cmpW_is, Ev.cmpW_isN, Ev.cmpW_inT, Ev.cmpW_inL, Ev.cmpW_niT, Ev.cmpW_niL, Ev.ixW_tup, Ev.ixW_lst, Ev.bltW_abs, Ev.bltW_int, Ev.bltW_gcd, Ev.bltW_lenT, Ev.bltW_lenL, Ev.bltW_scr, Ev.bltW_listL, Ev.bltW_listT, Ev.bltW_tupL, Ev.bltW_tupT, List.replicate, List.append_nil, List.cons_append, List.nil_append, List.getElem?_cons_zero, List.getElem?_cons_succ, List.length_cons, List.length_nil, List.set_cons_zero, List.set_cons_succ, Ev.argsOf, Ev.argOf_val, Ev.argOf_at, Ev.bors, Ev.backs_val, Ev.backs_bor, Ev.backs_nil, Ev.loses, Ev.retW_val, Ev.retW_tmp, Ev.parOf, Ev.outsOf, List.replicate_zero, Nat.sub_self, Ev.isOwnL, List.getElem?_nil, reduceCtorEq, decide_eq_true_eq, Ev.cmpOk_int, Ev.cmpOk_bl, Ev.cmpOk_non, Ev.cmpOk_nil, Ev.cmpOk_nilT, Ev.peq_int, Ev.peq_bl, Ev.peq_str, Ev.peq_non, Ev.peq_nil, Ev.peq_nilT, Ev.peq_consL, Ev.isT_non_int, Ev.isT_non_bool, Ev.isT_non_str, Ev.isT_non_tuple, Ev.isT_non_list, Ev.tyOk_non, Ev.isT_bl_int, Ev.isT_bl_bool, Ev.isT_bl_str, Ev.isT_bl_tuple, Ev.isT_bl_list, Ev.tyOk_bl, Ev.isT_int_int, Ev.isT_int_bool, Ev.isT_int_str, Ev.isT_int_tuple, Ev.isT_int_list, Ev.tyOk_int, Ev.isT_str_int, Ev.isT_str_bool, Ev.isT_str_str, Ev.isT_str_tuple, Ev.isT_str_list, Ev.tyOk_str, Ev.isT_tup_int, Ev.isT_tup_bool, Ev.isT_tup_str, Ev.isT_tup_tuple, Ev.isT_tup_list, Ev.tyOk_tup, Ev.isT_lst_int, Ev.isT_lst_bool, Ev.isT_lst_str, Ev.isT_lst_tuple, Ev.isT_lst_list, Ev.tyOk_lst, List.not_mem_nil, not_false_eq_true, List.nodup_cons, Bool.false_eq_true, ↓reduceIte, List.nodup_nil, true_and, and_true])
          simp only [hlike]
          refine ⟨z, _, _, rfl, hold_val, hold_val, hy z hz', fun t1 t2 _ _ => ?_⟩
          (simp (config := { maxSteps := 100000000 }) only [Ev.wS, Ev.wE.eq_1, Ev.wE.eq_2, Ev.wE.eq_3, Ev.wE.eq_4, Ev.wE.eq_6, Ev.wE.eq_7, Ev.wE.eq_8, Ev.wE.eq_9, Ev.wE.eq_10, Ev.wE.eq_11, Ev.wE.eq_12, Ev.wE.eq_13, Ev.wE.eq_14, Ev.wE.eq_15, Ev.wE.eq_16, Ev.wE.eq_17, Ev.wE.eq_18, Ev.wE.eq_19, Ev.wE.eq_20, Ev.wE.eq_21, Ev.wE.eq_22, Ev.wE.eq_23, Ev.wE.eq_24, Ev.wE.eq_25, Ev.wE.eq_26, Ev.wE.eq_27, Ev.wE_var, Ev.optK_some, Ev.selR_val, Ev.selR_own, Ev.rdS_val, Ev.rdS_own, Ev.fzS_val, Ev.fzS_own, Ev.argS_val, Ev.argS_own, Ev.wT, Ev.wAs, Ev.wEs, Ev.wI, Ev.wO, Ev.wG_nam, Ev.wG_tup, Ev.wGs_nil, Ev.wGs_cons, Ev.Tg.n, Ev.wipeE, Ev.restE, List.getD_cons_zero, List.getD_cons_succ, Ev.same2, Ev.items, Ev.rdK_val, Ev.rdK_tmp, Ev.rdK_at, Ev.rdsK, Ev.fzK_val, Ev.fzK_tmp, Ev.fzK_at, Ev.stW_val, Ev.stW_tmp, Ev.stW_bor, Ev.nbW_val, Ev.nbW_tmp, Ev.nbW_bor, Ev.binW_add, Ev.binW_sub, Ev.binW_mul, Ev.binW_div, Ev.binW_mod, Ev.binW_pow, Ev.binW_lst, Ev.binW_tup, Ev.binW_str, Ev.binW_rep, Ev.cmpW_lt, Ev.cmpW_le, Ev.cmpW_gt, Ev.cmpW_ge, Ev.cmpW_eq, Ev.cmpW_ne, Ev.cmpW_is, Ev.cmpW_isN, Ev.cmpW_inT, Ev.cmpW_inL, Ev.cmpW_niT, Ev.cmpW_niL, Ev.ixW_tup, Ev.ixW_lst, Ev.bltW_abs, Ev.bltW_int, Ev.bltW_gcd, Ev.bltW_lenT, Ev.bltW_lenL, Ev.bltW_scr, Ev.bltW_listL, Ev.bltW_listT, Ev.bltW_tupL, Ev.bltW_tupT, List.replicate, List.append_nil, List.cons_append, List.nil_append, List.getElem?_cons_zero, List.getElem?_cons_succ, List.length_cons, List.length_nil, List.set_cons_zero, List.set_cons_succ, Ev.argsOf, Ev.argOf_val, Ev.argOf_at, Ev.bors, Ev.backs_val, Ev.backs_bor, Ev.backs_nil, Ev.loses, Ev.retW_val, Ev.retW_tmp, Ev.parOf, Ev.outsOf, List.replicate_zero, Nat.sub_self, Ev.isOwnL, List.getElem?_nil, reduceCtorEq, decide_eq_true_eq, Ev.cmpOk_int, Ev.cmpOk_bl, Ev.cmpOk_non, Ev.cmpOk_nil, Ev.cmpOk_nilT, Ev.peq_int, Ev.peq_bl, Ev.peq_str, Ev.peq_non, Ev.peq_nil, Ev.peq_nilT, Ev.peq_consL, Ev.isT_non_int, Ev.isT_non_bool, Ev.isT_non_str, Ev.isT_non_tuple, Ev.isT_non_list, Ev.tyOk_non, Ev.isT_bl_int, Ev.isT_bl_bool, Ev.isT_bl_str, Ev.isT_bl_tuple, Ev.isT_bl_list, Ev.tyOk_bl, Ev.isT_int_int, Ev.isT_int_bool, Ev.isT_int_str, Ev.isT_int_tuple, Ev.isT_int_list, Ev.tyOk_int, Ev.isT_str_int, Ev.isT_str_bool, Ev.isT_str_str, Ev.isT_str_tuple, Ev.isT_str_list, Ev.tyOk_str, Ev.isT_tup_int, Ev.isT_tup_bool, Ev.isT_tup_str, Ev.isT_tup_tuple, Ev.isT_tup_list, Ev.tyOk_tup, Ev.isT_lst_int, Ev.isT_lst_bool, Ev.isT_lst_str, Ev.isT_lst_tuple, Ev.isT_lst_list, Ev.tyOk_lst, List.not_mem_nil, not_false_eq_true, List.nodup_cons, Bool.false_eq_true, ↓reduceIte, List.nodup_nil, true_and, and_true])
          exact k2 _ ⟨rfl, rfl⟩
        · obtain ⟨rfl, rfl⟩ := h
          (simp (config := { maxSteps := 100000000 }) only [Ev.wS, Ev.wE.eq_1, Ev.wE.eq_2, Ev.wE.eq_3, Ev.wE.eq_4, Ev.wE.eq_6, Ev.wE.eq_7, Ev.wE.eq_8, Ev.wE.eq_9, Ev.wE.eq_10, Ev.wE.eq_11, Ev.wE.eq_12, Ev.wE.eq_13, Ev.wE.eq_14, Ev.wE.eq_15, Ev.wE.eq_16, Ev.wE.eq_17, Ev.wE.eq_18, Ev.wE.eq_19, Ev.wE.eq_20, Ev.wE.eq_21, Ev.wE.eq_22, Ev.wE.eq_23, Ev.wE.eq_24, Ev.wE.eq_25, Ev.wE.eq_26, Ev.wE.eq_27, Ev.wE_var, Ev.optK_some, Ev.selR_val, Ev.selR_own, Ev.rdS_val, Ev.rdS_own, Ev.fzS_val, Ev.fzS_own, Ev.argS_val, Ev.argS_own, Ev.wT, Ev.wAs, Ev.wEs, Ev.wI, Ev.wO, Ev.wG_nam, Ev.wG_tup, Ev.wGs_nil, Ev.wGs_cons, Ev.Tg.n, Ev.wipeE, Ev.restE, List.getD_cons_zero, List.getD_cons_succ, Ev.same2, Ev.items, Ev.rdK_val, Ev.rdK_tmp, Ev.rdK_at, Ev.rdsK, Ev.fzK_val, Ev.fzK_tmp, Ev.fzK_at, Ev.stW_val, Ev.stW_tmp, Ev.stW_bor, Ev.nbW_val, Ev.nbW_tmp, Ev.nbW_bor, Ev.binW_add, Ev.binW_sub, Ev.binW_mul, Ev.binW_div, Ev.binW_mod, Ev.binW_pow, Ev.binW_lst, Ev.binW_tup, Ev.binW_str, Ev.binW_rep, Ev.cmpW_lt, Ev.cmpW_le, Ev.cmpW_gt, Ev.cmpW_ge, Ev.cmpW_eq, Ev.cmpW_ne, Ev.cmpW_is, Ev.cmpW_isN, Ev.cmpW_inT, Ev.cmpW_inL, Ev.cmpW_niT, Ev.cmpW_niL, Ev.ixW_tup, Ev.ixW_lst, Ev.bltW_abs, Ev.bltW_int, Ev.bltW_gcd, Ev.bltW_lenT, Ev.bltW_lenL, Ev.bltW_scr, Ev.bltW_listL, Ev.bltW_listT, Ev.bltW_tupL, Ev.bltW_tupT, List.replicate, List.append_nil, List.cons_append, List.nil_append, List.getElem?_cons_zero, List.getElem?_cons_succ, List.length_cons, List.length_nil, List.set_cons_zero, List.set_cons_succ, Ev.argsOf, Ev.argOf_val, Ev.argOf_at, Ev.bors, Ev.backs_val, Ev.backs_bor, Ev.backs_nil, Ev.loses, Ev.retW_val, Ev.retW_tmp, Ev.parOf, Ev.outsOf, List.replicate_zero, Nat.sub_self, Ev.isOwnL, List.getElem?_nil, reduceCtorEq, decide_eq_true_eq, Ev.cmpOk_int, Ev.cmpOk_bl, Ev.cmpOk_non, Ev.cmpOk_nil, Ev.cmpOk_nilT, Ev.peq_int, Ev.peq_bl, Ev.peq_str, Ev.peq_non, Ev.peq_nil, Ev.peq_nilT, Ev.peq_consL, Ev.isT_non_int, Ev.isT_non_bool, Ev.isT_non_str, Ev.isT_non_tuple, Ev.isT_non_list, Ev.tyOk_non, Ev.isT_bl_int, Ev.isT_bl_bool, Ev.isT_bl_str, Ev.isT_bl_tuple, Ev.isT_bl_list, Ev.tyOk_bl, Ev.isT_int_int, Ev.isT_int_bool, Ev.isT_int_str, Ev.isT_int_tuple, Ev.isT_int_list, Ev.tyOk_int, Ev.isT_str_int, Ev.isT_str_bool, Ev.isT_str_str, Ev.isT_str_tuple, Ev.isT_str_list, Ev.tyOk_str, Ev.isT_tup_int, Ev.isT_tup_bool, Ev.isT_tup_str, Ev.isT_tup_tuple, Ev.isT_tup_list, Ev.tyOk_tup, Ev.isT_lst_int, Ev.isT_lst_bool, Ev.isT_lst_str, Ev.isT_lst_tuple, Ev.isT_lst_list, Ev.tyOk_lst, List.not_mem_nil, not_false_eq_true, List.nodup_cons, Bool.false_eq_true, ↓reduceIte, List.nodup_nil, true_and, and_true])
          exact ⟨by decide, hk _ _ hold_val hold_val⟩
      · (simp (config := { maxSteps := 100000000 }) only [Ev.wS, Ev.wE.eq_1, Ev.wE.eq_2, Ev.wE.eq_3, Ev.wE.eq_4, Ev.wE.eq_6, Ev.wE.eq_7, Ev.wE.eq_8, Ev.wE.eq_9, Ev.wE.eq_10, Ev.wE.eq_11, Ev.wE.eq_12, Ev.wE.eq_13, Ev.wE.eq_14, Ev.wE.eq_15, Ev.wE.eq_16, Ev.wE.eq_17, Ev.wE.eq_18, Ev.wE.eq_19, Ev.wE.eq_20, Ev.wE.eq_21, Ev.wE.eq_22, Ev.wE.eq_23, Ev.wE.eq_24, Ev.wE.eq_25, Ev.wE.eq_26, Ev.wE.eq_27, Ev.wE_var, Ev.optK_some, Ev.selR_val, Ev.selR_own, Ev.rdS_val, Ev.rdS_own, Ev.fzS_val, Ev.fzS_own, Ev.argS_val, Ev.argS_own, Ev.wT, Ev.wAs, Ev.wEs, Ev.wI, Ev.wO, Ev.wG_nam, Ev.wG_tup, Ev.wGs_nil, Ev.wGs_cons, Ev.Tg.n, Ev.wipeE, Ev.restE, List.getD_cons_zero, List.getD_cons_succ, Ev.same2, Ev.items, Ev.rdK_val, Ev.rdK_tmp, Ev.rdK_at, Ev.rdsK, Ev.fzK_val, Ev.fzK_tmp, Ev.fzK_at, Ev.stW_val, Ev.stW_tmp, Ev.stW_bor, Ev.nbW_val, Ev.nbW_tmp, Ev.nbW_bor, Ev.binW_add, Ev.binW_sub, Ev.binW_mul, Ev.binW_div, Ev.binW_mod, Ev.binW_pow, Ev.binW_lst, Ev.binW_tup, Ev.binW_str, Ev.binW_rep, Ev.cmpW_lt, Ev.cmpW_le, Ev.cmpW_gt, Ev.cmpW_ge, Ev.cmpW_eq, Ev.cmpW_ne, Ev.cmpW_is, Ev.cmpW_isN, Ev.cmpW_inT, Ev.cmpW_inL, Ev.cmpW_niT, Ev.cmpW_niL, Ev.ixW_tup, Ev.ixW_lst, Ev.bltW_abs, Ev.bltW_int, Ev.bltW_gcd, Ev.bltW_lenT, Ev.bltW_lenL, Ev.bltW_scr, Ev.bltW_listL, Ev.bltW_listT, Ev.bltW_tupL, Ev.bltW_tupT, List.replicate, List.append_nil, List.cons_append, List.nil_append, List.getElem?_cons_zero, List.getElem?_cons_succ, List.length_cons, List.length_nil, List.set_cons_zero, List.set_cons_succ, Ev.argsOf, Ev.argOf_val, Ev.argOf_at, Ev.bors, Ev.backs_val, Ev.backs_bor, Ev.backs_nil, Ev.loses, Ev.retW_val, Ev.retW_tmp, Ev.parOf, Ev.outsOf, List.replicate_zero, Nat.sub_self, Ev.isOwnL, List.getElem?_nil, reduceCtorEq, decide_eq_true_eq, Ev.cmpOk_int, Ev.cmpOk_bl, Ev.cmpOk_non, Ev.cmpOk_nil, Ev.cmpOk_nilT, Ev.peq_int, Ev.peq_bl, Ev.peq_str, Ev.peq_non, Ev.peq_nil, Ev.peq_nilT, Ev.peq_consL, Ev.isT_non_int, Ev.isT_non_bool, Ev.isT_non_str, Ev.isT_non_tuple, Ev.isT_non_list, Ev.tyOk_non, Ev.isT_bl_int, Ev.isT_bl_bool, Ev.isT_bl_str, Ev.isT_bl_tuple, Ev.isT_bl_list, Ev.tyOk_bl, Ev.isT_int_int, Ev.isT_int_bool, Ev.isT_int_str, Ev.isT_int_tuple, Ev.isT_int_list, Ev.tyOk_int, Ev.isT_str_int, Ev.isT_str_bool, Ev.isT_str_str, Ev.isT_str_tuple, Ev.isT_str_list, Ev.tyOk_str, Ev.isT_tup_int, Ev.isT_tup_bool, Ev.isT_tup_str, Ev.isT_tup_tuple, Ev.isT_tup_list, Ev.tyOk_tup, Ev.isT_lst_int, Ev.isT_lst_bool, Ev.isT_lst_str, Ev.isT_lst_tuple, Ev.isT_lst_list, Ev.tyOk_lst, List.not_mem_nil, not_false_eq_true, List.nodup_cons, Bool.false_eq_true, ↓reduceIte, List.nodup_nil, true_and, and_true])
        simp only [h1]
        refine ⟨_, _, rfl, by first | exact hold_val | exact hold_own, ty, ?_⟩
        (simp (config := { maxSteps := 100000000 }) only [Ev.wS, Ev.wE.eq_1, Ev.wE.eq_2, Ev.wE.eq_3, Ev.wE.eq_4, Ev.wE.eq_6, Ev.wE.eq_7, Ev.wE.eq_8, Ev.wE.eq_9, Ev.wE.eq_10, Ev.wE.eq_11, Ev.wE.eq_12, Ev.wE.eq_13, Ev.wE.eq_14, Ev.wE.eq_15, Ev.wE.eq_16, Ev.wE.eq_17, Ev.wE.eq_18, Ev.wE.eq_19, Ev.wE.eq_20, Ev.wE.eq_21, Ev.wE.eq_22, Ev.wE.eq_23, Ev.wE.eq_24, Ev.wE.eq_25, Ev.wE.eq_26, Ev.wE.eq_27, Ev.wE_var, Ev.optK_some, Ev.selR_val, Ev.selR_own, Ev.rdS_val, Ev.rdS_own, Ev.fzS_val, Ev.fzS_own, Ev.argS_val, Ev.argS_own, Ev.wT, Ev.wAs, Ev.wEs, Ev.wI, Ev.wO, Ev.wG_nam, Ev.wG_tup, Ev.wGs_nil, Ev.wGs_cons, Ev.Tg.n, Ev.wipeE, Ev.restE, List.getD_cons_zero, List.getD_cons_succ, Ev.same2, Ev.items, Ev.rdK_val, Ev.rdK_tmp, Ev.rdK_at, Ev.rdsK, Ev.fzK_val, Ev.fzK_tmp, Ev.fzK_at, Ev.stW_val, Ev.stW_tmp, Ev.stW_bor, Ev.nbW_val, Ev.nbW_tmp, Ev.nbW_bor, Ev.binW_add, Ev.binW_sub, Ev.binW_mul, Ev.binW_div, Ev.binW_mod, Ev.binW_pow, Ev.binW_lst, Ev.binW_tup, Ev.binW_str, Ev.binW_rep, Ev.cmpW_lt, Ev.cmpW_le, Ev.cmpW_gt, Ev.cmpW_ge, Ev.cmpW_eq, Ev.cmpW_ne, Ev.cmpW_is, Ev.cmpW_isN, Ev.cmpW_inT, Ev.cmpW_inL, Ev.cmpW_niT, Ev.cmpW_niL, Ev.ixW_tup, Ev.ixW_lst, Ev.bltW_abs, Ev.bltW_int, Ev.bltW_gcd, Ev.bltW_lenT, Ev.bltW_lenL, Ev.bltW_scr, Ev.bltW_listL, Ev.bltW_listT, Ev.bltW_tupL, Ev.bltW_tupT, List.replicate, List.append_nil, List.cons_append, List.nil_append, List.getElem?_cons_zero, List.getElem?_cons_succ, List.length_cons, List.length_nil, List.set_cons_zero, List.set_cons_succ, Ev.argsOf, Ev.argOf_val, Ev.argOf_at, Ev.bors, Ev.backs_val, Ev.backs_bor, Ev.backs_nil, Ev.loses, Ev.retW_val, Ev.retW_tmp, Ev.parOf, Ev.outsOf, List.replicate_zero, Nat.sub_self, Ev.isOwnL, List.getElem?_nil, reduceCtorEq, decide_eq_true_eq, Ev.cmpOk_int, Ev.cmpOk_bl, Ev.cmpOk_non, Ev.cmpOk_nil, Ev.cmpOk_nilT, Ev.peq_int, Ev.peq_bl, Ev.peq_str, Ev.peq_non, Ev.peq_nil, Ev.peq_nilT, Ev.peq_consL, Ev.isT_non_int, Ev.isT_non_bool, Ev.isT_non_str, Ev.isT_non_tuple, Ev.isT_non_list, Ev.tyOk_non, Ev.isT_bl_int, Ev.isT_bl_bool, Ev.isT_bl_str, Ev.isT_bl_tuple, Ev.isT_bl_list, Ev.tyOk_bl, Ev.isT_int_int, Ev.isT_int_bool, Ev.isT_int_str, Ev.isT_int_tuple, Ev.isT_int_list, Ev.tyOk_int, Ev.isT_str_int, Ev.isT_str_bool, Ev.isT_str_str, Ev.isT_str_tuple, Ev.isT_str_list, Ev.tyOk_str, Ev.isT_tup_int, Ev.isT_tup_bool, Ev.isT_tup_str, Ev.isT_tup_tuple, Ev.isT_tup_list, Ev.tyOk_tup, Ev.isT_lst_int, Ev.isT_lst_bool, Ev.isT_lst_str, Ev.isT_lst_tuple, Ev.isT_lst_list, Ev.tyOk_lst, List.not_mem_nil, not_false_eq_true, List.nodup_cons, Bool.false_eq_true, ↓reduceIte, List.nodup_nil, true_and, and_true])
        refine ⟨_, _, rfl, by first | exact hold_val | exact hold_own, ty, ?_⟩
        (simp (config := { maxSteps := 100000000 }) only [Ev.wS, Ev.wE.eq_1, Ev.wE.eq_2, Ev.wE.eq_3, Ev.wE.eq_4, Ev.wE.eq_6, Ev.wE.eq_7, Ev.wE.eq_8, Ev.wE.eq_9, Ev.wE.eq_10, Ev.wE.eq_11, Ev.wE.eq_12, Ev.wE.eq_13, Ev.wE.eq_14, Ev.wE.eq_15, Ev.wE.eq_16, Ev.wE.eq_17, Ev.wE.eq_18, Ev.wE.eq_19, Ev.wE.eq_20, Ev.wE.eq_21, Ev.wE.eq_22, Ev.wE.eq_23, Ev.wE.eq_24, Ev.wE.eq_25, Ev.wE.eq_26, Ev.wE.eq_27, Ev.wE_var, Ev.optK_some, Ev.selR_val, Ev.selR_own, Ev.rdS_val, Ev.rdS_own, Ev.fzS_val, Ev.fzS_own, Ev.argS_val, Ev.argS_own, Ev.wT, Ev.wAs, Ev.wEs, Ev.wI, Ev.wO, Ev.wG_nam, Ev.wG_tup, Ev.wGs_nil, Ev.wGs_cons, Ev.Tg.n, Ev.wipeE, Ev.restE, List.getD_cons_zero, List.getD_cons_succ, Ev.same2, Ev.items, Ev.rdK_val, Ev.rdK_tmp, Ev.rdK_at, Ev.rdsK, Ev.fzK_val, Ev.fzK_tmp, Ev.fzK_at, Ev.stW_val, Ev.stW_tmp, Ev.stW_bor, Ev.nbW_val, Ev.nbW_tmp, Ev.nbW_bor, Ev.binW_add, Ev.binW_sub, Ev.binW_mul, Ev.binW_div, Ev.binW_mod, Ev.binW_pow, Ev.binW_lst, Ev.binW_tup, Ev.binW_str, Ev.binW_rep, Ev.cmpW_lt, Ev.cmpW_le, Ev.cmpW_gt, Ev.cmpW_ge, Ev.cmpW_eq, Ev.cmpW_ne, Ev.cmpW_is, Ev.cmpW_isN, Ev.cmpW_inT, Ev.cmpW_inL, Ev.cmpW_niT, Ev.cmpW_niL, Ev.ixW_tup, Ev.ixW_lst, Ev.bltW_abs, Ev.bltW_int, Ev.bltW_gcd, Ev.bltW_lenT, Ev.bltW_lenL, Ev.bltW_scr, Ev.bltW_listL, Ev.bltW_listT, Ev.bltW_tupL, Ev.bltW_tupT, List.replicate, List.append_nil, List.cons_append, List.nil_append, List.getElem?_cons_zero, List.getElem?_cons_succ, List.length_cons, List.length_nil, List.set_cons_zero, List.set_cons_succ, Ev.argsOf, Ev.argOf_val, Ev.argOf_at, Ev.bors, Ev.backs_val, Ev.backs_bor, Ev.backs_nil, Ev.loses, Ev.retW_val, Ev.retW_tmp, Ev.parOf, Ev.outsOf, List.replicate_zero, Nat.sub_self, Ev.isOwnL, List.getElem?_nil, reduceCtorEq, decide_eq_true_eq, Ev.cmpOk_int, Ev.cmpOk_bl, Ev.cmpOk_non, Ev.cmpOk_nil, Ev.cmpOk_nilT, Ev.peq_int, Ev.peq_bl, Ev.peq_str, Ev.peq_non, Ev.peq_nil, Ev.peq_nilT, Ev.peq_consL, Ev.isT_non_int, Ev.isT_non_bool, Ev.isT_non_str, Ev.isT_non_tuple, Ev.isT_non_list, Ev.tyOk_non, Ev.isT_bl_int, Ev.isT_bl_bool, Ev.isT_bl_str, Ev.isT_bl_tuple, Ev.isT_bl_list, Ev.tyOk_bl, Ev.isT_int_int, Ev.isT_int_bool, Ev.isT_int_str, Ev.isT_int_tuple, Ev.isT_int_list, Ev.tyOk_int, Ev.isT_str_int, Ev.isT_str_bool, Ev.isT_str_str, Ev.isT_str_tuple, Ev.isT_str_list, Ev.tyOk_str, Ev.isT_tup_int, Ev.isT_tup_bool, Ev.isT_tup_str, Ev.isT_tup_tuple, Ev.isT_tup_list, Ev.tyOk_tup, Ev.isT_lst_int, Ev.isT_lst_bool, Ev.isT_lst_str, Ev.isT_lst_tuple, Ev.isT_lst_list, Ev.tyOk_lst, List.not_mem_nil, not_false_eq_true, List.nodup_cons, Bool.false_eq_true, ↓reduceIte, List.nodup_nil, true_and, and_true])
        rw [if_neg (by simp), if_neg (by simp [sortP])]
        refine ⟨by decide, rfl, rfl, ?_⟩
        rw [if_pos (by simp [sortP, peq_int])]
        refine loopC_inv (fun _ ρ acc => acc = [] ∧ ρ = [.val (.lst xs), .val (.lst xs), .val (.int (sortP (.lst xs))), .un, .un]) _ 0 _ _ ⟨rfl, rfl⟩ (fun i y ρ acc hz hi R k1 k2 => ?_) (fun ρ acc h => ?_)
        · obtain ⟨rfl, rfl⟩ := hi
          obtain ⟨z, hz', rfl⟩ := zip_self _ _ _ hz
          (simp (config := { maxSteps := 100000000 }) only [Ev.wS, Ev.wE.eq_1, Ev.wE.eq_2, Ev.wE.eq_3, Ev.wE.eq_4, Ev.wE.eq_6, Ev.wE.eq_7, Ev.wE.eq_8, Ev.wE.eq_9, Ev.wE.eq_10, Ev.wE.eq_11, Ev.wE.eq_12, Ev.wE.eq_13, Ev.wE.eq_14, Ev.wE.eq_15, Ev.wE.eq_16, Ev.wE.eq_17, Ev.wE.eq_18, Ev.wE.eq_19, Ev.wE.eq_20, Ev.wE.eq_21, Ev.wE.eq_22, Ev.wE.eq_23, Ev.wE.eq_24, Ev.wE.eq_25, Ev.wE.eq_26, Ev.wE.eq_27, Ev.wE_var, Ev.optK_some, Ev.selR_val, Ev.selR_own, Ev.rdS_val, Ev.rdS_own, Ev.fzS_val, Ev.fzS_own, Ev.argS_val, Ev.argS_own, Ev.wT, Ev.wAs, Ev.wEs, Ev.wI, Ev.wO, Ev.wG_nam, Ev.wG_tup, Ev.wGs_nil, Ev.wGs_cons, Ev.Tg.n, Ev.wipeE, Ev.restE, List.getD_cons_zero, List.getD_cons_succ, Ev.same2, Ev.items, Ev.rdK_val, Ev.rdK_tmp, Ev.rdK_at, Ev.rdsK, Ev.fzK_val, Ev.fzK_tmp, Ev.fzK_at, Ev.stW_val, Ev.stW_tmp, Ev.stW_bor, Ev.nbW_val, Ev.nbW_tmp, Ev.nbW_bor, Ev.binW_add, Ev.binW_sub, Ev.binW_mul, Ev.binW_div, Ev.binW_mod, Ev.binW_pow, Ev.binW_lst, Ev.binW_tup, Ev.binW_str, Ev.binW_rep, Ev.cmpW_lt, Ev.cmpW_le, Ev.cmpW_gt, Ev.cmpW_ge, Ev.cmpW_eq, Ev.cmpW_ne, Ev.cmpW_is, Ev.cmpW_isN, Ev.cmpW_inT, Ev.cmpW_inL, Ev.cmpW_niT, Ev.cmpW_niL, Ev.ixW_tup, Ev.ixW_lst, Ev.bltW_abs, Ev.bltW_int, Ev.bltW_gcd, Ev.bltW_lenT, Ev.bltW_lenL, Ev.bltW_scr, Ev.bltW_listL, Ev.bltW_listT, Ev.bltW_tupL, Ev.bltW_tupT, List.replicate, List.append_nil, List.cons_append, List.nil_append, List.getElem?_cons_zero, List.getElem?_cons_succ, List.length_cons, List.length_nil, List.set_cons_zero, List.set_cons_succ, Ev.argsOf, Ev.argOf_val, Ev.argOf_at, Ev.bors, Ev.backs_val, Ev.backs_bor, Ev.backs_nil, Ev.loses, Ev.retW_val, Ev.retW_tmp, Ev.parOf, Ev.outsOf, List.replicate_zero, Nat.sub_self, Ev.isOwnL, List.getElem?_nil, reduceCtorEq, decide_eq_true_eq, Ev.cmpOk_int, Ev.cmpOk_bl, Ev.cmpOk_non, Ev.cmpOk_nil, Ev.cmpOk_nilT, Ev.peq_int, Ev.peq_bl, Ev.peq_str, Ev.peq_non, Ev.peq_nil, Ev.peq_nilT, Ev.peq_consL, Ev.isT_non_int, Ev.isT_non_bool, Ev.isT_non_str, Ev.isT_non_tuple, Ev.isT_non_list, Ev.tyOk_non, Ev.isT_bl_int, Ev.isT_bl_bool, Ev.isT_bl_str, Ev.isT_bl_tuple, Ev.isT_bl_list, Ev.tyOk_bl, Ev.isT_int_int, Ev.isT_int_bool, Ev.isT_int_str, Ev.isT_int_tuple, Ev.isT_int_list, Ev.tyOk_int, Ev.isT_str_int, Ev.isT_str_bool, Ev.isT_str_str, Ev.isT_str_tuple, Ev.isT_str_list, Ev.tyOk_str, Ev.isT_tup_int, Ev.isT_tup_bool, Ev.isT_tup_str, Ev.isT_tup_tuple, Ev.isT_tup_list, Ev.tyOk_tup, Ev.isT_lst_int, Ev.isT_lst_bool, Ev.isT_lst_str, Ev.isT_lst_tuple, Ev.isT_lst_list, Ev.tyOk_lst, List.not_mem_nil, not_false_eq_true, List.nodup_cons, Bool.false_eq_true, ↓reduceIte, List.nodup_nil, true_and, and_true])
          simp only [hlike]
          refine ⟨z, _, _, rfl, hold_val, hold_val, hy z hz', fun t1 t2 _ _ => ?_⟩
          (simp (config := { maxSteps := 100000000 }) only [Ev.wS, Ev.wE.eq_1, Ev.wE.eq_2, Ev.wE.eq_3, Ev.wE.eq_4, Ev.wE.eq_6, Ev.wE.eq_7, Ev.wE.eq_8, Ev.wE.eq_9, Ev.wE.eq_10, Ev.wE.eq_11, Ev.wE.eq_12, Ev.wE.eq_13, Ev.wE.eq_14, Ev.wE.eq_15, Ev.wE.eq_16, Ev.wE.eq_17, Ev.wE.eq_18, Ev.wE.eq_19, Ev.wE.eq_20, Ev.wE.eq_21, Ev.wE.eq_22, Ev.wE.eq_23, Ev.wE.eq_24, Ev.wE.eq_25, Ev.wE.eq_26, Ev.wE.eq_27, Ev.wE_var, Ev.optK_some, Ev.selR_val, Ev.selR_own, Ev.rdS_val, Ev.rdS_own, Ev.fzS_val, Ev.fzS_own, Ev.argS_val, Ev.argS_own, Ev.wT, Ev.wAs, Ev.wEs, Ev.wI, Ev.wO, Ev.wG_nam, Ev.wG_tup, Ev.wGs_nil, Ev.wGs_cons, Ev.Tg.n, Ev.wipeE, Ev.restE, List.getD_cons_zero, List.getD_cons_succ, Ev.same2, Ev.items, Ev.rdK_val, Ev.rdK_tmp, Ev.rdK_at, Ev.rdsK, Ev.fzK_val, Ev.fzK_tmp, Ev.fzK_at, Ev.stW_val, Ev.stW_tmp, Ev.stW_bor, Ev.nbW_val, Ev.nbW_tmp, Ev.nbW_bor, Ev.binW_add, Ev.binW_sub, Ev.binW_mul, Ev.binW_div, Ev.binW_mod, Ev.binW_pow, Ev.binW_lst, Ev.binW_tup, Ev.binW_str, Ev.binW_rep, Ev.cmpW_lt, Ev.cmpW_le, Ev.cmpW_gt, Ev.cmpW_ge, Ev.cmpW_eq, Ev.cmpW_ne, Ev.cmpW_is, Ev.cmpW_isN, Ev.cmpW_inT, Ev.cmpW_inL, Ev.cmpW_niT, Ev.cmpW_niL, Ev.ixW_tup, Ev.ixW_lst, Ev.bltW_abs, Ev.bltW_int, Ev.bltW_gcd, Ev.bltW_lenT, Ev.bltW_lenL, Ev.bltW_scr, Ev.bltW_listL, Ev.bltW_listT, Ev.bltW_tupL, Ev.bltW_tupT, List.replicate, List.append_nil, List.cons_append, List.nil_append, List.getElem?_cons_zero, List.getElem?_cons_succ, List.length_cons, List.length_nil, List.set_cons_zero, List.set_cons_succ, Ev.argsOf, Ev.argOf_val, Ev.argOf_at, Ev.bors, Ev.backs_val, Ev.backs_bor, Ev.backs_nil, Ev.loses, Ev.retW_val, Ev.retW_tmp, Ev.parOf, Ev.outsOf, List.replicate_zero, Nat.sub_self, Ev.isOwnL, List.getElem?_nil, reduceCtorEq, decide_eq_true_eq, Ev.cmpOk_int, Ev.cmpOk_bl, Ev.cmpOk_non, Ev.cmpOk_nil, Ev.cmpOk_nilT, Ev.peq_int, Ev.peq_bl, Ev.peq_str, Ev.peq_non, Ev.peq_nil, Ev.peq_nilT, Ev.peq_consL, Ev.isT_non_int, Ev.isT_non_bool, Ev.isT_non_str, Ev.isT_non_tuple, Ev.isT_non_list, Ev.tyOk_non, Ev.isT_bl_int, Ev.isT_bl_bool, Ev.isT_bl_str, Ev.isT_bl_tuple, Ev.isT_bl_list, Ev.tyOk_bl, Ev.isT_int_int, Ev.isT_int_bool, Ev.isT_int_str, Ev.isT_int_tuple, Ev.isT_int_list, Ev.tyOk_int, Ev.isT_str_int, Ev.isT_str_bool, Ev.isT_str_str, Ev.isT_str_tuple, Ev.isT_str_list, Ev.tyOk_str, Ev.isT_tup_int, Ev.isT_tup_bool, Ev.isT_tup_str, Ev.isT_tup_tuple, Ev.isT_tup_list, Ev.tyOk_tup, Ev.isT_lst_int, Ev.isT_lst_bool, Ev.isT_lst_str, Ev.isT_lst_tuple, Ev.isT_lst_list, Ev.tyOk_lst, List.not_mem_nil, not_false_eq_true, List.nodup_cons, Bool.false_eq_true, ↓reduceIte, List.nodup_nil, true_and, and_true])
          exact k2 _ ⟨rfl, rfl⟩
        · obtain ⟨rfl, rfl⟩ := h
          (simp (config := { maxSteps := 100000000 }) only [Ev.wS, Ev.wE.eq_1, Ev.wE.eq_2, Ev.wE.eq_3, Ev.wE.eq_4, Ev.wE.eq_6, Ev.wE.eq_7, Ev.wE.eq_8, Ev.wE.eq_9, Ev.wE.eq_10, Ev.wE.eq_11, Ev.wE.eq_12, Ev.wE.eq_13, Ev.wE.eq_14, Ev.wE.eq_15, Ev.wE.eq_16, Ev.wE.eq_17, Ev.wE.eq_18, Ev.wE.eq_19, Ev.wE.eq_20, Ev.wE.eq_21, Ev.wE.eq_22, Ev.wE.eq_23, Ev.wE.eq_24, Ev.wE.eq_25, Ev.wE.eq_26, Ev.wE.eq_27, Ev.wE_var, Ev.optK_some, Ev.selR_val, Ev.selR_own, Ev.rdS_val, Ev.rdS_own, Ev.fzS_val, Ev.fzS_own, Ev.argS_val, Ev.argS_own, Ev.wT, Ev.wAs, Ev.wEs, Ev.wI, Ev.wO, Ev.wG_nam, Ev.wG_tup, Ev.wGs_nil, Ev.wGs_cons, Ev.Tg.n, Ev.wipeE, Ev.restE, List.getD_cons_zero, List.getD_cons_succ, Ev.same2, Ev.items, Ev.rdK_val, Ev.rdK_tmp, Ev.rdK_at, Ev.rdsK, Ev.fzK_val, Ev.fzK_tmp, Ev.fzK_at, Ev.stW_val, Ev.stW_tmp, Ev.stW_bor, Ev.nbW_val, Ev.nbW_tmp, Ev.nbW_bor, Ev.binW_add, Ev.binW_sub, Ev.binW_mul, Ev.binW_div, Ev.binW_mod, Ev.binW_pow, Ev.binW_lst, Ev.binW_tup, Ev.binW_str, Ev.binW_rep, Ev.cmpW_lt, Ev.cmpW_le, Ev.cmpW_gt, Ev.cmpW_ge, Ev.cmpW_eq, Ev.cmpW_ne, Ev.cmpW_is, Ev.cmpW_isN, Ev.cmpW_inT, Ev.cmpW_inL, Ev.cmpW_niT, Ev.cmpW_niL, Ev.ixW_tup, Ev.ixW_lst, Ev.bltW_abs, Ev.bltW_int, Ev.bltW_gcd, Ev.bltW_lenT, Ev.bltW_lenL, Ev.bltW_scr, Ev.bltW_listL, Ev.bltW_listT, Ev.bltW_tupL, Ev.bltW_tupT, List.replicate, List.append_nil, List.cons_append, List.nil_append, List.getElem?_cons_zero, List.getElem?_cons_succ, List.length_cons, List.length_nil, List.set_cons_zero, List.set_cons_succ, Ev.argsOf, Ev.argOf_val, Ev.argOf_at, Ev.bors, Ev.backs_val, Ev.backs_bor, Ev.backs_nil, Ev.loses, Ev.retW_val, Ev.retW_tmp, Ev.parOf, Ev.outsOf, List.replicate_zero, Nat.sub_self, Ev.isOwnL, List.getElem?_nil, reduceCtorEq, decide_eq_true_eq, Ev.cmpOk_int, Ev.cmpOk_bl, Ev.cmpOk_non, Ev.cmpOk_nil, Ev.cmpOk_nilT, Ev.peq_int, Ev.peq_bl, Ev.peq_str, Ev.peq_non, Ev.peq_nil, Ev.peq_nilT, Ev.peq_consL, Ev.isT_non_int, Ev.isT_non_bool, Ev.isT_non_str, Ev.isT_non_tuple, Ev.isT_non_list, Ev.tyOk_non, Ev.isT_bl_int, Ev.isT_bl_bool, Ev.isT_bl_str, Ev.isT_bl_tuple, Ev.isT_bl_list, Ev.tyOk_bl, Ev.isT_int_int, Ev.isT_int_bool, Ev.isT_int_str, Ev.isT_int_tuple, Ev.isT_int_list, Ev.tyOk_int, Ev.isT_str_int, Ev.isT_str_bool, Ev.isT_str_str, Ev.isT_str_tuple, Ev.isT_str_list, Ev.tyOk_str, Ev.isT_tup_int, Ev.isT_tup_bool, Ev.isT_tup_str, Ev.isT_tup_tuple, Ev.isT_tup_list, Ev.tyOk_tup, Ev.isT_lst_int, Ev.isT_lst_bool, Ev.isT_lst_str, Ev.isT_lst_tuple, Ev.isT_lst_list, Ev.tyOk_lst, List.not_mem_nil, not_false_eq_true, List.nodup_cons, Bool.false_eq_true, ↓reduceIte, List.nodup_nil, true_and, and_true])
          exact ⟨by decide, hk _ _ hold_val hold_val⟩
  cases n with
  | zero => exact atom hx.1 hx.2
  | succ m =>
    rcases hx with h | ⟨xs, h, hl, hy⟩
    · exact atom h.1 h.2
    · exact seq m xs rfl h hl hy
end K
namespace K
open PySem PySem.Spec PyProof.Rows L2 Ev
def S__law_pair_right : FnS := fun ss Kp _ => ∃ a b c d, ss = [.val (.tup [.int a, .int b]), .val (.tup [.int c, .int d])] ∧ isQuoP (.tup [.int a, .int b]) = true ∧ isQuoP (.tup [.int c, .int d]) = true ∧ Kp false (.bl true) ss
theorem quo_ok {a b : Int} : quoOk (.tup [.int a, .int b]) := ⟨rfl, fun y z e => by cases e; exact ⟨rfl, rfl⟩⟩
theorem two_ok {g : Int → Int → Int → Int → PV} {a b c d : Int} {Kp : Bool → PV → List Ev.Slot → Prop} {Xk : Str → Prop} (qx : isQuoP (.tup [.int a, .int b]) = true) (qy : isQuoP (.tup [.int c, .int d]) = true)
    (h : Kp false (g a b c d) [.val (.tup [.int a, .int b]), .val (.tup [.int c, .int d])]) : S_two g [.val (.tup [.int a, .int b]), .val (.tup [.int c, .int d])] Kp Xk := by
  refine ⟨_, _, rfl, quo_ok, quo_ok, fun z => ?_, fun _ z => ?_, fun a' b' c' d' e1 e2 _ _ => ?_⟩
  · rw [qx] at z; cases z
  · rw [qy] at z; cases z
  cases e1; cases e2
  exact h
theorem lk_int {n : Nat} {i : Int} : Lk n (.int i) := by
  have h : flatP (.int i) = true ∧ cmpOk (.int i) := ⟨rfl, by rw [cmpOk_int]; trivial⟩
  cases n with
  | zero => exact h
  | succ n => exact .inl h
theorem lk_bl {n : Nat} {b : Bool} : Lk n (.bl b) := by
  have h : flatP (.bl b) = true ∧ cmpOk (.bl b) := ⟨rfl, by rw [cmpOk_bl]; trivial⟩
  cases n with
  | zero => exact h
  | succ n => exact .inl h
theorem lk_nil {n : Nat} : ∀ y ∈ ([] : List PV), Lk n y := fun y h => by simp at h
theorem lk_cons {n : Nat} {x : PV} {xs : List PV} (h : Lk n x) (r : ∀ y ∈ xs, Lk n y) : ∀ y ∈ x :: xs, Lk n y := fun y hy => (List.mem_cons.mp hy).elim (fun e => by rw [e]; exact h) (r y)
theorem lk_tup {n : Nat} {xs : List PV} (hl : xs.length < 1000) (h : ∀ y ∈ xs, Lk n y) : Lk (n + 1) (.tup xs) := .inr ⟨xs, .inl rfl, hl, h⟩
theorem lk_lst {n : Nat} {xs : List PV} (hl : xs.length < 1000) (h : ∀ y ∈ xs, Lk n y) : Lk (n + 1) (.lst xs) := .inr ⟨xs, .inr rfl, hl, h⟩
theorem lk_plain {n : Nat} {t b : Int} : Lk (n + 1) (plainP t b) := lk_tup (by simp) (lk_cons lk_int (lk_cons lk_int lk_nil))
theorem ok__law_pair_right {Φ : Tbl} {gf : GF} (h1 : Φ.fn "quotient_sum" = some S_quotient_sum) (h2 : Φ.fn "quotient_product" = some S_quotient_product) (h3 : Φ.fn "is_greater" = some S_is_greater) (h4 : Φ.fn "is_quotient" = some S_is_quotient)
    (h5 : Φ.fn "_law_plain" = some S__law_plain) (h6 : Φ.fn "_law_like" = some (S_like 3)) (h7 : Φ.fn "quotient_by" = some S_quotient_by) (h8 : Φ.lam "_law_error" = some gf) (h9 : gf (some "NotFound") = some (.str "no")) :
    ∀ ss Kp Xk, S__law_pair_right ss Kp Xk → bodyS Φ 2 6 B__law_pair_right ss Kp Xk := by
  rintro ss Kp Xk ⟨a, b, c, d, rfl, qx, qy, hk⟩
  refine ⟨rfl, ?_⟩
  obtain ⟨_, _, e, hab⟩ := quo_is qx
  cases e
  obtain ⟨_, _, e, hcd⟩ := quo_is qy
  cases e
  obtain ⟨ha, hb⟩ := canon_abs hab
  obtain ⟨hc, hd⟩ := canon_abs hcd
  unfold B__law_pair_right
  (simp (config := { maxSteps := 100000000 }) only [Ev.wS, Ev.wE.eq_1, Ev.wE.eq_2, Ev.wE.eq_3, Ev.wE.eq_4, Ev.wE.eq_6, Ev.wE.eq_7, Ev.wE.eq_8, Ev.wE.eq_9, Ev.wE.eq_10, Ev.wE.eq_11, Ev.wE.eq_12, Ev.wE.eq_13, Ev.wE.eq_14, Ev.wE.eq_15, Ev.wE.eq_16, Ev.wE.eq_17, Ev.wE.eq_18, Ev.wE.eq_19, Ev.wE.eq_20, Ev.wE.eq_21, Ev.wE.eq_22, Ev.wE.eq_23, Ev.wE.eq_24, Ev.wE.eq_25, Ev.wE.eq_26, Ev.wE.eq_27, Ev.wE_var, Ev.optK_some, Ev.selR_val, Ev.selR_own, Ev.rdS_val, Ev.rdS_own, Ev.fzS_val, Ev.fzS_own, Ev.argS_val, Ev.argS_own, Ev.wT, Ev.wAs, Ev.wEs, Ev.wI, Ev.wO, Ev.wG_nam, Ev.wG_tup, Ev.wGs_nil, Ev.wGs_cons, Ev.Tg.n, Ev.wipeE, Ev.restE, List.getD_cons_zero, List.getD_cons_succ, Ev.same2, Ev.items, Ev.rdK_val, Ev.rdK_tmp, Ev.rdK_at, Ev.rdsK, Ev.fzK_val, Ev.fzK_tmp, Ev.fzK_at, Ev.stW_val, Ev.stW_tmp, Ev.stW_bor, Ev.nbW_val, Ev.nbW_tmp, Ev.nbW_bor, Ev.binW_add, Ev.binW_sub, Ev.binW_mul, Ev.binW_div, Ev.binW_mod, Ev.binW_pow, Ev.binW_lst, Ev.binW_tup, Ev.binW_str, Ev.binW_rep, Ev.cmpW_lt, Ev.cmpW_le, Ev.cmpW_gt, Ev.cmpW_ge, Ev.cmpW_eq, Ev.cmpW_ne, Ev.cmpW_is, Ev.cmpW_isN, Ev.cmpW_inT, Ev.cmpW_inL, Ev.cmpW_niT, Ev.cmpW_niL, Ev.ixW_tup, Ev.ixW_lst, Ev.bltW_abs, Ev.bltW_int, Ev.bltW_gcd, Ev.bltW_lenT, Ev.bltW_lenL, Ev.bltW_scr, Ev.bltW_listL, Ev.bltW_listT, Ev.bltW_tupL, Ev.bltW_tupT, List.replicate, List.append_nil, List.cons_append, List.nil_append, List.getElem?_cons_zero, List.getElem?_cons_succ, List.length_cons, List.length_nil, List.set_cons_zero, List.set_cons_succ, Ev.argsOf, Ev.argOf_val, Ev.argOf_at, Ev.bors, Ev.backs_val, Ev.backs_bor, Ev.backs_nil, Ev.loses, Ev.retW_val, Ev.retW_tmp, Ev.parOf, Ev.outsOf, List.replicate_zero, Nat.sub_self, Ev.isOwnL, List.getElem?_nil, reduceCtorEq, decide_eq_true_eq, Ev.cmpOk_int, Ev.cmpOk_bl, Ev.cmpOk_non, Ev.cmpOk_nil, Ev.cmpOk_nilT, Ev.peq_int, Ev.peq_bl, Ev.peq_str, Ev.peq_non, Ev.peq_nil, Ev.peq_nilT, Ev.peq_consL, Ev.isT_non_int, Ev.isT_non_bool, Ev.isT_non_str, Ev.isT_non_tuple, Ev.isT_non_list, Ev.tyOk_non, Ev.isT_bl_int, Ev.isT_bl_bool, Ev.isT_bl_str, Ev.isT_bl_tuple, Ev.isT_bl_list, Ev.tyOk_bl, Ev.isT_int_int, Ev.isT_int_bool, Ev.isT_int_str, Ev.isT_int_tuple, Ev.isT_int_list, Ev.tyOk_int, Ev.isT_str_int, Ev.isT_str_bool, Ev.isT_str_str, Ev.isT_str_tuple, Ev.isT_str_list, Ev.tyOk_str, Ev.isT_tup_int, Ev.isT_tup_bool, Ev.isT_tup_str, Ev.isT_tup_tuple, Ev.isT_tup_list, Ev.tyOk_tup, Ev.isT_lst_int, Ev.isT_lst_bool, Ev.isT_lst_str, Ev.isT_lst_tuple, Ev.isT_lst_list, Ev.tyOk_lst, List.not_mem_nil, not_false_eq_true, List.nodup_cons, Bool.false_eq_true, ↓reduceIte, List.nodup_nil, true_and, and_true])
  simp only [atI0, atI1, ex_some]
  (simp (config := { maxSteps := 100000000 }) only [Ev.wS, Ev.wE.eq_1, Ev.wE.eq_2, Ev.wE.eq_3, Ev.wE.eq_4, Ev.wE.eq_6, Ev.wE.eq_7, Ev.wE.eq_8, Ev.wE.eq_9, Ev.wE.eq_10, Ev.wE.eq_11, Ev.wE.eq_12, Ev.wE.eq_13, Ev.wE.eq_14, Ev.wE.eq_15, Ev.wE.eq_16, Ev.wE.eq_17, Ev.wE.eq_18, Ev.wE.eq_19, Ev.wE.eq_20, Ev.wE.eq_21, Ev.wE.eq_22, Ev.wE.eq_23, Ev.wE.eq_24, Ev.wE.eq_25, Ev.wE.eq_26, Ev.wE.eq_27, Ev.wE_var, Ev.optK_some, Ev.selR_val, Ev.selR_own, Ev.rdS_val, Ev.rdS_own, Ev.fzS_val, Ev.fzS_own, Ev.argS_val, Ev.argS_own, Ev.wT, Ev.wAs, Ev.wEs, Ev.wI, Ev.wO, Ev.wG_nam, Ev.wG_tup, Ev.wGs_nil, Ev.wGs_cons, Ev.Tg.n, Ev.wipeE, Ev.restE, List.getD_cons_zero, List.getD_cons_succ, Ev.same2, Ev.items, Ev.rdK_val, Ev.rdK_tmp, Ev.rdK_at, Ev.rdsK, Ev.fzK_val, Ev.fzK_tmp, Ev.fzK_at, Ev.stW_val, Ev.stW_tmp, Ev.stW_bor, Ev.nbW_val, Ev.nbW_tmp, Ev.nbW_bor, Ev.binW_add, Ev.binW_sub, Ev.binW_mul, Ev.binW_div, Ev.binW_mod, Ev.binW_pow, Ev.binW_lst, Ev.binW_tup, Ev.binW_str, Ev.binW_rep, Ev.cmpW_lt, Ev.cmpW_le, Ev.cmpW_gt, Ev.cmpW_ge, Ev.cmpW_eq, Ev.cmpW_ne, Ev.cmpW_is, Ev.cmpW_isN, Ev.cmpW_inT, Ev.cmpW_inL, Ev.cmpW_niT, Ev.cmpW_niL, Ev.ixW_tup, Ev.ixW_lst, Ev.bltW_abs, Ev.bltW_int, Ev.bltW_gcd, Ev.bltW_lenT, Ev.bltW_lenL, Ev.bltW_scr, Ev.bltW_listL, Ev.bltW_listT, Ev.bltW_tupL, Ev.bltW_tupT, List.replicate, List.append_nil, List.cons_append, List.nil_append, List.getElem?_cons_zero, List.getElem?_cons_succ, List.length_cons, List.length_nil, List.set_cons_zero, List.set_cons_succ, Ev.argsOf, Ev.argOf_val, Ev.argOf_at, Ev.bors, Ev.backs_val, Ev.backs_bor, Ev.backs_nil, Ev.loses, Ev.retW_val, Ev.retW_tmp, Ev.parOf, Ev.outsOf, List.replicate_zero, Nat.sub_self, Ev.isOwnL, List.getElem?_nil, reduceCtorEq, decide_eq_true_eq, Ev.cmpOk_int, Ev.cmpOk_bl, Ev.cmpOk_non, Ev.cmpOk_nil, Ev.cmpOk_nilT, Ev.peq_int, Ev.peq_bl, Ev.peq_str, Ev.peq_non, Ev.peq_nil, Ev.peq_nilT, Ev.peq_consL, Ev.isT_non_int, Ev.isT_non_bool, Ev.isT_non_str, Ev.isT_non_tuple, Ev.isT_non_list, Ev.tyOk_non, Ev.isT_bl_int, Ev.isT_bl_bool, Ev.isT_bl_str, Ev.isT_bl_tuple, Ev.isT_bl_list, Ev.tyOk_bl, Ev.isT_int_int, Ev.isT_int_bool, Ev.isT_int_str, Ev.isT_int_tuple, Ev.isT_int_list, Ev.tyOk_int, Ev.isT_str_int, Ev.isT_str_bool, Ev.isT_str_str, Ev.isT_str_tuple, Ev.isT_str_list, Ev.tyOk_str, Ev.isT_tup_int, Ev.isT_tup_bool, Ev.isT_tup_str, Ev.isT_tup_tuple, Ev.isT_tup_list, Ev.tyOk_tup, Ev.isT_lst_int, Ev.isT_lst_bool, Ev.isT_lst_str, Ev.isT_lst_tuple, Ev.isT_lst_list, Ev.tyOk_lst, List.not_mem_nil, not_false_eq_true, List.nodup_cons, Bool.false_eq_true, ↓reduceIte, List.nodup_nil, true_and, and_true])
  simp only [atI0, atI1, ex_some]
  (simp (config := { maxSteps := 100000000 }) only [Ev.wS, Ev.wE.eq_1, Ev.wE.eq_2, Ev.wE.eq_3, Ev.wE.eq_4, Ev.wE.eq_6, Ev.wE.eq_7, Ev.wE.eq_8, Ev.wE.eq_9, Ev.wE.eq_10, Ev.wE.eq_11, Ev.wE.eq_12, Ev.wE.eq_13, Ev.wE.eq_14, Ev.wE.eq_15, Ev.wE.eq_16, Ev.wE.eq_17, Ev.wE.eq_18, Ev.wE.eq_19, Ev.wE.eq_20, Ev.wE.eq_21, Ev.wE.eq_22, Ev.wE.eq_23, Ev.wE.eq_24, Ev.wE.eq_25, Ev.wE.eq_26, Ev.wE.eq_27, Ev.wE_var, Ev.optK_some, Ev.selR_val, Ev.selR_own, Ev.rdS_val, Ev.rdS_own, Ev.fzS_val, Ev.fzS_own, Ev.argS_val, Ev.argS_own, Ev.wT, Ev.wAs, Ev.wEs, Ev.wI, Ev.wO, Ev.wG_nam, Ev.wG_tup, Ev.wGs_nil, Ev.wGs_cons, Ev.Tg.n, Ev.wipeE, Ev.restE, List.getD_cons_zero, List.getD_cons_succ, Ev.same2, Ev.items, Ev.rdK_val, Ev.rdK_tmp, Ev.rdK_at, Ev.rdsK, Ev.fzK_val, Ev.fzK_tmp, Ev.fzK_at, Ev.stW_val, Ev.stW_tmp, Ev.stW_bor, Ev.nbW_val, Ev.nbW_tmp, Ev.nbW_bor, Ev.binW_add, Ev.binW_sub, Ev.binW_mul, Ev.binW_div, Ev.binW_mod, Ev.binW_pow, Ev.binW_lst, Ev.binW_tup, Ev.binW_str, Ev.binW_rep, Ev.cmpW_lt, Ev.cmpW_le, Ev.cmpW_gt, Ev.cmpW_ge, Ev.cmpW_eq, Ev.cmpW_ne, Ev.cmpW_is, Ev.cmpW_isN, Ev.cmpW_inT, Ev.cmpW_inL, Ev.cmpW_niT, Ev.cmpW_niL, Ev.ixW_tup, Ev.ixW_lst, Ev.bltW_abs, Ev.bltW_int, Ev.bltW_gcd, Ev.bltW_lenT, Ev.bltW_lenL, Ev.bltW_scr, Ev.bltW_listL, Ev.bltW_listT, Ev.bltW_tupL, Ev.bltW_tupT, List.replicate, List.append_nil, List.cons_append, List.nil_append, List.getElem?_cons_zero, List.getElem?_cons_succ, List.length_cons, List.length_nil, List.set_cons_zero, List.set_cons_succ, Ev.argsOf, Ev.argOf_val, Ev.argOf_at, Ev.bors, Ev.backs_val, Ev.backs_bor, Ev.backs_nil, Ev.loses, Ev.retW_val, Ev.retW_tmp, Ev.parOf, Ev.outsOf, List.replicate_zero, Nat.sub_self, Ev.isOwnL, List.getElem?_nil, reduceCtorEq, decide_eq_true_eq, Ev.cmpOk_int, Ev.cmpOk_bl, Ev.cmpOk_non, Ev.cmpOk_nil, Ev.cmpOk_nilT, Ev.peq_int, Ev.peq_bl, Ev.peq_str, Ev.peq_non, Ev.peq_nil, Ev.peq_nilT, Ev.peq_consL, Ev.isT_non_int, Ev.isT_non_bool, Ev.isT_non_str, Ev.isT_non_tuple, Ev.isT_non_list, Ev.tyOk_non, Ev.isT_bl_int, Ev.isT_bl_bool, Ev.isT_bl_str, Ev.isT_bl_tuple, Ev.isT_bl_list, Ev.tyOk_bl, Ev.isT_int_int, Ev.isT_int_bool, Ev.isT_int_str, Ev.isT_int_tuple, Ev.isT_int_list, Ev.tyOk_int, Ev.isT_str_int, Ev.isT_str_bool, Ev.isT_str_str, Ev.isT_str_tuple, Ev.isT_str_list, Ev.tyOk_str, Ev.isT_tup_int, Ev.isT_tup_bool, Ev.isT_tup_str, Ev.isT_tup_tuple, Ev.isT_tup_list, Ev.tyOk_tup, Ev.isT_lst_int, Ev.isT_lst_bool, Ev.isT_lst_str, Ev.isT_lst_tuple, Ev.isT_lst_list, Ev.tyOk_lst, List.not_mem_nil, not_false_eq_true, List.nodup_cons, Bool.false_eq_true, ↓reduceIte, List.nodup_nil, true_and, and_true])
  refine ⟨mul_ok (wide ha) (wide hd), mul_ok (wide hc) (wide hb), ?_⟩
  unfold B__law_pair_right_1
  (simp (config := { maxSteps := 100000000 }) only [Ev.wS, Ev.wE.eq_1, Ev.wE.eq_2, Ev.wE.eq_3, Ev.wE.eq_4, Ev.wE.eq_6, Ev.wE.eq_7, Ev.wE.eq_8, Ev.wE.eq_9, Ev.wE.eq_10, Ev.wE.eq_11, Ev.wE.eq_12, Ev.wE.eq_13, Ev.wE.eq_14, Ev.wE.eq_15, Ev.wE.eq_16, Ev.wE.eq_17, Ev.wE.eq_18, Ev.wE.eq_19, Ev.wE.eq_20, Ev.wE.eq_21, Ev.wE.eq_22, Ev.wE.eq_23, Ev.wE.eq_24, Ev.wE.eq_25, Ev.wE.eq_26, Ev.wE.eq_27, Ev.wE_var, Ev.optK_some, Ev.selR_val, Ev.selR_own, Ev.rdS_val, Ev.rdS_own, Ev.fzS_val, Ev.fzS_own, Ev.argS_val, Ev.argS_own, Ev.wT, Ev.wAs, Ev.wEs, Ev.wI, Ev.wO, Ev.wG_nam, Ev.wG_tup, Ev.wGs_nil, Ev.wGs_cons, Ev.Tg.n, Ev.wipeE, Ev.restE, List.getD_cons_zero, List.getD_cons_succ, Ev.same2, Ev.items, Ev.rdK_val, Ev.rdK_tmp, Ev.rdK_at, Ev.rdsK, Ev.fzK_val, Ev.fzK_tmp, Ev.fzK_at, Ev.stW_val, Ev.stW_tmp, Ev.stW_bor, Ev.nbW_val, Ev.nbW_tmp, Ev.nbW_bor, Ev.binW_add, Ev.binW_sub, Ev.binW_mul, Ev.binW_div, Ev.binW_mod, Ev.binW_pow, Ev.binW_lst, Ev.binW_tup, Ev.binW_str, Ev.binW_rep, Ev.cmpW_lt, Ev.cmpW_le, Ev.cmpW_gt, Ev.cmpW_ge, Ev.cmpW_eq, Ev.cmpW_ne, Ev.cmpW_is, Ev.cmpW_isN, Ev.cmpW_inT, Ev.cmpW_inL, Ev.cmpW_niT, Ev.cmpW_niL, Ev.ixW_tup, Ev.ixW_lst, Ev.bltW_abs, Ev.bltW_int, Ev.bltW_gcd, Ev.bltW_lenT, Ev.bltW_lenL, Ev.bltW_scr, Ev.bltW_listL, Ev.bltW_listT, Ev.bltW_tupL, Ev.bltW_tupT, List.replicate, List.append_nil, List.cons_append, List.nil_append, List.getElem?_cons_zero, List.getElem?_cons_succ, List.length_cons, List.length_nil, List.set_cons_zero, List.set_cons_succ, Ev.argsOf, Ev.argOf_val, Ev.argOf_at, Ev.bors, Ev.backs_val, Ev.backs_bor, Ev.backs_nil, Ev.loses, Ev.retW_val, Ev.retW_tmp, Ev.parOf, Ev.outsOf, List.replicate_zero, Nat.sub_self, Ev.isOwnL, List.getElem?_nil, reduceCtorEq, decide_eq_true_eq, Ev.cmpOk_int, Ev.cmpOk_bl, Ev.cmpOk_non, Ev.cmpOk_nil, Ev.cmpOk_nilT, Ev.peq_int, Ev.peq_bl, Ev.peq_str, Ev.peq_non, Ev.peq_nil, Ev.peq_nilT, Ev.peq_consL, Ev.isT_non_int, Ev.isT_non_bool, Ev.isT_non_str, Ev.isT_non_tuple, Ev.isT_non_list, Ev.tyOk_non, Ev.isT_bl_int, Ev.isT_bl_bool, Ev.isT_bl_str, Ev.isT_bl_tuple, Ev.isT_bl_list, Ev.tyOk_bl, Ev.isT_int_int, Ev.isT_int_bool, Ev.isT_int_str, Ev.isT_int_tuple, Ev.isT_int_list, Ev.tyOk_int, Ev.isT_str_int, Ev.isT_str_bool, Ev.isT_str_str, Ev.isT_str_tuple, Ev.isT_str_list, Ev.tyOk_str, Ev.isT_tup_int, Ev.isT_tup_bool, Ev.isT_tup_str, Ev.isT_tup_tuple, Ev.isT_tup_list, Ev.tyOk_tup, Ev.isT_lst_int, Ev.isT_lst_bool, Ev.isT_lst_str, Ev.isT_lst_tuple, Ev.isT_lst_list, Ev.tyOk_lst, List.not_mem_nil, not_false_eq_true, List.nodup_cons, Bool.false_eq_true, ↓reduceIte, List.nodup_nil, true_and, and_true])
  simp only [h1, h2, h3, h4]
  refine two_ok qx qy ?_
  (simp (config := { maxSteps := 100000000 }) only [Ev.wS, Ev.wE.eq_1, Ev.wE.eq_2, Ev.wE.eq_3, Ev.wE.eq_4, Ev.wE.eq_6, Ev.wE.eq_7, Ev.wE.eq_8, Ev.wE.eq_9, Ev.wE.eq_10, Ev.wE.eq_11, Ev.wE.eq_12, Ev.wE.eq_13, Ev.wE.eq_14, Ev.wE.eq_15, Ev.wE.eq_16, Ev.wE.eq_17, Ev.wE.eq_18, Ev.wE.eq_19, Ev.wE.eq_20, Ev.wE.eq_21, Ev.wE.eq_22, Ev.wE.eq_23, Ev.wE.eq_24, Ev.wE.eq_25, Ev.wE.eq_26, Ev.wE.eq_27, Ev.wE_var, Ev.optK_some, Ev.selR_val, Ev.selR_own, Ev.rdS_val, Ev.rdS_own, Ev.fzS_val, Ev.fzS_own, Ev.argS_val, Ev.argS_own, Ev.wT, Ev.wAs, Ev.wEs, Ev.wI, Ev.wO, Ev.wG_nam, Ev.wG_tup, Ev.wGs_nil, Ev.wGs_cons, Ev.Tg.n, Ev.wipeE, Ev.restE, List.getD_cons_zero, List.getD_cons_succ, Ev.same2, Ev.items, Ev.rdK_val, Ev.rdK_tmp, Ev.rdK_at, Ev.rdsK, Ev.fzK_val, Ev.fzK_tmp, Ev.fzK_at, Ev.stW_val, Ev.stW_tmp, Ev.stW_bor, Ev.nbW_val, Ev.nbW_tmp, Ev.nbW_bor, Ev.binW_add, Ev.binW_sub, Ev.binW_mul, Ev.binW_div, Ev.binW_mod, Ev.binW_pow, Ev.binW_lst, Ev.binW_tup, Ev.binW_str, Ev.binW_rep, Ev.cmpW_lt, Ev.cmpW_le, Ev.cmpW_gt, Ev.cmpW_ge, Ev.cmpW_eq, Ev.cmpW_ne, Ev.cmpW_is, Ev.cmpW_isN, Ev.cmpW_inT, Ev.cmpW_inL, Ev.cmpW_niT, Ev.cmpW_niL, Ev.ixW_tup, Ev.ixW_lst, Ev.bltW_abs, Ev.bltW_int, Ev.bltW_gcd, Ev.bltW_lenT, Ev.bltW_lenL, Ev.bltW_scr, Ev.bltW_listL, Ev.bltW_listT, Ev.bltW_tupL, Ev.bltW_tupT, List.replicate, List.append_nil, List.cons_append, List.nil_append, List.getElem?_cons_zero, List.getElem?_cons_succ, List.length_cons, List.length_nil, List.set_cons_zero, List.set_cons_succ, Ev.argsOf, Ev.argOf_val, Ev.argOf_at, Ev.bors, Ev.backs_val, Ev.backs_bor, Ev.backs_nil, Ev.loses, Ev.retW_val, Ev.retW_tmp, Ev.parOf, Ev.outsOf, List.replicate_zero, Nat.sub_self, Ev.isOwnL, List.getElem?_nil, reduceCtorEq, decide_eq_true_eq, Ev.cmpOk_int, Ev.cmpOk_bl, Ev.cmpOk_non, Ev.cmpOk_nil, Ev.cmpOk_nilT, Ev.peq_int, Ev.peq_bl, Ev.peq_str, Ev.peq_non, Ev.peq_nil, Ev.peq_nilT, Ev.peq_consL, Ev.isT_non_int, Ev.isT_non_bool, Ev.isT_non_str, Ev.isT_non_tuple, Ev.isT_non_list, Ev.tyOk_non, Ev.isT_bl_int, Ev.isT_bl_bool, Ev.isT_bl_str, Ev.isT_bl_tuple, Ev.isT_bl_list, Ev.tyOk_bl, Ev.isT_int_int, Ev.isT_int_bool, Ev.isT_int_str, Ev.isT_int_tuple, Ev.isT_int_list, Ev.tyOk_int, Ev.isT_str_int, Ev.isT_str_bool, Ev.isT_str_str, Ev.isT_str_tuple, Ev.isT_str_list, Ev.tyOk_str, Ev.isT_tup_int, Ev.isT_tup_bool, Ev.isT_tup_str, Ev.isT_tup_tuple, Ev.isT_tup_list, Ev.tyOk_tup, Ev.isT_lst_int, Ev.isT_lst_bool, Ev.isT_lst_str, Ev.isT_lst_tuple, Ev.isT_lst_list, Ev.tyOk_lst, List.not_mem_nil, not_false_eq_true, List.nodup_cons, Bool.false_eq_true, ↓reduceIte, List.nodup_nil, true_and, and_true])
  refine two_ok qx qy ?_
  (simp (config := { maxSteps := 100000000 }) only [Ev.wS, Ev.wE.eq_1, Ev.wE.eq_2, Ev.wE.eq_3, Ev.wE.eq_4, Ev.wE.eq_6, Ev.wE.eq_7, Ev.wE.eq_8, Ev.wE.eq_9, Ev.wE.eq_10, Ev.wE.eq_11, Ev.wE.eq_12, Ev.wE.eq_13, Ev.wE.eq_14, Ev.wE.eq_15, Ev.wE.eq_16, Ev.wE.eq_17, Ev.wE.eq_18, Ev.wE.eq_19, Ev.wE.eq_20, Ev.wE.eq_21, Ev.wE.eq_22, Ev.wE.eq_23, Ev.wE.eq_24, Ev.wE.eq_25, Ev.wE.eq_26, Ev.wE.eq_27, Ev.wE_var, Ev.optK_some, Ev.selR_val, Ev.selR_own, Ev.rdS_val, Ev.rdS_own, Ev.fzS_val, Ev.fzS_own, Ev.argS_val, Ev.argS_own, Ev.wT, Ev.wAs, Ev.wEs, Ev.wI, Ev.wO, Ev.wG_nam, Ev.wG_tup, Ev.wGs_nil, Ev.wGs_cons, Ev.Tg.n, Ev.wipeE, Ev.restE, List.getD_cons_zero, List.getD_cons_succ, Ev.same2, Ev.items, Ev.rdK_val, Ev.rdK_tmp, Ev.rdK_at, Ev.rdsK, Ev.fzK_val, Ev.fzK_tmp, Ev.fzK_at, Ev.stW_val, Ev.stW_tmp, Ev.stW_bor, Ev.nbW_val, Ev.nbW_tmp, Ev.nbW_bor, Ev.binW_add, Ev.binW_sub, Ev.binW_mul, Ev.binW_div, Ev.binW_mod, Ev.binW_pow, Ev.binW_lst, Ev.binW_tup, Ev.binW_str, Ev.binW_rep, Ev.cmpW_lt, Ev.cmpW_le, Ev.cmpW_gt, Ev.cmpW_ge, Ev.cmpW_eq, Ev.cmpW_ne, Ev.cmpW_is, Ev.cmpW_isN, Ev.cmpW_inT, Ev.cmpW_inL, Ev.cmpW_niT, Ev.cmpW_niL, Ev.ixW_tup, Ev.ixW_lst, Ev.bltW_abs, Ev.bltW_int, Ev.bltW_gcd, Ev.bltW_lenT, Ev.bltW_lenL, Ev.bltW_scr, Ev.bltW_listL, Ev.bltW_listT, Ev.bltW_tupL, Ev.bltW_tupT, List.replicate, List.append_nil, List.cons_append, List.nil_append, List.getElem?_cons_zero, List.getElem?_cons_succ, List.length_cons, List.length_nil, List.set_cons_zero, List.set_cons_succ, Ev.argsOf, Ev.argOf_val, Ev.argOf_at, Ev.bors, Ev.backs_val, Ev.backs_bor, Ev.backs_nil, Ev.loses, Ev.retW_val, Ev.retW_tmp, Ev.parOf, Ev.outsOf, List.replicate_zero, Nat.sub_self, Ev.isOwnL, List.getElem?_nil, reduceCtorEq, decide_eq_true_eq, Ev.cmpOk_int, Ev.cmpOk_bl, Ev.cmpOk_non, Ev.cmpOk_nil, Ev.cmpOk_nilT, Ev.peq_int, Ev.peq_bl, Ev.peq_str, Ev.peq_non, Ev.peq_nil, Ev.peq_nilT, Ev.peq_consL, Ev.isT_non_int, Ev.isT_non_bool, Ev.isT_non_str, Ev.isT_non_tuple, Ev.isT_non_list, Ev.tyOk_non, Ev.isT_bl_int, Ev.isT_bl_bool, Ev.isT_bl_str, Ev.isT_bl_tuple, Ev.isT_bl_list, Ev.tyOk_bl, Ev.isT_int_int, Ev.isT_int_bool, Ev.isT_int_str, Ev.isT_int_tuple, Ev.isT_int_list, Ev.tyOk_int, Ev.isT_str_int, Ev.isT_str_bool, Ev.isT_str_str, Ev.isT_str_tuple, Ev.isT_str_list, Ev.tyOk_str, Ev.isT_tup_int, Ev.isT_tup_bool, Ev.isT_tup_str, Ev.isT_tup_tuple, Ev.isT_tup_list, Ev.tyOk_tup, Ev.isT_lst_int, Ev.isT_lst_bool, Ev.isT_lst_str, Ev.isT_lst_tuple, Ev.isT_lst_list, Ev.tyOk_lst, List.not_mem_nil, not_false_eq_true, List.nodup_cons, Bool.false_eq_true, ↓reduceIte, List.nodup_nil, true_and, and_true])
  refine two_ok qx qy ?_
  (simp (config := { maxSteps := 100000000 }) only [Ev.wS, Ev.wE.eq_1, Ev.wE.eq_2, Ev.wE.eq_3, Ev.wE.eq_4, Ev.wE.eq_6, Ev.wE.eq_7, Ev.wE.eq_8, Ev.wE.eq_9, Ev.wE.eq_10, Ev.wE.eq_11, Ev.wE.eq_12, Ev.wE.eq_13, Ev.wE.eq_14, Ev.wE.eq_15, Ev.wE.eq_16, Ev.wE.eq_17, Ev.wE.eq_18, Ev.wE.eq_19, Ev.wE.eq_20, Ev.wE.eq_21, Ev.wE.eq_22, Ev.wE.eq_23, Ev.wE.eq_24, Ev.wE.eq_25, Ev.wE.eq_26, Ev.wE.eq_27, Ev.wE_var, Ev.optK_some, Ev.selR_val, Ev.selR_own, Ev.rdS_val, Ev.rdS_own, Ev.fzS_val, Ev.fzS_own, Ev.argS_val, Ev.argS_own, Ev.wT, Ev.wAs, Ev.wEs, Ev.wI, Ev.wO, Ev.wG_nam, Ev.wG_tup, Ev.wGs_nil, Ev.wGs_cons, Ev.Tg.n, Ev.wipeE, Ev.restE, List.getD_cons_zero, List.getD_cons_succ, Ev.same2, Ev.items, Ev.rdK_val, Ev.rdK_tmp, Ev.rdK_at, Ev.rdsK, Ev.fzK_val, Ev.fzK_tmp, Ev.fzK_at, Ev.stW_val, Ev.stW_tmp, Ev.stW_bor, Ev.nbW_val, Ev.nbW_tmp, Ev.nbW_bor, Ev.binW_add, Ev.binW_sub, Ev.binW_mul, Ev.binW_div, Ev.binW_mod, Ev.binW_pow, Ev.binW_lst, Ev.binW_tup, Ev.binW_str, Ev.binW_rep, Ev.cmpW_lt, Ev.cmpW_le, Ev.cmpW_gt, Ev.cmpW_ge, Ev.cmpW_eq, Ev.cmpW_ne, Ev.cmpW_is, Ev.cmpW_isN, Ev.cmpW_inT, Ev.cmpW_inL, Ev.cmpW_niT, Ev.cmpW_niL, Ev.ixW_tup, Ev.ixW_lst, Ev.bltW_abs, Ev.bltW_int, Ev.bltW_gcd, Ev.bltW_lenT, Ev.bltW_lenL, Ev.bltW_scr, Ev.bltW_listL, Ev.bltW_listT, Ev.bltW_tupL, Ev.bltW_tupT, List.replicate, List.append_nil, List.cons_append, List.nil_append, List.getElem?_cons_zero, List.getElem?_cons_succ, List.length_cons, List.length_nil, List.set_cons_zero, List.set_cons_succ, Ev.argsOf, Ev.argOf_val, Ev.argOf_at, Ev.bors, Ev.backs_val, Ev.backs_bor, Ev.backs_nil, Ev.loses, Ev.retW_val, Ev.retW_tmp, Ev.parOf, Ev.outsOf, List.replicate_zero, Nat.sub_self, Ev.isOwnL, List.getElem?_nil, reduceCtorEq, decide_eq_true_eq, Ev.cmpOk_int, Ev.cmpOk_bl, Ev.cmpOk_non, Ev.cmpOk_nil, Ev.cmpOk_nilT, Ev.peq_int, Ev.peq_bl, Ev.peq_str, Ev.peq_non, Ev.peq_nil, Ev.peq_nilT, Ev.peq_consL, Ev.isT_non_int, Ev.isT_non_bool, Ev.isT_non_str, Ev.isT_non_tuple, Ev.isT_non_list, Ev.tyOk_non, Ev.isT_bl_int, Ev.isT_bl_bool, Ev.isT_bl_str, Ev.isT_bl_tuple, Ev.isT_bl_list, Ev.tyOk_bl, Ev.isT_int_int, Ev.isT_int_bool, Ev.isT_int_str, Ev.isT_int_tuple, Ev.isT_int_list, Ev.tyOk_int, Ev.isT_str_int, Ev.isT_str_bool, Ev.isT_str_str, Ev.isT_str_tuple, Ev.isT_str_list, Ev.tyOk_str, Ev.isT_tup_int, Ev.isT_tup_bool, Ev.isT_tup_str, Ev.isT_tup_tuple, Ev.isT_tup_list, Ev.tyOk_tup, Ev.isT_lst_int, Ev.isT_lst_bool, Ev.isT_lst_str, Ev.isT_lst_tuple, Ev.isT_lst_list, Ev.tyOk_lst, List.not_mem_nil, not_false_eq_true, List.nodup_cons, Bool.false_eq_true, ↓reduceIte, List.nodup_nil, true_and, and_true])
  refine ⟨_, rfl, quo_ok, ?_⟩
  rw [qx]
  (simp (config := { maxSteps := 100000000 }) only [Ev.wS, Ev.wE.eq_1, Ev.wE.eq_2, Ev.wE.eq_3, Ev.wE.eq_4, Ev.wE.eq_6, Ev.wE.eq_7, Ev.wE.eq_8, Ev.wE.eq_9, Ev.wE.eq_10, Ev.wE.eq_11, Ev.wE.eq_12, Ev.wE.eq_13, Ev.wE.eq_14, Ev.wE.eq_15, Ev.wE.eq_16, Ev.wE.eq_17, Ev.wE.eq_18, Ev.wE.eq_19, Ev.wE.eq_20, Ev.wE.eq_21, Ev.wE.eq_22, Ev.wE.eq_23, Ev.wE.eq_24, Ev.wE.eq_25, Ev.wE.eq_26, Ev.wE.eq_27, Ev.wE_var, Ev.optK_some, Ev.selR_val, Ev.selR_own, Ev.rdS_val, Ev.rdS_own, Ev.fzS_val, Ev.fzS_own, Ev.argS_val, Ev.argS_own, Ev.wT, Ev.wAs, Ev.wEs, Ev.wI, Ev.wO, Ev.wG_nam, Ev.wG_tup, Ev.wGs_nil, Ev.wGs_cons, Ev.Tg.n, Ev.wipeE, Ev.restE, List.getD_cons_zero, List.getD_cons_succ, Ev.same2, Ev.items, Ev.rdK_val, Ev.rdK_tmp, Ev.rdK_at, Ev.rdsK, Ev.fzK_val, Ev.fzK_tmp, Ev.fzK_at, Ev.stW_val, Ev.stW_tmp, Ev.stW_bor, Ev.nbW_val, Ev.nbW_tmp, Ev.nbW_bor, Ev.binW_add, Ev.binW_sub, Ev.binW_mul, Ev.binW_div, Ev.binW_mod, Ev.binW_pow, Ev.binW_lst, Ev.binW_tup, Ev.binW_str, Ev.binW_rep, Ev.cmpW_lt, Ev.cmpW_le, Ev.cmpW_gt, Ev.cmpW_ge, Ev.cmpW_eq, Ev.cmpW_ne, Ev.cmpW_is, Ev.cmpW_isN, Ev.cmpW_inT, Ev.cmpW_inL, Ev.cmpW_niT, Ev.cmpW_niL, Ev.ixW_tup, Ev.ixW_lst, Ev.bltW_abs, Ev.bltW_int, Ev.bltW_gcd, Ev.bltW_lenT, Ev.bltW_lenL, Ev.bltW_scr, Ev.bltW_listL, Ev.bltW_listT, Ev.bltW_tupL, Ev.bltW_tupT, List.replicate, List.append_nil, List.cons_append, List.nil_append, List.getElem?_cons_zero, List.getElem?_cons_succ, List.length_cons, List.length_nil, List.set_cons_zero, List.set_cons_succ, Ev.argsOf, Ev.argOf_val, Ev.argOf_at, Ev.bors, Ev.backs_val, Ev.backs_bor, Ev.backs_nil, Ev.loses, Ev.retW_val, Ev.retW_tmp, Ev.parOf, Ev.outsOf, List.replicate_zero, Nat.sub_self, Ev.isOwnL, List.getElem?_nil, reduceCtorEq, decide_eq_true_eq, Ev.cmpOk_int, Ev.cmpOk_bl, Ev.cmpOk_non, Ev.cmpOk_nil, Ev.cmpOk_nilT, Ev.peq_int, Ev.peq_bl, Ev.peq_str, Ev.peq_non, Ev.peq_nil, Ev.peq_nilT, Ev.peq_consL, Ev.isT_non_int, Ev.isT_non_bool, Ev.isT_non_str, Ev.isT_non_tuple, Ev.isT_non_list, Ev.tyOk_non, Ev.isT_bl_int, Ev.isT_bl_bool, Ev.isT_bl_str, Ev.isT_bl_tuple, Ev.isT_bl_list, Ev.tyOk_bl, Ev.isT_int_int, Ev.isT_int_bool, Ev.isT_int_str, Ev.isT_int_tuple, Ev.isT_int_list, Ev.tyOk_int, Ev.isT_str_int, Ev.isT_str_bool, Ev.isT_str_str, Ev.isT_str_tuple, Ev.isT_str_list, Ev.tyOk_str, Ev.isT_tup_int, Ev.isT_tup_bool, Ev.isT_tup_str, Ev.isT_tup_tuple, Ev.isT_tup_list, Ev.tyOk_tup, Ev.isT_lst_int, Ev.isT_lst_bool, Ev.isT_lst_str, Ev.isT_lst_tuple, Ev.isT_lst_list, Ev.tyOk_lst, List.not_mem_nil, not_false_eq_true, List.nodup_cons, Bool.false_eq_true, ↓reduceIte, List.nodup_nil, true_and, and_true])
  refine ⟨by decide, ?_⟩
  unfold B__law_pair_right_2
  (simp (config := { maxSteps := 100000000 }) only [Ev.wS, Ev.wE.eq_1, Ev.wE.eq_2, Ev.wE.eq_3, Ev.wE.eq_4, Ev.wE.eq_6, Ev.wE.eq_7, Ev.wE.eq_8, Ev.wE.eq_9, Ev.wE.eq_10, Ev.wE.eq_11, Ev.wE.eq_12, Ev.wE.eq_13, Ev.wE.eq_14, Ev.wE.eq_15, Ev.wE.eq_16, Ev.wE.eq_17, Ev.wE.eq_18, Ev.wE.eq_19, Ev.wE.eq_20, Ev.wE.eq_21, Ev.wE.eq_22, Ev.wE.eq_23, Ev.wE.eq_24, Ev.wE.eq_25, Ev.wE.eq_26, Ev.wE.eq_27, Ev.wE_var, Ev.optK_some, Ev.selR_val, Ev.selR_own, Ev.rdS_val, Ev.rdS_own, Ev.fzS_val, Ev.fzS_own, Ev.argS_val, Ev.argS_own, Ev.wT, Ev.wAs, Ev.wEs, Ev.wI, Ev.wO, Ev.wG_nam, Ev.wG_tup, Ev.wGs_nil, Ev.wGs_cons, Ev.Tg.n, Ev.wipeE, Ev.restE, List.getD_cons_zero, List.getD_cons_succ, Ev.same2, Ev.items, Ev.rdK_val, Ev.rdK_tmp, Ev.rdK_at, Ev.rdsK, Ev.fzK_val, Ev.fzK_tmp, Ev.fzK_at, Ev.stW_val, Ev.stW_tmp, Ev.stW_bor, Ev.nbW_val, Ev.nbW_tmp, Ev.nbW_bor, Ev.binW_add, Ev.binW_sub, Ev.binW_mul, Ev.binW_div, Ev.binW_mod, Ev.binW_pow, Ev.binW_lst, Ev.binW_tup, Ev.binW_str, Ev.binW_rep, Ev.cmpW_lt, Ev.cmpW_le, Ev.cmpW_gt, Ev.cmpW_ge, Ev.cmpW_eq, Ev.cmpW_ne, Ev.cmpW_is, Ev.cmpW_isN, Ev.cmpW_inT, Ev.cmpW_inL, Ev.cmpW_niT, Ev.cmpW_niL, Ev.ixW_tup, Ev.ixW_lst, Ev.bltW_abs, Ev.bltW_int, Ev.bltW_gcd, Ev.bltW_lenT, Ev.bltW_lenL, Ev.bltW_scr, Ev.bltW_listL, Ev.bltW_listT, Ev.bltW_tupL, Ev.bltW_tupT, List.replicate, List.append_nil, List.cons_append, List.nil_append, List.getElem?_cons_zero, List.getElem?_cons_succ, List.length_cons, List.length_nil, List.set_cons_zero, List.set_cons_succ, Ev.argsOf, Ev.argOf_val, Ev.argOf_at, Ev.bors, Ev.backs_val, Ev.backs_bor, Ev.backs_nil, Ev.loses, Ev.retW_val, Ev.retW_tmp, Ev.parOf, Ev.outsOf, List.replicate_zero, Nat.sub_self, Ev.isOwnL, List.getElem?_nil, reduceCtorEq, decide_eq_true_eq, Ev.cmpOk_int, Ev.cmpOk_bl, Ev.cmpOk_non, Ev.cmpOk_nil, Ev.cmpOk_nilT, Ev.peq_int, Ev.peq_bl, Ev.peq_str, Ev.peq_non, Ev.peq_nil, Ev.peq_nilT, Ev.peq_consL, Ev.isT_non_int, Ev.isT_non_bool, Ev.isT_non_str, Ev.isT_non_tuple, Ev.isT_non_list, Ev.tyOk_non, Ev.isT_bl_int, Ev.isT_bl_bool, Ev.isT_bl_str, Ev.isT_bl_tuple, Ev.isT_bl_list, Ev.tyOk_bl, Ev.isT_int_int, Ev.isT_int_bool, Ev.isT_int_str, Ev.isT_int_tuple, Ev.isT_int_list, Ev.tyOk_int, Ev.isT_str_int, Ev.isT_str_bool, Ev.isT_str_str, Ev.isT_str_tuple, Ev.isT_str_list, Ev.tyOk_str, Ev.isT_tup_int, Ev.isT_tup_bool, Ev.isT_tup_str, Ev.isT_tup_tuple, Ev.isT_tup_list, Ev.tyOk_tup, Ev.isT_lst_int, Ev.isT_lst_bool, Ev.isT_lst_str, Ev.isT_lst_tuple, Ev.isT_lst_list, Ev.tyOk_lst, List.not_mem_nil, not_false_eq_true, List.nodup_cons, Bool.false_eq_true, ↓reduceIte, List.nodup_nil, true_and, and_true])
  simp only [h5]
  (repeat (first | (simp (config := { maxSteps := 100000000 }) only [Ev.wS, Ev.wE.eq_1, Ev.wE.eq_2, Ev.wE.eq_3, Ev.wE.eq_4, Ev.wE.eq_6, Ev.wE.eq_7, Ev.wE.eq_8, Ev.wE.eq_9, Ev.wE.eq_10, Ev.wE.eq_11, Ev.wE.eq_12, Ev.wE.eq_13, Ev.wE.eq_14, Ev.wE.eq_15, Ev.wE.eq_16, Ev.wE.eq_17, Ev.wE.eq_18, Ev.wE.eq_19, Ev.wE.eq_20, Ev.wE.eq_21, Ev.wE.eq_22, Ev.wE.eq_23, Ev.wE.eq_24, Ev.wE.eq_25, Ev.wE.eq_26, Ev.wE.eq_27, Ev.wE_var, Ev.optK_some, Ev.selR_val, Ev.selR_own, Ev.rdS_val, Ev.rdS_own, Ev.fzS_val, Ev.fzS_own, Ev.argS_val, Ev.argS_own, Ev.wT, Ev.wAs, Ev.wEs, Ev.wI, Ev.wO, Ev.wG_nam, Ev.wG_tup, Ev.wGs_nil, Ev.wGs_cons, Ev.Tg.n, Ev.wipeE, Ev.restE, List.getD_cons_zero, List.getD_cons_succ, Ev.same2, Ev.items, Ev.rdK_val, Ev.rdK_tmp, Ev.rdK_at, Ev.rdsK, Ev.fzK_val, Ev.fzK_tmp, Ev.fzK_at, Ev.stW_val, Ev.stW_tmp, Ev.stW_bor, Ev.nbW_val, Ev.nbW_tmp, Ev.nbW_bor, Ev.binW_add, Ev.binW_sub, Ev.binW_mul, Ev.binW_div, Ev.binW_mod, Ev.binW_pow, Ev.binW_lst, Ev.binW_tup, Ev.binW_str, Ev.binW_rep, Ev.cmpW_lt, Ev.cmpW_le, Ev.cmpW_gt, Ev.cmpW_ge, Ev.cmpW_eq, Ev.cmpW_ne, Ev.cmpW_is, Ev.cmpW_isN, Ev.cmpW_inT, Ev.cmpW_inL, Ev.cmpW_niT, Ev.cmpW_niL, Ev.ixW_tup, Ev.ixW_lst, Ev.bltW_abs, Ev.bltW_int, Ev.bltW_gcd, Ev.bltW_lenT, Ev.bltW_lenL, Ev.bltW_scr, Ev.bltW_listL, Ev.bltW_listT, Ev.bltW_tupL, Ev.bltW_tupT, List.replicate, List.append_nil, List.cons_append, List.nil_append, List.getElem?_cons_zero, List.getElem?_cons_succ, List.length_cons, List.length_nil, List.set_cons_zero, List.set_cons_succ, Ev.argsOf, Ev.argOf_val, Ev.argOf_at, Ev.bors, Ev.backs_val, Ev.backs_bor, Ev.backs_nil, Ev.loses, Ev.retW_val, Ev.retW_tmp, Ev.parOf, Ev.outsOf, List.replicate_zero, Nat.sub_self, Ev.isOwnL, List.getElem?_nil, reduceCtorEq, decide_eq_true_eq, Ev.cmpOk_int, Ev.cmpOk_bl, Ev.cmpOk_non, Ev.cmpOk_nil, Ev.cmpOk_nilT, Ev.peq_int, Ev.peq_bl, Ev.peq_str, Ev.peq_non, Ev.peq_nil, Ev.peq_nilT, Ev.peq_consL, Ev.isT_non_int, Ev.isT_non_bool, Ev.isT_non_str, Ev.isT_non_tuple, Ev.isT_non_list, Ev.tyOk_non, Ev.isT_bl_int, Ev.isT_bl_bool, Ev.isT_bl_str, Ev.isT_bl_tuple, Ev.isT_bl_list, Ev.tyOk_bl, Ev.isT_int_int, Ev.isT_int_bool, Ev.isT_int_str, Ev.isT_int_tuple, Ev.isT_int_list, Ev.tyOk_int, Ev.isT_str_int, Ev.isT_str_bool, Ev.isT_str_str, Ev.isT_str_tuple, Ev.isT_str_list, Ev.tyOk_str, Ev.isT_tup_int, Ev.isT_tup_bool, Ev.isT_tup_str, Ev.isT_tup_tuple, Ev.isT_tup_list, Ev.tyOk_tup, Ev.isT_lst_int, Ev.isT_lst_bool, Ev.isT_lst_str, Ev.isT_lst_tuple, Ev.isT_lst_list, Ev.tyOk_lst, List.not_mem_nil, not_false_eq_true, List.nodup_cons, Bool.false_eq_true, ↓reduceIte, List.nodup_nil, true_and, and_true]) | (simp only [atI0, atI1, ex_some, ixo, ixi])))
  refine ⟨mul_ok (wide hb) (wide hd), _, _, rfl, pos_ne hab.2.1 hcd.2.1, Nat.lt_trans (prod_lt hb hd) (Nat.pow_lt_pow_right (by decide) (by decide)), ?_⟩
  (repeat (first | (simp (config := { maxSteps := 100000000 }) only [Ev.wS, Ev.wE.eq_1, Ev.wE.eq_2, Ev.wE.eq_3, Ev.wE.eq_4, Ev.wE.eq_6, Ev.wE.eq_7, Ev.wE.eq_8, Ev.wE.eq_9, Ev.wE.eq_10, Ev.wE.eq_11, Ev.wE.eq_12, Ev.wE.eq_13, Ev.wE.eq_14, Ev.wE.eq_15, Ev.wE.eq_16, Ev.wE.eq_17, Ev.wE.eq_18, Ev.wE.eq_19, Ev.wE.eq_20, Ev.wE.eq_21, Ev.wE.eq_22, Ev.wE.eq_23, Ev.wE.eq_24, Ev.wE.eq_25, Ev.wE.eq_26, Ev.wE.eq_27, Ev.wE_var, Ev.optK_some, Ev.selR_val, Ev.selR_own, Ev.rdS_val, Ev.rdS_own, Ev.fzS_val, Ev.fzS_own, Ev.argS_val, Ev.argS_own, Ev.wT, Ev.wAs, Ev.wEs, Ev.wI, Ev.wO, Ev.wG_nam, Ev.wG_tup, Ev.wGs_nil, Ev.wGs_cons, Ev.Tg.n, Ev.wipeE, Ev.restE, List.getD_cons_zero, List.getD_cons_succ, Ev.same2, Ev.items, Ev.rdK_val, Ev.rdK_tmp, Ev.rdK_at, Ev.rdsK, Ev.fzK_val, Ev.fzK_tmp, Ev.fzK_at, Ev.stW_val, Ev.stW_tmp, Ev.stW_bor, Ev.nbW_val, Ev.nbW_tmp, Ev.nbW_bor, Ev.binW_add, Ev.binW_sub, Ev.binW_mul, Ev.binW_div, Ev.binW_mod, Ev.binW_pow, Ev.binW_lst, Ev.binW_tup, Ev.binW_str, Ev.binW_rep, Ev.cmpW_lt, Ev.cmpW_le, Ev.cmpW_gt, Ev.cmpW_ge, Ev.cmpW_eq, Ev.cmpW_ne, Ev.cmpW_is, Ev.cmpW_isN, Ev.cmpW_inT, Ev.cmpW_inL, Ev.cmpW_niT, Ev.cmpW_niL, Ev.ixW_tup, Ev.ixW_lst, Ev.bltW_abs, Ev.bltW_int, Ev.bltW_gcd, Ev.bltW_lenT, Ev.bltW_lenL, Ev.bltW_scr, Ev.bltW_listL, Ev.bltW_listT, Ev.bltW_tupL, Ev.bltW_tupT, List.replicate, List.append_nil, List.cons_append, List.nil_append, List.getElem?_cons_zero, List.getElem?_cons_succ, List.length_cons, List.length_nil, List.set_cons_zero, List.set_cons_succ, Ev.argsOf, Ev.argOf_val, Ev.argOf_at, Ev.bors, Ev.backs_val, Ev.backs_bor, Ev.backs_nil, Ev.loses, Ev.retW_val, Ev.retW_tmp, Ev.parOf, Ev.outsOf, List.replicate_zero, Nat.sub_self, Ev.isOwnL, List.getElem?_nil, reduceCtorEq, decide_eq_true_eq, Ev.cmpOk_int, Ev.cmpOk_bl, Ev.cmpOk_non, Ev.cmpOk_nil, Ev.cmpOk_nilT, Ev.peq_int, Ev.peq_bl, Ev.peq_str, Ev.peq_non, Ev.peq_nil, Ev.peq_nilT, Ev.peq_consL, Ev.isT_non_int, Ev.isT_non_bool, Ev.isT_non_str, Ev.isT_non_tuple, Ev.isT_non_list, Ev.tyOk_non, Ev.isT_bl_int, Ev.isT_bl_bool, Ev.isT_bl_str, Ev.isT_bl_tuple, Ev.isT_bl_list, Ev.tyOk_bl, Ev.isT_int_int, Ev.isT_int_bool, Ev.isT_int_str, Ev.isT_int_tuple, Ev.isT_int_list, Ev.tyOk_int, Ev.isT_str_int, Ev.isT_str_bool, Ev.isT_str_str, Ev.isT_str_tuple, Ev.isT_str_list, Ev.tyOk_str, Ev.isT_tup_int, Ev.isT_tup_bool, Ev.isT_tup_str, Ev.isT_tup_tuple, Ev.isT_tup_list, Ev.tyOk_tup, Ev.isT_lst_int, Ev.isT_lst_bool, Ev.isT_lst_str, Ev.isT_lst_tuple, Ev.isT_lst_list, Ev.tyOk_lst, List.not_mem_nil, not_false_eq_true, List.nodup_cons, Bool.false_eq_true, ↓reduceIte, List.nodup_nil, true_and, and_true]) | (simp only [atI0, atI1, ex_some, ixo, ixi])))
  refine ⟨mul_ok (wide ha) (wide hc), mul_ok (wide hb) (wide hd), _, _, rfl, pos_ne hab.2.1 hcd.2.1, Nat.lt_trans (prod_lt hb hd) (Nat.pow_lt_pow_right (by decide) (by decide)), ?_⟩
  (simp (config := { maxSteps := 100000000 }) only [Ev.wS, Ev.wE.eq_1, Ev.wE.eq_2, Ev.wE.eq_3, Ev.wE.eq_4, Ev.wE.eq_6, Ev.wE.eq_7, Ev.wE.eq_8, Ev.wE.eq_9, Ev.wE.eq_10, Ev.wE.eq_11, Ev.wE.eq_12, Ev.wE.eq_13, Ev.wE.eq_14, Ev.wE.eq_15, Ev.wE.eq_16, Ev.wE.eq_17, Ev.wE.eq_18, Ev.wE.eq_19, Ev.wE.eq_20, Ev.wE.eq_21, Ev.wE.eq_22, Ev.wE.eq_23, Ev.wE.eq_24, Ev.wE.eq_25, Ev.wE.eq_26, Ev.wE.eq_27, Ev.wE_var, Ev.optK_some, Ev.selR_val, Ev.selR_own, Ev.rdS_val, Ev.rdS_own, Ev.fzS_val, Ev.fzS_own, Ev.argS_val, Ev.argS_own, Ev.wT, Ev.wAs, Ev.wEs, Ev.wI, Ev.wO, Ev.wG_nam, Ev.wG_tup, Ev.wGs_nil, Ev.wGs_cons, Ev.Tg.n, Ev.wipeE, Ev.restE, List.getD_cons_zero, List.getD_cons_succ, Ev.same2, Ev.items, Ev.rdK_val, Ev.rdK_tmp, Ev.rdK_at, Ev.rdsK, Ev.fzK_val, Ev.fzK_tmp, Ev.fzK_at, Ev.stW_val, Ev.stW_tmp, Ev.stW_bor, Ev.nbW_val, Ev.nbW_tmp, Ev.nbW_bor, Ev.binW_add, Ev.binW_sub, Ev.binW_mul, Ev.binW_div, Ev.binW_mod, Ev.binW_pow, Ev.binW_lst, Ev.binW_tup, Ev.binW_str, Ev.binW_rep, Ev.cmpW_lt, Ev.cmpW_le, Ev.cmpW_gt, Ev.cmpW_ge, Ev.cmpW_eq, Ev.cmpW_ne, Ev.cmpW_is, Ev.cmpW_isN, Ev.cmpW_inT, Ev.cmpW_inL, Ev.cmpW_niT, Ev.cmpW_niL, Ev.ixW_tup, Ev.ixW_lst, Ev.bltW_abs, Ev.bltW_int, Ev.bltW_gcd, Ev.bltW_lenT, Ev.bltW_lenL, Ev.bltW_scr, Ev.bltW_listL, Ev.bltW_listT, Ev.bltW_tupL, Ev.bltW_tupT, List.replicate, List.append_nil, List.cons_append, List.nil_append, List.getElem?_cons_zero, List.getElem?_cons_succ, List.length_cons, List.length_nil, List.set_cons_zero, List.set_cons_succ, Ev.argsOf, Ev.argOf_val, Ev.argOf_at, Ev.bors, Ev.backs_val, Ev.backs_bor, Ev.backs_nil, Ev.loses, Ev.retW_val, Ev.retW_tmp, Ev.parOf, Ev.outsOf, List.replicate_zero, Nat.sub_self, Ev.isOwnL, List.getElem?_nil, reduceCtorEq, decide_eq_true_eq, Ev.cmpOk_int, Ev.cmpOk_bl, Ev.cmpOk_non, Ev.cmpOk_nil, Ev.cmpOk_nilT, Ev.peq_int, Ev.peq_bl, Ev.peq_str, Ev.peq_non, Ev.peq_nil, Ev.peq_nilT, Ev.peq_consL, Ev.isT_non_int, Ev.isT_non_bool, Ev.isT_non_str, Ev.isT_non_tuple, Ev.isT_non_list, Ev.tyOk_non, Ev.isT_bl_int, Ev.isT_bl_bool, Ev.isT_bl_str, Ev.isT_bl_tuple, Ev.isT_bl_list, Ev.tyOk_bl, Ev.isT_int_int, Ev.isT_int_bool, Ev.isT_int_str, Ev.isT_int_tuple, Ev.isT_int_list, Ev.tyOk_int, Ev.isT_str_int, Ev.isT_str_bool, Ev.isT_str_str, Ev.isT_str_tuple, Ev.isT_str_list, Ev.tyOk_str, Ev.isT_tup_int, Ev.isT_tup_bool, Ev.isT_tup_str, Ev.isT_tup_tuple, Ev.isT_tup_list, Ev.tyOk_tup, Ev.isT_lst_int, Ev.isT_lst_bool, Ev.isT_lst_str, Ev.isT_lst_tuple, Ev.isT_lst_list, Ev.tyOk_lst, List.not_mem_nil, not_false_eq_true, List.nodup_cons, Bool.false_eq_true, ↓reduceIte, List.nodup_nil, true_and, and_true])
  refine ⟨by decide, ?_⟩
  unfold B__law_pair_right_3
  (simp (config := { maxSteps := 100000000 }) only [Ev.wS, Ev.wE.eq_1, Ev.wE.eq_2, Ev.wE.eq_3, Ev.wE.eq_4, Ev.wE.eq_6, Ev.wE.eq_7, Ev.wE.eq_8, Ev.wE.eq_9, Ev.wE.eq_10, Ev.wE.eq_11, Ev.wE.eq_12, Ev.wE.eq_13, Ev.wE.eq_14, Ev.wE.eq_15, Ev.wE.eq_16, Ev.wE.eq_17, Ev.wE.eq_18, Ev.wE.eq_19, Ev.wE.eq_20, Ev.wE.eq_21, Ev.wE.eq_22, Ev.wE.eq_23, Ev.wE.eq_24, Ev.wE.eq_25, Ev.wE.eq_26, Ev.wE.eq_27, Ev.wE_var, Ev.optK_some, Ev.selR_val, Ev.selR_own, Ev.rdS_val, Ev.rdS_own, Ev.fzS_val, Ev.fzS_own, Ev.argS_val, Ev.argS_own, Ev.wT, Ev.wAs, Ev.wEs, Ev.wI, Ev.wO, Ev.wG_nam, Ev.wG_tup, Ev.wGs_nil, Ev.wGs_cons, Ev.Tg.n, Ev.wipeE, Ev.restE, List.getD_cons_zero, List.getD_cons_succ, Ev.same2, Ev.items, Ev.rdK_val, Ev.rdK_tmp, Ev.rdK_at, Ev.rdsK, Ev.fzK_val, Ev.fzK_tmp, Ev.fzK_at, Ev.stW_val, Ev.stW_tmp, Ev.stW_bor, Ev.nbW_val, Ev.nbW_tmp, Ev.nbW_bor, Ev.binW_add, Ev.binW_sub, Ev.binW_mul, Ev.binW_div, Ev.binW_mod, Ev.binW_pow, Ev.binW_lst, Ev.binW_tup, Ev.binW_str, Ev.binW_rep, Ev.cmpW_lt, Ev.cmpW_le, Ev.cmpW_gt, Ev.cmpW_ge, Ev.cmpW_eq, Ev.cmpW_ne, Ev.cmpW_is, Ev.cmpW_isN, Ev.cmpW_inT, Ev.cmpW_inL, Ev.cmpW_niT, Ev.cmpW_niL, Ev.ixW_tup, Ev.ixW_lst, Ev.bltW_abs, Ev.bltW_int, Ev.bltW_gcd, Ev.bltW_lenT, Ev.bltW_lenL, Ev.bltW_scr, Ev.bltW_listL, Ev.bltW_listT, Ev.bltW_tupL, Ev.bltW_tupT, List.replicate, List.append_nil, List.cons_append, List.nil_append, List.getElem?_cons_zero, List.getElem?_cons_succ, List.length_cons, List.length_nil, List.set_cons_zero, List.set_cons_succ, Ev.argsOf, Ev.argOf_val, Ev.argOf_at, Ev.bors, Ev.backs_val, Ev.backs_bor, Ev.backs_nil, Ev.loses, Ev.retW_val, Ev.retW_tmp, Ev.parOf, Ev.outsOf, List.replicate_zero, Nat.sub_self, Ev.isOwnL, List.getElem?_nil, reduceCtorEq, decide_eq_true_eq, Ev.cmpOk_int, Ev.cmpOk_bl, Ev.cmpOk_non, Ev.cmpOk_nil, Ev.cmpOk_nilT, Ev.peq_int, Ev.peq_bl, Ev.peq_str, Ev.peq_non, Ev.peq_nil, Ev.peq_nilT, Ev.peq_consL, Ev.isT_non_int, Ev.isT_non_bool, Ev.isT_non_str, Ev.isT_non_tuple, Ev.isT_non_list, Ev.tyOk_non, Ev.isT_bl_int, Ev.isT_bl_bool, Ev.isT_bl_str, Ev.isT_bl_tuple, Ev.isT_bl_list, Ev.tyOk_bl, Ev.isT_int_int, Ev.isT_int_bool, Ev.isT_int_str, Ev.isT_int_tuple, Ev.isT_int_list, Ev.tyOk_int, Ev.isT_str_int, Ev.isT_str_bool, Ev.isT_str_str, Ev.isT_str_tuple, Ev.isT_str_list, Ev.tyOk_str, Ev.isT_tup_int, Ev.isT_tup_bool, Ev.isT_tup_str, Ev.isT_tup_tuple, Ev.isT_tup_list, Ev.tyOk_tup, Ev.isT_lst_int, Ev.isT_lst_bool, Ev.isT_lst_str, Ev.isT_lst_tuple, Ev.isT_lst_list, Ev.tyOk_lst, List.not_mem_nil, not_false_eq_true, List.nodup_cons, Bool.false_eq_true, ↓reduceIte, List.nodup_nil, true_and, and_true])
  simp only [h6]
  have e : decide (0 < a * d - c * b) = decide (c * b < a * d) := by
    congr 1
    exact propext ⟨fun h => by omega, fun h => by omega⟩
  rw [e]
  refine ⟨by simp, _, _, _, rfl, hold_own, hold_own, lk_lst (by simp) (lk_cons lk_plain (lk_cons lk_plain (lk_cons lk_bl (lk_cons lk_bl lk_nil)))), fun t1 t2 _ _ => ?_⟩
  (simp (config := { maxSteps := 100000000 }) only [Ev.wS, Ev.wE.eq_1, Ev.wE.eq_2, Ev.wE.eq_3, Ev.wE.eq_4, Ev.wE.eq_6, Ev.wE.eq_7, Ev.wE.eq_8, Ev.wE.eq_9, Ev.wE.eq_10, Ev.wE.eq_11, Ev.wE.eq_12, Ev.wE.eq_13, Ev.wE.eq_14, Ev.wE.eq_15, Ev.wE.eq_16, Ev.wE.eq_17, Ev.wE.eq_18, Ev.wE.eq_19, Ev.wE.eq_20, Ev.wE.eq_21, Ev.wE.eq_22, Ev.wE.eq_23, Ev.wE.eq_24, Ev.wE.eq_25, Ev.wE.eq_26, Ev.wE.eq_27, Ev.wE_var, Ev.optK_some, Ev.selR_val, Ev.selR_own, Ev.rdS_val, Ev.rdS_own, Ev.fzS_val, Ev.fzS_own, Ev.argS_val, Ev.argS_own, Ev.wT, Ev.wAs, Ev.wEs, Ev.wI, Ev.wO, Ev.wG_nam, Ev.wG_tup, Ev.wGs_nil, Ev.wGs_cons, Ev.Tg.n, Ev.wipeE, Ev.restE, List.getD_cons_zero, List.getD_cons_succ, Ev.same2, Ev.items, Ev.rdK_val, Ev.rdK_tmp, Ev.rdK_at, Ev.rdsK, Ev.fzK_val, Ev.fzK_tmp, Ev.fzK_at, Ev.stW_val, Ev.stW_tmp, Ev.stW_bor, Ev.nbW_val, Ev.nbW_tmp, Ev.nbW_bor, Ev.binW_add, Ev.binW_sub, Ev.binW_mul, Ev.binW_div, Ev.binW_mod, Ev.binW_pow, Ev.binW_lst, Ev.binW_tup, Ev.binW_str, Ev.binW_rep, Ev.cmpW_lt, Ev.cmpW_le, Ev.cmpW_gt, Ev.cmpW_ge, Ev.cmpW_eq, Ev.cmpW_ne, Ev.cmpW_is, Ev.cmpW_isN, Ev.cmpW_inT, Ev.cmpW_inL, Ev.cmpW_niT, Ev.cmpW_niL, Ev.ixW_tup, Ev.ixW_lst, Ev.bltW_abs, Ev.bltW_int, Ev.bltW_gcd, Ev.bltW_lenT, Ev.bltW_lenL, Ev.bltW_scr, Ev.bltW_listL, Ev.bltW_listT, Ev.bltW_tupL, Ev.bltW_tupT, List.replicate, List.append_nil, List.cons_append, List.nil_append, List.getElem?_cons_zero, List.getElem?_cons_succ, List.length_cons, List.length_nil, List.set_cons_zero, List.set_cons_succ, Ev.argsOf, Ev.argOf_val, Ev.argOf_at, Ev.bors, Ev.backs_val, Ev.backs_bor, Ev.backs_nil, Ev.loses, Ev.retW_val, Ev.retW_tmp, Ev.parOf, Ev.outsOf, List.replicate_zero, Nat.sub_self, Ev.isOwnL, List.getElem?_nil, reduceCtorEq, decide_eq_true_eq, Ev.cmpOk_int, Ev.cmpOk_bl, Ev.cmpOk_non, Ev.cmpOk_nil, Ev.cmpOk_nilT, Ev.peq_int, Ev.peq_bl, Ev.peq_str, Ev.peq_non, Ev.peq_nil, Ev.peq_nilT, Ev.peq_consL, Ev.isT_non_int, Ev.isT_non_bool, Ev.isT_non_str, Ev.isT_non_tuple, Ev.isT_non_list, Ev.tyOk_non, Ev.isT_bl_int, Ev.isT_bl_bool, Ev.isT_bl_str, Ev.isT_bl_tuple, Ev.isT_bl_list, Ev.tyOk_bl, Ev.isT_int_int, Ev.isT_int_bool, Ev.isT_int_str, Ev.isT_int_tuple, Ev.isT_int_list, Ev.tyOk_int, Ev.isT_str_int, Ev.isT_str_bool, Ev.isT_str_str, Ev.isT_str_tuple, Ev.isT_str_list, Ev.tyOk_str, Ev.isT_tup_int, Ev.isT_tup_bool, Ev.isT_tup_str, Ev.isT_tup_tuple, Ev.isT_tup_list, Ev.tyOk_tup, Ev.isT_lst_int, Ev.isT_lst_bool, Ev.isT_lst_str, Ev.isT_lst_tuple, Ev.isT_lst_list, Ev.tyOk_lst, List.not_mem_nil, not_false_eq_true, List.nodup_cons, Bool.false_eq_true, ↓reduceIte, List.nodup_nil, true_and, and_true])
  unfold B__law_pair_right_4
  (repeat (first | (simp (config := { maxSteps := 100000000 }) only [Ev.wS, Ev.wE.eq_1, Ev.wE.eq_2, Ev.wE.eq_3, Ev.wE.eq_4, Ev.wE.eq_6, Ev.wE.eq_7, Ev.wE.eq_8, Ev.wE.eq_9, Ev.wE.eq_10, Ev.wE.eq_11, Ev.wE.eq_12, Ev.wE.eq_13, Ev.wE.eq_14, Ev.wE.eq_15, Ev.wE.eq_16, Ev.wE.eq_17, Ev.wE.eq_18, Ev.wE.eq_19, Ev.wE.eq_20, Ev.wE.eq_21, Ev.wE.eq_22, Ev.wE.eq_23, Ev.wE.eq_24, Ev.wE.eq_25, Ev.wE.eq_26, Ev.wE.eq_27, Ev.wE_var, Ev.optK_some, Ev.selR_val, Ev.selR_own, Ev.rdS_val, Ev.rdS_own, Ev.fzS_val, Ev.fzS_own, Ev.argS_val, Ev.argS_own, Ev.wT, Ev.wAs, Ev.wEs, Ev.wI, Ev.wO, Ev.wG_nam, Ev.wG_tup, Ev.wGs_nil, Ev.wGs_cons, Ev.Tg.n, Ev.wipeE, Ev.restE, List.getD_cons_zero, List.getD_cons_succ, Ev.same2, Ev.items, Ev.rdK_val, Ev.rdK_tmp, Ev.rdK_at, Ev.rdsK, Ev.fzK_val, Ev.fzK_tmp, Ev.fzK_at, Ev.stW_val, Ev.stW_tmp, Ev.stW_bor, Ev.nbW_val, Ev.nbW_tmp, Ev.nbW_bor, Ev.binW_add, Ev.binW_sub, Ev.binW_mul, Ev.binW_div, Ev.binW_mod, Ev.binW_pow, Ev.binW_lst, Ev.binW_tup, Ev.binW_str, Ev.binW_rep, Ev.cmpW_lt, Ev.cmpW_le, Ev.cmpW_gt, Ev.cmpW_ge, Ev.cmpW_eq, Ev.cmpW_ne, Ev.cmpW_is, Ev.cmpW_isN, Ev.cmpW_inT, Ev.cmpW_inL, Ev.cmpW_niT, Ev.cmpW_niL, Ev.ixW_tup, Ev.ixW_lst, Ev.bltW_abs, Ev.bltW_int, Ev.bltW_gcd, Ev.bltW_lenT, Ev.bltW_lenL, Ev.bltW_scr, Ev.bltW_listL, Ev.bltW_listT, Ev.bltW_tupL, Ev.bltW_tupT, List.replicate, List.append_nil, List.cons_append, List.nil_append, List.getElem?_cons_zero, List.getElem?_cons_succ, List.length_cons, List.length_nil, List.set_cons_zero, List.set_cons_succ, Ev.argsOf, Ev.argOf_val, Ev.argOf_at, Ev.bors, Ev.backs_val, Ev.backs_bor, Ev.backs_nil, Ev.loses, Ev.retW_val, Ev.retW_tmp, Ev.parOf, Ev.outsOf, List.replicate_zero, Nat.sub_self, Ev.isOwnL, List.getElem?_nil, reduceCtorEq, decide_eq_true_eq, Ev.cmpOk_int, Ev.cmpOk_bl, Ev.cmpOk_non, Ev.cmpOk_nil, Ev.cmpOk_nilT, Ev.peq_int, Ev.peq_bl, Ev.peq_str, Ev.peq_non, Ev.peq_nil, Ev.peq_nilT, Ev.peq_consL, Ev.isT_non_int, Ev.isT_non_bool, Ev.isT_non_str, Ev.isT_non_tuple, Ev.isT_non_list, Ev.tyOk_non, Ev.isT_bl_int, Ev.isT_bl_bool, Ev.isT_bl_str, Ev.isT_bl_tuple, Ev.isT_bl_list, Ev.tyOk_bl, Ev.isT_int_int, Ev.isT_int_bool, Ev.isT_int_str, Ev.isT_int_tuple, Ev.isT_int_list, Ev.tyOk_int, Ev.isT_str_int, Ev.isT_str_bool, Ev.isT_str_str, Ev.isT_str_tuple, Ev.isT_str_list, Ev.tyOk_str, Ev.isT_tup_int, Ev.isT_tup_bool, Ev.isT_tup_str, Ev.isT_tup_tuple, Ev.isT_tup_list, Ev.tyOk_tup, Ev.isT_lst_int, Ev.isT_lst_bool, Ev.isT_lst_str, Ev.isT_lst_tuple, Ev.isT_lst_list, Ev.tyOk_lst, List.not_mem_nil, not_false_eq_true, List.nodup_cons, Bool.false_eq_true, ↓reduceIte, List.nodup_nil, true_and, and_true]) | (simp only [atI0, atI1, ex_some, ixo, ixi])))
  by_cases hc0 : c = 0
  · rw [if_pos hc0]
    simp only [h7, h8]
    (repeat (first | (simp (config := { maxSteps := 100000000 }) only [Ev.wS, Ev.wE.eq_1, Ev.wE.eq_2, Ev.wE.eq_3, Ev.wE.eq_4, Ev.wE.eq_6, Ev.wE.eq_7, Ev.wE.eq_8, Ev.wE.eq_9, Ev.wE.eq_10, Ev.wE.eq_11, Ev.wE.eq_12, Ev.wE.eq_13, Ev.wE.eq_14, Ev.wE.eq_15, Ev.wE.eq_16, Ev.wE.eq_17, Ev.wE.eq_18, Ev.wE.eq_19, Ev.wE.eq_20, Ev.wE.eq_21, Ev.wE.eq_22, Ev.wE.eq_23, Ev.wE.eq_24, Ev.wE.eq_25, Ev.wE.eq_26, Ev.wE.eq_27, Ev.wE_var, Ev.optK_some, Ev.selR_val, Ev.selR_own, Ev.rdS_val, Ev.rdS_own, Ev.fzS_val, Ev.fzS_own, Ev.argS_val, Ev.argS_own, Ev.wT, Ev.wAs, Ev.wEs, Ev.wI, Ev.wO, Ev.wG_nam, Ev.wG_tup, Ev.wGs_nil, Ev.wGs_cons, Ev.Tg.n, Ev.wipeE, Ev.restE, List.getD_cons_zero, List.getD_cons_succ, Ev.same2, Ev.items, Ev.rdK_val, Ev.rdK_tmp, Ev.rdK_at, Ev.rdsK, Ev.fzK_val, Ev.fzK_tmp, Ev.fzK_at, Ev.stW_val, Ev.stW_tmp, Ev.stW_bor, Ev.nbW_val, Ev.nbW_tmp, Ev.nbW_bor, Ev.binW_add, Ev.binW_sub, Ev.binW_mul, Ev.binW_div, Ev.binW_mod, Ev.binW_pow, Ev.binW_lst, Ev.binW_tup, Ev.binW_str, Ev.binW_rep, Ev.cmpW_lt, Ev.cmpW_le, Ev.cmpW_gt, Ev.cmpW_ge, Ev.cmpW_eq, Ev.cmpW_ne, Ev.cmpW_is, Ev.cmpW_isN, Ev.cmpW_inT, Ev.cmpW_inL, Ev.cmpW_niT, Ev.cmpW_niL, Ev.ixW_tup, Ev.ixW_lst, Ev.bltW_abs, Ev.bltW_int, Ev.bltW_gcd, Ev.bltW_lenT, Ev.bltW_lenL, Ev.bltW_scr, Ev.bltW_listL, Ev.bltW_listT, Ev.bltW_tupL, Ev.bltW_tupT, List.replicate, List.append_nil, List.cons_append, List.nil_append, List.getElem?_cons_zero, List.getElem?_cons_succ, List.length_cons, List.length_nil, List.set_cons_zero, List.set_cons_succ, Ev.argsOf, Ev.argOf_val, Ev.argOf_at, Ev.bors, Ev.backs_val, Ev.backs_bor, Ev.backs_nil, Ev.loses, Ev.retW_val, Ev.retW_tmp, Ev.parOf, Ev.outsOf, List.replicate_zero, Nat.sub_self, Ev.isOwnL, List.getElem?_nil, reduceCtorEq, decide_eq_true_eq, Ev.cmpOk_int, Ev.cmpOk_bl, Ev.cmpOk_non, Ev.cmpOk_nil, Ev.cmpOk_nilT, Ev.peq_int, Ev.peq_bl, Ev.peq_str, Ev.peq_non, Ev.peq_nil, Ev.peq_nilT, Ev.peq_consL, Ev.isT_non_int, Ev.isT_non_bool, Ev.isT_non_str, Ev.isT_non_tuple, Ev.isT_non_list, Ev.tyOk_non, Ev.isT_bl_int, Ev.isT_bl_bool, Ev.isT_bl_str, Ev.isT_bl_tuple, Ev.isT_bl_list, Ev.tyOk_bl, Ev.isT_int_int, Ev.isT_int_bool, Ev.isT_int_str, Ev.isT_int_tuple, Ev.isT_int_list, Ev.tyOk_int, Ev.isT_str_int, Ev.isT_str_bool, Ev.isT_str_str, Ev.isT_str_tuple, Ev.isT_str_list, Ev.tyOk_str, Ev.isT_tup_int, Ev.isT_tup_bool, Ev.isT_tup_str, Ev.isT_tup_tuple, Ev.isT_tup_list, Ev.tyOk_tup, Ev.isT_lst_int, Ev.isT_lst_bool, Ev.isT_lst_str, Ev.isT_lst_tuple, Ev.isT_lst_list, Ev.tyOk_lst, List.not_mem_nil, not_false_eq_true, List.nodup_cons, Bool.false_eq_true, ↓reduceIte, List.nodup_nil, true_and, and_true]) | (simp only [atI0, atI1, ex_some, ixo, ixi])))
    refine ⟨_, _, rfl, quo_ok, quo_ok, fun z => ?_, fun _ z => ?_, fun a' b' c' d' e1 e2 _ _ => ⟨fun _ => ?_, fun z => ?_⟩⟩
    · rw [qx] at z; cases z
    · rw [qy] at z; cases z
    · simp only [h9]
      (simp (config := { maxSteps := 100000000 }) only [Ev.wS, Ev.wE.eq_1, Ev.wE.eq_2, Ev.wE.eq_3, Ev.wE.eq_4, Ev.wE.eq_6, Ev.wE.eq_7, Ev.wE.eq_8, Ev.wE.eq_9, Ev.wE.eq_10, Ev.wE.eq_11, Ev.wE.eq_12, Ev.wE.eq_13, Ev.wE.eq_14, Ev.wE.eq_15, Ev.wE.eq_16, Ev.wE.eq_17, Ev.wE.eq_18, Ev.wE.eq_19, Ev.wE.eq_20, Ev.wE.eq_21, Ev.wE.eq_22, Ev.wE.eq_23, Ev.wE.eq_24, Ev.wE.eq_25, Ev.wE.eq_26, Ev.wE.eq_27, Ev.wE_var, Ev.optK_some, Ev.selR_val, Ev.selR_own, Ev.rdS_val, Ev.rdS_own, Ev.fzS_val, Ev.fzS_own, Ev.argS_val, Ev.argS_own, Ev.wT, Ev.wAs, Ev.wEs, Ev.wI, Ev.wO, Ev.wG_nam, Ev.wG_tup, Ev.wGs_nil, Ev.wGs_cons, Ev.Tg.n, Ev.wipeE, Ev.restE, List.getD_cons_zero, List.getD_cons_succ, Ev.same2, Ev.items, Ev.rdK_val, Ev.rdK_tmp, Ev.rdK_at, Ev.rdsK, Ev.fzK_val, Ev.fzK_tmp, Ev.fzK_at, Ev.stW_val, Ev.stW_tmp, Ev.stW_bor, Ev.nbW_val, Ev.nbW_tmp, Ev.nbW_bor, Ev.binW_add, Ev.binW_sub, Ev.binW_mul, Ev.binW_div, Ev.binW_mod, Ev.binW_pow, Ev.binW_lst, Ev.binW_tup, Ev.binW_str, Ev.binW_rep, Ev.cmpW_lt, Ev.cmpW_le, Ev.cmpW_gt, Ev.cmpW_ge, Ev.cmpW_eq, Ev.cmpW_ne, Ev.cmpW_is, Ev.cmpW_isN, Ev.cmpW_inT, Ev.cmpW_inL, Ev.cmpW_niT, Ev.cmpW_niL, Ev.ixW_tup, Ev.ixW_lst, Ev.bltW_abs, Ev.bltW_int, Ev.bltW_gcd, Ev.bltW_lenT, Ev.bltW_lenL, Ev.bltW_scr, Ev.bltW_listL, Ev.bltW_listT, Ev.bltW_tupL, Ev.bltW_tupT, List.replicate, List.append_nil, List.cons_append, List.nil_append, List.getElem?_cons_zero, List.getElem?_cons_succ, List.length_cons, List.length_nil, List.set_cons_zero, List.set_cons_succ, Ev.argsOf, Ev.argOf_val, Ev.argOf_at, Ev.bors, Ev.backs_val, Ev.backs_bor, Ev.backs_nil, Ev.loses, Ev.retW_val, Ev.retW_tmp, Ev.parOf, Ev.outsOf, List.replicate_zero, Nat.sub_self, Ev.isOwnL, List.getElem?_nil, reduceCtorEq, decide_eq_true_eq, Ev.cmpOk_int, Ev.cmpOk_bl, Ev.cmpOk_non, Ev.cmpOk_nil, Ev.cmpOk_nilT, Ev.peq_int, Ev.peq_bl, Ev.peq_str, Ev.peq_non, Ev.peq_nil, Ev.peq_nilT, Ev.peq_consL, Ev.isT_non_int, Ev.isT_non_bool, Ev.isT_non_str, Ev.isT_non_tuple, Ev.isT_non_list, Ev.tyOk_non, Ev.isT_bl_int, Ev.isT_bl_bool, Ev.isT_bl_str, Ev.isT_bl_tuple, Ev.isT_bl_list, Ev.tyOk_bl, Ev.isT_int_int, Ev.isT_int_bool, Ev.isT_int_str, Ev.isT_int_tuple, Ev.isT_int_list, Ev.tyOk_int, Ev.isT_str_int, Ev.isT_str_bool, Ev.isT_str_str, Ev.isT_str_tuple, Ev.isT_str_list, Ev.tyOk_str, Ev.isT_tup_int, Ev.isT_tup_bool, Ev.isT_tup_str, Ev.isT_tup_tuple, Ev.isT_tup_list, Ev.tyOk_tup, Ev.isT_lst_int, Ev.isT_lst_bool, Ev.isT_lst_str, Ev.isT_lst_tuple, Ev.isT_lst_list, Ev.tyOk_lst, List.not_mem_nil, not_false_eq_true, List.nodup_cons, Bool.false_eq_true, ↓reduceIte, List.nodup_nil, true_and, and_true])
      refine ⟨⟨rfl, by decide +kernel⟩, ⟨rfl, by decide +kernel⟩, ?_⟩
      exact hk
    · cases e2
      exact absurd hc0 z
  · rw [if_neg hc0]
    unfold B__law_pair_right_5
    (simp (config := { maxSteps := 100000000 }) only [Ev.wS, Ev.wE.eq_1, Ev.wE.eq_2, Ev.wE.eq_3, Ev.wE.eq_4, Ev.wE.eq_6, Ev.wE.eq_7, Ev.wE.eq_8, Ev.wE.eq_9, Ev.wE.eq_10, Ev.wE.eq_11, Ev.wE.eq_12, Ev.wE.eq_13, Ev.wE.eq_14, Ev.wE.eq_15, Ev.wE.eq_16, Ev.wE.eq_17, Ev.wE.eq_18, Ev.wE.eq_19, Ev.wE.eq_20, Ev.wE.eq_21, Ev.wE.eq_22, Ev.wE.eq_23, Ev.wE.eq_24, Ev.wE.eq_25, Ev.wE.eq_26, Ev.wE.eq_27, Ev.wE_var, Ev.optK_some, Ev.selR_val, Ev.selR_own, Ev.rdS_val, Ev.rdS_own, Ev.fzS_val, Ev.fzS_own, Ev.argS_val, Ev.argS_own, Ev.wT, Ev.wAs, Ev.wEs, Ev.wI, Ev.wO, Ev.wG_nam, Ev.wG_tup, Ev.wGs_nil, Ev.wGs_cons, Ev.Tg.n, Ev.wipeE, Ev.restE, List.getD_cons_zero, List.getD_cons_succ, Ev.same2, Ev.items, Ev.rdK_val, Ev.rdK_tmp, Ev.rdK_at, Ev.rdsK, Ev.fzK_val, Ev.fzK_tmp, Ev.fzK_at, Ev.stW_val, Ev.stW_tmp, Ev.stW_bor, Ev.nbW_val, Ev.nbW_tmp, Ev.nbW_bor, Ev.binW_add, Ev.binW_sub, Ev.binW_mul, Ev.binW_div, Ev.binW_mod, Ev.binW_pow, Ev.binW_lst, Ev.binW_tup, Ev.binW_str, Ev.binW_rep, Ev.cmpW_lt, Ev.cmpW_le, Ev.cmpW_gt, Ev.cmpW_ge, Ev.cmpW_eq, Ev.cmpW_ne, Ev.cmpW_is, Ev.cmpW_isN, Ev.cmpW_inT, Ev.cmpW_inL, Ev.cmpW_niT, Ev.cmpW_niL, Ev.ixW_tup, Ev.ixW_lst, Ev.bltW_abs, Ev.bltW_int, Ev.bltW_gcd, Ev.bltW_lenT, Ev.bltW_lenL, Ev.bltW_scr, Ev.bltW_listL, Ev.bltW_listT, Ev.bltW_tupL, Ev.bltW_tupT, List.replicate, List.append_nil, List.cons_append, List.nil_append, List.getElem?_cons_zero, List.getElem?_cons_succ, List.length_cons, List.length_nil, List.set_cons_zero, List.set_cons_succ, Ev.argsOf, Ev.argOf_val, Ev.argOf_at, Ev.bors, Ev.backs_val, Ev.backs_bor, Ev.backs_nil, Ev.loses, Ev.retW_val, Ev.retW_tmp, Ev.parOf, Ev.outsOf, List.replicate_zero, Nat.sub_self, Ev.isOwnL, List.getElem?_nil, reduceCtorEq, decide_eq_true_eq, Ev.cmpOk_int, Ev.cmpOk_bl, Ev.cmpOk_non, Ev.cmpOk_nil, Ev.cmpOk_nilT, Ev.peq_int, Ev.peq_bl, Ev.peq_str, Ev.peq_non, Ev.peq_nil, Ev.peq_nilT, Ev.peq_consL, Ev.isT_non_int, Ev.isT_non_bool, Ev.isT_non_str, Ev.isT_non_tuple, Ev.isT_non_list, Ev.tyOk_non, Ev.isT_bl_int, Ev.isT_bl_bool, Ev.isT_bl_str, Ev.isT_bl_tuple, Ev.isT_bl_list, Ev.tyOk_bl, Ev.isT_int_int, Ev.isT_int_bool, Ev.isT_int_str, Ev.isT_int_tuple, Ev.isT_int_list, Ev.tyOk_int, Ev.isT_str_int, Ev.isT_str_bool, Ev.isT_str_str, Ev.isT_str_tuple, Ev.isT_str_list, Ev.tyOk_str, Ev.isT_tup_int, Ev.isT_tup_bool, Ev.isT_tup_str, Ev.isT_tup_tuple, Ev.isT_tup_list, Ev.tyOk_tup, Ev.isT_lst_int, Ev.isT_lst_bool, Ev.isT_lst_str, Ev.isT_lst_tuple, Ev.isT_lst_list, Ev.tyOk_lst, List.not_mem_nil, not_false_eq_true, List.nodup_cons, Bool.false_eq_true, ↓reduceIte, List.nodup_nil, true_and, and_true])
    simp only [h5, h6, h7]
    refine ⟨_, _, rfl, quo_ok, quo_ok, fun z => ?_, fun _ z => ?_, fun a' b' c' d' e1 e2 _ _ => ⟨fun z => ?_, fun _ => ?_⟩⟩
    · rw [qx] at z; cases z
    · rw [qy] at z; cases z
    · cases e2
      exact absurd z hc0
    · cases e1; cases e2
      (repeat (first | (simp (config := { maxSteps := 100000000 }) only [Ev.wS, Ev.wE.eq_1, Ev.wE.eq_2, Ev.wE.eq_3, Ev.wE.eq_4, Ev.wE.eq_6, Ev.wE.eq_7, Ev.wE.eq_8, Ev.wE.eq_9, Ev.wE.eq_10, Ev.wE.eq_11, Ev.wE.eq_12, Ev.wE.eq_13, Ev.wE.eq_14, Ev.wE.eq_15, Ev.wE.eq_16, Ev.wE.eq_17, Ev.wE.eq_18, Ev.wE.eq_19, Ev.wE.eq_20, Ev.wE.eq_21, Ev.wE.eq_22, Ev.wE.eq_23, Ev.wE.eq_24, Ev.wE.eq_25, Ev.wE.eq_26, Ev.wE.eq_27, Ev.wE_var, Ev.optK_some, Ev.selR_val, Ev.selR_own, Ev.rdS_val, Ev.rdS_own, Ev.fzS_val, Ev.fzS_own, Ev.argS_val, Ev.argS_own, Ev.wT, Ev.wAs, Ev.wEs, Ev.wI, Ev.wO, Ev.wG_nam, Ev.wG_tup, Ev.wGs_nil, Ev.wGs_cons, Ev.Tg.n, Ev.wipeE, Ev.restE, List.getD_cons_zero, List.getD_cons_succ, Ev.same2, Ev.items, Ev.rdK_val, Ev.rdK_tmp, Ev.rdK_at, Ev.rdsK, Ev.fzK_val, Ev.fzK_tmp, Ev.fzK_at, Ev.stW_val, Ev.stW_tmp, Ev.stW_bor, Ev.nbW_val, Ev.nbW_tmp, Ev.nbW_bor, Ev.binW_add, Ev.binW_sub, Ev.binW_mul, Ev.binW_div, Ev.binW_mod, Ev.binW_pow, Ev.binW_lst, Ev.binW_tup, Ev.binW_str, Ev.binW_rep, Ev.cmpW_lt, Ev.cmpW_le, Ev.cmpW_gt, Ev.cmpW_ge, Ev.cmpW_eq, Ev.cmpW_ne, Ev.cmpW_is, Ev.cmpW_isN, Ev.cmpW_inT, Ev.cmpW_inL, Ev.cmpW_niT, Ev.cmpW_niL, Ev.ixW_tup, Ev.ixW_lst, Ev.bltW_abs, Ev.bltW_int, Ev.bltW_gcd, Ev.bltW_lenT, Ev.bltW_lenL, Ev.bltW_scr, Ev.bltW_listL, Ev.bltW_listT, Ev.bltW_tupL, Ev.bltW_tupT, List.replicate, List.append_nil, List.cons_append, List.nil_append, List.getElem?_cons_zero, List.getElem?_cons_succ, List.length_cons, List.length_nil, List.set_cons_zero, List.set_cons_succ, Ev.argsOf, Ev.argOf_val, Ev.argOf_at, Ev.bors, Ev.backs_val, Ev.backs_bor, Ev.backs_nil, Ev.loses, Ev.retW_val, Ev.retW_tmp, Ev.parOf, Ev.outsOf, List.replicate_zero, Nat.sub_self, Ev.isOwnL, List.getElem?_nil, reduceCtorEq, decide_eq_true_eq, Ev.cmpOk_int, Ev.cmpOk_bl, Ev.cmpOk_non, Ev.cmpOk_nil, Ev.cmpOk_nilT, Ev.peq_int, Ev.peq_bl, Ev.peq_str, Ev.peq_non, Ev.peq_nil, Ev.peq_nilT, Ev.peq_consL, Ev.isT_non_int, Ev.isT_non_bool, Ev.isT_non_str, Ev.isT_non_tuple, Ev.isT_non_list, Ev.tyOk_non, Ev.isT_bl_int, Ev.isT_bl_bool, Ev.isT_bl_str, Ev.isT_bl_tuple, Ev.isT_bl_list, Ev.tyOk_bl, Ev.isT_int_int, Ev.isT_int_bool, Ev.isT_int_str, Ev.isT_int_tuple, Ev.isT_int_list, Ev.tyOk_int, Ev.isT_str_int, Ev.isT_str_bool, Ev.isT_str_str, Ev.isT_str_tuple, Ev.isT_str_list, Ev.tyOk_str, Ev.isT_tup_int, Ev.isT_tup_bool, Ev.isT_tup_str, Ev.isT_tup_tuple, Ev.isT_tup_list, Ev.tyOk_tup, Ev.isT_lst_int, Ev.isT_lst_bool, Ev.isT_lst_str, Ev.isT_lst_tuple, Ev.isT_lst_list, Ev.tyOk_lst, List.not_mem_nil, not_false_eq_true, List.nodup_cons, Bool.false_eq_true, ↓reduceIte, List.nodup_nil, true_and, and_true]) | (simp only [atI0, atI1, ex_some, ixo, ixi])))
      have hb1 := hab.2.1
      refine ⟨mul_ok (wide ha) (wide hd), mul_ok (wide hb) (wide hc), _, _, rfl, Int.mul_ne_zero (by omega) hc0, Nat.lt_trans (prod_lt hb hc) (Nat.pow_lt_pow_right (by decide) (by decide)), ?_⟩
      (simp (config := { maxSteps := 100000000 }) only [Ev.wS, Ev.wE.eq_1, Ev.wE.eq_2, Ev.wE.eq_3, Ev.wE.eq_4, Ev.wE.eq_6, Ev.wE.eq_7, Ev.wE.eq_8, Ev.wE.eq_9, Ev.wE.eq_10, Ev.wE.eq_11, Ev.wE.eq_12, Ev.wE.eq_13, Ev.wE.eq_14, Ev.wE.eq_15, Ev.wE.eq_16, Ev.wE.eq_17, Ev.wE.eq_18, Ev.wE.eq_19, Ev.wE.eq_20, Ev.wE.eq_21, Ev.wE.eq_22, Ev.wE.eq_23, Ev.wE.eq_24, Ev.wE.eq_25, Ev.wE.eq_26, Ev.wE.eq_27, Ev.wE_var, Ev.optK_some, Ev.selR_val, Ev.selR_own, Ev.rdS_val, Ev.rdS_own, Ev.fzS_val, Ev.fzS_own, Ev.argS_val, Ev.argS_own, Ev.wT, Ev.wAs, Ev.wEs, Ev.wI, Ev.wO, Ev.wG_nam, Ev.wG_tup, Ev.wGs_nil, Ev.wGs_cons, Ev.Tg.n, Ev.wipeE, Ev.restE, List.getD_cons_zero, List.getD_cons_succ, Ev.same2, Ev.items, Ev.rdK_val, Ev.rdK_tmp, Ev.rdK_at, Ev.rdsK, Ev.fzK_val, Ev.fzK_tmp, Ev.fzK_at, Ev.stW_val, Ev.stW_tmp, Ev.stW_bor, Ev.nbW_val, Ev.nbW_tmp, Ev.nbW_bor, Ev.binW_add, Ev.binW_sub, Ev.binW_mul, Ev.binW_div, Ev.binW_mod, Ev.binW_pow, Ev.binW_lst, Ev.binW_tup, Ev.binW_str, Ev.binW_rep, Ev.cmpW_lt, Ev.cmpW_le, Ev.cmpW_gt, Ev.cmpW_ge, Ev.cmpW_eq, Ev.cmpW_ne, Ev.cmpW_is, Ev.cmpW_isN, Ev.cmpW_inT, Ev.cmpW_inL, Ev.cmpW_niT, Ev.cmpW_niL, Ev.ixW_tup, Ev.ixW_lst, Ev.bltW_abs, Ev.bltW_int, Ev.bltW_gcd, Ev.bltW_lenT, Ev.bltW_lenL, Ev.bltW_scr, Ev.bltW_listL, Ev.bltW_listT, Ev.bltW_tupL, Ev.bltW_tupT, List.replicate, List.append_nil, List.cons_append, List.nil_append, List.getElem?_cons_zero, List.getElem?_cons_succ, List.length_cons, List.length_nil, List.set_cons_zero, List.set_cons_succ, Ev.argsOf, Ev.argOf_val, Ev.argOf_at, Ev.bors, Ev.backs_val, Ev.backs_bor, Ev.backs_nil, Ev.loses, Ev.retW_val, Ev.retW_tmp, Ev.parOf, Ev.outsOf, List.replicate_zero, Nat.sub_self, Ev.isOwnL, List.getElem?_nil, reduceCtorEq, decide_eq_true_eq, Ev.cmpOk_int, Ev.cmpOk_bl, Ev.cmpOk_non, Ev.cmpOk_nil, Ev.cmpOk_nilT, Ev.peq_int, Ev.peq_bl, Ev.peq_str, Ev.peq_non, Ev.peq_nil, Ev.peq_nilT, Ev.peq_consL, Ev.isT_non_int, Ev.isT_non_bool, Ev.isT_non_str, Ev.isT_non_tuple, Ev.isT_non_list, Ev.tyOk_non, Ev.isT_bl_int, Ev.isT_bl_bool, Ev.isT_bl_str, Ev.isT_bl_tuple, Ev.isT_bl_list, Ev.tyOk_bl, Ev.isT_int_int, Ev.isT_int_bool, Ev.isT_int_str, Ev.isT_int_tuple, Ev.isT_int_list, Ev.tyOk_int, Ev.isT_str_int, Ev.isT_str_bool, Ev.isT_str_str, Ev.isT_str_tuple, Ev.isT_str_list, Ev.tyOk_str, Ev.isT_tup_int, Ev.isT_tup_bool, Ev.isT_tup_str, Ev.isT_tup_tuple, Ev.isT_tup_list, Ev.tyOk_tup, Ev.isT_lst_int, Ev.isT_lst_bool, Ev.isT_lst_str, Ev.isT_lst_tuple, Ev.isT_lst_list, Ev.tyOk_lst, List.not_mem_nil, not_false_eq_true, List.nodup_cons, Bool.false_eq_true, ↓reduceIte, List.nodup_nil, true_and, and_true])
      refine ⟨_, _, _, rfl, hold_val, hold_val, lk_plain, fun t3 t4 _ _ => ?_⟩
      (simp (config := { maxSteps := 100000000 }) only [Ev.wS, Ev.wE.eq_1, Ev.wE.eq_2, Ev.wE.eq_3, Ev.wE.eq_4, Ev.wE.eq_6, Ev.wE.eq_7, Ev.wE.eq_8, Ev.wE.eq_9, Ev.wE.eq_10, Ev.wE.eq_11, Ev.wE.eq_12, Ev.wE.eq_13, Ev.wE.eq_14, Ev.wE.eq_15, Ev.wE.eq_16, Ev.wE.eq_17, Ev.wE.eq_18, Ev.wE.eq_19, Ev.wE.eq_20, Ev.wE.eq_21, Ev.wE.eq_22, Ev.wE.eq_23, Ev.wE.eq_24, Ev.wE.eq_25, Ev.wE.eq_26, Ev.wE.eq_27, Ev.wE_var, Ev.optK_some, Ev.selR_val, Ev.selR_own, Ev.rdS_val, Ev.rdS_own, Ev.fzS_val, Ev.fzS_own, Ev.argS_val, Ev.argS_own, Ev.wT, Ev.wAs, Ev.wEs, Ev.wI, Ev.wO, Ev.wG_nam, Ev.wG_tup, Ev.wGs_nil, Ev.wGs_cons, Ev.Tg.n, Ev.wipeE, Ev.restE, List.getD_cons_zero, List.getD_cons_succ, Ev.same2, Ev.items, Ev.rdK_val, Ev.rdK_tmp, Ev.rdK_at, Ev.rdsK, Ev.fzK_val, Ev.fzK_tmp, Ev.fzK_at, Ev.stW_val, Ev.stW_tmp, Ev.stW_bor, Ev.nbW_val, Ev.nbW_tmp, Ev.nbW_bor, Ev.binW_add, Ev.binW_sub, Ev.binW_mul, Ev.binW_div, Ev.binW_mod, Ev.binW_pow, Ev.binW_lst, Ev.binW_tup, Ev.binW_str, Ev.binW_rep, Ev.cmpW_lt, Ev.cmpW_le, Ev.cmpW_gt, Ev.cmpW_ge, Ev.cmpW_eq, Ev.cmpW_ne, Ev.cmpW_is, Ev.cmpW_isN, Ev.cmpW_inT, Ev.cmpW_inL, Ev.cmpW_niT, Ev.cmpW_niL, Ev.ixW_tup, Ev.ixW_lst, Ev.bltW_abs, Ev.bltW_int, Ev.bltW_gcd, Ev.bltW_lenT, Ev.bltW_lenL, Ev.bltW_scr, Ev.bltW_listL, Ev.bltW_listT, Ev.bltW_tupL, Ev.bltW_tupT, List.replicate, List.append_nil, List.cons_append, List.nil_append, List.getElem?_cons_zero, List.getElem?_cons_succ, List.length_cons, List.length_nil, List.set_cons_zero, List.set_cons_succ, Ev.argsOf, Ev.argOf_val, Ev.argOf_at, Ev.bors, Ev.backs_val, Ev.backs_bor, Ev.backs_nil, Ev.loses, Ev.retW_val, Ev.retW_tmp, Ev.parOf, Ev.outsOf, List.replicate_zero, Nat.sub_self, Ev.isOwnL, List.getElem?_nil, reduceCtorEq, decide_eq_true_eq, Ev.cmpOk_int, Ev.cmpOk_bl, Ev.cmpOk_non, Ev.cmpOk_nil, Ev.cmpOk_nilT, Ev.peq_int, Ev.peq_bl, Ev.peq_str, Ev.peq_non, Ev.peq_nil, Ev.peq_nilT, Ev.peq_consL, Ev.isT_non_int, Ev.isT_non_bool, Ev.isT_non_str, Ev.isT_non_tuple, Ev.isT_non_list, Ev.tyOk_non, Ev.isT_bl_int, Ev.isT_bl_bool, Ev.isT_bl_str, Ev.isT_bl_tuple, Ev.isT_bl_list, Ev.tyOk_bl, Ev.isT_int_int, Ev.isT_int_bool, Ev.isT_int_str, Ev.isT_int_tuple, Ev.isT_int_list, Ev.tyOk_int, Ev.isT_str_int, Ev.isT_str_bool, Ev.isT_str_str, Ev.isT_str_tuple, Ev.isT_str_list, Ev.tyOk_str, Ev.isT_tup_int, Ev.isT_tup_bool, Ev.isT_tup_str, Ev.isT_tup_tuple, Ev.isT_tup_list, Ev.tyOk_tup, Ev.isT_lst_int, Ev.isT_lst_bool, Ev.isT_lst_str, Ev.isT_lst_tuple, Ev.isT_lst_list, Ev.tyOk_lst, List.not_mem_nil, not_false_eq_true, List.nodup_cons, Bool.false_eq_true, ↓reduceIte, List.nodup_nil, true_and, and_true])
      exact hk
end K
namespace K
open PySem PySem.Spec PyProof.Rows L2 Ev
theorem loopC_acc {step : PV → SE → (SE → Option PV → Prop) → Prop} {ρ0 : SE} {Q : SE → List PV → Prop} (f : PV → PV) : ∀ (ys acc : List PV), (∀ y ∈ ys, ∀ R : SE → Option PV → Prop, R ρ0 (some (f y)) → step y ρ0 R) → acc.length + ys.length ≤ sizeLine → Q ρ0 (acc ++ ys.map f) → loopC step ys ρ0 acc Q
  | [], acc, _, _, hq => by unfold loopC; simpa using hq
  | y :: ys, acc, h, hl, hq => by
    unfold loopC
    refine h y List.mem_cons_self _ ⟨?_, ?_⟩
    · simp only [List.length_cons] at hl
      omega
    · refine loopC_acc f ys (acc ++ [f y]) (fun z hz => h z (List.mem_cons_of_mem _ hz)) ?_ ?_
      · simp only [List.length_append, List.length_cons, List.length_nil] at hl ⊢
        omega
      · rw [List.append_assoc]
        exact hq
theorem loopC_map {step : PV → SE → (SE → Option PV → Prop) → Prop} {ρ0 : SE} {Q : SE → List PV → Prop} (f : PV → PV) {ys : List PV} (h : ∀ y ∈ ys, ∀ R : SE → Option PV → Prop, R ρ0 (some (f y)) → step y ρ0 R) (hl : ys.length ≤ sizeLine) (hq : Q ρ0 (ys.map f)) : loopC step ys ρ0 [] Q :=
  loopC_acc f ys [] h (by simpa using hl) (by simpa using hq)
def odds : List PV := [.tup [.int 1, .int 2], .tup [.int 0, .int 1], .tup [.int GR, .int 1], .tup [.int 1, .int GR], .tup [.int (GR + 1), .int 1], .tup [.int (-GR - 1), .int 1], .tup [.int 1, .int (GR + 1)], .tup [.int 2, .int 4], .tup [.int 0, .int 2], .tup [.int 1, .int 0], .tup [.int 1, .int (-2)], .lst [.int 1, .int 2],
  .tup [.int 1], .tup [.int 1, .int 2, .int 3], .tup [.bl true, .int 2], .tup [.int 1, .bl true], .non, .int 1, .str "1/2", .tup [.tup [.int 1], .int 2]]
theorem odds_ok : ∀ x ∈ odds, quoOk x := by
  unfold odds
  simp only [List.mem_cons, List.not_mem_nil, or_false, forall_eq_or_imp, forall_eq]
  refine ⟨?_, ?_, ?_, ?_, ?_, ?_, ?_, ?_, ?_, ?_, ?_, ?_, ?_, ?_, ?_, ?_, ?_, ?_, ?_, ?_⟩ <;> exact ⟨rfl, fun y z e => by cases e <;> exact ⟨rfl, rfl⟩⟩
theorem odds_bad : ∀ x ∈ odds.drop 4, isQuoP x = false := by
  unfold odds
  simp only [List.drop_succ_cons, List.drop_zero, List.mem_cons, List.not_mem_nil, or_false, forall_eq_or_imp, forall_eq]
  refine ⟨?_, ?_, ?_, ?_, ?_, ?_, ?_, ?_, ?_, ?_, ?_, ?_, ?_, ?_, ?_, ?_⟩ <;> decide +kernel
theorem odds_map : odds.map (fun x => PV.bl (isQuoP x)) = [.bl true, .bl true, .bl true, .bl true] ++ [.bl false, .bl false, .bl false, .bl false, .bl false, .bl false, .bl false, .bl false, .bl false, .bl false, .bl false, .bl false, .bl false, .bl false, .bl false, .bl false] := by kernel_rfl
theorem odds_cut : cutP odds (some 4) none = odds.drop 4 := by kernel_rfl
theorem slW_l {xs : List PV} {lo hi : Option Int} {Q : RV → Prop} : slW (.lst xs) lo hi Q = Q (.tmp (.lst (cutP xs lo hi))) := rfl
theorem t1 : plainP 6 (-4) = .tup [.int (-3), .int 2] := by kernel_rfl
theorem t2 : plainP 0 (-GR) = .tup [.int 0, .int 1] := by kernel_rfl
theorem t3 : plainP GR GR = .tup [.int 1, .int 1] := by kernel_rfl
theorem t4 : plainP (1 * 3 + 1 * 2) (2 * 3) = .tup [.int 5, .int 6] := by kernel_rfl
theorem t5 : plainP (1 * 1) (2 * -3) = .tup [.int (-1), .int 6] := by kernel_rfl
theorem t6 : plainP (GR * GR) (1 * 1) = .tup [.int (GR * GR), .int 1] := by kernel_rfl
theorem t7 : plainP (2 * -3) (3 * 4) = .tup [.int (-1), .int 2] := by kernel_rfl
/-- what stands behind the names -/
structure Law (Φ : Tbl) (gf : GF) : Prop where
  cup : Φ.fn "_law_cup" = some S__law_cup
  some_ : Φ.fn "_law_some" = some S__law_some
  quo : Φ.fn "_law_quotient" = some S__law_quotient
  pair : Φ.fn "_law_pair_right" = some S__law_pair_right
  like : Φ.fn "_law_like" = some (S_like 3)
  q : Φ.fn "quotient" = some S_quotient
  sum : Φ.fn "quotient_sum" = some S_quotient_sum
  prod : Φ.fn "quotient_product" = some S_quotient_product
  by_ : Φ.fn "quotient_by" = some S_quotient_by
  gr : Φ.fn "is_greater" = some S_is_greater
  is : Φ.fn "is_quotient" = some S_is_quotient
  lam : Φ.lam "_law_error" = some gf
  eq : gf (some "InvalidQuotient") = some (.str "quotient")
  en : gf (some "InvalidNumber") = some (.str "number")
  c1 : Φ.con "quotient_sum" = some (.fn "quotient_sum")
  c2 : Φ.con "quotient_product" = some (.fn "quotient_product")
  c3 : Φ.con "quotient_by" = some (.fn "quotient_by")
  c4 : Φ.con "is_greater" = some (.fn "is_greater")
theorem quot_ok {t b : Int} {Kp : Bool → PV → List Ev.Slot → Prop} {Xk : Str → Prop} (ht : isWholeP (.int t) (-GR) GR = true) (hb : isWholeP (.int b) (-GR) GR = true) (h0 : b ≠ 0) (h : Kp false (plainP t b) [.val (.int t), .val (.int b)]) : S_quotient [.val (.int t), .val (.int b)] Kp Xk := by
  refine ⟨_, _, rfl, rfl, rfl, fun z => ?_, fun _ z => ?_, fun t' b' e1 e2 _ _ => ⟨fun z => ?_, fun _ => ?_⟩⟩
  · rw [ht] at z; cases z
  · rw [hb] at z; cases z
  · cases e2; exact absurd z h0
  · cases e1; cases e2; exact h
def words (n m : Nat) : List PV := List.replicate n (.str "quotient") ++ List.replicate m (.str "number")
theorem words_q {n : Nat} : words n 0 ++ [.str "quotient"] = words (n + 1) 0 := by simp [words, List.replicate_succ']
theorem words_n {n m : Nat} : words n m ++ [.str "number"] = words n (m + 1) := by simp [words, List.replicate_succ']
theorem words_len {n m : Nat} : (words n m).length = n + m := by simp [words]
theorem bad_q {p q : PV} (tp : tyOk p = true) (tq : tyOk q = true) (h : isWholeP p (-GR) GR = false ∨ isWholeP q (-GR) GR = false ∨ q = .int 0) {K1 : Bool → PV → List Ev.Slot → Prop} {X1 : Str → Prop} (hx : X1 "InvalidNumber") : S_quotient [.val p, .val q] K1 X1 :=
  ⟨p, q, rfl, tp, tq, fun _ => hx, fun _ _ => hx, fun t b e1 e2 h1 h2 => by
    subst e1 e2
    rcases h with z | z | z
    · rw [h1] at z; cases z
    · rw [h2] at z; cases z
    · cases z
      exact ⟨fun _ => hx, fun y => absurd rfl y⟩⟩
theorem law_tail3 {Φ : Tbl} {gf : GF} (L : Law Φ gf) {ns : List Int} {Kp : Bool → PV → List Ev.Slot → Prop} {Xk : Str → Prop} {z1 z2 z3 z4 z6 z7 z8 z9 s10 z11 : Ev.Slot} (hs : Hold (.lst (words 8 0)) s10) (hk : Kp false (.bl true) [.val (.scr ns)]) :
    wS Φ (parOf [Slot.val (PV.scr ns)]) B_law_12 (fun _ c => Xk c) [.val (.scr ns), z1, z2, z3, z4, .val (.int GR), z6, z7, z8, z9, s10, z11, .un] { nx := fun ρ => Kp false .non (outsOf [Slot.val (PV.scr ns)] ρ), rt := fun ρ r => retW [Slot.val (PV.scr ns)] Kp ρ r } := by
  unfold B_law_12
  (simp (config := { maxSteps := 100000000 }) only [Ev.wS, Ev.wE.eq_1, Ev.wE.eq_2, Ev.wE.eq_3, Ev.wE.eq_4, Ev.wE.eq_6, Ev.wE.eq_7, Ev.wE.eq_8, Ev.wE.eq_9, Ev.wE.eq_10, Ev.wE.eq_11, Ev.wE.eq_12, Ev.wE.eq_13, Ev.wE.eq_14, Ev.wE.eq_15, Ev.wE.eq_16, Ev.wE.eq_17, Ev.wE.eq_18, Ev.wE.eq_19, Ev.wE.eq_20, Ev.wE.eq_21, Ev.wE.eq_22, Ev.wE.eq_23, Ev.wE.eq_24, Ev.wE.eq_25, Ev.wE.eq_26, Ev.wE.eq_27, Ev.wE_var, Ev.optK_some, Ev.selR_val, Ev.selR_own, Ev.rdS_val, Ev.rdS_own, Ev.fzS_val, Ev.fzS_own, Ev.argS_val, Ev.argS_own, Ev.wT, Ev.wAs, Ev.wEs, Ev.wI, Ev.wO, Ev.wG_nam, Ev.wG_tup, Ev.wGs_nil, Ev.wGs_cons, Ev.Tg.n, Ev.wipeE, Ev.restE, List.getD_cons_zero, List.getD_cons_succ, Ev.same2, Ev.items, Ev.rdK_val, Ev.rdK_tmp, Ev.rdK_at, Ev.rdsK, Ev.fzK_val, Ev.fzK_tmp, Ev.fzK_at, Ev.stW_val, Ev.stW_tmp, Ev.stW_bor, Ev.nbW_val, Ev.nbW_tmp, Ev.nbW_bor, Ev.binW_add, Ev.binW_sub, Ev.binW_mul, Ev.binW_div, Ev.binW_mod, Ev.binW_pow, Ev.binW_lst, Ev.binW_tup, Ev.binW_str, Ev.binW_rep, Ev.cmpW_lt, Ev.cmpW_le, Ev.cmpW_gt, Ev.cmpW_ge, Ev.cmpW_eq, Ev.cmpW_ne, Ev.cmpW_is, Ev.cmpW_isN, Ev.cmpW_inT, Ev.cmpW_inL, Ev.cmpW_niT, Ev.cmpW_niL, Ev.ixW_tup, Ev.ixW_lst, Ev.bltW_abs, Ev.bltW_int, Ev.bltW_gcd, Ev.bltW_lenT, Ev.bltW_lenL, Ev.bltW_scr, Ev.bltW_listL, Ev.bltW_listT, Ev.bltW_tupL, Ev.bltW_tupT, List.replicate, List.append_nil, List.cons_append, List.nil_append, List.getElem?_cons_zero, List.getElem?_cons_succ, List.length_cons, List.length_nil, List.set_cons_zero, List.set_cons_succ, Ev.argsOf, Ev.argOf_val, Ev.argOf_at, Ev.bors, Ev.backs_val, Ev.backs_bor, Ev.backs_nil, Ev.loses, Ev.retW_val, Ev.retW_tmp, Ev.parOf, Ev.outsOf, List.replicate_zero, Nat.sub_self, Ev.isOwnL, List.getElem?_nil, reduceCtorEq, decide_eq_true_eq, Ev.cmpOk_int, Ev.cmpOk_bl, Ev.cmpOk_non, Ev.cmpOk_nil, Ev.cmpOk_nilT, Ev.peq_int, Ev.peq_bl, Ev.peq_str, Ev.peq_non, Ev.peq_nil, Ev.peq_nilT, Ev.peq_consL, Ev.isT_non_int, Ev.isT_non_bool, Ev.isT_non_str, Ev.isT_non_tuple, Ev.isT_non_list, Ev.tyOk_non, Ev.isT_bl_int, Ev.isT_bl_bool, Ev.isT_bl_str, Ev.isT_bl_tuple, Ev.isT_bl_list, Ev.tyOk_bl, Ev.isT_int_int, Ev.isT_int_bool, Ev.isT_int_str, Ev.isT_int_tuple, Ev.isT_int_list, Ev.tyOk_int, Ev.isT_str_int, Ev.isT_str_bool, Ev.isT_str_str, Ev.isT_str_tuple, Ev.isT_str_list, Ev.tyOk_str, Ev.isT_tup_int, Ev.isT_tup_bool, Ev.isT_tup_str, Ev.isT_tup_tuple, Ev.isT_tup_list, Ev.tyOk_tup, Ev.isT_lst_int, Ev.isT_lst_bool, Ev.isT_lst_str, Ev.isT_lst_tuple, Ev.isT_lst_list, Ev.tyOk_lst, List.not_mem_nil, not_false_eq_true, List.nodup_cons, Bool.false_eq_true, ↓reduceIte, List.nodup_nil, true_and, and_true])
  (repeat (refine ⟨by decide, ?_⟩))
  refine loopF_inv (fun n ρ => ∃ s10 s12, ρ = [.val (.scr ns), z1, z2, z3, z4, .val (.int GR), z6, z7, z8, z9, s10, z11, s12] ∧ Hold (.lst (words 8 n)) s10 ∧ n ≤ 6) _ 0 _ ⟨_, _, rfl, hs, by omega⟩ (fun i y ρ hy hi D' k1 _ _ _ => ?_) fun ρ h => ?_
  · obtain ⟨s10, s12, rfl, hs, hi4⟩ := hi
    rw [Nat.zero_add] at hs hi4 k1
    obtain ⟨hi3, p, q, rfl, hE⟩ : i < 6 ∧ ∃ p q, y = .tup [p, q] ∧ ∀ (K1 : Bool → PV → List Ev.Slot → Prop) (X1 : Str → Prop), X1 "InvalidNumber" → S_quotient [.val p, .val q] K1 X1 := by
      match i, hy with
      | 0, hy => cases hy; exact ⟨by omega, _, _, rfl, fun K1 X1 => bad_q rfl rfl (.inl (by decide +kernel))⟩
      | 1, hy => cases hy; exact ⟨by omega, _, _, rfl, fun K1 X1 => bad_q rfl rfl (.inr (.inl (by decide +kernel)))⟩
      | 2, hy => cases hy; exact ⟨by omega, _, _, rfl, fun K1 X1 => bad_q rfl rfl (.inr (.inr rfl))⟩
      | 3, hy => cases hy; exact ⟨by omega, _, _, rfl, fun K1 X1 => bad_q rfl rfl (.inl rfl)⟩
      | 4, hy => cases hy; exact ⟨by omega, _, _, rfl, fun K1 X1 => bad_q rfl rfl (.inr (.inl rfl))⟩
      | 5, hy => cases hy; exact ⟨by omega, _, _, rfl, fun K1 X1 => bad_q rfl rfl (.inl rfl)⟩
      | n + 6, hy => simp at hy
    have sz : (words 8 i).length + 1 ≤ sizeLine := by
      rw [words_len]
      have : 100 ≤ sizeLine := by decide
      omega
    rcases hs with rfl | ⟨rfl, _⟩
    · (simp (config := { maxSteps := 100000000 }) only [Ev.wS, Ev.wE.eq_1, Ev.wE.eq_2, Ev.wE.eq_3, Ev.wE.eq_4, Ev.wE.eq_6, Ev.wE.eq_7, Ev.wE.eq_8, Ev.wE.eq_9, Ev.wE.eq_10, Ev.wE.eq_11, Ev.wE.eq_12, Ev.wE.eq_13, Ev.wE.eq_14, Ev.wE.eq_15, Ev.wE.eq_16, Ev.wE.eq_17, Ev.wE.eq_18, Ev.wE.eq_19, Ev.wE.eq_20, Ev.wE.eq_21, Ev.wE.eq_22, Ev.wE.eq_23, Ev.wE.eq_24, Ev.wE.eq_25, Ev.wE.eq_26, Ev.wE.eq_27, Ev.wE_var, Ev.optK_some, Ev.selR_val, Ev.selR_own, Ev.rdS_val, Ev.rdS_own, Ev.fzS_val, Ev.fzS_own, Ev.argS_val, Ev.argS_own, Ev.wT, Ev.wAs, Ev.wEs, Ev.wI, Ev.wO, Ev.wG_nam, Ev.wG_tup, Ev.wGs_nil, Ev.wGs_cons, Ev.Tg.n, Ev.wipeE, Ev.restE, List.getD_cons_zero, List.getD_cons_succ, Ev.same2, Ev.items, Ev.rdK_val, Ev.rdK_tmp, Ev.rdK_at, Ev.rdsK, Ev.fzK_val, Ev.fzK_tmp, Ev.fzK_at, Ev.stW_val, Ev.stW_tmp, Ev.stW_bor, Ev.nbW_val, Ev.nbW_tmp, Ev.nbW_bor, Ev.binW_add, Ev.binW_sub, Ev.binW_mul, Ev.binW_div, Ev.binW_mod, Ev.binW_pow, Ev.binW_lst, Ev.binW_tup, Ev.binW_str, Ev.binW_rep, Ev.cmpW_lt, Ev.cmpW_le, Ev.cmpW_gt, Ev.cmpW_ge, Ev.cmpW_eq, Ev.cmpW_ne, Ev.cmpW_is, Ev.cmpW_isN, Ev.cmpW_inT, Ev.cmpW_inL, Ev.cmpW_niT, Ev.cmpW_niL, Ev.ixW_tup, Ev.ixW_lst, Ev.bltW_abs, Ev.bltW_int, Ev.bltW_gcd, Ev.bltW_lenT, Ev.bltW_lenL, Ev.bltW_scr, Ev.bltW_listL, Ev.bltW_listT, Ev.bltW_tupL, Ev.bltW_tupT, List.replicate, List.append_nil, List.cons_append, List.nil_append, List.getElem?_cons_zero, List.getElem?_cons_succ, List.length_cons, List.length_nil, List.set_cons_zero, List.set_cons_succ, Ev.argsOf, Ev.argOf_val, Ev.argOf_at, Ev.bors, Ev.backs_val, Ev.backs_bor, Ev.backs_nil, Ev.loses, Ev.retW_val, Ev.retW_tmp, Ev.parOf, Ev.outsOf, List.replicate_zero, Nat.sub_self, Ev.isOwnL, List.getElem?_nil, reduceCtorEq, decide_eq_true_eq, Ev.cmpOk_int, Ev.cmpOk_bl, Ev.cmpOk_non, Ev.cmpOk_nil, Ev.cmpOk_nilT, Ev.peq_int, Ev.peq_bl, Ev.peq_str, Ev.peq_non, Ev.peq_nil, Ev.peq_nilT, Ev.peq_consL, Ev.isT_non_int, Ev.isT_non_bool, Ev.isT_non_str, Ev.isT_non_tuple, Ev.isT_non_list, Ev.tyOk_non, Ev.isT_bl_int, Ev.isT_bl_bool, Ev.isT_bl_str, Ev.isT_bl_tuple, Ev.isT_bl_list, Ev.tyOk_bl, Ev.isT_int_int, Ev.isT_int_bool, Ev.isT_int_str, Ev.isT_int_tuple, Ev.isT_int_list, Ev.tyOk_int, Ev.isT_str_int, Ev.isT_str_bool, Ev.isT_str_str, Ev.isT_str_tuple, Ev.isT_str_list, Ev.tyOk_str, Ev.isT_tup_int, Ev.isT_tup_bool, Ev.isT_tup_str, Ev.isT_tup_tuple, Ev.isT_tup_list, Ev.tyOk_tup, Ev.isT_lst_int, Ev.isT_lst_bool, Ev.isT_lst_str, Ev.isT_lst_tuple, Ev.isT_lst_list, Ev.tyOk_lst, List.not_mem_nil, not_false_eq_true, List.nodup_cons, Bool.false_eq_true, ↓reduceIte, List.nodup_nil, true_and, and_true])
      simp only [L.lam, L.q]
      (repeat (first | (simp (config := { maxSteps := 100000000 }) only [Ev.wS, Ev.wE.eq_1, Ev.wE.eq_2, Ev.wE.eq_3, Ev.wE.eq_4, Ev.wE.eq_6, Ev.wE.eq_7, Ev.wE.eq_8, Ev.wE.eq_9, Ev.wE.eq_10, Ev.wE.eq_11, Ev.wE.eq_12, Ev.wE.eq_13, Ev.wE.eq_14, Ev.wE.eq_15, Ev.wE.eq_16, Ev.wE.eq_17, Ev.wE.eq_18, Ev.wE.eq_19, Ev.wE.eq_20, Ev.wE.eq_21, Ev.wE.eq_22, Ev.wE.eq_23, Ev.wE.eq_24, Ev.wE.eq_25, Ev.wE.eq_26, Ev.wE.eq_27, Ev.wE_var, Ev.optK_some, Ev.selR_val, Ev.selR_own, Ev.rdS_val, Ev.rdS_own, Ev.fzS_val, Ev.fzS_own, Ev.argS_val, Ev.argS_own, Ev.wT, Ev.wAs, Ev.wEs, Ev.wI, Ev.wO, Ev.wG_nam, Ev.wG_tup, Ev.wGs_nil, Ev.wGs_cons, Ev.Tg.n, Ev.wipeE, Ev.restE, List.getD_cons_zero, List.getD_cons_succ, Ev.same2, Ev.items, Ev.rdK_val, Ev.rdK_tmp, Ev.rdK_at, Ev.rdsK, Ev.fzK_val, Ev.fzK_tmp, Ev.fzK_at, Ev.stW_val, Ev.stW_tmp, Ev.stW_bor, Ev.nbW_val, Ev.nbW_tmp, Ev.nbW_bor, Ev.binW_add, Ev.binW_sub, Ev.binW_mul, Ev.binW_div, Ev.binW_mod, Ev.binW_pow, Ev.binW_lst, Ev.binW_tup, Ev.binW_str, Ev.binW_rep, Ev.cmpW_lt, Ev.cmpW_le, Ev.cmpW_gt, Ev.cmpW_ge, Ev.cmpW_eq, Ev.cmpW_ne, Ev.cmpW_is, Ev.cmpW_isN, Ev.cmpW_inT, Ev.cmpW_inL, Ev.cmpW_niT, Ev.cmpW_niL, Ev.ixW_tup, Ev.ixW_lst, Ev.bltW_abs, Ev.bltW_int, Ev.bltW_gcd, Ev.bltW_lenT, Ev.bltW_lenL, Ev.bltW_scr, Ev.bltW_listL, Ev.bltW_listT, Ev.bltW_tupL, Ev.bltW_tupT, List.replicate, List.append_nil, List.cons_append, List.nil_append, List.getElem?_cons_zero, List.getElem?_cons_succ, List.length_cons, List.length_nil, List.set_cons_zero, List.set_cons_succ, Ev.argsOf, Ev.argOf_val, Ev.argOf_at, Ev.bors, Ev.backs_val, Ev.backs_bor, Ev.backs_nil, Ev.loses, Ev.retW_val, Ev.retW_tmp, Ev.parOf, Ev.outsOf, List.replicate_zero, Nat.sub_self, Ev.isOwnL, List.getElem?_nil, reduceCtorEq, decide_eq_true_eq, Ev.cmpOk_int, Ev.cmpOk_bl, Ev.cmpOk_non, Ev.cmpOk_nil, Ev.cmpOk_nilT, Ev.peq_int, Ev.peq_bl, Ev.peq_str, Ev.peq_non, Ev.peq_nil, Ev.peq_nilT, Ev.peq_consL, Ev.isT_non_int, Ev.isT_non_bool, Ev.isT_non_str, Ev.isT_non_tuple, Ev.isT_non_list, Ev.tyOk_non, Ev.isT_bl_int, Ev.isT_bl_bool, Ev.isT_bl_str, Ev.isT_bl_tuple, Ev.isT_bl_list, Ev.tyOk_bl, Ev.isT_int_int, Ev.isT_int_bool, Ev.isT_int_str, Ev.isT_int_tuple, Ev.isT_int_list, Ev.tyOk_int, Ev.isT_str_int, Ev.isT_str_bool, Ev.isT_str_str, Ev.isT_str_tuple, Ev.isT_str_list, Ev.tyOk_str, Ev.isT_tup_int, Ev.isT_tup_bool, Ev.isT_tup_str, Ev.isT_tup_tuple, Ev.isT_tup_list, Ev.tyOk_tup, Ev.isT_lst_int, Ev.isT_lst_bool, Ev.isT_lst_str, Ev.isT_lst_tuple, Ev.isT_lst_list, Ev.tyOk_lst, List.not_mem_nil, not_false_eq_true, List.nodup_cons, Bool.false_eq_true, ↓reduceIte, List.nodup_nil, true_and, and_true]) | (simp only [atI0, atI1, ex_some, ixo, ixi])))
      refine hE _ _ ?_
      simp only [L.en]
      rw [words_n]
      exact ⟨by decide, sz, k1 _ ⟨_, _, rfl, .inr ⟨rfl, _, rfl⟩, by omega⟩⟩
    · (simp (config := { maxSteps := 100000000 }) only [Ev.wS, Ev.wE.eq_1, Ev.wE.eq_2, Ev.wE.eq_3, Ev.wE.eq_4, Ev.wE.eq_6, Ev.wE.eq_7, Ev.wE.eq_8, Ev.wE.eq_9, Ev.wE.eq_10, Ev.wE.eq_11, Ev.wE.eq_12, Ev.wE.eq_13, Ev.wE.eq_14, Ev.wE.eq_15, Ev.wE.eq_16, Ev.wE.eq_17, Ev.wE.eq_18, Ev.wE.eq_19, Ev.wE.eq_20, Ev.wE.eq_21, Ev.wE.eq_22, Ev.wE.eq_23, Ev.wE.eq_24, Ev.wE.eq_25, Ev.wE.eq_26, Ev.wE.eq_27, Ev.wE_var, Ev.optK_some, Ev.selR_val, Ev.selR_own, Ev.rdS_val, Ev.rdS_own, Ev.fzS_val, Ev.fzS_own, Ev.argS_val, Ev.argS_own, Ev.wT, Ev.wAs, Ev.wEs, Ev.wI, Ev.wO, Ev.wG_nam, Ev.wG_tup, Ev.wGs_nil, Ev.wGs_cons, Ev.Tg.n, Ev.wipeE, Ev.restE, List.getD_cons_zero, List.getD_cons_succ, Ev.same2, Ev.items, Ev.rdK_val, Ev.rdK_tmp, Ev.rdK_at, Ev.rdsK, Ev.fzK_val, Ev.fzK_tmp, Ev.fzK_at, Ev.stW_val, Ev.stW_tmp, Ev.stW_bor, Ev.nbW_val, Ev.nbW_tmp, Ev.nbW_bor, Ev.binW_add, Ev.binW_sub, Ev.binW_mul, Ev.binW_div, Ev.binW_mod, Ev.binW_pow, Ev.binW_lst, Ev.binW_tup, Ev.binW_str, Ev.binW_rep, Ev.cmpW_lt, Ev.cmpW_le, Ev.cmpW_gt, Ev.cmpW_ge, Ev.cmpW_eq, Ev.cmpW_ne, Ev.cmpW_is, Ev.cmpW_isN, Ev.cmpW_inT, Ev.cmpW_inL, Ev.cmpW_niT, Ev.cmpW_niL, Ev.ixW_tup, Ev.ixW_lst, Ev.bltW_abs, Ev.bltW_int, Ev.bltW_gcd, Ev.bltW_lenT, Ev.bltW_lenL, Ev.bltW_scr, Ev.bltW_listL, Ev.bltW_listT, Ev.bltW_tupL, Ev.bltW_tupT, List.replicate, List.append_nil, List.cons_append, List.nil_append, List.getElem?_cons_zero, List.getElem?_cons_succ, List.length_cons, List.length_nil, List.set_cons_zero, List.set_cons_succ, Ev.argsOf, Ev.argOf_val, Ev.argOf_at, Ev.bors, Ev.backs_val, Ev.backs_bor, Ev.backs_nil, Ev.loses, Ev.retW_val, Ev.retW_tmp, Ev.parOf, Ev.outsOf, List.replicate_zero, Nat.sub_self, Ev.isOwnL, List.getElem?_nil, reduceCtorEq, decide_eq_true_eq, Ev.cmpOk_int, Ev.cmpOk_bl, Ev.cmpOk_non, Ev.cmpOk_nil, Ev.cmpOk_nilT, Ev.peq_int, Ev.peq_bl, Ev.peq_str, Ev.peq_non, Ev.peq_nil, Ev.peq_nilT, Ev.peq_consL, Ev.isT_non_int, Ev.isT_non_bool, Ev.isT_non_str, Ev.isT_non_tuple, Ev.isT_non_list, Ev.tyOk_non, Ev.isT_bl_int, Ev.isT_bl_bool, Ev.isT_bl_str, Ev.isT_bl_tuple, Ev.isT_bl_list, Ev.tyOk_bl, Ev.isT_int_int, Ev.isT_int_bool, Ev.isT_int_str, Ev.isT_int_tuple, Ev.isT_int_list, Ev.tyOk_int, Ev.isT_str_int, Ev.isT_str_bool, Ev.isT_str_str, Ev.isT_str_tuple, Ev.isT_str_list, Ev.tyOk_str, Ev.isT_tup_int, Ev.isT_tup_bool, Ev.isT_tup_str, Ev.isT_tup_tuple, Ev.isT_tup_list, Ev.tyOk_tup, Ev.isT_lst_int, Ev.isT_lst_bool, Ev.isT_lst_str, Ev.isT_lst_tuple, Ev.isT_lst_list, Ev.tyOk_lst, List.not_mem_nil, not_false_eq_true, List.nodup_cons, Bool.false_eq_true, ↓reduceIte, List.nodup_nil, true_and, and_true])
      simp only [L.lam, L.q]
      (repeat (first | (simp (config := { maxSteps := 100000000 }) only [Ev.wS, Ev.wE.eq_1, Ev.wE.eq_2, Ev.wE.eq_3, Ev.wE.eq_4, Ev.wE.eq_6, Ev.wE.eq_7, Ev.wE.eq_8, Ev.wE.eq_9, Ev.wE.eq_10, Ev.wE.eq_11, Ev.wE.eq_12, Ev.wE.eq_13, Ev.wE.eq_14, Ev.wE.eq_15, Ev.wE.eq_16, Ev.wE.eq_17, Ev.wE.eq_18, Ev.wE.eq_19, Ev.wE.eq_20, Ev.wE.eq_21, Ev.wE.eq_22, Ev.wE.eq_23, Ev.wE.eq_24, Ev.wE.eq_25, Ev.wE.eq_26, Ev.wE.eq_27, Ev.wE_var, Ev.optK_some, Ev.selR_val, Ev.selR_own, Ev.rdS_val, Ev.rdS_own, Ev.fzS_val, Ev.fzS_own, Ev.argS_val, Ev.argS_own, Ev.wT, Ev.wAs, Ev.wEs, Ev.wI, Ev.wO, Ev.wG_nam, Ev.wG_tup, Ev.wGs_nil, Ev.wGs_cons, Ev.Tg.n, Ev.wipeE, Ev.restE, List.getD_cons_zero, List.getD_cons_succ, Ev.same2, Ev.items, Ev.rdK_val, Ev.rdK_tmp, Ev.rdK_at, Ev.rdsK, Ev.fzK_val, Ev.fzK_tmp, Ev.fzK_at, Ev.stW_val, Ev.stW_tmp, Ev.stW_bor, Ev.nbW_val, Ev.nbW_tmp, Ev.nbW_bor, Ev.binW_add, Ev.binW_sub, Ev.binW_mul, Ev.binW_div, Ev.binW_mod, Ev.binW_pow, Ev.binW_lst, Ev.binW_tup, Ev.binW_str, Ev.binW_rep, Ev.cmpW_lt, Ev.cmpW_le, Ev.cmpW_gt, Ev.cmpW_ge, Ev.cmpW_eq, Ev.cmpW_ne, Ev.cmpW_is, Ev.cmpW_isN, Ev.cmpW_inT, Ev.cmpW_inL, Ev.cmpW_niT, Ev.cmpW_niL, Ev.ixW_tup, Ev.ixW_lst, Ev.bltW_abs, Ev.bltW_int, Ev.bltW_gcd, Ev.bltW_lenT, Ev.bltW_lenL, Ev.bltW_scr, Ev.bltW_listL, Ev.bltW_listT, Ev.bltW_tupL, Ev.bltW_tupT, List.replicate, List.append_nil, List.cons_append, List.nil_append, List.getElem?_cons_zero, List.getElem?_cons_succ, List.length_cons, List.length_nil, List.set_cons_zero, List.set_cons_succ, Ev.argsOf, Ev.argOf_val, Ev.argOf_at, Ev.bors, Ev.backs_val, Ev.backs_bor, Ev.backs_nil, Ev.loses, Ev.retW_val, Ev.retW_tmp, Ev.parOf, Ev.outsOf, List.replicate_zero, Nat.sub_self, Ev.isOwnL, List.getElem?_nil, reduceCtorEq, decide_eq_true_eq, Ev.cmpOk_int, Ev.cmpOk_bl, Ev.cmpOk_non, Ev.cmpOk_nil, Ev.cmpOk_nilT, Ev.peq_int, Ev.peq_bl, Ev.peq_str, Ev.peq_non, Ev.peq_nil, Ev.peq_nilT, Ev.peq_consL, Ev.isT_non_int, Ev.isT_non_bool, Ev.isT_non_str, Ev.isT_non_tuple, Ev.isT_non_list, Ev.tyOk_non, Ev.isT_bl_int, Ev.isT_bl_bool, Ev.isT_bl_str, Ev.isT_bl_tuple, Ev.isT_bl_list, Ev.tyOk_bl, Ev.isT_int_int, Ev.isT_int_bool, Ev.isT_int_str, Ev.isT_int_tuple, Ev.isT_int_list, Ev.tyOk_int, Ev.isT_str_int, Ev.isT_str_bool, Ev.isT_str_str, Ev.isT_str_tuple, Ev.isT_str_list, Ev.tyOk_str, Ev.isT_tup_int, Ev.isT_tup_bool, Ev.isT_tup_str, Ev.isT_tup_tuple, Ev.isT_tup_list, Ev.tyOk_tup, Ev.isT_lst_int, Ev.isT_lst_bool, Ev.isT_lst_str, Ev.isT_lst_tuple, Ev.isT_lst_list, Ev.tyOk_lst, List.not_mem_nil, not_false_eq_true, List.nodup_cons, Bool.false_eq_true, ↓reduceIte, List.nodup_nil, true_and, and_true]) | (simp only [atI0, atI1, ex_some, ixo, ixi])))
      refine hE _ _ ?_
      simp only [L.en]
      rw [words_n]
      exact ⟨by decide, sz, k1 _ ⟨_, _, rfl, .inr ⟨rfl, _, rfl⟩, by omega⟩⟩
  · obtain ⟨s10, s12, rfl, hs, _⟩ := h
    have hw : cmpOk (.lst (words 8 6)) ∧ peq (.lst (words 8 6)) (.lst (words 8 6)) = true := ⟨⟨rfl, by decide +kernel⟩, by decide +kernel⟩
    unfold B_law_13
    rcases hs with rfl | ⟨rfl, _⟩
    · (simp (config := { maxSteps := 100000000 }) only [Ev.wS, Ev.wE.eq_1, Ev.wE.eq_2, Ev.wE.eq_3, Ev.wE.eq_4, Ev.wE.eq_6, Ev.wE.eq_7, Ev.wE.eq_8, Ev.wE.eq_9, Ev.wE.eq_10, Ev.wE.eq_11, Ev.wE.eq_12, Ev.wE.eq_13, Ev.wE.eq_14, Ev.wE.eq_15, Ev.wE.eq_16, Ev.wE.eq_17, Ev.wE.eq_18, Ev.wE.eq_19, Ev.wE.eq_20, Ev.wE.eq_21, Ev.wE.eq_22, Ev.wE.eq_23, Ev.wE.eq_24, Ev.wE.eq_25, Ev.wE.eq_26, Ev.wE.eq_27, Ev.wE_var, Ev.optK_some, Ev.selR_val, Ev.selR_own, Ev.rdS_val, Ev.rdS_own, Ev.fzS_val, Ev.fzS_own, Ev.argS_val, Ev.argS_own, Ev.wT, Ev.wAs, Ev.wEs, Ev.wI, Ev.wO, Ev.wG_nam, Ev.wG_tup, Ev.wGs_nil, Ev.wGs_cons, Ev.Tg.n, Ev.wipeE, Ev.restE, List.getD_cons_zero, List.getD_cons_succ, Ev.same2, Ev.items, Ev.rdK_val, Ev.rdK_tmp, Ev.rdK_at, Ev.rdsK, Ev.fzK_val, Ev.fzK_tmp, Ev.fzK_at, Ev.stW_val, Ev.stW_tmp, Ev.stW_bor, Ev.nbW_val, Ev.nbW_tmp, Ev.nbW_bor, Ev.binW_add, Ev.binW_sub, Ev.binW_mul, Ev.binW_div, Ev.binW_mod, Ev.binW_pow, Ev.binW_lst, Ev.binW_tup, Ev.binW_str, Ev.binW_rep, Ev.cmpW_lt, Ev.cmpW_le, Ev.cmpW_gt, Ev.cmpW_ge, Ev.cmpW_eq, Ev.cmpW_ne, Ev.cmpW_is, Ev.cmpW_isN, Ev.cmpW_inT, Ev.cmpW_inL, Ev.cmpW_niT, Ev.cmpW_niL, Ev.ixW_tup, Ev.ixW_lst, Ev.bltW_abs, Ev.bltW_int, Ev.bltW_gcd, Ev.bltW_lenT, Ev.bltW_lenL, Ev.bltW_scr, Ev.bltW_listL, Ev.bltW_listT, Ev.bltW_tupL, Ev.bltW_tupT, List.replicate, List.append_nil, List.cons_append, List.nil_append, List.getElem?_cons_zero, List.getElem?_cons_succ, List.length_cons, List.length_nil, List.set_cons_zero, List.set_cons_succ, Ev.argsOf, Ev.argOf_val, Ev.argOf_at, Ev.bors, Ev.backs_val, Ev.backs_bor, Ev.backs_nil, Ev.loses, Ev.retW_val, Ev.retW_tmp, Ev.parOf, Ev.outsOf, List.replicate_zero, Nat.sub_self, Ev.isOwnL, List.getElem?_nil, reduceCtorEq, decide_eq_true_eq, Ev.cmpOk_int, Ev.cmpOk_bl, Ev.cmpOk_non, Ev.cmpOk_nil, Ev.cmpOk_nilT, Ev.peq_int, Ev.peq_bl, Ev.peq_str, Ev.peq_non, Ev.peq_nil, Ev.peq_nilT, Ev.peq_consL, Ev.isT_non_int, Ev.isT_non_bool, Ev.isT_non_str, Ev.isT_non_tuple, Ev.isT_non_list, Ev.tyOk_non, Ev.isT_bl_int, Ev.isT_bl_bool, Ev.isT_bl_str, Ev.isT_bl_tuple, Ev.isT_bl_list, Ev.tyOk_bl, Ev.isT_int_int, Ev.isT_int_bool, Ev.isT_int_str, Ev.isT_int_tuple, Ev.isT_int_list, Ev.tyOk_int, Ev.isT_str_int, Ev.isT_str_bool, Ev.isT_str_str, Ev.isT_str_tuple, Ev.isT_str_list, Ev.tyOk_str, Ev.isT_tup_int, Ev.isT_tup_bool, Ev.isT_tup_str, Ev.isT_tup_tuple, Ev.isT_tup_list, Ev.tyOk_tup, Ev.isT_lst_int, Ev.isT_lst_bool, Ev.isT_lst_str, Ev.isT_lst_tuple, Ev.isT_lst_list, Ev.tyOk_lst, List.not_mem_nil, not_false_eq_true, List.nodup_cons, Bool.false_eq_true, ↓reduceIte, List.nodup_nil, true_and, and_true])
      refine ⟨by decide, ⟨by decide, by decide, by decide⟩, by decide, ⟨by decide, by decide, by decide⟩, by decide, hw.1, hw.1, ?_⟩
      exact (congrArg (fun b => Kp false (.bl b) [Slot.val (PV.scr ns)]) hw.2).mpr hk
    · (simp (config := { maxSteps := 100000000 }) only [Ev.wS, Ev.wE.eq_1, Ev.wE.eq_2, Ev.wE.eq_3, Ev.wE.eq_4, Ev.wE.eq_6, Ev.wE.eq_7, Ev.wE.eq_8, Ev.wE.eq_9, Ev.wE.eq_10, Ev.wE.eq_11, Ev.wE.eq_12, Ev.wE.eq_13, Ev.wE.eq_14, Ev.wE.eq_15, Ev.wE.eq_16, Ev.wE.eq_17, Ev.wE.eq_18, Ev.wE.eq_19, Ev.wE.eq_20, Ev.wE.eq_21, Ev.wE.eq_22, Ev.wE.eq_23, Ev.wE.eq_24, Ev.wE.eq_25, Ev.wE.eq_26, Ev.wE.eq_27, Ev.wE_var, Ev.optK_some, Ev.selR_val, Ev.selR_own, Ev.rdS_val, Ev.rdS_own, Ev.fzS_val, Ev.fzS_own, Ev.argS_val, Ev.argS_own, Ev.wT, Ev.wAs, Ev.wEs, Ev.wI, Ev.wO, Ev.wG_nam, Ev.wG_tup, Ev.wGs_nil, Ev.wGs_cons, Ev.Tg.n, Ev.wipeE, Ev.restE, List.getD_cons_zero, List.getD_cons_succ, Ev.same2, Ev.items, Ev.rdK_val, Ev.rdK_tmp, Ev.rdK_at, Ev.rdsK, Ev.fzK_val, Ev.fzK_tmp, Ev.fzK_at, Ev.stW_val, Ev.stW_tmp, Ev.stW_bor, Ev.nbW_val, Ev.nbW_tmp, Ev.nbW_bor, Ev.binW_add, Ev.binW_sub, Ev.binW_mul, Ev.binW_div, Ev.binW_mod, Ev.binW_pow, Ev.binW_lst, Ev.binW_tup, Ev.binW_str, Ev.binW_rep, Ev.cmpW_lt, Ev.cmpW_le, Ev.cmpW_gt, Ev.cmpW_ge, Ev.cmpW_eq, Ev.cmpW_ne, Ev.cmpW_is, Ev.cmpW_isN, Ev.cmpW_inT, Ev.cmpW_inL, Ev.cmpW_niT, Ev.cmpW_niL, Ev.ixW_tup, Ev.ixW_lst, Ev.bltW_abs, Ev.bltW_int, Ev.bltW_gcd, Ev.bltW_lenT, Ev.bltW_lenL, Ev.bltW_scr, Ev.bltW_listL, Ev.bltW_listT, Ev.bltW_tupL, Ev.bltW_tupT, List.replicate, List.append_nil, List.cons_append, List.nil_append, List.getElem?_cons_zero, List.getElem?_cons_succ, List.length_cons, List.length_nil, List.set_cons_zero, List.set_cons_succ, Ev.argsOf, Ev.argOf_val, Ev.argOf_at, Ev.bors, Ev.backs_val, Ev.backs_bor, Ev.backs_nil, Ev.loses, Ev.retW_val, Ev.retW_tmp, Ev.parOf, Ev.outsOf, List.replicate_zero, Nat.sub_self, Ev.isOwnL, List.getElem?_nil, reduceCtorEq, decide_eq_true_eq, Ev.cmpOk_int, Ev.cmpOk_bl, Ev.cmpOk_non, Ev.cmpOk_nil, Ev.cmpOk_nilT, Ev.peq_int, Ev.peq_bl, Ev.peq_str, Ev.peq_non, Ev.peq_nil, Ev.peq_nilT, Ev.peq_consL, Ev.isT_non_int, Ev.isT_non_bool, Ev.isT_non_str, Ev.isT_non_tuple, Ev.isT_non_list, Ev.tyOk_non, Ev.isT_bl_int, Ev.isT_bl_bool, Ev.isT_bl_str, Ev.isT_bl_tuple, Ev.isT_bl_list, Ev.tyOk_bl, Ev.isT_int_int, Ev.isT_int_bool, Ev.isT_int_str, Ev.isT_int_tuple, Ev.isT_int_list, Ev.tyOk_int, Ev.isT_str_int, Ev.isT_str_bool, Ev.isT_str_str, Ev.isT_str_tuple, Ev.isT_str_list, Ev.tyOk_str, Ev.isT_tup_int, Ev.isT_tup_bool, Ev.isT_tup_str, Ev.isT_tup_tuple, Ev.isT_tup_list, Ev.tyOk_tup, Ev.isT_lst_int, Ev.isT_lst_bool, Ev.isT_lst_str, Ev.isT_lst_tuple, Ev.isT_lst_list, Ev.tyOk_lst, List.not_mem_nil, not_false_eq_true, List.nodup_cons, Bool.false_eq_true, ↓reduceIte, List.nodup_nil, true_and, and_true])
      refine ⟨by decide, ⟨by decide, by decide, by decide⟩, by decide, ⟨by decide, by decide, by decide⟩, by decide, hw.1, hw.1, ?_⟩
      exact (congrArg (fun b => Kp false (.bl b) [Slot.val (PV.scr ns)]) hw.2).mpr hk
theorem law_tail2 {Φ : Tbl} {gf : GF} (L : Law Φ gf) {ns : List Int} {Kp : Bool → PV → List Ev.Slot → Prop} {Xk : Str → Prop} {z1 z2 z3 z4 z6 z7 z8 : Ev.Slot} {bad : PV} (hq : quoOk bad) (hb : isQuoP bad = false) (hk : Kp false (.bl true) [.val (.scr ns)]) :
    wS Φ (parOf [Slot.val (PV.scr ns)]) B_law_11 (fun _ c => Xk c) [.val (.scr ns), z1, z2, z3, z4, .val (.int GR), z6, z7, z8, .val bad, .val (.lst []), .un, .un] { nx := fun ρ => Kp false .non (outsOf [Slot.val (PV.scr ns)] ρ), rt := fun ρ r => retW [Slot.val (PV.scr ns)] Kp ρ r } := by
  unfold B_law_11
  (simp (config := { maxSteps := 100000000 }) only [Ev.wS, Ev.wE.eq_1, Ev.wE.eq_2, Ev.wE.eq_3, Ev.wE.eq_4, Ev.wE.eq_6, Ev.wE.eq_7, Ev.wE.eq_8, Ev.wE.eq_9, Ev.wE.eq_10, Ev.wE.eq_11, Ev.wE.eq_12, Ev.wE.eq_13, Ev.wE.eq_14, Ev.wE.eq_15, Ev.wE.eq_16, Ev.wE.eq_17, Ev.wE.eq_18, Ev.wE.eq_19, Ev.wE.eq_20, Ev.wE.eq_21, Ev.wE.eq_22, Ev.wE.eq_23, Ev.wE.eq_24, Ev.wE.eq_25, Ev.wE.eq_26, Ev.wE.eq_27, Ev.wE_var, Ev.optK_some, Ev.selR_val, Ev.selR_own, Ev.rdS_val, Ev.rdS_own, Ev.fzS_val, Ev.fzS_own, Ev.argS_val, Ev.argS_own, Ev.wT, Ev.wAs, Ev.wEs, Ev.wI, Ev.wO, Ev.wG_nam, Ev.wG_tup, Ev.wGs_nil, Ev.wGs_cons, Ev.Tg.n, Ev.wipeE, Ev.restE, List.getD_cons_zero, List.getD_cons_succ, Ev.same2, Ev.items, Ev.rdK_val, Ev.rdK_tmp, Ev.rdK_at, Ev.rdsK, Ev.fzK_val, Ev.fzK_tmp, Ev.fzK_at, Ev.stW_val, Ev.stW_tmp, Ev.stW_bor, Ev.nbW_val, Ev.nbW_tmp, Ev.nbW_bor, Ev.binW_add, Ev.binW_sub, Ev.binW_mul, Ev.binW_div, Ev.binW_mod, Ev.binW_pow, Ev.binW_lst, Ev.binW_tup, Ev.binW_str, Ev.binW_rep, Ev.cmpW_lt, Ev.cmpW_le, Ev.cmpW_gt, Ev.cmpW_ge, Ev.cmpW_eq, Ev.cmpW_ne, Ev.cmpW_is, Ev.cmpW_isN, Ev.cmpW_inT, Ev.cmpW_inL, Ev.cmpW_niT, Ev.cmpW_niL, Ev.ixW_tup, Ev.ixW_lst, Ev.bltW_abs, Ev.bltW_int, Ev.bltW_gcd, Ev.bltW_lenT, Ev.bltW_lenL, Ev.bltW_scr, Ev.bltW_listL, Ev.bltW_listT, Ev.bltW_tupL, Ev.bltW_tupT, List.replicate, List.append_nil, List.cons_append, List.nil_append, List.getElem?_cons_zero, List.getElem?_cons_succ, List.length_cons, List.length_nil, List.set_cons_zero, List.set_cons_succ, Ev.argsOf, Ev.argOf_val, Ev.argOf_at, Ev.bors, Ev.backs_val, Ev.backs_bor, Ev.backs_nil, Ev.loses, Ev.retW_val, Ev.retW_tmp, Ev.parOf, Ev.outsOf, List.replicate_zero, Nat.sub_self, Ev.isOwnL, List.getElem?_nil, reduceCtorEq, decide_eq_true_eq, Ev.cmpOk_int, Ev.cmpOk_bl, Ev.cmpOk_non, Ev.cmpOk_nil, Ev.cmpOk_nilT, Ev.peq_int, Ev.peq_bl, Ev.peq_str, Ev.peq_non, Ev.peq_nil, Ev.peq_nilT, Ev.peq_consL, Ev.isT_non_int, Ev.isT_non_bool, Ev.isT_non_str, Ev.isT_non_tuple, Ev.isT_non_list, Ev.tyOk_non, Ev.isT_bl_int, Ev.isT_bl_bool, Ev.isT_bl_str, Ev.isT_bl_tuple, Ev.isT_bl_list, Ev.tyOk_bl, Ev.isT_int_int, Ev.isT_int_bool, Ev.isT_int_str, Ev.isT_int_tuple, Ev.isT_int_list, Ev.tyOk_int, Ev.isT_str_int, Ev.isT_str_bool, Ev.isT_str_str, Ev.isT_str_tuple, Ev.isT_str_list, Ev.tyOk_str, Ev.isT_tup_int, Ev.isT_tup_bool, Ev.isT_tup_str, Ev.isT_tup_tuple, Ev.isT_tup_list, Ev.tyOk_tup, Ev.isT_lst_int, Ev.isT_lst_bool, Ev.isT_lst_str, Ev.isT_lst_tuple, Ev.isT_lst_list, Ev.tyOk_lst, List.not_mem_nil, not_false_eq_true, List.nodup_cons, Bool.false_eq_true, ↓reduceIte, List.nodup_nil, true_and, and_true])
  simp only [L.c1, L.c2, L.c3, L.c4, L.lam]
  refine ⟨by decide, loopF_inv (fun n ρ => ∃ s10 s11, ρ = [.val (.scr ns), z1, z2, z3, z4, .val (.int GR), z6, z7, z8, .val bad, s10, s11, .un] ∧ Hold (.lst (words (2 * n) 0)) s10 ∧ n ≤ 4) _ 0 _ ⟨_, _, rfl, .inl rfl, by omega⟩ (fun i y ρ hy hi D' k1 _ _ _ => ?_) fun ρ h => ?_⟩
  · obtain ⟨s10, s11, rfl, hs, hi4⟩ := hi
    rw [Nat.zero_add] at hs hi4 k1
    obtain ⟨hi3, f, S, rfl, hS, hE⟩ : i < 4 ∧ ∃ f S, y = .fn f ∧ Φ.fn f = some S ∧ ∀ (x1 x2 : PV) (K1 : Bool → PV → List Ev.Slot → Prop) (X1 : Str → Prop), quoOk x1 → quoOk x2 → (isQuoP x1 = false ∨ isQuoP x2 = false) → X1 "InvalidQuotient" → S [.val x1, .val x2] K1 X1 := by
      have two : ∀ (g : Int → Int → Int → Int → PV) (x1 x2 : PV) (K1 : Bool → PV → List Ev.Slot → Prop) (X1 : Str → Prop), quoOk x1 → quoOk x2 → (isQuoP x1 = false ∨ isQuoP x2 = false) → X1 "InvalidQuotient" → S_two g [.val x1, .val x2] K1 X1 := fun g x1 x2 K1 X1 q1 q2 hb hx =>
        ⟨x1, x2, rfl, q1, q2, fun _ => hx, fun _ _ => hx, fun a b c d e1 e2 h1 h2 => by rcases hb with z | z <;> simp_all⟩
      match i, hy with
      | 0, hy => cases hy; exact ⟨by omega, _, _, rfl, L.sum, two _⟩
      | 1, hy => cases hy; exact ⟨by omega, _, _, rfl, L.prod, two _⟩
      | 2, hy =>
        cases hy
        exact ⟨by omega, _, _, rfl, L.by_, fun x1 x2 K1 X1 q1 q2 hb hx => ⟨x1, x2, rfl, q1, q2, fun _ => hx, fun _ _ => hx, fun a b c d e1 e2 h1 h2 => by rcases hb with z | z <;> simp_all⟩⟩
      | 3, hy => cases hy; exact ⟨by omega, _, _, rfl, L.gr, two _⟩
      | n + 4, hy => simp at hy
    have sz : (words (2 * i) 0).length + 1 ≤ sizeLine ∧ (words (2 * i + 1) 0).length + 1 ≤ sizeLine := by
      rw [words_len, words_len]
      have : 100 ≤ sizeLine := by decide
      omega
    have go : ∀ s10', Hold (.lst (words (2 * i) 0)) s10' → True := fun _ _ => trivial
    rcases hs with rfl | ⟨rfl, _⟩
    · (simp (config := { maxSteps := 100000000 }) only [Ev.wS, Ev.wE.eq_1, Ev.wE.eq_2, Ev.wE.eq_3, Ev.wE.eq_4, Ev.wE.eq_6, Ev.wE.eq_7, Ev.wE.eq_8, Ev.wE.eq_9, Ev.wE.eq_10, Ev.wE.eq_11, Ev.wE.eq_12, Ev.wE.eq_13, Ev.wE.eq_14, Ev.wE.eq_15, Ev.wE.eq_16, Ev.wE.eq_17, Ev.wE.eq_18, Ev.wE.eq_19, Ev.wE.eq_20, Ev.wE.eq_21, Ev.wE.eq_22, Ev.wE.eq_23, Ev.wE.eq_24, Ev.wE.eq_25, Ev.wE.eq_26, Ev.wE.eq_27, Ev.wE_var, Ev.optK_some, Ev.selR_val, Ev.selR_own, Ev.rdS_val, Ev.rdS_own, Ev.fzS_val, Ev.fzS_own, Ev.argS_val, Ev.argS_own, Ev.wT, Ev.wAs, Ev.wEs, Ev.wI, Ev.wO, Ev.wG_nam, Ev.wG_tup, Ev.wGs_nil, Ev.wGs_cons, Ev.Tg.n, Ev.wipeE, Ev.restE, List.getD_cons_zero, List.getD_cons_succ, Ev.same2, Ev.items, Ev.rdK_val, Ev.rdK_tmp, Ev.rdK_at, Ev.rdsK, Ev.fzK_val, Ev.fzK_tmp, Ev.fzK_at, Ev.stW_val, Ev.stW_tmp, Ev.stW_bor, Ev.nbW_val, Ev.nbW_tmp, Ev.nbW_bor, Ev.binW_add, Ev.binW_sub, Ev.binW_mul, Ev.binW_div, Ev.binW_mod, Ev.binW_pow, Ev.binW_lst, Ev.binW_tup, Ev.binW_str, Ev.binW_rep, Ev.cmpW_lt, Ev.cmpW_le, Ev.cmpW_gt, Ev.cmpW_ge, Ev.cmpW_eq, Ev.cmpW_ne, Ev.cmpW_is, Ev.cmpW_isN, Ev.cmpW_inT, Ev.cmpW_inL, Ev.cmpW_niT, Ev.cmpW_niL, Ev.ixW_tup, Ev.ixW_lst, Ev.bltW_abs, Ev.bltW_int, Ev.bltW_gcd, Ev.bltW_lenT, Ev.bltW_lenL, Ev.bltW_scr, Ev.bltW_listL, Ev.bltW_listT, Ev.bltW_tupL, Ev.bltW_tupT, List.replicate, List.append_nil, List.cons_append, List.nil_append, List.getElem?_cons_zero, List.getElem?_cons_succ, List.length_cons, List.length_nil, List.set_cons_zero, List.set_cons_succ, Ev.argsOf, Ev.argOf_val, Ev.argOf_at, Ev.bors, Ev.backs_val, Ev.backs_bor, Ev.backs_nil, Ev.loses, Ev.retW_val, Ev.retW_tmp, Ev.parOf, Ev.outsOf, List.replicate_zero, Nat.sub_self, Ev.isOwnL, List.getElem?_nil, reduceCtorEq, decide_eq_true_eq, Ev.cmpOk_int, Ev.cmpOk_bl, Ev.cmpOk_non, Ev.cmpOk_nil, Ev.cmpOk_nilT, Ev.peq_int, Ev.peq_bl, Ev.peq_str, Ev.peq_non, Ev.peq_nil, Ev.peq_nilT, Ev.peq_consL, Ev.isT_non_int, Ev.isT_non_bool, Ev.isT_non_str, Ev.isT_non_tuple, Ev.isT_non_list, Ev.tyOk_non, Ev.isT_bl_int, Ev.isT_bl_bool, Ev.isT_bl_str, Ev.isT_bl_tuple, Ev.isT_bl_list, Ev.tyOk_bl, Ev.isT_int_int, Ev.isT_int_bool, Ev.isT_int_str, Ev.isT_int_tuple, Ev.isT_int_list, Ev.tyOk_int, Ev.isT_str_int, Ev.isT_str_bool, Ev.isT_str_str, Ev.isT_str_tuple, Ev.isT_str_list, Ev.tyOk_str, Ev.isT_tup_int, Ev.isT_tup_bool, Ev.isT_tup_str, Ev.isT_tup_tuple, Ev.isT_tup_list, Ev.tyOk_tup, Ev.isT_lst_int, Ev.isT_lst_bool, Ev.isT_lst_str, Ev.isT_lst_tuple, Ev.isT_lst_list, Ev.tyOk_lst, List.not_mem_nil, not_false_eq_true, List.nodup_cons, Bool.false_eq_true, ↓reduceIte, List.nodup_nil, true_and, and_true])
      simp only [hS]
      refine hE _ _ _ _ hq hq (.inl hb) ?_
      simp only [L.eq]
      rw [words_q]
      refine ⟨by decide, sz.1, by decide, hE _ _ _ _ quo_ok hq (.inr hb) ?_⟩
      simp only [L.eq]
      rw [words_q]
      exact ⟨by decide, sz.2, k1 _ ⟨_, _, rfl, .inr ⟨rfl, _, rfl⟩, by omega⟩⟩
    · (simp (config := { maxSteps := 100000000 }) only [Ev.wS, Ev.wE.eq_1, Ev.wE.eq_2, Ev.wE.eq_3, Ev.wE.eq_4, Ev.wE.eq_6, Ev.wE.eq_7, Ev.wE.eq_8, Ev.wE.eq_9, Ev.wE.eq_10, Ev.wE.eq_11, Ev.wE.eq_12, Ev.wE.eq_13, Ev.wE.eq_14, Ev.wE.eq_15, Ev.wE.eq_16, Ev.wE.eq_17, Ev.wE.eq_18, Ev.wE.eq_19, Ev.wE.eq_20, Ev.wE.eq_21, Ev.wE.eq_22, Ev.wE.eq_23, Ev.wE.eq_24, Ev.wE.eq_25, Ev.wE.eq_26, Ev.wE.eq_27, Ev.wE_var, Ev.optK_some, Ev.selR_val, Ev.selR_own, Ev.rdS_val, Ev.rdS_own, Ev.fzS_val, Ev.fzS_own, Ev.argS_val, Ev.argS_own, Ev.wT, Ev.wAs, Ev.wEs, Ev.wI, Ev.wO, Ev.wG_nam, Ev.wG_tup, Ev.wGs_nil, Ev.wGs_cons, Ev.Tg.n, Ev.wipeE, Ev.restE, List.getD_cons_zero, List.getD_cons_succ, Ev.same2, Ev.items, Ev.rdK_val, Ev.rdK_tmp, Ev.rdK_at, Ev.rdsK, Ev.fzK_val, Ev.fzK_tmp, Ev.fzK_at, Ev.stW_val, Ev.stW_tmp, Ev.stW_bor, Ev.nbW_val, Ev.nbW_tmp, Ev.nbW_bor, Ev.binW_add, Ev.binW_sub, Ev.binW_mul, Ev.binW_div, Ev.binW_mod, Ev.binW_pow, Ev.binW_lst, Ev.binW_tup, Ev.binW_str, Ev.binW_rep, Ev.cmpW_lt, Ev.cmpW_le, Ev.cmpW_gt, Ev.cmpW_ge, Ev.cmpW_eq, Ev.cmpW_ne, Ev.cmpW_is, Ev.cmpW_isN, Ev.cmpW_inT, Ev.cmpW_inL, Ev.cmpW_niT, Ev.cmpW_niL, Ev.ixW_tup, Ev.ixW_lst, Ev.bltW_abs, Ev.bltW_int, Ev.bltW_gcd, Ev.bltW_lenT, Ev.bltW_lenL, Ev.bltW_scr, Ev.bltW_listL, Ev.bltW_listT, Ev.bltW_tupL, Ev.bltW_tupT, List.replicate, List.append_nil, List.cons_append, List.nil_append, List.getElem?_cons_zero, List.getElem?_cons_succ, List.length_cons, List.length_nil, List.set_cons_zero, List.set_cons_succ, Ev.argsOf, Ev.argOf_val, Ev.argOf_at, Ev.bors, Ev.backs_val, Ev.backs_bor, Ev.backs_nil, Ev.loses, Ev.retW_val, Ev.retW_tmp, Ev.parOf, Ev.outsOf, List.replicate_zero, Nat.sub_self, Ev.isOwnL, List.getElem?_nil, reduceCtorEq, decide_eq_true_eq, Ev.cmpOk_int, Ev.cmpOk_bl, Ev.cmpOk_non, Ev.cmpOk_nil, Ev.cmpOk_nilT, Ev.peq_int, Ev.peq_bl, Ev.peq_str, Ev.peq_non, Ev.peq_nil, Ev.peq_nilT, Ev.peq_consL, Ev.isT_non_int, Ev.isT_non_bool, Ev.isT_non_str, Ev.isT_non_tuple, Ev.isT_non_list, Ev.tyOk_non, Ev.isT_bl_int, Ev.isT_bl_bool, Ev.isT_bl_str, Ev.isT_bl_tuple, Ev.isT_bl_list, Ev.tyOk_bl, Ev.isT_int_int, Ev.isT_int_bool, Ev.isT_int_str, Ev.isT_int_tuple, Ev.isT_int_list, Ev.tyOk_int, Ev.isT_str_int, Ev.isT_str_bool, Ev.isT_str_str, Ev.isT_str_tuple, Ev.isT_str_list, Ev.tyOk_str, Ev.isT_tup_int, Ev.isT_tup_bool, Ev.isT_tup_str, Ev.isT_tup_tuple, Ev.isT_tup_list, Ev.tyOk_tup, Ev.isT_lst_int, Ev.isT_lst_bool, Ev.isT_lst_str, Ev.isT_lst_tuple, Ev.isT_lst_list, Ev.tyOk_lst, List.not_mem_nil, not_false_eq_true, List.nodup_cons, Bool.false_eq_true, ↓reduceIte, List.nodup_nil, true_and, and_true])
      simp only [hS]
      refine hE _ _ _ _ hq hq (.inl hb) ?_
      simp only [L.eq]
      rw [words_q]
      refine ⟨by decide, sz.1, by decide, hE _ _ _ _ quo_ok hq (.inr hb) ?_⟩
      simp only [L.eq]
      rw [words_q]
      exact ⟨by decide, sz.2, k1 _ ⟨_, _, rfl, .inr ⟨rfl, _, rfl⟩, by omega⟩⟩
  · obtain ⟨s10, s11, rfl, hs, _⟩ := h
    exact law_tail3 L hs hk
theorem law_tail {Φ : Tbl} {gf : GF} (L : Law Φ gf) {ns : List Int} {a b : Int} {Kp : Bool → PV → List Ev.Slot → Prop} {Xk : Str → Prop} {z2 z3 z4 z6 : Ev.Slot} (hc : cupOk a b) (hk : Kp false (.bl true) [.val (.scr ns)]) :
    wS Φ (parOf [Slot.val (PV.scr ns)]) B_law_9 (fun _ c => Xk c) [.val (.scr ns), .own (.lst [.int a, .int b]), z2, z3, z4, .val (.int GR), z6, .own (.lst odds), .un, .un, .un, .un, .un] { nx := fun ρ => Kp false .non (outsOf [Slot.val (PV.scr ns)] ρ), rt := fun ρ r => retW [Slot.val (PV.scr ns)] Kp ρ r } := by
  unfold B_law_9
  (simp (config := { maxSteps := 100000000 }) only [Ev.wS, Ev.wE.eq_1, Ev.wE.eq_2, Ev.wE.eq_3, Ev.wE.eq_4, Ev.wE.eq_6, Ev.wE.eq_7, Ev.wE.eq_8, Ev.wE.eq_9, Ev.wE.eq_10, Ev.wE.eq_11, Ev.wE.eq_12, Ev.wE.eq_13, Ev.wE.eq_14, Ev.wE.eq_15, Ev.wE.eq_16, Ev.wE.eq_17, Ev.wE.eq_18, Ev.wE.eq_19, Ev.wE.eq_20, Ev.wE.eq_21, Ev.wE.eq_22, Ev.wE.eq_23, Ev.wE.eq_24, Ev.wE.eq_25, Ev.wE.eq_26, Ev.wE.eq_27, Ev.wE_var, Ev.optK_some, Ev.selR_val, Ev.selR_own, Ev.rdS_val, Ev.rdS_own, Ev.fzS_val, Ev.fzS_own, Ev.argS_val, Ev.argS_own, Ev.wT, Ev.wAs, Ev.wEs, Ev.wI, Ev.wO, Ev.wG_nam, Ev.wG_tup, Ev.wGs_nil, Ev.wGs_cons, Ev.Tg.n, Ev.wipeE, Ev.restE, List.getD_cons_zero, List.getD_cons_succ, Ev.same2, Ev.items, Ev.rdK_val, Ev.rdK_tmp, Ev.rdK_at, Ev.rdsK, Ev.fzK_val, Ev.fzK_tmp, Ev.fzK_at, Ev.stW_val, Ev.stW_tmp, Ev.stW_bor, Ev.nbW_val, Ev.nbW_tmp, Ev.nbW_bor, Ev.binW_add, Ev.binW_sub, Ev.binW_mul, Ev.binW_div, Ev.binW_mod, Ev.binW_pow, Ev.binW_lst, Ev.binW_tup, Ev.binW_str, Ev.binW_rep, Ev.cmpW_lt, Ev.cmpW_le, Ev.cmpW_gt, Ev.cmpW_ge, Ev.cmpW_eq, Ev.cmpW_ne, Ev.cmpW_is, Ev.cmpW_isN, Ev.cmpW_inT, Ev.cmpW_inL, Ev.cmpW_niT, Ev.cmpW_niL, Ev.ixW_tup, Ev.ixW_lst, Ev.bltW_abs, Ev.bltW_int, Ev.bltW_gcd, Ev.bltW_lenT, Ev.bltW_lenL, Ev.bltW_scr, Ev.bltW_listL, Ev.bltW_listT, Ev.bltW_tupL, Ev.bltW_tupT, List.replicate, List.append_nil, List.cons_append, List.nil_append, List.getElem?_cons_zero, List.getElem?_cons_succ, List.length_cons, List.length_nil, List.set_cons_zero, List.set_cons_succ, Ev.argsOf, Ev.argOf_val, Ev.argOf_at, Ev.bors, Ev.backs_val, Ev.backs_bor, Ev.backs_nil, Ev.loses, Ev.retW_val, Ev.retW_tmp, Ev.parOf, Ev.outsOf, List.replicate_zero, Nat.sub_self, Ev.isOwnL, List.getElem?_nil, reduceCtorEq, decide_eq_true_eq, Ev.cmpOk_int, Ev.cmpOk_bl, Ev.cmpOk_non, Ev.cmpOk_nil, Ev.cmpOk_nilT, Ev.peq_int, Ev.peq_bl, Ev.peq_str, Ev.peq_non, Ev.peq_nil, Ev.peq_nilT, Ev.peq_consL, Ev.isT_non_int, Ev.isT_non_bool, Ev.isT_non_str, Ev.isT_non_tuple, Ev.isT_non_list, Ev.tyOk_non, Ev.isT_bl_int, Ev.isT_bl_bool, Ev.isT_bl_str, Ev.isT_bl_tuple, Ev.isT_bl_list, Ev.tyOk_bl, Ev.isT_int_int, Ev.isT_int_bool, Ev.isT_int_str, Ev.isT_int_tuple, Ev.isT_int_list, Ev.tyOk_int, Ev.isT_str_int, Ev.isT_str_bool, Ev.isT_str_str, Ev.isT_str_tuple, Ev.isT_str_list, Ev.tyOk_str, Ev.isT_tup_int, Ev.isT_tup_bool, Ev.isT_tup_str, Ev.isT_tup_tuple, Ev.isT_tup_list, Ev.tyOk_tup, Ev.isT_lst_int, Ev.isT_lst_bool, Ev.isT_lst_str, Ev.isT_lst_tuple, Ev.isT_lst_list, Ev.tyOk_lst, List.not_mem_nil, not_false_eq_true, List.nodup_cons, Bool.false_eq_true, ↓reduceIte, List.nodup_nil, true_and, and_true])
  simp only [L.is, L.like]
  refine loopC_map (fun x => .bl (isQuoP x)) (fun y hy R hR => ?_) (by decide) ?_
  · (simp (config := { maxSteps := 100000000 }) only [Ev.wS, Ev.wE.eq_1, Ev.wE.eq_2, Ev.wE.eq_3, Ev.wE.eq_4, Ev.wE.eq_6, Ev.wE.eq_7, Ev.wE.eq_8, Ev.wE.eq_9, Ev.wE.eq_10, Ev.wE.eq_11, Ev.wE.eq_12, Ev.wE.eq_13, Ev.wE.eq_14, Ev.wE.eq_15, Ev.wE.eq_16, Ev.wE.eq_17, Ev.wE.eq_18, Ev.wE.eq_19, Ev.wE.eq_20, Ev.wE.eq_21, Ev.wE.eq_22, Ev.wE.eq_23, Ev.wE.eq_24, Ev.wE.eq_25, Ev.wE.eq_26, Ev.wE.eq_27, Ev.wE_var, Ev.optK_some, Ev.selR_val, Ev.selR_own, Ev.rdS_val, Ev.rdS_own, Ev.fzS_val, Ev.fzS_own, Ev.argS_val, Ev.argS_own, Ev.wT, Ev.wAs, Ev.wEs, Ev.wI, Ev.wO, Ev.wG_nam, Ev.wG_tup, Ev.wGs_nil, Ev.wGs_cons, Ev.Tg.n, Ev.wipeE, Ev.restE, List.getD_cons_zero, List.getD_cons_succ, Ev.same2, Ev.items, Ev.rdK_val, Ev.rdK_tmp, Ev.rdK_at, Ev.rdsK, Ev.fzK_val, Ev.fzK_tmp, Ev.fzK_at, Ev.stW_val, Ev.stW_tmp, Ev.stW_bor, Ev.nbW_val, Ev.nbW_tmp, Ev.nbW_bor, Ev.binW_add, Ev.binW_sub, Ev.binW_mul, Ev.binW_div, Ev.binW_mod, Ev.binW_pow, Ev.binW_lst, Ev.binW_tup, Ev.binW_str, Ev.binW_rep, Ev.cmpW_lt, Ev.cmpW_le, Ev.cmpW_gt, Ev.cmpW_ge, Ev.cmpW_eq, Ev.cmpW_ne, Ev.cmpW_is, Ev.cmpW_isN, Ev.cmpW_inT, Ev.cmpW_inL, Ev.cmpW_niT, Ev.cmpW_niL, Ev.ixW_tup, Ev.ixW_lst, Ev.bltW_abs, Ev.bltW_int, Ev.bltW_gcd, Ev.bltW_lenT, Ev.bltW_lenL, Ev.bltW_scr, Ev.bltW_listL, Ev.bltW_listT, Ev.bltW_tupL, Ev.bltW_tupT, List.replicate, List.append_nil, List.cons_append, List.nil_append, List.getElem?_cons_zero, List.getElem?_cons_succ, List.length_cons, List.length_nil, List.set_cons_zero, List.set_cons_succ, Ev.argsOf, Ev.argOf_val, Ev.argOf_at, Ev.bors, Ev.backs_val, Ev.backs_bor, Ev.backs_nil, Ev.loses, Ev.retW_val, Ev.retW_tmp, Ev.parOf, Ev.outsOf, List.replicate_zero, Nat.sub_self, Ev.isOwnL, List.getElem?_nil, reduceCtorEq, decide_eq_true_eq, Ev.cmpOk_int, Ev.cmpOk_bl, Ev.cmpOk_non, Ev.cmpOk_nil, Ev.cmpOk_nilT, Ev.peq_int, Ev.peq_bl, Ev.peq_str, Ev.peq_non, Ev.peq_nil, Ev.peq_nilT, Ev.peq_consL, Ev.isT_non_int, Ev.isT_non_bool, Ev.isT_non_str, Ev.isT_non_tuple, Ev.isT_non_list, Ev.tyOk_non, Ev.isT_bl_int, Ev.isT_bl_bool, Ev.isT_bl_str, Ev.isT_bl_tuple, Ev.isT_bl_list, Ev.tyOk_bl, Ev.isT_int_int, Ev.isT_int_bool, Ev.isT_int_str, Ev.isT_int_tuple, Ev.isT_int_list, Ev.tyOk_int, Ev.isT_str_int, Ev.isT_str_bool, Ev.isT_str_str, Ev.isT_str_tuple, Ev.isT_str_list, Ev.tyOk_str, Ev.isT_tup_int, Ev.isT_tup_bool, Ev.isT_tup_str, Ev.isT_tup_tuple, Ev.isT_tup_list, Ev.tyOk_tup, Ev.isT_lst_int, Ev.isT_lst_bool, Ev.isT_lst_str, Ev.isT_lst_tuple, Ev.isT_lst_list, Ev.tyOk_lst, List.not_mem_nil, not_false_eq_true, List.nodup_cons, Bool.false_eq_true, ↓reduceIte, List.nodup_nil, true_and, and_true])
    refine ⟨y, rfl, odds_ok y hy, ?_⟩
    (simp (config := { maxSteps := 100000000 }) only [Ev.wS, Ev.wE.eq_1, Ev.wE.eq_2, Ev.wE.eq_3, Ev.wE.eq_4, Ev.wE.eq_6, Ev.wE.eq_7, Ev.wE.eq_8, Ev.wE.eq_9, Ev.wE.eq_10, Ev.wE.eq_11, Ev.wE.eq_12, Ev.wE.eq_13, Ev.wE.eq_14, Ev.wE.eq_15, Ev.wE.eq_16, Ev.wE.eq_17, Ev.wE.eq_18, Ev.wE.eq_19, Ev.wE.eq_20, Ev.wE.eq_21, Ev.wE.eq_22, Ev.wE.eq_23, Ev.wE.eq_24, Ev.wE.eq_25, Ev.wE.eq_26, Ev.wE.eq_27, Ev.wE_var, Ev.optK_some, Ev.selR_val, Ev.selR_own, Ev.rdS_val, Ev.rdS_own, Ev.fzS_val, Ev.fzS_own, Ev.argS_val, Ev.argS_own, Ev.wT, Ev.wAs, Ev.wEs, Ev.wI, Ev.wO, Ev.wG_nam, Ev.wG_tup, Ev.wGs_nil, Ev.wGs_cons, Ev.Tg.n, Ev.wipeE, Ev.restE, List.getD_cons_zero, List.getD_cons_succ, Ev.same2, Ev.items, Ev.rdK_val, Ev.rdK_tmp, Ev.rdK_at, Ev.rdsK, Ev.fzK_val, Ev.fzK_tmp, Ev.fzK_at, Ev.stW_val, Ev.stW_tmp, Ev.stW_bor, Ev.nbW_val, Ev.nbW_tmp, Ev.nbW_bor, Ev.binW_add, Ev.binW_sub, Ev.binW_mul, Ev.binW_div, Ev.binW_mod, Ev.binW_pow, Ev.binW_lst, Ev.binW_tup, Ev.binW_str, Ev.binW_rep, Ev.cmpW_lt, Ev.cmpW_le, Ev.cmpW_gt, Ev.cmpW_ge, Ev.cmpW_eq, Ev.cmpW_ne, Ev.cmpW_is, Ev.cmpW_isN, Ev.cmpW_inT, Ev.cmpW_inL, Ev.cmpW_niT, Ev.cmpW_niL, Ev.ixW_tup, Ev.ixW_lst, Ev.bltW_abs, Ev.bltW_int, Ev.bltW_gcd, Ev.bltW_lenT, Ev.bltW_lenL, Ev.bltW_scr, Ev.bltW_listL, Ev.bltW_listT, Ev.bltW_tupL, Ev.bltW_tupT, List.replicate, List.append_nil, List.cons_append, List.nil_append, List.getElem?_cons_zero, List.getElem?_cons_succ, List.length_cons, List.length_nil, List.set_cons_zero, List.set_cons_succ, Ev.argsOf, Ev.argOf_val, Ev.argOf_at, Ev.bors, Ev.backs_val, Ev.backs_bor, Ev.backs_nil, Ev.loses, Ev.retW_val, Ev.retW_tmp, Ev.parOf, Ev.outsOf, List.replicate_zero, Nat.sub_self, Ev.isOwnL, List.getElem?_nil, reduceCtorEq, decide_eq_true_eq, Ev.cmpOk_int, Ev.cmpOk_bl, Ev.cmpOk_non, Ev.cmpOk_nil, Ev.cmpOk_nilT, Ev.peq_int, Ev.peq_bl, Ev.peq_str, Ev.peq_non, Ev.peq_nil, Ev.peq_nilT, Ev.peq_consL, Ev.isT_non_int, Ev.isT_non_bool, Ev.isT_non_str, Ev.isT_non_tuple, Ev.isT_non_list, Ev.tyOk_non, Ev.isT_bl_int, Ev.isT_bl_bool, Ev.isT_bl_str, Ev.isT_bl_tuple, Ev.isT_bl_list, Ev.tyOk_bl, Ev.isT_int_int, Ev.isT_int_bool, Ev.isT_int_str, Ev.isT_int_tuple, Ev.isT_int_list, Ev.tyOk_int, Ev.isT_str_int, Ev.isT_str_bool, Ev.isT_str_str, Ev.isT_str_tuple, Ev.isT_str_list, Ev.tyOk_str, Ev.isT_tup_int, Ev.isT_tup_bool, Ev.isT_tup_str, Ev.isT_tup_tuple, Ev.isT_tup_list, Ev.tyOk_tup, Ev.isT_lst_int, Ev.isT_lst_bool, Ev.isT_lst_str, Ev.isT_lst_tuple, Ev.isT_lst_list, Ev.tyOk_lst, List.not_mem_nil, not_false_eq_true, List.nodup_cons, Bool.false_eq_true, ↓reduceIte, List.nodup_nil, true_and, and_true])
    exact hR
  rw [odds_map]
  (simp (config := { maxSteps := 100000000 }) only [Ev.wS, Ev.wE.eq_1, Ev.wE.eq_2, Ev.wE.eq_3, Ev.wE.eq_4, Ev.wE.eq_6, Ev.wE.eq_7, Ev.wE.eq_8, Ev.wE.eq_9, Ev.wE.eq_10, Ev.wE.eq_11, Ev.wE.eq_12, Ev.wE.eq_13, Ev.wE.eq_14, Ev.wE.eq_15, Ev.wE.eq_16, Ev.wE.eq_17, Ev.wE.eq_18, Ev.wE.eq_19, Ev.wE.eq_20, Ev.wE.eq_21, Ev.wE.eq_22, Ev.wE.eq_23, Ev.wE.eq_24, Ev.wE.eq_25, Ev.wE.eq_26, Ev.wE.eq_27, Ev.wE_var, Ev.optK_some, Ev.selR_val, Ev.selR_own, Ev.rdS_val, Ev.rdS_own, Ev.fzS_val, Ev.fzS_own, Ev.argS_val, Ev.argS_own, Ev.wT, Ev.wAs, Ev.wEs, Ev.wI, Ev.wO, Ev.wG_nam, Ev.wG_tup, Ev.wGs_nil, Ev.wGs_cons, Ev.Tg.n, Ev.wipeE, Ev.restE, List.getD_cons_zero, List.getD_cons_succ, Ev.same2, Ev.items, Ev.rdK_val, Ev.rdK_tmp, Ev.rdK_at, Ev.rdsK, Ev.fzK_val, Ev.fzK_tmp, Ev.fzK_at, Ev.stW_val, Ev.stW_tmp, Ev.stW_bor, Ev.nbW_val, Ev.nbW_tmp, Ev.nbW_bor, Ev.binW_add, Ev.binW_sub, Ev.binW_mul, Ev.binW_div, Ev.binW_mod, Ev.binW_pow, Ev.binW_lst, Ev.binW_tup, Ev.binW_str, Ev.binW_rep, Ev.cmpW_lt, Ev.cmpW_le, Ev.cmpW_gt, Ev.cmpW_ge, Ev.cmpW_eq, Ev.cmpW_ne, Ev.cmpW_is, Ev.cmpW_isN, Ev.cmpW_inT, Ev.cmpW_inL, Ev.cmpW_niT, Ev.cmpW_niL, Ev.ixW_tup, Ev.ixW_lst, Ev.bltW_abs, Ev.bltW_int, Ev.bltW_gcd, Ev.bltW_lenT, Ev.bltW_lenL, Ev.bltW_scr, Ev.bltW_listL, Ev.bltW_listT, Ev.bltW_tupL, Ev.bltW_tupT, List.replicate, List.append_nil, List.cons_append, List.nil_append, List.getElem?_cons_zero, List.getElem?_cons_succ, List.length_cons, List.length_nil, List.set_cons_zero, List.set_cons_succ, Ev.argsOf, Ev.argOf_val, Ev.argOf_at, Ev.bors, Ev.backs_val, Ev.backs_bor, Ev.backs_nil, Ev.loses, Ev.retW_val, Ev.retW_tmp, Ev.parOf, Ev.outsOf, List.replicate_zero, Nat.sub_self, Ev.isOwnL, List.getElem?_nil, reduceCtorEq, decide_eq_true_eq, Ev.cmpOk_int, Ev.cmpOk_bl, Ev.cmpOk_non, Ev.cmpOk_nil, Ev.cmpOk_nilT, Ev.peq_int, Ev.peq_bl, Ev.peq_str, Ev.peq_non, Ev.peq_nil, Ev.peq_nilT, Ev.peq_consL, Ev.isT_non_int, Ev.isT_non_bool, Ev.isT_non_str, Ev.isT_non_tuple, Ev.isT_non_list, Ev.tyOk_non, Ev.isT_bl_int, Ev.isT_bl_bool, Ev.isT_bl_str, Ev.isT_bl_tuple, Ev.isT_bl_list, Ev.tyOk_bl, Ev.isT_int_int, Ev.isT_int_bool, Ev.isT_int_str, Ev.isT_int_tuple, Ev.isT_int_list, Ev.tyOk_int, Ev.isT_str_int, Ev.isT_str_bool, Ev.isT_str_str, Ev.isT_str_tuple, Ev.isT_str_list, Ev.tyOk_str, Ev.isT_tup_int, Ev.isT_tup_bool, Ev.isT_tup_str, Ev.isT_tup_tuple, Ev.isT_tup_list, Ev.tyOk_tup, Ev.isT_lst_int, Ev.isT_lst_bool, Ev.isT_lst_str, Ev.isT_lst_tuple, Ev.isT_lst_list, Ev.tyOk_lst, List.not_mem_nil, not_false_eq_true, List.nodup_cons, Bool.false_eq_true, ↓reduceIte, List.nodup_nil, true_and, and_true])
  have lb : Lk 3 (.lst [.bl true, .bl true, .bl true, .bl true, .bl false, .bl false, .bl false, .bl false, .bl false, .bl false, .bl false, .bl false, .bl false, .bl false, .bl false, .bl false, .bl false, .bl false, .bl false, .bl false]) := lk_lst (by simp) (by
    iterate 20 refine lk_cons lk_bl ?_
    exact lk_nil)
  refine ⟨by decide, ⟨by decide, by decide, by decide⟩, by decide, ⟨by decide, by decide, by decide⟩, by decide, _, _, _, rfl, hold_val, hold_val, lb, fun t1 t2 _ _ => ?_⟩
  (simp (config := { maxSteps := 100000000 }) only [Ev.wS, Ev.wE.eq_1, Ev.wE.eq_2, Ev.wE.eq_3, Ev.wE.eq_4, Ev.wE.eq_6, Ev.wE.eq_7, Ev.wE.eq_8, Ev.wE.eq_9, Ev.wE.eq_10, Ev.wE.eq_11, Ev.wE.eq_12, Ev.wE.eq_13, Ev.wE.eq_14, Ev.wE.eq_15, Ev.wE.eq_16, Ev.wE.eq_17, Ev.wE.eq_18, Ev.wE.eq_19, Ev.wE.eq_20, Ev.wE.eq_21, Ev.wE.eq_22, Ev.wE.eq_23, Ev.wE.eq_24, Ev.wE.eq_25, Ev.wE.eq_26, Ev.wE.eq_27, Ev.wE_var, Ev.optK_some, Ev.selR_val, Ev.selR_own, Ev.rdS_val, Ev.rdS_own, Ev.fzS_val, Ev.fzS_own, Ev.argS_val, Ev.argS_own, Ev.wT, Ev.wAs, Ev.wEs, Ev.wI, Ev.wO, Ev.wG_nam, Ev.wG_tup, Ev.wGs_nil, Ev.wGs_cons, Ev.Tg.n, Ev.wipeE, Ev.restE, List.getD_cons_zero, List.getD_cons_succ, Ev.same2, Ev.items, Ev.rdK_val, Ev.rdK_tmp, Ev.rdK_at, Ev.rdsK, Ev.fzK_val, Ev.fzK_tmp, Ev.fzK_at, Ev.stW_val, Ev.stW_tmp, Ev.stW_bor, Ev.nbW_val, Ev.nbW_tmp, Ev.nbW_bor, Ev.binW_add, Ev.binW_sub, Ev.binW_mul, Ev.binW_div, Ev.binW_mod, Ev.binW_pow, Ev.binW_lst, Ev.binW_tup, Ev.binW_str, Ev.binW_rep, Ev.cmpW_lt, Ev.cmpW_le, Ev.cmpW_gt, Ev.cmpW_ge, Ev.cmpW_eq, Ev.cmpW_ne, Ev.cmpW_is, Ev.cmpW_isN, Ev.cmpW_inT, Ev.cmpW_inL, Ev.cmpW_niT, Ev.cmpW_niL, Ev.ixW_tup, Ev.ixW_lst, Ev.bltW_abs, Ev.bltW_int, Ev.bltW_gcd, Ev.bltW_lenT, Ev.bltW_lenL, Ev.bltW_scr, Ev.bltW_listL, Ev.bltW_listT, Ev.bltW_tupL, Ev.bltW_tupT, List.replicate, List.append_nil, List.cons_append, List.nil_append, List.getElem?_cons_zero, List.getElem?_cons_succ, List.length_cons, List.length_nil, List.set_cons_zero, List.set_cons_succ, Ev.argsOf, Ev.argOf_val, Ev.argOf_at, Ev.bors, Ev.backs_val, Ev.backs_bor, Ev.backs_nil, Ev.loses, Ev.retW_val, Ev.retW_tmp, Ev.parOf, Ev.outsOf, List.replicate_zero, Nat.sub_self, Ev.isOwnL, List.getElem?_nil, reduceCtorEq, decide_eq_true_eq, Ev.cmpOk_int, Ev.cmpOk_bl, Ev.cmpOk_non, Ev.cmpOk_nil, Ev.cmpOk_nilT, Ev.peq_int, Ev.peq_bl, Ev.peq_str, Ev.peq_non, Ev.peq_nil, Ev.peq_nilT, Ev.peq_consL, Ev.isT_non_int, Ev.isT_non_bool, Ev.isT_non_str, Ev.isT_non_tuple, Ev.isT_non_list, Ev.tyOk_non, Ev.isT_bl_int, Ev.isT_bl_bool, Ev.isT_bl_str, Ev.isT_bl_tuple, Ev.isT_bl_list, Ev.tyOk_bl, Ev.isT_int_int, Ev.isT_int_bool, Ev.isT_int_str, Ev.isT_int_tuple, Ev.isT_int_list, Ev.tyOk_int, Ev.isT_str_int, Ev.isT_str_bool, Ev.isT_str_str, Ev.isT_str_tuple, Ev.isT_str_list, Ev.tyOk_str, Ev.isT_tup_int, Ev.isT_tup_bool, Ev.isT_tup_str, Ev.isT_tup_tuple, Ev.isT_tup_list, Ev.tyOk_tup, Ev.isT_lst_int, Ev.isT_lst_bool, Ev.isT_lst_str, Ev.isT_lst_tuple, Ev.isT_lst_list, Ev.tyOk_lst, List.not_mem_nil, not_false_eq_true, List.nodup_cons, Bool.false_eq_true, ↓reduceIte, List.nodup_nil, true_and, and_true])
  unfold B_law_10
  (simp (config := { maxSteps := 100000000 }) only [Ev.wS, Ev.wE.eq_1, Ev.wE.eq_2, Ev.wE.eq_3, Ev.wE.eq_4, Ev.wE.eq_6, Ev.wE.eq_7, Ev.wE.eq_8, Ev.wE.eq_9, Ev.wE.eq_10, Ev.wE.eq_11, Ev.wE.eq_12, Ev.wE.eq_13, Ev.wE.eq_14, Ev.wE.eq_15, Ev.wE.eq_16, Ev.wE.eq_17, Ev.wE.eq_18, Ev.wE.eq_19, Ev.wE.eq_20, Ev.wE.eq_21, Ev.wE.eq_22, Ev.wE.eq_23, Ev.wE.eq_24, Ev.wE.eq_25, Ev.wE.eq_26, Ev.wE.eq_27, Ev.wE_var, Ev.optK_some, Ev.selR_val, Ev.selR_own, Ev.rdS_val, Ev.rdS_own, Ev.fzS_val, Ev.fzS_own, Ev.argS_val, Ev.argS_own, Ev.wT, Ev.wAs, Ev.wEs, Ev.wI, Ev.wO, Ev.wG_nam, Ev.wG_tup, Ev.wGs_nil, Ev.wGs_cons, Ev.Tg.n, Ev.wipeE, Ev.restE, List.getD_cons_zero, List.getD_cons_succ, Ev.same2, Ev.items, Ev.rdK_val, Ev.rdK_tmp, Ev.rdK_at, Ev.rdsK, Ev.fzK_val, Ev.fzK_tmp, Ev.fzK_at, Ev.stW_val, Ev.stW_tmp, Ev.stW_bor, Ev.nbW_val, Ev.nbW_tmp, Ev.nbW_bor, Ev.binW_add, Ev.binW_sub, Ev.binW_mul, Ev.binW_div, Ev.binW_mod, Ev.binW_pow, Ev.binW_lst, Ev.binW_tup, Ev.binW_str, Ev.binW_rep, Ev.cmpW_lt, Ev.cmpW_le, Ev.cmpW_gt, Ev.cmpW_ge, Ev.cmpW_eq, Ev.cmpW_ne, Ev.cmpW_is, Ev.cmpW_isN, Ev.cmpW_inT, Ev.cmpW_inL, Ev.cmpW_niT, Ev.cmpW_niL, Ev.ixW_tup, Ev.ixW_lst, Ev.bltW_abs, Ev.bltW_int, Ev.bltW_gcd, Ev.bltW_lenT, Ev.bltW_lenL, Ev.bltW_scr, Ev.bltW_listL, Ev.bltW_listT, Ev.bltW_tupL, Ev.bltW_tupT, List.replicate, List.append_nil, List.cons_append, List.nil_append, List.getElem?_cons_zero, List.getElem?_cons_succ, List.length_cons, List.length_nil, List.set_cons_zero, List.set_cons_succ, Ev.argsOf, Ev.argOf_val, Ev.argOf_at, Ev.bors, Ev.backs_val, Ev.backs_bor, Ev.backs_nil, Ev.loses, Ev.retW_val, Ev.retW_tmp, Ev.parOf, Ev.outsOf, List.replicate_zero, Nat.sub_self, Ev.isOwnL, List.getElem?_nil, reduceCtorEq, decide_eq_true_eq, Ev.cmpOk_int, Ev.cmpOk_bl, Ev.cmpOk_non, Ev.cmpOk_nil, Ev.cmpOk_nilT, Ev.peq_int, Ev.peq_bl, Ev.peq_str, Ev.peq_non, Ev.peq_nil, Ev.peq_nilT, Ev.peq_consL, Ev.isT_non_int, Ev.isT_non_bool, Ev.isT_non_str, Ev.isT_non_tuple, Ev.isT_non_list, Ev.tyOk_non, Ev.isT_bl_int, Ev.isT_bl_bool, Ev.isT_bl_str, Ev.isT_bl_tuple, Ev.isT_bl_list, Ev.tyOk_bl, Ev.isT_int_int, Ev.isT_int_bool, Ev.isT_int_str, Ev.isT_int_tuple, Ev.isT_int_list, Ev.tyOk_int, Ev.isT_str_int, Ev.isT_str_bool, Ev.isT_str_str, Ev.isT_str_tuple, Ev.isT_str_list, Ev.tyOk_str, Ev.isT_tup_int, Ev.isT_tup_bool, Ev.isT_tup_str, Ev.isT_tup_tuple, Ev.isT_tup_list, Ev.tyOk_tup, Ev.isT_lst_int, Ev.isT_lst_bool, Ev.isT_lst_str, Ev.isT_lst_tuple, Ev.isT_lst_list, Ev.tyOk_lst, List.not_mem_nil, not_false_eq_true, List.nodup_cons, Bool.false_eq_true, ↓reduceIte, List.nodup_nil, true_and, and_true])
  simp only [L.some_, slW_l]
  (simp (config := { maxSteps := 100000000 }) only [Ev.wS, Ev.wE.eq_1, Ev.wE.eq_2, Ev.wE.eq_3, Ev.wE.eq_4, Ev.wE.eq_6, Ev.wE.eq_7, Ev.wE.eq_8, Ev.wE.eq_9, Ev.wE.eq_10, Ev.wE.eq_11, Ev.wE.eq_12, Ev.wE.eq_13, Ev.wE.eq_14, Ev.wE.eq_15, Ev.wE.eq_16, Ev.wE.eq_17, Ev.wE.eq_18, Ev.wE.eq_19, Ev.wE.eq_20, Ev.wE.eq_21, Ev.wE.eq_22, Ev.wE.eq_23, Ev.wE.eq_24, Ev.wE.eq_25, Ev.wE.eq_26, Ev.wE.eq_27, Ev.wE_var, Ev.optK_some, Ev.selR_val, Ev.selR_own, Ev.rdS_val, Ev.rdS_own, Ev.fzS_val, Ev.fzS_own, Ev.argS_val, Ev.argS_own, Ev.wT, Ev.wAs, Ev.wEs, Ev.wI, Ev.wO, Ev.wG_nam, Ev.wG_tup, Ev.wGs_nil, Ev.wGs_cons, Ev.Tg.n, Ev.wipeE, Ev.restE, List.getD_cons_zero, List.getD_cons_succ, Ev.same2, Ev.items, Ev.rdK_val, Ev.rdK_tmp, Ev.rdK_at, Ev.rdsK, Ev.fzK_val, Ev.fzK_tmp, Ev.fzK_at, Ev.stW_val, Ev.stW_tmp, Ev.stW_bor, Ev.nbW_val, Ev.nbW_tmp, Ev.nbW_bor, Ev.binW_add, Ev.binW_sub, Ev.binW_mul, Ev.binW_div, Ev.binW_mod, Ev.binW_pow, Ev.binW_lst, Ev.binW_tup, Ev.binW_str, Ev.binW_rep, Ev.cmpW_lt, Ev.cmpW_le, Ev.cmpW_gt, Ev.cmpW_ge, Ev.cmpW_eq, Ev.cmpW_ne, Ev.cmpW_is, Ev.cmpW_isN, Ev.cmpW_inT, Ev.cmpW_inL, Ev.cmpW_niT, Ev.cmpW_niL, Ev.ixW_tup, Ev.ixW_lst, Ev.bltW_abs, Ev.bltW_int, Ev.bltW_gcd, Ev.bltW_lenT, Ev.bltW_lenL, Ev.bltW_scr, Ev.bltW_listL, Ev.bltW_listT, Ev.bltW_tupL, Ev.bltW_tupT, List.replicate, List.append_nil, List.cons_append, List.nil_append, List.getElem?_cons_zero, List.getElem?_cons_succ, List.length_cons, List.length_nil, List.set_cons_zero, List.set_cons_succ, Ev.argsOf, Ev.argOf_val, Ev.argOf_at, Ev.bors, Ev.backs_val, Ev.backs_bor, Ev.backs_nil, Ev.loses, Ev.retW_val, Ev.retW_tmp, Ev.parOf, Ev.outsOf, List.replicate_zero, Nat.sub_self, Ev.isOwnL, List.getElem?_nil, reduceCtorEq, decide_eq_true_eq, Ev.cmpOk_int, Ev.cmpOk_bl, Ev.cmpOk_non, Ev.cmpOk_nil, Ev.cmpOk_nilT, Ev.peq_int, Ev.peq_bl, Ev.peq_str, Ev.peq_non, Ev.peq_nil, Ev.peq_nilT, Ev.peq_consL, Ev.isT_non_int, Ev.isT_non_bool, Ev.isT_non_str, Ev.isT_non_tuple, Ev.isT_non_list, Ev.tyOk_non, Ev.isT_bl_int, Ev.isT_bl_bool, Ev.isT_bl_str, Ev.isT_bl_tuple, Ev.isT_bl_list, Ev.tyOk_bl, Ev.isT_int_int, Ev.isT_int_bool, Ev.isT_int_str, Ev.isT_int_tuple, Ev.isT_int_list, Ev.tyOk_int, Ev.isT_str_int, Ev.isT_str_bool, Ev.isT_str_str, Ev.isT_str_tuple, Ev.isT_str_list, Ev.tyOk_str, Ev.isT_tup_int, Ev.isT_tup_bool, Ev.isT_tup_str, Ev.isT_tup_tuple, Ev.isT_tup_list, Ev.tyOk_tup, Ev.isT_lst_int, Ev.isT_lst_bool, Ev.isT_lst_str, Ev.isT_lst_tuple, Ev.isT_lst_list, Ev.tyOk_lst, List.not_mem_nil, not_false_eq_true, List.nodup_cons, Bool.false_eq_true, ↓reduceIte, List.nodup_nil, true_and, and_true])
  rw [odds_cut]
  refine ⟨a, b, _, rfl, hc, by decide, by decide, fun a' b' x hc' hx => ?_⟩
  (simp (config := { maxSteps := 100000000 }) only [Ev.wS, Ev.wE.eq_1, Ev.wE.eq_2, Ev.wE.eq_3, Ev.wE.eq_4, Ev.wE.eq_6, Ev.wE.eq_7, Ev.wE.eq_8, Ev.wE.eq_9, Ev.wE.eq_10, Ev.wE.eq_11, Ev.wE.eq_12, Ev.wE.eq_13, Ev.wE.eq_14, Ev.wE.eq_15, Ev.wE.eq_16, Ev.wE.eq_17, Ev.wE.eq_18, Ev.wE.eq_19, Ev.wE.eq_20, Ev.wE.eq_21, Ev.wE.eq_22, Ev.wE.eq_23, Ev.wE.eq_24, Ev.wE.eq_25, Ev.wE.eq_26, Ev.wE.eq_27, Ev.wE_var, Ev.optK_some, Ev.selR_val, Ev.selR_own, Ev.rdS_val, Ev.rdS_own, Ev.fzS_val, Ev.fzS_own, Ev.argS_val, Ev.argS_own, Ev.wT, Ev.wAs, Ev.wEs, Ev.wI, Ev.wO, Ev.wG_nam, Ev.wG_tup, Ev.wGs_nil, Ev.wGs_cons, Ev.Tg.n, Ev.wipeE, Ev.restE, List.getD_cons_zero, List.getD_cons_succ, Ev.same2, Ev.items, Ev.rdK_val, Ev.rdK_tmp, Ev.rdK_at, Ev.rdsK, Ev.fzK_val, Ev.fzK_tmp, Ev.fzK_at, Ev.stW_val, Ev.stW_tmp, Ev.stW_bor, Ev.nbW_val, Ev.nbW_tmp, Ev.nbW_bor, Ev.binW_add, Ev.binW_sub, Ev.binW_mul, Ev.binW_div, Ev.binW_mod, Ev.binW_pow, Ev.binW_lst, Ev.binW_tup, Ev.binW_str, Ev.binW_rep, Ev.cmpW_lt, Ev.cmpW_le, Ev.cmpW_gt, Ev.cmpW_ge, Ev.cmpW_eq, Ev.cmpW_ne, Ev.cmpW_is, Ev.cmpW_isN, Ev.cmpW_inT, Ev.cmpW_inL, Ev.cmpW_niT, Ev.cmpW_niL, Ev.ixW_tup, Ev.ixW_lst, Ev.bltW_abs, Ev.bltW_int, Ev.bltW_gcd, Ev.bltW_lenT, Ev.bltW_lenL, Ev.bltW_scr, Ev.bltW_listL, Ev.bltW_listT, Ev.bltW_tupL, Ev.bltW_tupT, List.replicate, List.append_nil, List.cons_append, List.nil_append, List.getElem?_cons_zero, List.getElem?_cons_succ, List.length_cons, List.length_nil, List.set_cons_zero, List.set_cons_succ, Ev.argsOf, Ev.argOf_val, Ev.argOf_at, Ev.bors, Ev.backs_val, Ev.backs_bor, Ev.backs_nil, Ev.loses, Ev.retW_val, Ev.retW_tmp, Ev.parOf, Ev.outsOf, List.replicate_zero, Nat.sub_self, Ev.isOwnL, List.getElem?_nil, reduceCtorEq, decide_eq_true_eq, Ev.cmpOk_int, Ev.cmpOk_bl, Ev.cmpOk_non, Ev.cmpOk_nil, Ev.cmpOk_nilT, Ev.peq_int, Ev.peq_bl, Ev.peq_str, Ev.peq_non, Ev.peq_nil, Ev.peq_nilT, Ev.peq_consL, Ev.isT_non_int, Ev.isT_non_bool, Ev.isT_non_str, Ev.isT_non_tuple, Ev.isT_non_list, Ev.tyOk_non, Ev.isT_bl_int, Ev.isT_bl_bool, Ev.isT_bl_str, Ev.isT_bl_tuple, Ev.isT_bl_list, Ev.tyOk_bl, Ev.isT_int_int, Ev.isT_int_bool, Ev.isT_int_str, Ev.isT_int_tuple, Ev.isT_int_list, Ev.tyOk_int, Ev.isT_str_int, Ev.isT_str_bool, Ev.isT_str_str, Ev.isT_str_tuple, Ev.isT_str_list, Ev.tyOk_str, Ev.isT_tup_int, Ev.isT_tup_bool, Ev.isT_tup_str, Ev.isT_tup_tuple, Ev.isT_tup_list, Ev.tyOk_tup, Ev.isT_lst_int, Ev.isT_lst_bool, Ev.isT_lst_str, Ev.isT_lst_tuple, Ev.isT_lst_list, Ev.tyOk_lst, List.not_mem_nil, not_false_eq_true, List.nodup_cons, Bool.false_eq_true, ↓reduceIte, List.nodup_nil, true_and, and_true])
  exact ⟨by decide, by decide, law_tail2 L (odds_ok x (List.mem_of_mem_drop hx)) (odds_bad x hx) hk⟩
theorem ok_law {Φ : Tbl} {gf : GF} (L : Law Φ gf) : ∀ ss Kp Xk, lawS ss Kp Xk → bodyS Φ 1 13 B_law ss Kp Xk := by
  rintro ss Kp Xk ⟨ns, rfl, hl, hb, hk⟩
  refine ⟨rfl, ?_⟩
  unfold B_law
  (simp (config := { maxSteps := 100000000 }) only [Ev.wS, Ev.wE.eq_1, Ev.wE.eq_2, Ev.wE.eq_3, Ev.wE.eq_4, Ev.wE.eq_6, Ev.wE.eq_7, Ev.wE.eq_8, Ev.wE.eq_9, Ev.wE.eq_10, Ev.wE.eq_11, Ev.wE.eq_12, Ev.wE.eq_13, Ev.wE.eq_14, Ev.wE.eq_15, Ev.wE.eq_16, Ev.wE.eq_17, Ev.wE.eq_18, Ev.wE.eq_19, Ev.wE.eq_20, Ev.wE.eq_21, Ev.wE.eq_22, Ev.wE.eq_23, Ev.wE.eq_24, Ev.wE.eq_25, Ev.wE.eq_26, Ev.wE.eq_27, Ev.wE_var, Ev.optK_some, Ev.selR_val, Ev.selR_own, Ev.rdS_val, Ev.rdS_own, Ev.fzS_val, Ev.fzS_own, Ev.argS_val, Ev.argS_own, Ev.wT, Ev.wAs, Ev.wEs, Ev.wI, Ev.wO, Ev.wG_nam, Ev.wG_tup, Ev.wGs_nil, Ev.wGs_cons, Ev.Tg.n, Ev.wipeE, Ev.restE, List.getD_cons_zero, List.getD_cons_succ, Ev.same2, Ev.items, Ev.rdK_val, Ev.rdK_tmp, Ev.rdK_at, Ev.rdsK, Ev.fzK_val, Ev.fzK_tmp, Ev.fzK_at, Ev.stW_val, Ev.stW_tmp, Ev.stW_bor, Ev.nbW_val, Ev.nbW_tmp, Ev.nbW_bor, Ev.binW_add, Ev.binW_sub, Ev.binW_mul, Ev.binW_div, Ev.binW_mod, Ev.binW_pow, Ev.binW_lst, Ev.binW_tup, Ev.binW_str, Ev.binW_rep, Ev.cmpW_lt, Ev.cmpW_le, Ev.cmpW_gt, Ev.cmpW_ge, Ev.cmpW_eq, Ev.cmpW_ne, Ev.cmpW_is, Ev.cmpW_isN, Ev.cmpW_inT, Ev.cmpW_inL, Ev.cmpW_niT, Ev.cmpW_niL, Ev.ixW_tup, Ev.ixW_lst, Ev.bltW_abs, Ev.bltW_int, Ev.bltW_gcd, Ev.bltW_lenT, Ev.bltW_lenL, Ev.bltW_scr, Ev.bltW_listL, Ev.bltW_listT, Ev.bltW_tupL, Ev.bltW_tupT, List.replicate, List.append_nil, List.cons_append, List.nil_append, List.getElem?_cons_zero, List.getElem?_cons_succ, List.length_cons, List.length_nil, List.set_cons_zero, List.set_cons_succ, Ev.argsOf, Ev.argOf_val, Ev.argOf_at, Ev.bors, Ev.backs_val, Ev.backs_bor, Ev.backs_nil, Ev.loses, Ev.retW_val, Ev.retW_tmp, Ev.parOf, Ev.outsOf, List.replicate_zero, Nat.sub_self, Ev.isOwnL, List.getElem?_nil, reduceCtorEq, decide_eq_true_eq, Ev.cmpOk_int, Ev.cmpOk_bl, Ev.cmpOk_non, Ev.cmpOk_nil, Ev.cmpOk_nilT, Ev.peq_int, Ev.peq_bl, Ev.peq_str, Ev.peq_non, Ev.peq_nil, Ev.peq_nilT, Ev.peq_consL, Ev.isT_non_int, Ev.isT_non_bool, Ev.isT_non_str, Ev.isT_non_tuple, Ev.isT_non_list, Ev.tyOk_non, Ev.isT_bl_int, Ev.isT_bl_bool, Ev.isT_bl_str, Ev.isT_bl_tuple, Ev.isT_bl_list, Ev.tyOk_bl, Ev.isT_int_int, Ev.isT_int_bool, Ev.isT_int_str, Ev.isT_int_tuple, Ev.isT_int_list, Ev.tyOk_int, Ev.isT_str_int, Ev.isT_str_bool, Ev.isT_str_str, Ev.isT_str_tuple, Ev.isT_str_list, Ev.tyOk_str, Ev.isT_tup_int, Ev.isT_tup_bool, Ev.isT_tup_str, Ev.isT_tup_tuple, Ev.isT_tup_list, Ev.tyOk_tup, Ev.isT_lst_int, Ev.isT_lst_bool, Ev.isT_lst_str, Ev.isT_lst_tuple, Ev.isT_lst_list, Ev.tyOk_lst, List.not_mem_nil, not_false_eq_true, List.nodup_cons, Bool.false_eq_true, ↓reduceIte, List.nodup_nil, true_and, and_true])
  simp only [L.cup]
  refine ⟨ns, rfl, hl, hb, fun a b hc => ?_⟩
  (simp (config := { maxSteps := 100000000 }) only [Ev.wS, Ev.wE.eq_1, Ev.wE.eq_2, Ev.wE.eq_3, Ev.wE.eq_4, Ev.wE.eq_6, Ev.wE.eq_7, Ev.wE.eq_8, Ev.wE.eq_9, Ev.wE.eq_10, Ev.wE.eq_11, Ev.wE.eq_12, Ev.wE.eq_13, Ev.wE.eq_14, Ev.wE.eq_15, Ev.wE.eq_16, Ev.wE.eq_17, Ev.wE.eq_18, Ev.wE.eq_19, Ev.wE.eq_20, Ev.wE.eq_21, Ev.wE.eq_22, Ev.wE.eq_23, Ev.wE.eq_24, Ev.wE.eq_25, Ev.wE.eq_26, Ev.wE.eq_27, Ev.wE_var, Ev.optK_some, Ev.selR_val, Ev.selR_own, Ev.rdS_val, Ev.rdS_own, Ev.fzS_val, Ev.fzS_own, Ev.argS_val, Ev.argS_own, Ev.wT, Ev.wAs, Ev.wEs, Ev.wI, Ev.wO, Ev.wG_nam, Ev.wG_tup, Ev.wGs_nil, Ev.wGs_cons, Ev.Tg.n, Ev.wipeE, Ev.restE, List.getD_cons_zero, List.getD_cons_succ, Ev.same2, Ev.items, Ev.rdK_val, Ev.rdK_tmp, Ev.rdK_at, Ev.rdsK, Ev.fzK_val, Ev.fzK_tmp, Ev.fzK_at, Ev.stW_val, Ev.stW_tmp, Ev.stW_bor, Ev.nbW_val, Ev.nbW_tmp, Ev.nbW_bor, Ev.binW_add, Ev.binW_sub, Ev.binW_mul, Ev.binW_div, Ev.binW_mod, Ev.binW_pow, Ev.binW_lst, Ev.binW_tup, Ev.binW_str, Ev.binW_rep, Ev.cmpW_lt, Ev.cmpW_le, Ev.cmpW_gt, Ev.cmpW_ge, Ev.cmpW_eq, Ev.cmpW_ne, Ev.cmpW_is, Ev.cmpW_isN, Ev.cmpW_inT, Ev.cmpW_inL, Ev.cmpW_niT, Ev.cmpW_niL, Ev.ixW_tup, Ev.ixW_lst, Ev.bltW_abs, Ev.bltW_int, Ev.bltW_gcd, Ev.bltW_lenT, Ev.bltW_lenL, Ev.bltW_scr, Ev.bltW_listL, Ev.bltW_listT, Ev.bltW_tupL, Ev.bltW_tupT, List.replicate, List.append_nil, List.cons_append, List.nil_append, List.getElem?_cons_zero, List.getElem?_cons_succ, List.length_cons, List.length_nil, List.set_cons_zero, List.set_cons_succ, Ev.argsOf, Ev.argOf_val, Ev.argOf_at, Ev.bors, Ev.backs_val, Ev.backs_bor, Ev.backs_nil, Ev.loses, Ev.retW_val, Ev.retW_tmp, Ev.parOf, Ev.outsOf, List.replicate_zero, Nat.sub_self, Ev.isOwnL, List.getElem?_nil, reduceCtorEq, decide_eq_true_eq, Ev.cmpOk_int, Ev.cmpOk_bl, Ev.cmpOk_non, Ev.cmpOk_nil, Ev.cmpOk_nilT, Ev.peq_int, Ev.peq_bl, Ev.peq_str, Ev.peq_non, Ev.peq_nil, Ev.peq_nilT, Ev.peq_consL, Ev.isT_non_int, Ev.isT_non_bool, Ev.isT_non_str, Ev.isT_non_tuple, Ev.isT_non_list, Ev.tyOk_non, Ev.isT_bl_int, Ev.isT_bl_bool, Ev.isT_bl_str, Ev.isT_bl_tuple, Ev.isT_bl_list, Ev.tyOk_bl, Ev.isT_int_int, Ev.isT_int_bool, Ev.isT_int_str, Ev.isT_int_tuple, Ev.isT_int_list, Ev.tyOk_int, Ev.isT_str_int, Ev.isT_str_bool, Ev.isT_str_str, Ev.isT_str_tuple, Ev.isT_str_list, Ev.tyOk_str, Ev.isT_tup_int, Ev.isT_tup_bool, Ev.isT_tup_str, Ev.isT_tup_tuple, Ev.isT_tup_list, Ev.tyOk_tup, Ev.isT_lst_int, Ev.isT_lst_bool, Ev.isT_lst_str, Ev.isT_lst_tuple, Ev.isT_lst_list, Ev.tyOk_lst, List.not_mem_nil, not_false_eq_true, List.nodup_cons, Bool.false_eq_true, ↓reduceIte, List.nodup_nil, true_and, and_true])
  unfold B_law_1
  (simp (config := { maxSteps := 100000000 }) only [Ev.wS, Ev.wE.eq_1, Ev.wE.eq_2, Ev.wE.eq_3, Ev.wE.eq_4, Ev.wE.eq_6, Ev.wE.eq_7, Ev.wE.eq_8, Ev.wE.eq_9, Ev.wE.eq_10, Ev.wE.eq_11, Ev.wE.eq_12, Ev.wE.eq_13, Ev.wE.eq_14, Ev.wE.eq_15, Ev.wE.eq_16, Ev.wE.eq_17, Ev.wE.eq_18, Ev.wE.eq_19, Ev.wE.eq_20, Ev.wE.eq_21, Ev.wE.eq_22, Ev.wE.eq_23, Ev.wE.eq_24, Ev.wE.eq_25, Ev.wE.eq_26, Ev.wE.eq_27, Ev.wE_var, Ev.optK_some, Ev.selR_val, Ev.selR_own, Ev.rdS_val, Ev.rdS_own, Ev.fzS_val, Ev.fzS_own, Ev.argS_val, Ev.argS_own, Ev.wT, Ev.wAs, Ev.wEs, Ev.wI, Ev.wO, Ev.wG_nam, Ev.wG_tup, Ev.wGs_nil, Ev.wGs_cons, Ev.Tg.n, Ev.wipeE, Ev.restE, List.getD_cons_zero, List.getD_cons_succ, Ev.same2, Ev.items, Ev.rdK_val, Ev.rdK_tmp, Ev.rdK_at, Ev.rdsK, Ev.fzK_val, Ev.fzK_tmp, Ev.fzK_at, Ev.stW_val, Ev.stW_tmp, Ev.stW_bor, Ev.nbW_val, Ev.nbW_tmp, Ev.nbW_bor, Ev.binW_add, Ev.binW_sub, Ev.binW_mul, Ev.binW_div, Ev.binW_mod, Ev.binW_pow, Ev.binW_lst, Ev.binW_tup, Ev.binW_str, Ev.binW_rep, Ev.cmpW_lt, Ev.cmpW_le, Ev.cmpW_gt, Ev.cmpW_ge, Ev.cmpW_eq, Ev.cmpW_ne, Ev.cmpW_is, Ev.cmpW_isN, Ev.cmpW_inT, Ev.cmpW_inL, Ev.cmpW_niT, Ev.cmpW_niL, Ev.ixW_tup, Ev.ixW_lst, Ev.bltW_abs, Ev.bltW_int, Ev.bltW_gcd, Ev.bltW_lenT, Ev.bltW_lenL, Ev.bltW_scr, Ev.bltW_listL, Ev.bltW_listT, Ev.bltW_tupL, Ev.bltW_tupT, List.replicate, List.append_nil, List.cons_append, List.nil_append, List.getElem?_cons_zero, List.getElem?_cons_succ, List.length_cons, List.length_nil, List.set_cons_zero, List.set_cons_succ, Ev.argsOf, Ev.argOf_val, Ev.argOf_at, Ev.bors, Ev.backs_val, Ev.backs_bor, Ev.backs_nil, Ev.loses, Ev.retW_val, Ev.retW_tmp, Ev.parOf, Ev.outsOf, List.replicate_zero, Nat.sub_self, Ev.isOwnL, List.getElem?_nil, reduceCtorEq, decide_eq_true_eq, Ev.cmpOk_int, Ev.cmpOk_bl, Ev.cmpOk_non, Ev.cmpOk_nil, Ev.cmpOk_nilT, Ev.peq_int, Ev.peq_bl, Ev.peq_str, Ev.peq_non, Ev.peq_nil, Ev.peq_nilT, Ev.peq_consL, Ev.isT_non_int, Ev.isT_non_bool, Ev.isT_non_str, Ev.isT_non_tuple, Ev.isT_non_list, Ev.tyOk_non, Ev.isT_bl_int, Ev.isT_bl_bool, Ev.isT_bl_str, Ev.isT_bl_tuple, Ev.isT_bl_list, Ev.tyOk_bl, Ev.isT_int_int, Ev.isT_int_bool, Ev.isT_int_str, Ev.isT_int_tuple, Ev.isT_int_list, Ev.tyOk_int, Ev.isT_str_int, Ev.isT_str_bool, Ev.isT_str_str, Ev.isT_str_tuple, Ev.isT_str_list, Ev.tyOk_str, Ev.isT_tup_int, Ev.isT_tup_bool, Ev.isT_tup_str, Ev.isT_tup_tuple, Ev.isT_tup_list, Ev.tyOk_tup, Ev.isT_lst_int, Ev.isT_lst_bool, Ev.isT_lst_str, Ev.isT_lst_tuple, Ev.isT_lst_list, Ev.tyOk_lst, List.not_mem_nil, not_false_eq_true, List.nodup_cons, Bool.false_eq_true, ↓reduceIte, List.nodup_nil, true_and, and_true])
  simp only [L.quo]
  refine ⟨a, b, rfl, hc, fun a1 b1 u v hc1 hq1 => ?_⟩
  (simp (config := { maxSteps := 100000000 }) only [Ev.wS, Ev.wE.eq_1, Ev.wE.eq_2, Ev.wE.eq_3, Ev.wE.eq_4, Ev.wE.eq_6, Ev.wE.eq_7, Ev.wE.eq_8, Ev.wE.eq_9, Ev.wE.eq_10, Ev.wE.eq_11, Ev.wE.eq_12, Ev.wE.eq_13, Ev.wE.eq_14, Ev.wE.eq_15, Ev.wE.eq_16, Ev.wE.eq_17, Ev.wE.eq_18, Ev.wE.eq_19, Ev.wE.eq_20, Ev.wE.eq_21, Ev.wE.eq_22, Ev.wE.eq_23, Ev.wE.eq_24, Ev.wE.eq_25, Ev.wE.eq_26, Ev.wE.eq_27, Ev.wE_var, Ev.optK_some, Ev.selR_val, Ev.selR_own, Ev.rdS_val, Ev.rdS_own, Ev.fzS_val, Ev.fzS_own, Ev.argS_val, Ev.argS_own, Ev.wT, Ev.wAs, Ev.wEs, Ev.wI, Ev.wO, Ev.wG_nam, Ev.wG_tup, Ev.wGs_nil, Ev.wGs_cons, Ev.Tg.n, Ev.wipeE, Ev.restE, List.getD_cons_zero, List.getD_cons_succ, Ev.same2, Ev.items, Ev.rdK_val, Ev.rdK_tmp, Ev.rdK_at, Ev.rdsK, Ev.fzK_val, Ev.fzK_tmp, Ev.fzK_at, Ev.stW_val, Ev.stW_tmp, Ev.stW_bor, Ev.nbW_val, Ev.nbW_tmp, Ev.nbW_bor, Ev.binW_add, Ev.binW_sub, Ev.binW_mul, Ev.binW_div, Ev.binW_mod, Ev.binW_pow, Ev.binW_lst, Ev.binW_tup, Ev.binW_str, Ev.binW_rep, Ev.cmpW_lt, Ev.cmpW_le, Ev.cmpW_gt, Ev.cmpW_ge, Ev.cmpW_eq, Ev.cmpW_ne, Ev.cmpW_is, Ev.cmpW_isN, Ev.cmpW_inT, Ev.cmpW_inL, Ev.cmpW_niT, Ev.cmpW_niL, Ev.ixW_tup, Ev.ixW_lst, Ev.bltW_abs, Ev.bltW_int, Ev.bltW_gcd, Ev.bltW_lenT, Ev.bltW_lenL, Ev.bltW_scr, Ev.bltW_listL, Ev.bltW_listT, Ev.bltW_tupL, Ev.bltW_tupT, List.replicate, List.append_nil, List.cons_append, List.nil_append, List.getElem?_cons_zero, List.getElem?_cons_succ, List.length_cons, List.length_nil, List.set_cons_zero, List.set_cons_succ, Ev.argsOf, Ev.argOf_val, Ev.argOf_at, Ev.bors, Ev.backs_val, Ev.backs_bor, Ev.backs_nil, Ev.loses, Ev.retW_val, Ev.retW_tmp, Ev.parOf, Ev.outsOf, List.replicate_zero, Nat.sub_self, Ev.isOwnL, List.getElem?_nil, reduceCtorEq, decide_eq_true_eq, Ev.cmpOk_int, Ev.cmpOk_bl, Ev.cmpOk_non, Ev.cmpOk_nil, Ev.cmpOk_nilT, Ev.peq_int, Ev.peq_bl, Ev.peq_str, Ev.peq_non, Ev.peq_nil, Ev.peq_nilT, Ev.peq_consL, Ev.isT_non_int, Ev.isT_non_bool, Ev.isT_non_str, Ev.isT_non_tuple, Ev.isT_non_list, Ev.tyOk_non, Ev.isT_bl_int, Ev.isT_bl_bool, Ev.isT_bl_str, Ev.isT_bl_tuple, Ev.isT_bl_list, Ev.tyOk_bl, Ev.isT_int_int, Ev.isT_int_bool, Ev.isT_int_str, Ev.isT_int_tuple, Ev.isT_int_list, Ev.tyOk_int, Ev.isT_str_int, Ev.isT_str_bool, Ev.isT_str_str, Ev.isT_str_tuple, Ev.isT_str_list, Ev.tyOk_str, Ev.isT_tup_int, Ev.isT_tup_bool, Ev.isT_tup_str, Ev.isT_tup_tuple, Ev.isT_tup_list, Ev.tyOk_tup, Ev.isT_lst_int, Ev.isT_lst_bool, Ev.isT_lst_str, Ev.isT_lst_tuple, Ev.isT_lst_list, Ev.tyOk_lst, List.not_mem_nil, not_false_eq_true, List.nodup_cons, Bool.false_eq_true, ↓reduceIte, List.nodup_nil, true_and, and_true])
  unfold B_law_2
  (simp (config := { maxSteps := 100000000 }) only [Ev.wS, Ev.wE.eq_1, Ev.wE.eq_2, Ev.wE.eq_3, Ev.wE.eq_4, Ev.wE.eq_6, Ev.wE.eq_7, Ev.wE.eq_8, Ev.wE.eq_9, Ev.wE.eq_10, Ev.wE.eq_11, Ev.wE.eq_12, Ev.wE.eq_13, Ev.wE.eq_14, Ev.wE.eq_15, Ev.wE.eq_16, Ev.wE.eq_17, Ev.wE.eq_18, Ev.wE.eq_19, Ev.wE.eq_20, Ev.wE.eq_21, Ev.wE.eq_22, Ev.wE.eq_23, Ev.wE.eq_24, Ev.wE.eq_25, Ev.wE.eq_26, Ev.wE.eq_27, Ev.wE_var, Ev.optK_some, Ev.selR_val, Ev.selR_own, Ev.rdS_val, Ev.rdS_own, Ev.fzS_val, Ev.fzS_own, Ev.argS_val, Ev.argS_own, Ev.wT, Ev.wAs, Ev.wEs, Ev.wI, Ev.wO, Ev.wG_nam, Ev.wG_tup, Ev.wGs_nil, Ev.wGs_cons, Ev.Tg.n, Ev.wipeE, Ev.restE, List.getD_cons_zero, List.getD_cons_succ, Ev.same2, Ev.items, Ev.rdK_val, Ev.rdK_tmp, Ev.rdK_at, Ev.rdsK, Ev.fzK_val, Ev.fzK_tmp, Ev.fzK_at, Ev.stW_val, Ev.stW_tmp, Ev.stW_bor, Ev.nbW_val, Ev.nbW_tmp, Ev.nbW_bor, Ev.binW_add, Ev.binW_sub, Ev.binW_mul, Ev.binW_div, Ev.binW_mod, Ev.binW_pow, Ev.binW_lst, Ev.binW_tup, Ev.binW_str, Ev.binW_rep, Ev.cmpW_lt, Ev.cmpW_le, Ev.cmpW_gt, Ev.cmpW_ge, Ev.cmpW_eq, Ev.cmpW_ne, Ev.cmpW_is, Ev.cmpW_isN, Ev.cmpW_inT, Ev.cmpW_inL, Ev.cmpW_niT, Ev.cmpW_niL, Ev.ixW_tup, Ev.ixW_lst, Ev.bltW_abs, Ev.bltW_int, Ev.bltW_gcd, Ev.bltW_lenT, Ev.bltW_lenL, Ev.bltW_scr, Ev.bltW_listL, Ev.bltW_listT, Ev.bltW_tupL, Ev.bltW_tupT, List.replicate, List.append_nil, List.cons_append, List.nil_append, List.getElem?_cons_zero, List.getElem?_cons_succ, List.length_cons, List.length_nil, List.set_cons_zero, List.set_cons_succ, Ev.argsOf, Ev.argOf_val, Ev.argOf_at, Ev.bors, Ev.backs_val, Ev.backs_bor, Ev.backs_nil, Ev.loses, Ev.retW_val, Ev.retW_tmp, Ev.parOf, Ev.outsOf, List.replicate_zero, Nat.sub_self, Ev.isOwnL, List.getElem?_nil, reduceCtorEq, decide_eq_true_eq, Ev.cmpOk_int, Ev.cmpOk_bl, Ev.cmpOk_non, Ev.cmpOk_nil, Ev.cmpOk_nilT, Ev.peq_int, Ev.peq_bl, Ev.peq_str, Ev.peq_non, Ev.peq_nil, Ev.peq_nilT, Ev.peq_consL, Ev.isT_non_int, Ev.isT_non_bool, Ev.isT_non_str, Ev.isT_non_tuple, Ev.isT_non_list, Ev.tyOk_non, Ev.isT_bl_int, Ev.isT_bl_bool, Ev.isT_bl_str, Ev.isT_bl_tuple, Ev.isT_bl_list, Ev.tyOk_bl, Ev.isT_int_int, Ev.isT_int_bool, Ev.isT_int_str, Ev.isT_int_tuple, Ev.isT_int_list, Ev.tyOk_int, Ev.isT_str_int, Ev.isT_str_bool, Ev.isT_str_str, Ev.isT_str_tuple, Ev.isT_str_list, Ev.tyOk_str, Ev.isT_tup_int, Ev.isT_tup_bool, Ev.isT_tup_str, Ev.isT_tup_tuple, Ev.isT_tup_list, Ev.tyOk_tup, Ev.isT_lst_int, Ev.isT_lst_bool, Ev.isT_lst_str, Ev.isT_lst_tuple, Ev.isT_lst_list, Ev.tyOk_lst, List.not_mem_nil, not_false_eq_true, List.nodup_cons, Bool.false_eq_true, ↓reduceIte, List.nodup_nil, true_and, and_true])
  refine ⟨by decide, loopF_inv (fun _ ρ => ∃ a b u v z3 z4, ρ = [.val (.scr ns), .own (.lst [.int a, .int b]), .val (.tup [.int u, .int v]), z3, z4, .un, .un, .un, .un, .un, .un, .un, .un] ∧ cupOk a b ∧ isQuoP (.tup [.int u, .int v]) = true) _ 0 _ ⟨a1, b1, u, v, _, _, rfl, hc1, hq1⟩ (fun i y ρ hy hi D' k1 _ _ _ => ?_) fun ρ h => ?_⟩
  · obtain ⟨a, b, u, v, z3, z4, rfl, hc, hq⟩ := hi
    (simp (config := { maxSteps := 100000000 }) only [Ev.wS, Ev.wE.eq_1, Ev.wE.eq_2, Ev.wE.eq_3, Ev.wE.eq_4, Ev.wE.eq_6, Ev.wE.eq_7, Ev.wE.eq_8, Ev.wE.eq_9, Ev.wE.eq_10, Ev.wE.eq_11, Ev.wE.eq_12, Ev.wE.eq_13, Ev.wE.eq_14, Ev.wE.eq_15, Ev.wE.eq_16, Ev.wE.eq_17, Ev.wE.eq_18, Ev.wE.eq_19, Ev.wE.eq_20, Ev.wE.eq_21, Ev.wE.eq_22, Ev.wE.eq_23, Ev.wE.eq_24, Ev.wE.eq_25, Ev.wE.eq_26, Ev.wE.eq_27, Ev.wE_var, Ev.optK_some, Ev.selR_val, Ev.selR_own, Ev.rdS_val, Ev.rdS_own, Ev.fzS_val, Ev.fzS_own, Ev.argS_val, Ev.argS_own, Ev.wT, Ev.wAs, Ev.wEs, Ev.wI, Ev.wO, Ev.wG_nam, Ev.wG_tup, Ev.wGs_nil, Ev.wGs_cons, Ev.Tg.n, Ev.wipeE, Ev.restE, List.getD_cons_zero, List.getD_cons_succ, Ev.same2, Ev.items, Ev.rdK_val, Ev.rdK_tmp, Ev.rdK_at, Ev.rdsK, Ev.fzK_val, Ev.fzK_tmp, Ev.fzK_at, Ev.stW_val, Ev.stW_tmp, Ev.stW_bor, Ev.nbW_val, Ev.nbW_tmp, Ev.nbW_bor, Ev.binW_add, Ev.binW_sub, Ev.binW_mul, Ev.binW_div, Ev.binW_mod, Ev.binW_pow, Ev.binW_lst, Ev.binW_tup, Ev.binW_str, Ev.binW_rep, Ev.cmpW_lt, Ev.cmpW_le, Ev.cmpW_gt, Ev.cmpW_ge, Ev.cmpW_eq, Ev.cmpW_ne, Ev.cmpW_is, Ev.cmpW_isN, Ev.cmpW_inT, Ev.cmpW_inL, Ev.cmpW_niT, Ev.cmpW_niL, Ev.ixW_tup, Ev.ixW_lst, Ev.bltW_abs, Ev.bltW_int, Ev.bltW_gcd, Ev.bltW_lenT, Ev.bltW_lenL, Ev.bltW_scr, Ev.bltW_listL, Ev.bltW_listT, Ev.bltW_tupL, Ev.bltW_tupT, List.replicate, List.append_nil, List.cons_append, List.nil_append, List.getElem?_cons_zero, List.getElem?_cons_succ, List.length_cons, List.length_nil, List.set_cons_zero, List.set_cons_succ, Ev.argsOf, Ev.argOf_val, Ev.argOf_at, Ev.bors, Ev.backs_val, Ev.backs_bor, Ev.backs_nil, Ev.loses, Ev.retW_val, Ev.retW_tmp, Ev.parOf, Ev.outsOf, List.replicate_zero, Nat.sub_self, Ev.isOwnL, List.getElem?_nil, reduceCtorEq, decide_eq_true_eq, Ev.cmpOk_int, Ev.cmpOk_bl, Ev.cmpOk_non, Ev.cmpOk_nil, Ev.cmpOk_nilT, Ev.peq_int, Ev.peq_bl, Ev.peq_str, Ev.peq_non, Ev.peq_nil, Ev.peq_nilT, Ev.peq_consL, Ev.isT_non_int, Ev.isT_non_bool, Ev.isT_non_str, Ev.isT_non_tuple, Ev.isT_non_list, Ev.tyOk_non, Ev.isT_bl_int, Ev.isT_bl_bool, Ev.isT_bl_str, Ev.isT_bl_tuple, Ev.isT_bl_list, Ev.tyOk_bl, Ev.isT_int_int, Ev.isT_int_bool, Ev.isT_int_str, Ev.isT_int_tuple, Ev.isT_int_list, Ev.tyOk_int, Ev.isT_str_int, Ev.isT_str_bool, Ev.isT_str_str, Ev.isT_str_tuple, Ev.isT_str_list, Ev.tyOk_str, Ev.isT_tup_int, Ev.isT_tup_bool, Ev.isT_tup_str, Ev.isT_tup_tuple, Ev.isT_tup_list, Ev.tyOk_tup, Ev.isT_lst_int, Ev.isT_lst_bool, Ev.isT_lst_str, Ev.isT_lst_tuple, Ev.isT_lst_list, Ev.tyOk_lst, List.not_mem_nil, not_false_eq_true, List.nodup_cons, Bool.false_eq_true, ↓reduceIte, List.nodup_nil, true_and, and_true])
    simp only [L.quo, L.pair]
    refine ⟨a, b, rfl, hc, fun a1 b1 u1 v1 hc1 hq1 => ?_⟩
    (simp (config := { maxSteps := 100000000 }) only [Ev.wS, Ev.wE.eq_1, Ev.wE.eq_2, Ev.wE.eq_3, Ev.wE.eq_4, Ev.wE.eq_6, Ev.wE.eq_7, Ev.wE.eq_8, Ev.wE.eq_9, Ev.wE.eq_10, Ev.wE.eq_11, Ev.wE.eq_12, Ev.wE.eq_13, Ev.wE.eq_14, Ev.wE.eq_15, Ev.wE.eq_16, Ev.wE.eq_17, Ev.wE.eq_18, Ev.wE.eq_19, Ev.wE.eq_20, Ev.wE.eq_21, Ev.wE.eq_22, Ev.wE.eq_23, Ev.wE.eq_24, Ev.wE.eq_25, Ev.wE.eq_26, Ev.wE.eq_27, Ev.wE_var, Ev.optK_some, Ev.selR_val, Ev.selR_own, Ev.rdS_val, Ev.rdS_own, Ev.fzS_val, Ev.fzS_own, Ev.argS_val, Ev.argS_own, Ev.wT, Ev.wAs, Ev.wEs, Ev.wI, Ev.wO, Ev.wG_nam, Ev.wG_tup, Ev.wGs_nil, Ev.wGs_cons, Ev.Tg.n, Ev.wipeE, Ev.restE, List.getD_cons_zero, List.getD_cons_succ, Ev.same2, Ev.items, Ev.rdK_val, Ev.rdK_tmp, Ev.rdK_at, Ev.rdsK, Ev.fzK_val, Ev.fzK_tmp, Ev.fzK_at, Ev.stW_val, Ev.stW_tmp, Ev.stW_bor, Ev.nbW_val, Ev.nbW_tmp, Ev.nbW_bor, Ev.binW_add, Ev.binW_sub, Ev.binW_mul, Ev.binW_div, Ev.binW_mod, Ev.binW_pow, Ev.binW_lst, Ev.binW_tup, Ev.binW_str, Ev.binW_rep, Ev.cmpW_lt, Ev.cmpW_le, Ev.cmpW_gt, Ev.cmpW_ge, Ev.cmpW_eq, Ev.cmpW_ne, Ev.cmpW_is, Ev.cmpW_isN, Ev.cmpW_inT, Ev.cmpW_inL, Ev.cmpW_niT, Ev.cmpW_niL, Ev.ixW_tup, Ev.ixW_lst, Ev.bltW_abs, Ev.bltW_int, Ev.bltW_gcd, Ev.bltW_lenT, Ev.bltW_lenL, Ev.bltW_scr, Ev.bltW_listL, Ev.bltW_listT, Ev.bltW_tupL, Ev.bltW_tupT, List.replicate, List.append_nil, List.cons_append, List.nil_append, List.getElem?_cons_zero, List.getElem?_cons_succ, List.length_cons, List.length_nil, List.set_cons_zero, List.set_cons_succ, Ev.argsOf, Ev.argOf_val, Ev.argOf_at, Ev.bors, Ev.backs_val, Ev.backs_bor, Ev.backs_nil, Ev.loses, Ev.retW_val, Ev.retW_tmp, Ev.parOf, Ev.outsOf, List.replicate_zero, Nat.sub_self, Ev.isOwnL, List.getElem?_nil, reduceCtorEq, decide_eq_true_eq, Ev.cmpOk_int, Ev.cmpOk_bl, Ev.cmpOk_non, Ev.cmpOk_nil, Ev.cmpOk_nilT, Ev.peq_int, Ev.peq_bl, Ev.peq_str, Ev.peq_non, Ev.peq_nil, Ev.peq_nilT, Ev.peq_consL, Ev.isT_non_int, Ev.isT_non_bool, Ev.isT_non_str, Ev.isT_non_tuple, Ev.isT_non_list, Ev.tyOk_non, Ev.isT_bl_int, Ev.isT_bl_bool, Ev.isT_bl_str, Ev.isT_bl_tuple, Ev.isT_bl_list, Ev.tyOk_bl, Ev.isT_int_int, Ev.isT_int_bool, Ev.isT_int_str, Ev.isT_int_tuple, Ev.isT_int_list, Ev.tyOk_int, Ev.isT_str_int, Ev.isT_str_bool, Ev.isT_str_str, Ev.isT_str_tuple, Ev.isT_str_list, Ev.tyOk_str, Ev.isT_tup_int, Ev.isT_tup_bool, Ev.isT_tup_str, Ev.isT_tup_tuple, Ev.isT_tup_list, Ev.tyOk_tup, Ev.isT_lst_int, Ev.isT_lst_bool, Ev.isT_lst_str, Ev.isT_lst_tuple, Ev.isT_lst_list, Ev.tyOk_lst, List.not_mem_nil, not_false_eq_true, List.nodup_cons, Bool.false_eq_true, ↓reduceIte, List.nodup_nil, true_and, and_true])
    refine ⟨_, _, _, _, rfl, hq1, hq, ?_⟩
    (simp (config := { maxSteps := 100000000 }) only [Ev.wS, Ev.wE.eq_1, Ev.wE.eq_2, Ev.wE.eq_3, Ev.wE.eq_4, Ev.wE.eq_6, Ev.wE.eq_7, Ev.wE.eq_8, Ev.wE.eq_9, Ev.wE.eq_10, Ev.wE.eq_11, Ev.wE.eq_12, Ev.wE.eq_13, Ev.wE.eq_14, Ev.wE.eq_15, Ev.wE.eq_16, Ev.wE.eq_17, Ev.wE.eq_18, Ev.wE.eq_19, Ev.wE.eq_20, Ev.wE.eq_21, Ev.wE.eq_22, Ev.wE.eq_23, Ev.wE.eq_24, Ev.wE.eq_25, Ev.wE.eq_26, Ev.wE.eq_27, Ev.wE_var, Ev.optK_some, Ev.selR_val, Ev.selR_own, Ev.rdS_val, Ev.rdS_own, Ev.fzS_val, Ev.fzS_own, Ev.argS_val, Ev.argS_own, Ev.wT, Ev.wAs, Ev.wEs, Ev.wI, Ev.wO, Ev.wG_nam, Ev.wG_tup, Ev.wGs_nil, Ev.wGs_cons, Ev.Tg.n, Ev.wipeE, Ev.restE, List.getD_cons_zero, List.getD_cons_succ, Ev.same2, Ev.items, Ev.rdK_val, Ev.rdK_tmp, Ev.rdK_at, Ev.rdsK, Ev.fzK_val, Ev.fzK_tmp, Ev.fzK_at, Ev.stW_val, Ev.stW_tmp, Ev.stW_bor, Ev.nbW_val, Ev.nbW_tmp, Ev.nbW_bor, Ev.binW_add, Ev.binW_sub, Ev.binW_mul, Ev.binW_div, Ev.binW_mod, Ev.binW_pow, Ev.binW_lst, Ev.binW_tup, Ev.binW_str, Ev.binW_rep, Ev.cmpW_lt, Ev.cmpW_le, Ev.cmpW_gt, Ev.cmpW_ge, Ev.cmpW_eq, Ev.cmpW_ne, Ev.cmpW_is, Ev.cmpW_isN, Ev.cmpW_inT, Ev.cmpW_inL, Ev.cmpW_niT, Ev.cmpW_niL, Ev.ixW_tup, Ev.ixW_lst, Ev.bltW_abs, Ev.bltW_int, Ev.bltW_gcd, Ev.bltW_lenT, Ev.bltW_lenL, Ev.bltW_scr, Ev.bltW_listL, Ev.bltW_listT, Ev.bltW_tupL, Ev.bltW_tupT, List.replicate, List.append_nil, List.cons_append, List.nil_append, List.getElem?_cons_zero, List.getElem?_cons_succ, List.length_cons, List.length_nil, List.set_cons_zero, List.set_cons_succ, Ev.argsOf, Ev.argOf_val, Ev.argOf_at, Ev.bors, Ev.backs_val, Ev.backs_bor, Ev.backs_nil, Ev.loses, Ev.retW_val, Ev.retW_tmp, Ev.parOf, Ev.outsOf, List.replicate_zero, Nat.sub_self, Ev.isOwnL, List.getElem?_nil, reduceCtorEq, decide_eq_true_eq, Ev.cmpOk_int, Ev.cmpOk_bl, Ev.cmpOk_non, Ev.cmpOk_nil, Ev.cmpOk_nilT, Ev.peq_int, Ev.peq_bl, Ev.peq_str, Ev.peq_non, Ev.peq_nil, Ev.peq_nilT, Ev.peq_consL, Ev.isT_non_int, Ev.isT_non_bool, Ev.isT_non_str, Ev.isT_non_tuple, Ev.isT_non_list, Ev.tyOk_non, Ev.isT_bl_int, Ev.isT_bl_bool, Ev.isT_bl_str, Ev.isT_bl_tuple, Ev.isT_bl_list, Ev.tyOk_bl, Ev.isT_int_int, Ev.isT_int_bool, Ev.isT_int_str, Ev.isT_int_tuple, Ev.isT_int_list, Ev.tyOk_int, Ev.isT_str_int, Ev.isT_str_bool, Ev.isT_str_str, Ev.isT_str_tuple, Ev.isT_str_list, Ev.tyOk_str, Ev.isT_tup_int, Ev.isT_tup_bool, Ev.isT_tup_str, Ev.isT_tup_tuple, Ev.isT_tup_list, Ev.tyOk_tup, Ev.isT_lst_int, Ev.isT_lst_bool, Ev.isT_lst_str, Ev.isT_lst_tuple, Ev.isT_lst_list, Ev.tyOk_lst, List.not_mem_nil, not_false_eq_true, List.nodup_cons, Bool.false_eq_true, ↓reduceIte, List.nodup_nil, true_and, and_true])
    refine ⟨_, _, _, _, rfl, hq, hq1, ?_⟩
    (simp (config := { maxSteps := 100000000 }) only [Ev.wS, Ev.wE.eq_1, Ev.wE.eq_2, Ev.wE.eq_3, Ev.wE.eq_4, Ev.wE.eq_6, Ev.wE.eq_7, Ev.wE.eq_8, Ev.wE.eq_9, Ev.wE.eq_10, Ev.wE.eq_11, Ev.wE.eq_12, Ev.wE.eq_13, Ev.wE.eq_14, Ev.wE.eq_15, Ev.wE.eq_16, Ev.wE.eq_17, Ev.wE.eq_18, Ev.wE.eq_19, Ev.wE.eq_20, Ev.wE.eq_21, Ev.wE.eq_22, Ev.wE.eq_23, Ev.wE.eq_24, Ev.wE.eq_25, Ev.wE.eq_26, Ev.wE.eq_27, Ev.wE_var, Ev.optK_some, Ev.selR_val, Ev.selR_own, Ev.rdS_val, Ev.rdS_own, Ev.fzS_val, Ev.fzS_own, Ev.argS_val, Ev.argS_own, Ev.wT, Ev.wAs, Ev.wEs, Ev.wI, Ev.wO, Ev.wG_nam, Ev.wG_tup, Ev.wGs_nil, Ev.wGs_cons, Ev.Tg.n, Ev.wipeE, Ev.restE, List.getD_cons_zero, List.getD_cons_succ, Ev.same2, Ev.items, Ev.rdK_val, Ev.rdK_tmp, Ev.rdK_at, Ev.rdsK, Ev.fzK_val, Ev.fzK_tmp, Ev.fzK_at, Ev.stW_val, Ev.stW_tmp, Ev.stW_bor, Ev.nbW_val, Ev.nbW_tmp, Ev.nbW_bor, Ev.binW_add, Ev.binW_sub, Ev.binW_mul, Ev.binW_div, Ev.binW_mod, Ev.binW_pow, Ev.binW_lst, Ev.binW_tup, Ev.binW_str, Ev.binW_rep, Ev.cmpW_lt, Ev.cmpW_le, Ev.cmpW_gt, Ev.cmpW_ge, Ev.cmpW_eq, Ev.cmpW_ne, Ev.cmpW_is, Ev.cmpW_isN, Ev.cmpW_inT, Ev.cmpW_inL, Ev.cmpW_niT, Ev.cmpW_niL, Ev.ixW_tup, Ev.ixW_lst, Ev.bltW_abs, Ev.bltW_int, Ev.bltW_gcd, Ev.bltW_lenT, Ev.bltW_lenL, Ev.bltW_scr, Ev.bltW_listL, Ev.bltW_listT, Ev.bltW_tupL, Ev.bltW_tupT, List.replicate, List.append_nil, List.cons_append, List.nil_append, List.getElem?_cons_zero, List.getElem?_cons_succ, List.length_cons, List.length_nil, List.set_cons_zero, List.set_cons_succ, Ev.argsOf, Ev.argOf_val, Ev.argOf_at, Ev.bors, Ev.backs_val, Ev.backs_bor, Ev.backs_nil, Ev.loses, Ev.retW_val, Ev.retW_tmp, Ev.parOf, Ev.outsOf, List.replicate_zero, Nat.sub_self, Ev.isOwnL, List.getElem?_nil, reduceCtorEq, decide_eq_true_eq, Ev.cmpOk_int, Ev.cmpOk_bl, Ev.cmpOk_non, Ev.cmpOk_nil, Ev.cmpOk_nilT, Ev.peq_int, Ev.peq_bl, Ev.peq_str, Ev.peq_non, Ev.peq_nil, Ev.peq_nilT, Ev.peq_consL, Ev.isT_non_int, Ev.isT_non_bool, Ev.isT_non_str, Ev.isT_non_tuple, Ev.isT_non_list, Ev.tyOk_non, Ev.isT_bl_int, Ev.isT_bl_bool, Ev.isT_bl_str, Ev.isT_bl_tuple, Ev.isT_bl_list, Ev.tyOk_bl, Ev.isT_int_int, Ev.isT_int_bool, Ev.isT_int_str, Ev.isT_int_tuple, Ev.isT_int_list, Ev.tyOk_int, Ev.isT_str_int, Ev.isT_str_bool, Ev.isT_str_str, Ev.isT_str_tuple, Ev.isT_str_list, Ev.tyOk_str, Ev.isT_tup_int, Ev.isT_tup_bool, Ev.isT_tup_str, Ev.isT_tup_tuple, Ev.isT_tup_list, Ev.tyOk_tup, Ev.isT_lst_int, Ev.isT_lst_bool, Ev.isT_lst_str, Ev.isT_lst_tuple, Ev.isT_lst_list, Ev.tyOk_lst, List.not_mem_nil, not_false_eq_true, List.nodup_cons, Bool.false_eq_true, ↓reduceIte, List.nodup_nil, true_and, and_true])
    refine ⟨_, _, _, _, rfl, hq1, hq1, ?_⟩
    (simp (config := { maxSteps := 100000000 }) only [Ev.wS, Ev.wE.eq_1, Ev.wE.eq_2, Ev.wE.eq_3, Ev.wE.eq_4, Ev.wE.eq_6, Ev.wE.eq_7, Ev.wE.eq_8, Ev.wE.eq_9, Ev.wE.eq_10, Ev.wE.eq_11, Ev.wE.eq_12, Ev.wE.eq_13, Ev.wE.eq_14, Ev.wE.eq_15, Ev.wE.eq_16, Ev.wE.eq_17, Ev.wE.eq_18, Ev.wE.eq_19, Ev.wE.eq_20, Ev.wE.eq_21, Ev.wE.eq_22, Ev.wE.eq_23, Ev.wE.eq_24, Ev.wE.eq_25, Ev.wE.eq_26, Ev.wE.eq_27, Ev.wE_var, Ev.optK_some, Ev.selR_val, Ev.selR_own, Ev.rdS_val, Ev.rdS_own, Ev.fzS_val, Ev.fzS_own, Ev.argS_val, Ev.argS_own, Ev.wT, Ev.wAs, Ev.wEs, Ev.wI, Ev.wO, Ev.wG_nam, Ev.wG_tup, Ev.wGs_nil, Ev.wGs_cons, Ev.Tg.n, Ev.wipeE, Ev.restE, List.getD_cons_zero, List.getD_cons_succ, Ev.same2, Ev.items, Ev.rdK_val, Ev.rdK_tmp, Ev.rdK_at, Ev.rdsK, Ev.fzK_val, Ev.fzK_tmp, Ev.fzK_at, Ev.stW_val, Ev.stW_tmp, Ev.stW_bor, Ev.nbW_val, Ev.nbW_tmp, Ev.nbW_bor, Ev.binW_add, Ev.binW_sub, Ev.binW_mul, Ev.binW_div, Ev.binW_mod, Ev.binW_pow, Ev.binW_lst, Ev.binW_tup, Ev.binW_str, Ev.binW_rep, Ev.cmpW_lt, Ev.cmpW_le, Ev.cmpW_gt, Ev.cmpW_ge, Ev.cmpW_eq, Ev.cmpW_ne, Ev.cmpW_is, Ev.cmpW_isN, Ev.cmpW_inT, Ev.cmpW_inL, Ev.cmpW_niT, Ev.cmpW_niL, Ev.ixW_tup, Ev.ixW_lst, Ev.bltW_abs, Ev.bltW_int, Ev.bltW_gcd, Ev.bltW_lenT, Ev.bltW_lenL, Ev.bltW_scr, Ev.bltW_listL, Ev.bltW_listT, Ev.bltW_tupL, Ev.bltW_tupT, List.replicate, List.append_nil, List.cons_append, List.nil_append, List.getElem?_cons_zero, List.getElem?_cons_succ, List.length_cons, List.length_nil, List.set_cons_zero, List.set_cons_succ, Ev.argsOf, Ev.argOf_val, Ev.argOf_at, Ev.bors, Ev.backs_val, Ev.backs_bor, Ev.backs_nil, Ev.loses, Ev.retW_val, Ev.retW_tmp, Ev.parOf, Ev.outsOf, List.replicate_zero, Nat.sub_self, Ev.isOwnL, List.getElem?_nil, reduceCtorEq, decide_eq_true_eq, Ev.cmpOk_int, Ev.cmpOk_bl, Ev.cmpOk_non, Ev.cmpOk_nil, Ev.cmpOk_nilT, Ev.peq_int, Ev.peq_bl, Ev.peq_str, Ev.peq_non, Ev.peq_nil, Ev.peq_nilT, Ev.peq_consL, Ev.isT_non_int, Ev.isT_non_bool, Ev.isT_non_str, Ev.isT_non_tuple, Ev.isT_non_list, Ev.tyOk_non, Ev.isT_bl_int, Ev.isT_bl_bool, Ev.isT_bl_str, Ev.isT_bl_tuple, Ev.isT_bl_list, Ev.tyOk_bl, Ev.isT_int_int, Ev.isT_int_bool, Ev.isT_int_str, Ev.isT_int_tuple, Ev.isT_int_list, Ev.tyOk_int, Ev.isT_str_int, Ev.isT_str_bool, Ev.isT_str_str, Ev.isT_str_tuple, Ev.isT_str_list, Ev.tyOk_str, Ev.isT_tup_int, Ev.isT_tup_bool, Ev.isT_tup_str, Ev.isT_tup_tuple, Ev.isT_tup_list, Ev.tyOk_tup, Ev.isT_lst_int, Ev.isT_lst_bool, Ev.isT_lst_str, Ev.isT_lst_tuple, Ev.isT_lst_list, Ev.tyOk_lst, List.not_mem_nil, not_false_eq_true, List.nodup_cons, Bool.false_eq_true, ↓reduceIte, List.nodup_nil, true_and, and_true])
    exact k1 _ ⟨a1, b1, u1, v1, _, _, rfl, hc1, hq1⟩
  obtain ⟨a, b, u, v, z3, z4, rfl, hc, hq⟩ := h
  unfold B_law_3
  (simp (config := { maxSteps := 100000000 }) only [Ev.wS, Ev.wE.eq_1, Ev.wE.eq_2, Ev.wE.eq_3, Ev.wE.eq_4, Ev.wE.eq_6, Ev.wE.eq_7, Ev.wE.eq_8, Ev.wE.eq_9, Ev.wE.eq_10, Ev.wE.eq_11, Ev.wE.eq_12, Ev.wE.eq_13, Ev.wE.eq_14, Ev.wE.eq_15, Ev.wE.eq_16, Ev.wE.eq_17, Ev.wE.eq_18, Ev.wE.eq_19, Ev.wE.eq_20, Ev.wE.eq_21, Ev.wE.eq_22, Ev.wE.eq_23, Ev.wE.eq_24, Ev.wE.eq_25, Ev.wE.eq_26, Ev.wE.eq_27, Ev.wE_var, Ev.optK_some, Ev.selR_val, Ev.selR_own, Ev.rdS_val, Ev.rdS_own, Ev.fzS_val, Ev.fzS_own, Ev.argS_val, Ev.argS_own, Ev.wT, Ev.wAs, Ev.wEs, Ev.wI, Ev.wO, Ev.wG_nam, Ev.wG_tup, Ev.wGs_nil, Ev.wGs_cons, Ev.Tg.n, Ev.wipeE, Ev.restE, List.getD_cons_zero, List.getD_cons_succ, Ev.same2, Ev.items, Ev.rdK_val, Ev.rdK_tmp, Ev.rdK_at, Ev.rdsK, Ev.fzK_val, Ev.fzK_tmp, Ev.fzK_at, Ev.stW_val, Ev.stW_tmp, Ev.stW_bor, Ev.nbW_val, Ev.nbW_tmp, Ev.nbW_bor, Ev.binW_add, Ev.binW_sub, Ev.binW_mul, Ev.binW_div, Ev.binW_mod, Ev.binW_pow, Ev.binW_lst, Ev.binW_tup, Ev.binW_str, Ev.binW_rep, Ev.cmpW_lt, Ev.cmpW_le, Ev.cmpW_gt, Ev.cmpW_ge, Ev.cmpW_eq, Ev.cmpW_ne, Ev.cmpW_is, Ev.cmpW_isN, Ev.cmpW_inT, Ev.cmpW_inL, Ev.cmpW_niT, Ev.cmpW_niL, Ev.ixW_tup, Ev.ixW_lst, Ev.bltW_abs, Ev.bltW_int, Ev.bltW_gcd, Ev.bltW_lenT, Ev.bltW_lenL, Ev.bltW_scr, Ev.bltW_listL, Ev.bltW_listT, Ev.bltW_tupL, Ev.bltW_tupT, List.replicate, List.append_nil, List.cons_append, List.nil_append, List.getElem?_cons_zero, List.getElem?_cons_succ, List.length_cons, List.length_nil, List.set_cons_zero, List.set_cons_succ, Ev.argsOf, Ev.argOf_val, Ev.argOf_at, Ev.bors, Ev.backs_val, Ev.backs_bor, Ev.backs_nil, Ev.loses, Ev.retW_val, Ev.retW_tmp, Ev.parOf, Ev.outsOf, List.replicate_zero, Nat.sub_self, Ev.isOwnL, List.getElem?_nil, reduceCtorEq, decide_eq_true_eq, Ev.cmpOk_int, Ev.cmpOk_bl, Ev.cmpOk_non, Ev.cmpOk_nil, Ev.cmpOk_nilT, Ev.peq_int, Ev.peq_bl, Ev.peq_str, Ev.peq_non, Ev.peq_nil, Ev.peq_nilT, Ev.peq_consL, Ev.isT_non_int, Ev.isT_non_bool, Ev.isT_non_str, Ev.isT_non_tuple, Ev.isT_non_list, Ev.tyOk_non, Ev.isT_bl_int, Ev.isT_bl_bool, Ev.isT_bl_str, Ev.isT_bl_tuple, Ev.isT_bl_list, Ev.tyOk_bl, Ev.isT_int_int, Ev.isT_int_bool, Ev.isT_int_str, Ev.isT_int_tuple, Ev.isT_int_list, Ev.tyOk_int, Ev.isT_str_int, Ev.isT_str_bool, Ev.isT_str_str, Ev.isT_str_tuple, Ev.isT_str_list, Ev.tyOk_str, Ev.isT_tup_int, Ev.isT_tup_bool, Ev.isT_tup_str, Ev.isT_tup_tuple, Ev.isT_tup_list, Ev.tyOk_tup, Ev.isT_lst_int, Ev.isT_lst_bool, Ev.isT_lst_str, Ev.isT_lst_tuple, Ev.isT_lst_list, Ev.tyOk_lst, List.not_mem_nil, not_false_eq_true, List.nodup_cons, Bool.false_eq_true, ↓reduceIte, List.nodup_nil, true_and, and_true])
  have p60 : CPow 10 60 := by unfold CPow; decide
  have e60 : (10 : Int) ^ (60 : Int).toNat = GR := by decide
  rw [e60]
  refine ⟨p60, ?_⟩
  unfold B_law_4
  (simp (config := { maxSteps := 100000000 }) only [Ev.wS, Ev.wE.eq_1, Ev.wE.eq_2, Ev.wE.eq_3, Ev.wE.eq_4, Ev.wE.eq_6, Ev.wE.eq_7, Ev.wE.eq_8, Ev.wE.eq_9, Ev.wE.eq_10, Ev.wE.eq_11, Ev.wE.eq_12, Ev.wE.eq_13, Ev.wE.eq_14, Ev.wE.eq_15, Ev.wE.eq_16, Ev.wE.eq_17, Ev.wE.eq_18, Ev.wE.eq_19, Ev.wE.eq_20, Ev.wE.eq_21, Ev.wE.eq_22, Ev.wE.eq_23, Ev.wE.eq_24, Ev.wE.eq_25, Ev.wE.eq_26, Ev.wE.eq_27, Ev.wE_var, Ev.optK_some, Ev.selR_val, Ev.selR_own, Ev.rdS_val, Ev.rdS_own, Ev.fzS_val, Ev.fzS_own, Ev.argS_val, Ev.argS_own, Ev.wT, Ev.wAs, Ev.wEs, Ev.wI, Ev.wO, Ev.wG_nam, Ev.wG_tup, Ev.wGs_nil, Ev.wGs_cons, Ev.Tg.n, Ev.wipeE, Ev.restE, List.getD_cons_zero, List.getD_cons_succ, Ev.same2, Ev.items, Ev.rdK_val, Ev.rdK_tmp, Ev.rdK_at, Ev.rdsK, Ev.fzK_val, Ev.fzK_tmp, Ev.fzK_at, Ev.stW_val, Ev.stW_tmp, Ev.stW_bor, Ev.nbW_val, Ev.nbW_tmp, Ev.nbW_bor, Ev.binW_add, Ev.binW_sub, Ev.binW_mul, Ev.binW_div, Ev.binW_mod, Ev.binW_pow, Ev.binW_lst, Ev.binW_tup, Ev.binW_str, Ev.binW_rep, Ev.cmpW_lt, Ev.cmpW_le, Ev.cmpW_gt, Ev.cmpW_ge, Ev.cmpW_eq, Ev.cmpW_ne, Ev.cmpW_is, Ev.cmpW_isN, Ev.cmpW_inT, Ev.cmpW_inL, Ev.cmpW_niT, Ev.cmpW_niL, Ev.ixW_tup, Ev.ixW_lst, Ev.bltW_abs, Ev.bltW_int, Ev.bltW_gcd, Ev.bltW_lenT, Ev.bltW_lenL, Ev.bltW_scr, Ev.bltW_listL, Ev.bltW_listT, Ev.bltW_tupL, Ev.bltW_tupT, List.replicate, List.append_nil, List.cons_append, List.nil_append, List.getElem?_cons_zero, List.getElem?_cons_succ, List.length_cons, List.length_nil, List.set_cons_zero, List.set_cons_succ, Ev.argsOf, Ev.argOf_val, Ev.argOf_at, Ev.bors, Ev.backs_val, Ev.backs_bor, Ev.backs_nil, Ev.loses, Ev.retW_val, Ev.retW_tmp, Ev.parOf, Ev.outsOf, List.replicate_zero, Nat.sub_self, Ev.isOwnL, List.getElem?_nil, reduceCtorEq, decide_eq_true_eq, Ev.cmpOk_int, Ev.cmpOk_bl, Ev.cmpOk_non, Ev.cmpOk_nil, Ev.cmpOk_nilT, Ev.peq_int, Ev.peq_bl, Ev.peq_str, Ev.peq_non, Ev.peq_nil, Ev.peq_nilT, Ev.peq_consL, Ev.isT_non_int, Ev.isT_non_bool, Ev.isT_non_str, Ev.isT_non_tuple, Ev.isT_non_list, Ev.tyOk_non, Ev.isT_bl_int, Ev.isT_bl_bool, Ev.isT_bl_str, Ev.isT_bl_tuple, Ev.isT_bl_list, Ev.tyOk_bl, Ev.isT_int_int, Ev.isT_int_bool, Ev.isT_int_str, Ev.isT_int_tuple, Ev.isT_int_list, Ev.tyOk_int, Ev.isT_str_int, Ev.isT_str_bool, Ev.isT_str_str, Ev.isT_str_tuple, Ev.isT_str_list, Ev.tyOk_str, Ev.isT_tup_int, Ev.isT_tup_bool, Ev.isT_tup_str, Ev.isT_tup_tuple, Ev.isT_tup_list, Ev.tyOk_tup, Ev.isT_lst_int, Ev.isT_lst_bool, Ev.isT_lst_str, Ev.isT_lst_tuple, Ev.isT_lst_list, Ev.tyOk_lst, List.not_mem_nil, not_false_eq_true, List.nodup_cons, Bool.false_eq_true, ↓reduceIte, List.nodup_nil, true_and, and_true])
  simp only [L.q, L.sum, L.by_]
  refine quot_ok (by decide +kernel) (by decide +kernel) (by decide) ?_
  rw [t1]
  (simp (config := { maxSteps := 100000000 }) only [Ev.wS, Ev.wE.eq_1, Ev.wE.eq_2, Ev.wE.eq_3, Ev.wE.eq_4, Ev.wE.eq_6, Ev.wE.eq_7, Ev.wE.eq_8, Ev.wE.eq_9, Ev.wE.eq_10, Ev.wE.eq_11, Ev.wE.eq_12, Ev.wE.eq_13, Ev.wE.eq_14, Ev.wE.eq_15, Ev.wE.eq_16, Ev.wE.eq_17, Ev.wE.eq_18, Ev.wE.eq_19, Ev.wE.eq_20, Ev.wE.eq_21, Ev.wE.eq_22, Ev.wE.eq_23, Ev.wE.eq_24, Ev.wE.eq_25, Ev.wE.eq_26, Ev.wE.eq_27, Ev.wE_var, Ev.optK_some, Ev.selR_val, Ev.selR_own, Ev.rdS_val, Ev.rdS_own, Ev.fzS_val, Ev.fzS_own, Ev.argS_val, Ev.argS_own, Ev.wT, Ev.wAs, Ev.wEs, Ev.wI, Ev.wO, Ev.wG_nam, Ev.wG_tup, Ev.wGs_nil, Ev.wGs_cons, Ev.Tg.n, Ev.wipeE, Ev.restE, List.getD_cons_zero, List.getD_cons_succ, Ev.same2, Ev.items, Ev.rdK_val, Ev.rdK_tmp, Ev.rdK_at, Ev.rdsK, Ev.fzK_val, Ev.fzK_tmp, Ev.fzK_at, Ev.stW_val, Ev.stW_tmp, Ev.stW_bor, Ev.nbW_val, Ev.nbW_tmp, Ev.nbW_bor, Ev.binW_add, Ev.binW_sub, Ev.binW_mul, Ev.binW_div, Ev.binW_mod, Ev.binW_pow, Ev.binW_lst, Ev.binW_tup, Ev.binW_str, Ev.binW_rep, Ev.cmpW_lt, Ev.cmpW_le, Ev.cmpW_gt, Ev.cmpW_ge, Ev.cmpW_eq, Ev.cmpW_ne, Ev.cmpW_is, Ev.cmpW_isN, Ev.cmpW_inT, Ev.cmpW_inL, Ev.cmpW_niT, Ev.cmpW_niL, Ev.ixW_tup, Ev.ixW_lst, Ev.bltW_abs, Ev.bltW_int, Ev.bltW_gcd, Ev.bltW_lenT, Ev.bltW_lenL, Ev.bltW_scr, Ev.bltW_listL, Ev.bltW_listT, Ev.bltW_tupL, Ev.bltW_tupT, List.replicate, List.append_nil, List.cons_append, List.nil_append, List.getElem?_cons_zero, List.getElem?_cons_succ, List.length_cons, List.length_nil, List.set_cons_zero, List.set_cons_succ, Ev.argsOf, Ev.argOf_val, Ev.argOf_at, Ev.bors, Ev.backs_val, Ev.backs_bor, Ev.backs_nil, Ev.loses, Ev.retW_val, Ev.retW_tmp, Ev.parOf, Ev.outsOf, List.replicate_zero, Nat.sub_self, Ev.isOwnL, List.getElem?_nil, reduceCtorEq, decide_eq_true_eq, Ev.cmpOk_int, Ev.cmpOk_bl, Ev.cmpOk_non, Ev.cmpOk_nil, Ev.cmpOk_nilT, Ev.peq_int, Ev.peq_bl, Ev.peq_str, Ev.peq_non, Ev.peq_nil, Ev.peq_nilT, Ev.peq_consL, Ev.isT_non_int, Ev.isT_non_bool, Ev.isT_non_str, Ev.isT_non_tuple, Ev.isT_non_list, Ev.tyOk_non, Ev.isT_bl_int, Ev.isT_bl_bool, Ev.isT_bl_str, Ev.isT_bl_tuple, Ev.isT_bl_list, Ev.tyOk_bl, Ev.isT_int_int, Ev.isT_int_bool, Ev.isT_int_str, Ev.isT_int_tuple, Ev.isT_int_list, Ev.tyOk_int, Ev.isT_str_int, Ev.isT_str_bool, Ev.isT_str_str, Ev.isT_str_tuple, Ev.isT_str_list, Ev.tyOk_str, Ev.isT_tup_int, Ev.isT_tup_bool, Ev.isT_tup_str, Ev.isT_tup_tuple, Ev.isT_tup_list, Ev.tyOk_tup, Ev.isT_lst_int, Ev.isT_lst_bool, Ev.isT_lst_str, Ev.isT_lst_tuple, Ev.isT_lst_list, Ev.tyOk_lst, List.not_mem_nil, not_false_eq_true, List.nodup_cons, Bool.false_eq_true, ↓reduceIte, List.nodup_nil, true_and, and_true])
  refine quot_ok (by decide +kernel) (by decide +kernel) (by decide) ?_
  rw [t2]
  (simp (config := { maxSteps := 100000000 }) only [Ev.wS, Ev.wE.eq_1, Ev.wE.eq_2, Ev.wE.eq_3, Ev.wE.eq_4, Ev.wE.eq_6, Ev.wE.eq_7, Ev.wE.eq_8, Ev.wE.eq_9, Ev.wE.eq_10, Ev.wE.eq_11, Ev.wE.eq_12, Ev.wE.eq_13, Ev.wE.eq_14, Ev.wE.eq_15, Ev.wE.eq_16, Ev.wE.eq_17, Ev.wE.eq_18, Ev.wE.eq_19, Ev.wE.eq_20, Ev.wE.eq_21, Ev.wE.eq_22, Ev.wE.eq_23, Ev.wE.eq_24, Ev.wE.eq_25, Ev.wE.eq_26, Ev.wE.eq_27, Ev.wE_var, Ev.optK_some, Ev.selR_val, Ev.selR_own, Ev.rdS_val, Ev.rdS_own, Ev.fzS_val, Ev.fzS_own, Ev.argS_val, Ev.argS_own, Ev.wT, Ev.wAs, Ev.wEs, Ev.wI, Ev.wO, Ev.wG_nam, Ev.wG_tup, Ev.wGs_nil, Ev.wGs_cons, Ev.Tg.n, Ev.wipeE, Ev.restE, List.getD_cons_zero, List.getD_cons_succ, Ev.same2, Ev.items, Ev.rdK_val, Ev.rdK_tmp, Ev.rdK_at, Ev.rdsK, Ev.fzK_val, Ev.fzK_tmp, Ev.fzK_at, Ev.stW_val, Ev.stW_tmp, Ev.stW_bor, Ev.nbW_val, Ev.nbW_tmp, Ev.nbW_bor, Ev.binW_add, Ev.binW_sub, Ev.binW_mul, Ev.binW_div, Ev.binW_mod, Ev.binW_pow, Ev.binW_lst, Ev.binW_tup, Ev.binW_str, Ev.binW_rep, Ev.cmpW_lt, Ev.cmpW_le, Ev.cmpW_gt, Ev.cmpW_ge, Ev.cmpW_eq, Ev.cmpW_ne, Ev.cmpW_is, Ev.cmpW_isN, Ev.cmpW_inT, Ev.cmpW_inL, Ev.cmpW_niT, Ev.cmpW_niL, Ev.ixW_tup, Ev.ixW_lst, Ev.bltW_abs, Ev.bltW_int, Ev.bltW_gcd, Ev.bltW_lenT, Ev.bltW_lenL, Ev.bltW_scr, Ev.bltW_listL, Ev.bltW_listT, Ev.bltW_tupL, Ev.bltW_tupT, List.replicate, List.append_nil, List.cons_append, List.nil_append, List.getElem?_cons_zero, List.getElem?_cons_succ, List.length_cons, List.length_nil, List.set_cons_zero, List.set_cons_succ, Ev.argsOf, Ev.argOf_val, Ev.argOf_at, Ev.bors, Ev.backs_val, Ev.backs_bor, Ev.backs_nil, Ev.loses, Ev.retW_val, Ev.retW_tmp, Ev.parOf, Ev.outsOf, List.replicate_zero, Nat.sub_self, Ev.isOwnL, List.getElem?_nil, reduceCtorEq, decide_eq_true_eq, Ev.cmpOk_int, Ev.cmpOk_bl, Ev.cmpOk_non, Ev.cmpOk_nil, Ev.cmpOk_nilT, Ev.peq_int, Ev.peq_bl, Ev.peq_str, Ev.peq_non, Ev.peq_nil, Ev.peq_nilT, Ev.peq_consL, Ev.isT_non_int, Ev.isT_non_bool, Ev.isT_non_str, Ev.isT_non_tuple, Ev.isT_non_list, Ev.tyOk_non, Ev.isT_bl_int, Ev.isT_bl_bool, Ev.isT_bl_str, Ev.isT_bl_tuple, Ev.isT_bl_list, Ev.tyOk_bl, Ev.isT_int_int, Ev.isT_int_bool, Ev.isT_int_str, Ev.isT_int_tuple, Ev.isT_int_list, Ev.tyOk_int, Ev.isT_str_int, Ev.isT_str_bool, Ev.isT_str_str, Ev.isT_str_tuple, Ev.isT_str_list, Ev.tyOk_str, Ev.isT_tup_int, Ev.isT_tup_bool, Ev.isT_tup_str, Ev.isT_tup_tuple, Ev.isT_tup_list, Ev.tyOk_tup, Ev.isT_lst_int, Ev.isT_lst_bool, Ev.isT_lst_str, Ev.isT_lst_tuple, Ev.isT_lst_list, Ev.tyOk_lst, List.not_mem_nil, not_false_eq_true, List.nodup_cons, Bool.false_eq_true, ↓reduceIte, List.nodup_nil, true_and, and_true])
  refine quot_ok (by decide +kernel) (by decide +kernel) (by decide) ?_
  rw [t3]
  (simp (config := { maxSteps := 100000000 }) only [Ev.wS, Ev.wE.eq_1, Ev.wE.eq_2, Ev.wE.eq_3, Ev.wE.eq_4, Ev.wE.eq_6, Ev.wE.eq_7, Ev.wE.eq_8, Ev.wE.eq_9, Ev.wE.eq_10, Ev.wE.eq_11, Ev.wE.eq_12, Ev.wE.eq_13, Ev.wE.eq_14, Ev.wE.eq_15, Ev.wE.eq_16, Ev.wE.eq_17, Ev.wE.eq_18, Ev.wE.eq_19, Ev.wE.eq_20, Ev.wE.eq_21, Ev.wE.eq_22, Ev.wE.eq_23, Ev.wE.eq_24, Ev.wE.eq_25, Ev.wE.eq_26, Ev.wE.eq_27, Ev.wE_var, Ev.optK_some, Ev.selR_val, Ev.selR_own, Ev.rdS_val, Ev.rdS_own, Ev.fzS_val, Ev.fzS_own, Ev.argS_val, Ev.argS_own, Ev.wT, Ev.wAs, Ev.wEs, Ev.wI, Ev.wO, Ev.wG_nam, Ev.wG_tup, Ev.wGs_nil, Ev.wGs_cons, Ev.Tg.n, Ev.wipeE, Ev.restE, List.getD_cons_zero, List.getD_cons_succ, Ev.same2, Ev.items, Ev.rdK_val, Ev.rdK_tmp, Ev.rdK_at, Ev.rdsK, Ev.fzK_val, Ev.fzK_tmp, Ev.fzK_at, Ev.stW_val, Ev.stW_tmp, Ev.stW_bor, Ev.nbW_val, Ev.nbW_tmp, Ev.nbW_bor, Ev.binW_add, Ev.binW_sub, Ev.binW_mul, Ev.binW_div, Ev.binW_mod, Ev.binW_pow, Ev.binW_lst, Ev.binW_tup, Ev.binW_str, Ev.binW_rep, Ev.cmpW_lt, Ev.cmpW_le, Ev.cmpW_gt, Ev.cmpW_ge, Ev.cmpW_eq, Ev.cmpW_ne, Ev.cmpW_is, Ev.cmpW_isN, Ev.cmpW_inT, Ev.cmpW_inL, Ev.cmpW_niT, Ev.cmpW_niL, Ev.ixW_tup, Ev.ixW_lst, Ev.bltW_abs, Ev.bltW_int, Ev.bltW_gcd, Ev.bltW_lenT, Ev.bltW_lenL, Ev.bltW_scr, Ev.bltW_listL, Ev.bltW_listT, Ev.bltW_tupL, Ev.bltW_tupT, List.replicate, List.append_nil, List.cons_append, List.nil_append, List.getElem?_cons_zero, List.getElem?_cons_succ, List.length_cons, List.length_nil, List.set_cons_zero, List.set_cons_succ, Ev.argsOf, Ev.argOf_val, Ev.argOf_at, Ev.bors, Ev.backs_val, Ev.backs_bor, Ev.backs_nil, Ev.loses, Ev.retW_val, Ev.retW_tmp, Ev.parOf, Ev.outsOf, List.replicate_zero, Nat.sub_self, Ev.isOwnL, List.getElem?_nil, reduceCtorEq, decide_eq_true_eq, Ev.cmpOk_int, Ev.cmpOk_bl, Ev.cmpOk_non, Ev.cmpOk_nil, Ev.cmpOk_nilT, Ev.peq_int, Ev.peq_bl, Ev.peq_str, Ev.peq_non, Ev.peq_nil, Ev.peq_nilT, Ev.peq_consL, Ev.isT_non_int, Ev.isT_non_bool, Ev.isT_non_str, Ev.isT_non_tuple, Ev.isT_non_list, Ev.tyOk_non, Ev.isT_bl_int, Ev.isT_bl_bool, Ev.isT_bl_str, Ev.isT_bl_tuple, Ev.isT_bl_list, Ev.tyOk_bl, Ev.isT_int_int, Ev.isT_int_bool, Ev.isT_int_str, Ev.isT_int_tuple, Ev.isT_int_list, Ev.tyOk_int, Ev.isT_str_int, Ev.isT_str_bool, Ev.isT_str_str, Ev.isT_str_tuple, Ev.isT_str_list, Ev.tyOk_str, Ev.isT_tup_int, Ev.isT_tup_bool, Ev.isT_tup_str, Ev.isT_tup_tuple, Ev.isT_tup_list, Ev.tyOk_tup, Ev.isT_lst_int, Ev.isT_lst_bool, Ev.isT_lst_str, Ev.isT_lst_tuple, Ev.isT_lst_list, Ev.tyOk_lst, List.not_mem_nil, not_false_eq_true, List.nodup_cons, Bool.false_eq_true, ↓reduceIte, List.nodup_nil, true_and, and_true])
  refine ⟨by decide, by decide, ?_⟩
  refine two_ok (a := 1) (b := 2) (c := 1) (d := 3) (by decide +kernel) (by decide +kernel) ?_
  rw [t4]
  (simp (config := { maxSteps := 100000000 }) only [Ev.wS, Ev.wE.eq_1, Ev.wE.eq_2, Ev.wE.eq_3, Ev.wE.eq_4, Ev.wE.eq_6, Ev.wE.eq_7, Ev.wE.eq_8, Ev.wE.eq_9, Ev.wE.eq_10, Ev.wE.eq_11, Ev.wE.eq_12, Ev.wE.eq_13, Ev.wE.eq_14, Ev.wE.eq_15, Ev.wE.eq_16, Ev.wE.eq_17, Ev.wE.eq_18, Ev.wE.eq_19, Ev.wE.eq_20, Ev.wE.eq_21, Ev.wE.eq_22, Ev.wE.eq_23, Ev.wE.eq_24, Ev.wE.eq_25, Ev.wE.eq_26, Ev.wE.eq_27, Ev.wE_var, Ev.optK_some, Ev.selR_val, Ev.selR_own, Ev.rdS_val, Ev.rdS_own, Ev.fzS_val, Ev.fzS_own, Ev.argS_val, Ev.argS_own, Ev.wT, Ev.wAs, Ev.wEs, Ev.wI, Ev.wO, Ev.wG_nam, Ev.wG_tup, Ev.wGs_nil, Ev.wGs_cons, Ev.Tg.n, Ev.wipeE, Ev.restE, List.getD_cons_zero, List.getD_cons_succ, Ev.same2, Ev.items, Ev.rdK_val, Ev.rdK_tmp, Ev.rdK_at, Ev.rdsK, Ev.fzK_val, Ev.fzK_tmp, Ev.fzK_at, Ev.stW_val, Ev.stW_tmp, Ev.stW_bor, Ev.nbW_val, Ev.nbW_tmp, Ev.nbW_bor, Ev.binW_add, Ev.binW_sub, Ev.binW_mul, Ev.binW_div, Ev.binW_mod, Ev.binW_pow, Ev.binW_lst, Ev.binW_tup, Ev.binW_str, Ev.binW_rep, Ev.cmpW_lt, Ev.cmpW_le, Ev.cmpW_gt, Ev.cmpW_ge, Ev.cmpW_eq, Ev.cmpW_ne, Ev.cmpW_is, Ev.cmpW_isN, Ev.cmpW_inT, Ev.cmpW_inL, Ev.cmpW_niT, Ev.cmpW_niL, Ev.ixW_tup, Ev.ixW_lst, Ev.bltW_abs, Ev.bltW_int, Ev.bltW_gcd, Ev.bltW_lenT, Ev.bltW_lenL, Ev.bltW_scr, Ev.bltW_listL, Ev.bltW_listT, Ev.bltW_tupL, Ev.bltW_tupT, List.replicate, List.append_nil, List.cons_append, List.nil_append, List.getElem?_cons_zero, List.getElem?_cons_succ, List.length_cons, List.length_nil, List.set_cons_zero, List.set_cons_succ, Ev.argsOf, Ev.argOf_val, Ev.argOf_at, Ev.bors, Ev.backs_val, Ev.backs_bor, Ev.backs_nil, Ev.loses, Ev.retW_val, Ev.retW_tmp, Ev.parOf, Ev.outsOf, List.replicate_zero, Nat.sub_self, Ev.isOwnL, List.getElem?_nil, reduceCtorEq, decide_eq_true_eq, Ev.cmpOk_int, Ev.cmpOk_bl, Ev.cmpOk_non, Ev.cmpOk_nil, Ev.cmpOk_nilT, Ev.peq_int, Ev.peq_bl, Ev.peq_str, Ev.peq_non, Ev.peq_nil, Ev.peq_nilT, Ev.peq_consL, Ev.isT_non_int, Ev.isT_non_bool, Ev.isT_non_str, Ev.isT_non_tuple, Ev.isT_non_list, Ev.tyOk_non, Ev.isT_bl_int, Ev.isT_bl_bool, Ev.isT_bl_str, Ev.isT_bl_tuple, Ev.isT_bl_list, Ev.tyOk_bl, Ev.isT_int_int, Ev.isT_int_bool, Ev.isT_int_str, Ev.isT_int_tuple, Ev.isT_int_list, Ev.tyOk_int, Ev.isT_str_int, Ev.isT_str_bool, Ev.isT_str_str, Ev.isT_str_tuple, Ev.isT_str_list, Ev.tyOk_str, Ev.isT_tup_int, Ev.isT_tup_bool, Ev.isT_tup_str, Ev.isT_tup_tuple, Ev.isT_tup_list, Ev.tyOk_tup, Ev.isT_lst_int, Ev.isT_lst_bool, Ev.isT_lst_str, Ev.isT_lst_tuple, Ev.isT_lst_list, Ev.tyOk_lst, List.not_mem_nil, not_false_eq_true, List.nodup_cons, Bool.false_eq_true, ↓reduceIte, List.nodup_nil, true_and, and_true])
  refine ⟨by decide, by decide, ?_⟩
  refine ⟨.tup [.int 1, .int 2], .tup [.int (-3), .int 1], rfl, quo_ok, quo_ok, fun z => absurd z (by decide +kernel), fun _ z => absurd z (by decide +kernel), fun a' b' c' d' e1 e2 _ _ => ⟨fun z => ?_, fun _ => ?_⟩⟩
  · cases e2; exact absurd z (by decide)
  cases e1; cases e2
  rw [t5]
  (simp (config := { maxSteps := 100000000 }) only [Ev.wS, Ev.wE.eq_1, Ev.wE.eq_2, Ev.wE.eq_3, Ev.wE.eq_4, Ev.wE.eq_6, Ev.wE.eq_7, Ev.wE.eq_8, Ev.wE.eq_9, Ev.wE.eq_10, Ev.wE.eq_11, Ev.wE.eq_12, Ev.wE.eq_13, Ev.wE.eq_14, Ev.wE.eq_15, Ev.wE.eq_16, Ev.wE.eq_17, Ev.wE.eq_18, Ev.wE.eq_19, Ev.wE.eq_20, Ev.wE.eq_21, Ev.wE.eq_22, Ev.wE.eq_23, Ev.wE.eq_24, Ev.wE.eq_25, Ev.wE.eq_26, Ev.wE.eq_27, Ev.wE_var, Ev.optK_some, Ev.selR_val, Ev.selR_own, Ev.rdS_val, Ev.rdS_own, Ev.fzS_val, Ev.fzS_own, Ev.argS_val, Ev.argS_own, Ev.wT, Ev.wAs, Ev.wEs, Ev.wI, Ev.wO, Ev.wG_nam, Ev.wG_tup, Ev.wGs_nil, Ev.wGs_cons, Ev.Tg.n, Ev.wipeE, Ev.restE, List.getD_cons_zero, List.getD_cons_succ, Ev.same2, Ev.items, Ev.rdK_val, Ev.rdK_tmp, Ev.rdK_at, Ev.rdsK, Ev.fzK_val, Ev.fzK_tmp, Ev.fzK_at, Ev.stW_val, Ev.stW_tmp, Ev.stW_bor, Ev.nbW_val, Ev.nbW_tmp, Ev.nbW_bor, Ev.binW_add, Ev.binW_sub, Ev.binW_mul, Ev.binW_div, Ev.binW_mod, Ev.binW_pow, Ev.binW_lst, Ev.binW_tup, Ev.binW_str, Ev.binW_rep, Ev.cmpW_lt, Ev.cmpW_le, Ev.cmpW_gt, Ev.cmpW_ge, Ev.cmpW_eq, Ev.cmpW_ne, Ev.cmpW_is, Ev.cmpW_isN, Ev.cmpW_inT, Ev.cmpW_inL, Ev.cmpW_niT, Ev.cmpW_niL, Ev.ixW_tup, Ev.ixW_lst, Ev.bltW_abs, Ev.bltW_int, Ev.bltW_gcd, Ev.bltW_lenT, Ev.bltW_lenL, Ev.bltW_scr, Ev.bltW_listL, Ev.bltW_listT, Ev.bltW_tupL, Ev.bltW_tupT, List.replicate, List.append_nil, List.cons_append, List.nil_append, List.getElem?_cons_zero, List.getElem?_cons_succ, List.length_cons, List.length_nil, List.set_cons_zero, List.set_cons_succ, Ev.argsOf, Ev.argOf_val, Ev.argOf_at, Ev.bors, Ev.backs_val, Ev.backs_bor, Ev.backs_nil, Ev.loses, Ev.retW_val, Ev.retW_tmp, Ev.parOf, Ev.outsOf, List.replicate_zero, Nat.sub_self, Ev.isOwnL, List.getElem?_nil, reduceCtorEq, decide_eq_true_eq, Ev.cmpOk_int, Ev.cmpOk_bl, Ev.cmpOk_non, Ev.cmpOk_nil, Ev.cmpOk_nilT, Ev.peq_int, Ev.peq_bl, Ev.peq_str, Ev.peq_non, Ev.peq_nil, Ev.peq_nilT, Ev.peq_consL, Ev.isT_non_int, Ev.isT_non_bool, Ev.isT_non_str, Ev.isT_non_tuple, Ev.isT_non_list, Ev.tyOk_non, Ev.isT_bl_int, Ev.isT_bl_bool, Ev.isT_bl_str, Ev.isT_bl_tuple, Ev.isT_bl_list, Ev.tyOk_bl, Ev.isT_int_int, Ev.isT_int_bool, Ev.isT_int_str, Ev.isT_int_tuple, Ev.isT_int_list, Ev.tyOk_int, Ev.isT_str_int, Ev.isT_str_bool, Ev.isT_str_str, Ev.isT_str_tuple, Ev.isT_str_list, Ev.tyOk_str, Ev.isT_tup_int, Ev.isT_tup_bool, Ev.isT_tup_str, Ev.isT_tup_tuple, Ev.isT_tup_list, Ev.tyOk_tup, Ev.isT_lst_int, Ev.isT_lst_bool, Ev.isT_lst_str, Ev.isT_lst_tuple, Ev.isT_lst_list, Ev.tyOk_lst, List.not_mem_nil, not_false_eq_true, List.nodup_cons, Bool.false_eq_true, ↓reduceIte, List.nodup_nil, true_and, and_true])
  refine ⟨by decide, ?_⟩
  unfold B_law_5
  (simp (config := { maxSteps := 100000000 }) only [Ev.wS, Ev.wE.eq_1, Ev.wE.eq_2, Ev.wE.eq_3, Ev.wE.eq_4, Ev.wE.eq_6, Ev.wE.eq_7, Ev.wE.eq_8, Ev.wE.eq_9, Ev.wE.eq_10, Ev.wE.eq_11, Ev.wE.eq_12, Ev.wE.eq_13, Ev.wE.eq_14, Ev.wE.eq_15, Ev.wE.eq_16, Ev.wE.eq_17, Ev.wE.eq_18, Ev.wE.eq_19, Ev.wE.eq_20, Ev.wE.eq_21, Ev.wE.eq_22, Ev.wE.eq_23, Ev.wE.eq_24, Ev.wE.eq_25, Ev.wE.eq_26, Ev.wE.eq_27, Ev.wE_var, Ev.optK_some, Ev.selR_val, Ev.selR_own, Ev.rdS_val, Ev.rdS_own, Ev.fzS_val, Ev.fzS_own, Ev.argS_val, Ev.argS_own, Ev.wT, Ev.wAs, Ev.wEs, Ev.wI, Ev.wO, Ev.wG_nam, Ev.wG_tup, Ev.wGs_nil, Ev.wGs_cons, Ev.Tg.n, Ev.wipeE, Ev.restE, List.getD_cons_zero, List.getD_cons_succ, Ev.same2, Ev.items, Ev.rdK_val, Ev.rdK_tmp, Ev.rdK_at, Ev.rdsK, Ev.fzK_val, Ev.fzK_tmp, Ev.fzK_at, Ev.stW_val, Ev.stW_tmp, Ev.stW_bor, Ev.nbW_val, Ev.nbW_tmp, Ev.nbW_bor, Ev.binW_add, Ev.binW_sub, Ev.binW_mul, Ev.binW_div, Ev.binW_mod, Ev.binW_pow, Ev.binW_lst, Ev.binW_tup, Ev.binW_str, Ev.binW_rep, Ev.cmpW_lt, Ev.cmpW_le, Ev.cmpW_gt, Ev.cmpW_ge, Ev.cmpW_eq, Ev.cmpW_ne, Ev.cmpW_is, Ev.cmpW_isN, Ev.cmpW_inT, Ev.cmpW_inL, Ev.cmpW_niT, Ev.cmpW_niL, Ev.ixW_tup, Ev.ixW_lst, Ev.bltW_abs, Ev.bltW_int, Ev.bltW_gcd, Ev.bltW_lenT, Ev.bltW_lenL, Ev.bltW_scr, Ev.bltW_listL, Ev.bltW_listT, Ev.bltW_tupL, Ev.bltW_tupT, List.replicate, List.append_nil, List.cons_append, List.nil_append, List.getElem?_cons_zero, List.getElem?_cons_succ, List.length_cons, List.length_nil, List.set_cons_zero, List.set_cons_succ, Ev.argsOf, Ev.argOf_val, Ev.argOf_at, Ev.bors, Ev.backs_val, Ev.backs_bor, Ev.backs_nil, Ev.loses, Ev.retW_val, Ev.retW_tmp, Ev.parOf, Ev.outsOf, List.replicate_zero, Nat.sub_self, Ev.isOwnL, List.getElem?_nil, reduceCtorEq, decide_eq_true_eq, Ev.cmpOk_int, Ev.cmpOk_bl, Ev.cmpOk_non, Ev.cmpOk_nil, Ev.cmpOk_nilT, Ev.peq_int, Ev.peq_bl, Ev.peq_str, Ev.peq_non, Ev.peq_nil, Ev.peq_nilT, Ev.peq_consL, Ev.isT_non_int, Ev.isT_non_bool, Ev.isT_non_str, Ev.isT_non_tuple, Ev.isT_non_list, Ev.tyOk_non, Ev.isT_bl_int, Ev.isT_bl_bool, Ev.isT_bl_str, Ev.isT_bl_tuple, Ev.isT_bl_list, Ev.tyOk_bl, Ev.isT_int_int, Ev.isT_int_bool, Ev.isT_int_str, Ev.isT_int_tuple, Ev.isT_int_list, Ev.tyOk_int, Ev.isT_str_int, Ev.isT_str_bool, Ev.isT_str_str, Ev.isT_str_tuple, Ev.isT_str_list, Ev.tyOk_str, Ev.isT_tup_int, Ev.isT_tup_bool, Ev.isT_tup_str, Ev.isT_tup_tuple, Ev.isT_tup_list, Ev.tyOk_tup, Ev.isT_lst_int, Ev.isT_lst_bool, Ev.isT_lst_str, Ev.isT_lst_tuple, Ev.isT_lst_list, Ev.tyOk_lst, List.not_mem_nil, not_false_eq_true, List.nodup_cons, Bool.false_eq_true, ↓reduceIte, List.nodup_nil, true_and, and_true])
  simp only [L.prod, L.gr]
  refine ⟨by decide, by decide, ?_⟩
  refine two_ok (a := GR) (b := 1) (c := GR) (d := 1) (by decide +kernel) (by decide +kernel) ?_
  rw [t6]
  (simp (config := { maxSteps := 100000000 }) only [Ev.wS, Ev.wE.eq_1, Ev.wE.eq_2, Ev.wE.eq_3, Ev.wE.eq_4, Ev.wE.eq_6, Ev.wE.eq_7, Ev.wE.eq_8, Ev.wE.eq_9, Ev.wE.eq_10, Ev.wE.eq_11, Ev.wE.eq_12, Ev.wE.eq_13, Ev.wE.eq_14, Ev.wE.eq_15, Ev.wE.eq_16, Ev.wE.eq_17, Ev.wE.eq_18, Ev.wE.eq_19, Ev.wE.eq_20, Ev.wE.eq_21, Ev.wE.eq_22, Ev.wE.eq_23, Ev.wE.eq_24, Ev.wE.eq_25, Ev.wE.eq_26, Ev.wE.eq_27, Ev.wE_var, Ev.optK_some, Ev.selR_val, Ev.selR_own, Ev.rdS_val, Ev.rdS_own, Ev.fzS_val, Ev.fzS_own, Ev.argS_val, Ev.argS_own, Ev.wT, Ev.wAs, Ev.wEs, Ev.wI, Ev.wO, Ev.wG_nam, Ev.wG_tup, Ev.wGs_nil, Ev.wGs_cons, Ev.Tg.n, Ev.wipeE, Ev.restE, List.getD_cons_zero, List.getD_cons_succ, Ev.same2, Ev.items, Ev.rdK_val, Ev.rdK_tmp, Ev.rdK_at, Ev.rdsK, Ev.fzK_val, Ev.fzK_tmp, Ev.fzK_at, Ev.stW_val, Ev.stW_tmp, Ev.stW_bor, Ev.nbW_val, Ev.nbW_tmp, Ev.nbW_bor, Ev.binW_add, Ev.binW_sub, Ev.binW_mul, Ev.binW_div, Ev.binW_mod, Ev.binW_pow, Ev.binW_lst, Ev.binW_tup, Ev.binW_str, Ev.binW_rep, Ev.cmpW_lt, Ev.cmpW_le, Ev.cmpW_gt, Ev.cmpW_ge, Ev.cmpW_eq, Ev.cmpW_ne, Ev.cmpW_is, Ev.cmpW_isN, Ev.cmpW_inT, Ev.cmpW_inL, Ev.cmpW_niT, Ev.cmpW_niL, Ev.ixW_tup, Ev.ixW_lst, Ev.bltW_abs, Ev.bltW_int, Ev.bltW_gcd, Ev.bltW_lenT, Ev.bltW_lenL, Ev.bltW_scr, Ev.bltW_listL, Ev.bltW_listT, Ev.bltW_tupL, Ev.bltW_tupT, List.replicate, List.append_nil, List.cons_append, List.nil_append, List.getElem?_cons_zero, List.getElem?_cons_succ, List.length_cons, List.length_nil, List.set_cons_zero, List.set_cons_succ, Ev.argsOf, Ev.argOf_val, Ev.argOf_at, Ev.bors, Ev.backs_val, Ev.backs_bor, Ev.backs_nil, Ev.loses, Ev.retW_val, Ev.retW_tmp, Ev.parOf, Ev.outsOf, List.replicate_zero, Nat.sub_self, Ev.isOwnL, List.getElem?_nil, reduceCtorEq, decide_eq_true_eq, Ev.cmpOk_int, Ev.cmpOk_bl, Ev.cmpOk_non, Ev.cmpOk_nil, Ev.cmpOk_nilT, Ev.peq_int, Ev.peq_bl, Ev.peq_str, Ev.peq_non, Ev.peq_nil, Ev.peq_nilT, Ev.peq_consL, Ev.isT_non_int, Ev.isT_non_bool, Ev.isT_non_str, Ev.isT_non_tuple, Ev.isT_non_list, Ev.tyOk_non, Ev.isT_bl_int, Ev.isT_bl_bool, Ev.isT_bl_str, Ev.isT_bl_tuple, Ev.isT_bl_list, Ev.tyOk_bl, Ev.isT_int_int, Ev.isT_int_bool, Ev.isT_int_str, Ev.isT_int_tuple, Ev.isT_int_list, Ev.tyOk_int, Ev.isT_str_int, Ev.isT_str_bool, Ev.isT_str_str, Ev.isT_str_tuple, Ev.isT_str_list, Ev.tyOk_str, Ev.isT_tup_int, Ev.isT_tup_bool, Ev.isT_tup_str, Ev.isT_tup_tuple, Ev.isT_tup_list, Ev.tyOk_tup, Ev.isT_lst_int, Ev.isT_lst_bool, Ev.isT_lst_str, Ev.isT_lst_tuple, Ev.isT_lst_list, Ev.tyOk_lst, List.not_mem_nil, not_false_eq_true, List.nodup_cons, Bool.false_eq_true, ↓reduceIte, List.nodup_nil, true_and, and_true])
  refine ⟨by decide, by decide, ?_⟩
  refine two_ok (a := 2) (b := 3) (c := -3) (d := 4) (by decide +kernel) (by decide +kernel) ?_
  rw [t7]
  (simp (config := { maxSteps := 100000000 }) only [Ev.wS, Ev.wE.eq_1, Ev.wE.eq_2, Ev.wE.eq_3, Ev.wE.eq_4, Ev.wE.eq_6, Ev.wE.eq_7, Ev.wE.eq_8, Ev.wE.eq_9, Ev.wE.eq_10, Ev.wE.eq_11, Ev.wE.eq_12, Ev.wE.eq_13, Ev.wE.eq_14, Ev.wE.eq_15, Ev.wE.eq_16, Ev.wE.eq_17, Ev.wE.eq_18, Ev.wE.eq_19, Ev.wE.eq_20, Ev.wE.eq_21, Ev.wE.eq_22, Ev.wE.eq_23, Ev.wE.eq_24, Ev.wE.eq_25, Ev.wE.eq_26, Ev.wE.eq_27, Ev.wE_var, Ev.optK_some, Ev.selR_val, Ev.selR_own, Ev.rdS_val, Ev.rdS_own, Ev.fzS_val, Ev.fzS_own, Ev.argS_val, Ev.argS_own, Ev.wT, Ev.wAs, Ev.wEs, Ev.wI, Ev.wO, Ev.wG_nam, Ev.wG_tup, Ev.wGs_nil, Ev.wGs_cons, Ev.Tg.n, Ev.wipeE, Ev.restE, List.getD_cons_zero, List.getD_cons_succ, Ev.same2, Ev.items, Ev.rdK_val, Ev.rdK_tmp, Ev.rdK_at, Ev.rdsK, Ev.fzK_val, Ev.fzK_tmp, Ev.fzK_at, Ev.stW_val, Ev.stW_tmp, Ev.stW_bor, Ev.nbW_val, Ev.nbW_tmp, Ev.nbW_bor, Ev.binW_add, Ev.binW_sub, Ev.binW_mul, Ev.binW_div, Ev.binW_mod, Ev.binW_pow, Ev.binW_lst, Ev.binW_tup, Ev.binW_str, Ev.binW_rep, Ev.cmpW_lt, Ev.cmpW_le, Ev.cmpW_gt, Ev.cmpW_ge, Ev.cmpW_eq, Ev.cmpW_ne, Ev.cmpW_is, Ev.cmpW_isN, Ev.cmpW_inT, Ev.cmpW_inL, Ev.cmpW_niT, Ev.cmpW_niL, Ev.ixW_tup, Ev.ixW_lst, Ev.bltW_abs, Ev.bltW_int, Ev.bltW_gcd, Ev.bltW_lenT, Ev.bltW_lenL, Ev.bltW_scr, Ev.bltW_listL, Ev.bltW_listT, Ev.bltW_tupL, Ev.bltW_tupT, List.replicate, List.append_nil, List.cons_append, List.nil_append, List.getElem?_cons_zero, List.getElem?_cons_succ, List.length_cons, List.length_nil, List.set_cons_zero, List.set_cons_succ, Ev.argsOf, Ev.argOf_val, Ev.argOf_at, Ev.bors, Ev.backs_val, Ev.backs_bor, Ev.backs_nil, Ev.loses, Ev.retW_val, Ev.retW_tmp, Ev.parOf, Ev.outsOf, List.replicate_zero, Nat.sub_self, Ev.isOwnL, List.getElem?_nil, reduceCtorEq, decide_eq_true_eq, Ev.cmpOk_int, Ev.cmpOk_bl, Ev.cmpOk_non, Ev.cmpOk_nil, Ev.cmpOk_nilT, Ev.peq_int, Ev.peq_bl, Ev.peq_str, Ev.peq_non, Ev.peq_nil, Ev.peq_nilT, Ev.peq_consL, Ev.isT_non_int, Ev.isT_non_bool, Ev.isT_non_str, Ev.isT_non_tuple, Ev.isT_non_list, Ev.tyOk_non, Ev.isT_bl_int, Ev.isT_bl_bool, Ev.isT_bl_str, Ev.isT_bl_tuple, Ev.isT_bl_list, Ev.tyOk_bl, Ev.isT_int_int, Ev.isT_int_bool, Ev.isT_int_str, Ev.isT_int_tuple, Ev.isT_int_list, Ev.tyOk_int, Ev.isT_str_int, Ev.isT_str_bool, Ev.isT_str_str, Ev.isT_str_tuple, Ev.isT_str_list, Ev.tyOk_str, Ev.isT_tup_int, Ev.isT_tup_bool, Ev.isT_tup_str, Ev.isT_tup_tuple, Ev.isT_tup_list, Ev.tyOk_tup, Ev.isT_lst_int, Ev.isT_lst_bool, Ev.isT_lst_str, Ev.isT_lst_tuple, Ev.isT_lst_list, Ev.tyOk_lst, List.not_mem_nil, not_false_eq_true, List.nodup_cons, Bool.false_eq_true, ↓reduceIte, List.nodup_nil, true_and, and_true])
  refine ⟨by decide, by decide, ?_⟩
  refine two_ok (a := 2) (b := 3) (c := 3) (d := 4) (by decide +kernel) (by decide +kernel) ?_
  (simp (config := { maxSteps := 100000000 }) only [Ev.wS, Ev.wE.eq_1, Ev.wE.eq_2, Ev.wE.eq_3, Ev.wE.eq_4, Ev.wE.eq_6, Ev.wE.eq_7, Ev.wE.eq_8, Ev.wE.eq_9, Ev.wE.eq_10, Ev.wE.eq_11, Ev.wE.eq_12, Ev.wE.eq_13, Ev.wE.eq_14, Ev.wE.eq_15, Ev.wE.eq_16, Ev.wE.eq_17, Ev.wE.eq_18, Ev.wE.eq_19, Ev.wE.eq_20, Ev.wE.eq_21, Ev.wE.eq_22, Ev.wE.eq_23, Ev.wE.eq_24, Ev.wE.eq_25, Ev.wE.eq_26, Ev.wE.eq_27, Ev.wE_var, Ev.optK_some, Ev.selR_val, Ev.selR_own, Ev.rdS_val, Ev.rdS_own, Ev.fzS_val, Ev.fzS_own, Ev.argS_val, Ev.argS_own, Ev.wT, Ev.wAs, Ev.wEs, Ev.wI, Ev.wO, Ev.wG_nam, Ev.wG_tup, Ev.wGs_nil, Ev.wGs_cons, Ev.Tg.n, Ev.wipeE, Ev.restE, List.getD_cons_zero, List.getD_cons_succ, Ev.same2, Ev.items, Ev.rdK_val, Ev.rdK_tmp, Ev.rdK_at, Ev.rdsK, Ev.fzK_val, Ev.fzK_tmp, Ev.fzK_at, Ev.stW_val, Ev.stW_tmp, Ev.stW_bor, Ev.nbW_val, Ev.nbW_tmp, Ev.nbW_bor, Ev.binW_add, Ev.binW_sub, Ev.binW_mul, Ev.binW_div, Ev.binW_mod, Ev.binW_pow, Ev.binW_lst, Ev.binW_tup, Ev.binW_str, Ev.binW_rep, Ev.cmpW_lt, Ev.cmpW_le, Ev.cmpW_gt, Ev.cmpW_ge, Ev.cmpW_eq, Ev.cmpW_ne, Ev.cmpW_is, Ev.cmpW_isN, Ev.cmpW_inT, Ev.cmpW_inL, Ev.cmpW_niT, Ev.cmpW_niL, Ev.ixW_tup, Ev.ixW_lst, Ev.bltW_abs, Ev.bltW_int, Ev.bltW_gcd, Ev.bltW_lenT, Ev.bltW_lenL, Ev.bltW_scr, Ev.bltW_listL, Ev.bltW_listT, Ev.bltW_tupL, Ev.bltW_tupT, List.replicate, List.append_nil, List.cons_append, List.nil_append, List.getElem?_cons_zero, List.getElem?_cons_succ, List.length_cons, List.length_nil, List.set_cons_zero, List.set_cons_succ, Ev.argsOf, Ev.argOf_val, Ev.argOf_at, Ev.bors, Ev.backs_val, Ev.backs_bor, Ev.backs_nil, Ev.loses, Ev.retW_val, Ev.retW_tmp, Ev.parOf, Ev.outsOf, List.replicate_zero, Nat.sub_self, Ev.isOwnL, List.getElem?_nil, reduceCtorEq, decide_eq_true_eq, Ev.cmpOk_int, Ev.cmpOk_bl, Ev.cmpOk_non, Ev.cmpOk_nil, Ev.cmpOk_nilT, Ev.peq_int, Ev.peq_bl, Ev.peq_str, Ev.peq_non, Ev.peq_nil, Ev.peq_nilT, Ev.peq_consL, Ev.isT_non_int, Ev.isT_non_bool, Ev.isT_non_str, Ev.isT_non_tuple, Ev.isT_non_list, Ev.tyOk_non, Ev.isT_bl_int, Ev.isT_bl_bool, Ev.isT_bl_str, Ev.isT_bl_tuple, Ev.isT_bl_list, Ev.tyOk_bl, Ev.isT_int_int, Ev.isT_int_bool, Ev.isT_int_str, Ev.isT_int_tuple, Ev.isT_int_list, Ev.tyOk_int, Ev.isT_str_int, Ev.isT_str_bool, Ev.isT_str_str, Ev.isT_str_tuple, Ev.isT_str_list, Ev.tyOk_str, Ev.isT_tup_int, Ev.isT_tup_bool, Ev.isT_tup_str, Ev.isT_tup_tuple, Ev.isT_tup_list, Ev.tyOk_tup, Ev.isT_lst_int, Ev.isT_lst_bool, Ev.isT_lst_str, Ev.isT_lst_tuple, Ev.isT_lst_list, Ev.tyOk_lst, List.not_mem_nil, not_false_eq_true, List.nodup_cons, Bool.false_eq_true, ↓reduceIte, List.nodup_nil, true_and, and_true])
  refine ⟨by decide, by decide, ?_⟩
  refine two_ok (a := -1) (b := 2) (c := -2) (d := 3) (by decide +kernel) (by decide +kernel) ?_
  (simp (config := { maxSteps := 100000000 }) only [Ev.wS, Ev.wE.eq_1, Ev.wE.eq_2, Ev.wE.eq_3, Ev.wE.eq_4, Ev.wE.eq_6, Ev.wE.eq_7, Ev.wE.eq_8, Ev.wE.eq_9, Ev.wE.eq_10, Ev.wE.eq_11, Ev.wE.eq_12, Ev.wE.eq_13, Ev.wE.eq_14, Ev.wE.eq_15, Ev.wE.eq_16, Ev.wE.eq_17, Ev.wE.eq_18, Ev.wE.eq_19, Ev.wE.eq_20, Ev.wE.eq_21, Ev.wE.eq_22, Ev.wE.eq_23, Ev.wE.eq_24, Ev.wE.eq_25, Ev.wE.eq_26, Ev.wE.eq_27, Ev.wE_var, Ev.optK_some, Ev.selR_val, Ev.selR_own, Ev.rdS_val, Ev.rdS_own, Ev.fzS_val, Ev.fzS_own, Ev.argS_val, Ev.argS_own, Ev.wT, Ev.wAs, Ev.wEs, Ev.wI, Ev.wO, Ev.wG_nam, Ev.wG_tup, Ev.wGs_nil, Ev.wGs_cons, Ev.Tg.n, Ev.wipeE, Ev.restE, List.getD_cons_zero, List.getD_cons_succ, Ev.same2, Ev.items, Ev.rdK_val, Ev.rdK_tmp, Ev.rdK_at, Ev.rdsK, Ev.fzK_val, Ev.fzK_tmp, Ev.fzK_at, Ev.stW_val, Ev.stW_tmp, Ev.stW_bor, Ev.nbW_val, Ev.nbW_tmp, Ev.nbW_bor, Ev.binW_add, Ev.binW_sub, Ev.binW_mul, Ev.binW_div, Ev.binW_mod, Ev.binW_pow, Ev.binW_lst, Ev.binW_tup, Ev.binW_str, Ev.binW_rep, Ev.cmpW_lt, Ev.cmpW_le, Ev.cmpW_gt, Ev.cmpW_ge, Ev.cmpW_eq, Ev.cmpW_ne, Ev.cmpW_is, Ev.cmpW_isN, Ev.cmpW_inT, Ev.cmpW_inL, Ev.cmpW_niT, Ev.cmpW_niL, Ev.ixW_tup, Ev.ixW_lst, Ev.bltW_abs, Ev.bltW_int, Ev.bltW_gcd, Ev.bltW_lenT, Ev.bltW_lenL, Ev.bltW_scr, Ev.bltW_listL, Ev.bltW_listT, Ev.bltW_tupL, Ev.bltW_tupT, List.replicate, List.append_nil, List.cons_append, List.nil_append, List.getElem?_cons_zero, List.getElem?_cons_succ, List.length_cons, List.length_nil, List.set_cons_zero, List.set_cons_succ, Ev.argsOf, Ev.argOf_val, Ev.argOf_at, Ev.bors, Ev.backs_val, Ev.backs_bor, Ev.backs_nil, Ev.loses, Ev.retW_val, Ev.retW_tmp, Ev.parOf, Ev.outsOf, List.replicate_zero, Nat.sub_self, Ev.isOwnL, List.getElem?_nil, reduceCtorEq, decide_eq_true_eq, Ev.cmpOk_int, Ev.cmpOk_bl, Ev.cmpOk_non, Ev.cmpOk_nil, Ev.cmpOk_nilT, Ev.peq_int, Ev.peq_bl, Ev.peq_str, Ev.peq_non, Ev.peq_nil, Ev.peq_nilT, Ev.peq_consL, Ev.isT_non_int, Ev.isT_non_bool, Ev.isT_non_str, Ev.isT_non_tuple, Ev.isT_non_list, Ev.tyOk_non, Ev.isT_bl_int, Ev.isT_bl_bool, Ev.isT_bl_str, Ev.isT_bl_tuple, Ev.isT_bl_list, Ev.tyOk_bl, Ev.isT_int_int, Ev.isT_int_bool, Ev.isT_int_str, Ev.isT_int_tuple, Ev.isT_int_list, Ev.tyOk_int, Ev.isT_str_int, Ev.isT_str_bool, Ev.isT_str_str, Ev.isT_str_tuple, Ev.isT_str_list, Ev.tyOk_str, Ev.isT_tup_int, Ev.isT_tup_bool, Ev.isT_tup_str, Ev.isT_tup_tuple, Ev.isT_tup_list, Ev.tyOk_tup, Ev.isT_lst_int, Ev.isT_lst_bool, Ev.isT_lst_str, Ev.isT_lst_tuple, Ev.isT_lst_list, Ev.tyOk_lst, List.not_mem_nil, not_false_eq_true, List.nodup_cons, Bool.false_eq_true, ↓reduceIte, List.nodup_nil, true_and, and_true])
  refine ⟨by decide, by decide, ?_⟩
  unfold B_law_6
  (simp (config := { maxSteps := 100000000 }) only [Ev.wS, Ev.wE.eq_1, Ev.wE.eq_2, Ev.wE.eq_3, Ev.wE.eq_4, Ev.wE.eq_6, Ev.wE.eq_7, Ev.wE.eq_8, Ev.wE.eq_9, Ev.wE.eq_10, Ev.wE.eq_11, Ev.wE.eq_12, Ev.wE.eq_13, Ev.wE.eq_14, Ev.wE.eq_15, Ev.wE.eq_16, Ev.wE.eq_17, Ev.wE.eq_18, Ev.wE.eq_19, Ev.wE.eq_20, Ev.wE.eq_21, Ev.wE.eq_22, Ev.wE.eq_23, Ev.wE.eq_24, Ev.wE.eq_25, Ev.wE.eq_26, Ev.wE.eq_27, Ev.wE_var, Ev.optK_some, Ev.selR_val, Ev.selR_own, Ev.rdS_val, Ev.rdS_own, Ev.fzS_val, Ev.fzS_own, Ev.argS_val, Ev.argS_own, Ev.wT, Ev.wAs, Ev.wEs, Ev.wI, Ev.wO, Ev.wG_nam, Ev.wG_tup, Ev.wGs_nil, Ev.wGs_cons, Ev.Tg.n, Ev.wipeE, Ev.restE, List.getD_cons_zero, List.getD_cons_succ, Ev.same2, Ev.items, Ev.rdK_val, Ev.rdK_tmp, Ev.rdK_at, Ev.rdsK, Ev.fzK_val, Ev.fzK_tmp, Ev.fzK_at, Ev.stW_val, Ev.stW_tmp, Ev.stW_bor, Ev.nbW_val, Ev.nbW_tmp, Ev.nbW_bor, Ev.binW_add, Ev.binW_sub, Ev.binW_mul, Ev.binW_div, Ev.binW_mod, Ev.binW_pow, Ev.binW_lst, Ev.binW_tup, Ev.binW_str, Ev.binW_rep, Ev.cmpW_lt, Ev.cmpW_le, Ev.cmpW_gt, Ev.cmpW_ge, Ev.cmpW_eq, Ev.cmpW_ne, Ev.cmpW_is, Ev.cmpW_isN, Ev.cmpW_inT, Ev.cmpW_inL, Ev.cmpW_niT, Ev.cmpW_niL, Ev.ixW_tup, Ev.ixW_lst, Ev.bltW_abs, Ev.bltW_int, Ev.bltW_gcd, Ev.bltW_lenT, Ev.bltW_lenL, Ev.bltW_scr, Ev.bltW_listL, Ev.bltW_listT, Ev.bltW_tupL, Ev.bltW_tupT, List.replicate, List.append_nil, List.cons_append, List.nil_append, List.getElem?_cons_zero, List.getElem?_cons_succ, List.length_cons, List.length_nil, List.set_cons_zero, List.set_cons_succ, Ev.argsOf, Ev.argOf_val, Ev.argOf_at, Ev.bors, Ev.backs_val, Ev.backs_bor, Ev.backs_nil, Ev.loses, Ev.retW_val, Ev.retW_tmp, Ev.parOf, Ev.outsOf, List.replicate_zero, Nat.sub_self, Ev.isOwnL, List.getElem?_nil, reduceCtorEq, decide_eq_true_eq, Ev.cmpOk_int, Ev.cmpOk_bl, Ev.cmpOk_non, Ev.cmpOk_nil, Ev.cmpOk_nilT, Ev.peq_int, Ev.peq_bl, Ev.peq_str, Ev.peq_non, Ev.peq_nil, Ev.peq_nilT, Ev.peq_consL, Ev.isT_non_int, Ev.isT_non_bool, Ev.isT_non_str, Ev.isT_non_tuple, Ev.isT_non_list, Ev.tyOk_non, Ev.isT_bl_int, Ev.isT_bl_bool, Ev.isT_bl_str, Ev.isT_bl_tuple, Ev.isT_bl_list, Ev.tyOk_bl, Ev.isT_int_int, Ev.isT_int_bool, Ev.isT_int_str, Ev.isT_int_tuple, Ev.isT_int_list, Ev.tyOk_int, Ev.isT_str_int, Ev.isT_str_bool, Ev.isT_str_str, Ev.isT_str_tuple, Ev.isT_str_list, Ev.tyOk_str, Ev.isT_tup_int, Ev.isT_tup_bool, Ev.isT_tup_str, Ev.isT_tup_tuple, Ev.isT_tup_list, Ev.tyOk_tup, Ev.isT_lst_int, Ev.isT_lst_bool, Ev.isT_lst_str, Ev.isT_lst_tuple, Ev.isT_lst_list, Ev.tyOk_lst, List.not_mem_nil, not_false_eq_true, List.nodup_cons, Bool.false_eq_true, ↓reduceIte, List.nodup_nil, true_and, and_true])
  simp only [L.like]
  have d1 : decide ((0 : Int) < 2 * 4 - 3 * 3) = false := by decide
  have d2 : decide ((0 : Int) < -1 * 3 - -2 * 2) = true := by decide
  rw [d1, d2]
  have mG : Ev.MulOk GR GR := mul_ok (wide ⟨by decide, by decide⟩) (wide ⟨by decide, by decide⟩)
  have lI : ∀ {n : Nat} {x y : Int}, Lk (n + 1) (.tup [.int x, .int y]) := fun {n x y} => lk_tup (by simp) (lk_cons lk_int (lk_cons lk_int lk_nil))
  have told : Lk 3 (.lst [.tup [.int (-3), .int 2], .tup [.int 0, .int 1], .tup [.int 1, .int 1], .tup [.int 5, .int 6], .tup [.int (-1), .int 6], .tup [.int (GR * GR), .int 1], .tup [.int (-1), .int 2], .bl false, .bl true]) :=
    lk_lst (by simp) (lk_cons lI (lk_cons lI (lk_cons lI (lk_cons lI (lk_cons lI (lk_cons lI (lk_cons lI (lk_cons lk_bl (lk_cons lk_bl lk_nil)))))))))
  refine ⟨by decide, by decide, by decide, by decide, by decide, mG, by decide, by decide, by decide, _, _, _, rfl, hold_own, hold_val, told, fun s6 _ _ _ => ?_⟩
  (simp (config := { maxSteps := 100000000 }) only [Ev.wS, Ev.wE.eq_1, Ev.wE.eq_2, Ev.wE.eq_3, Ev.wE.eq_4, Ev.wE.eq_6, Ev.wE.eq_7, Ev.wE.eq_8, Ev.wE.eq_9, Ev.wE.eq_10, Ev.wE.eq_11, Ev.wE.eq_12, Ev.wE.eq_13, Ev.wE.eq_14, Ev.wE.eq_15, Ev.wE.eq_16, Ev.wE.eq_17, Ev.wE.eq_18, Ev.wE.eq_19, Ev.wE.eq_20, Ev.wE.eq_21, Ev.wE.eq_22, Ev.wE.eq_23, Ev.wE.eq_24, Ev.wE.eq_25, Ev.wE.eq_26, Ev.wE.eq_27, Ev.wE_var, Ev.optK_some, Ev.selR_val, Ev.selR_own, Ev.rdS_val, Ev.rdS_own, Ev.fzS_val, Ev.fzS_own, Ev.argS_val, Ev.argS_own, Ev.wT, Ev.wAs, Ev.wEs, Ev.wI, Ev.wO, Ev.wG_nam, Ev.wG_tup, Ev.wGs_nil, Ev.wGs_cons, Ev.Tg.n, Ev.wipeE, Ev.restE, List.getD_cons_zero, List.getD_cons_succ, Ev.same2, Ev.items, Ev.rdK_val, Ev.rdK_tmp, Ev.rdK_at, Ev.rdsK, Ev.fzK_val, Ev.fzK_tmp, Ev.fzK_at, Ev.stW_val, Ev.stW_tmp, Ev.stW_bor, Ev.nbW_val, Ev.nbW_tmp, Ev.nbW_bor, Ev.binW_add, Ev.binW_sub, Ev.binW_mul, Ev.binW_div, Ev.binW_mod, Ev.binW_pow, Ev.binW_lst, Ev.binW_tup, Ev.binW_str, Ev.binW_rep, Ev.cmpW_lt, Ev.cmpW_le, Ev.cmpW_gt, Ev.cmpW_ge, Ev.cmpW_eq, Ev.cmpW_ne, Ev.cmpW_is, Ev.cmpW_isN, Ev.cmpW_inT, Ev.cmpW_inL, Ev.cmpW_niT, Ev.cmpW_niL, Ev.ixW_tup, Ev.ixW_lst, Ev.bltW_abs, Ev.bltW_int, Ev.bltW_gcd, Ev.bltW_lenT, Ev.bltW_lenL, Ev.bltW_scr, Ev.bltW_listL, Ev.bltW_listT, Ev.bltW_tupL, Ev.bltW_tupT, List.replicate, List.append_nil, List.cons_append, List.nil_append, List.getElem?_cons_zero, List.getElem?_cons_succ, List.length_cons, List.length_nil, List.set_cons_zero, List.set_cons_succ, Ev.argsOf, Ev.argOf_val, Ev.argOf_at, Ev.bors, Ev.backs_val, Ev.backs_bor, Ev.backs_nil, Ev.loses, Ev.retW_val, Ev.retW_tmp, Ev.parOf, Ev.outsOf, List.replicate_zero, Nat.sub_self, Ev.isOwnL, List.getElem?_nil, reduceCtorEq, decide_eq_true_eq, Ev.cmpOk_int, Ev.cmpOk_bl, Ev.cmpOk_non, Ev.cmpOk_nil, Ev.cmpOk_nilT, Ev.peq_int, Ev.peq_bl, Ev.peq_str, Ev.peq_non, Ev.peq_nil, Ev.peq_nilT, Ev.peq_consL, Ev.isT_non_int, Ev.isT_non_bool, Ev.isT_non_str, Ev.isT_non_tuple, Ev.isT_non_list, Ev.tyOk_non, Ev.isT_bl_int, Ev.isT_bl_bool, Ev.isT_bl_str, Ev.isT_bl_tuple, Ev.isT_bl_list, Ev.tyOk_bl, Ev.isT_int_int, Ev.isT_int_bool, Ev.isT_int_str, Ev.isT_int_tuple, Ev.isT_int_list, Ev.tyOk_int, Ev.isT_str_int, Ev.isT_str_bool, Ev.isT_str_str, Ev.isT_str_tuple, Ev.isT_str_list, Ev.tyOk_str, Ev.isT_tup_int, Ev.isT_tup_bool, Ev.isT_tup_str, Ev.isT_tup_tuple, Ev.isT_tup_list, Ev.tyOk_tup, Ev.isT_lst_int, Ev.isT_lst_bool, Ev.isT_lst_str, Ev.isT_lst_tuple, Ev.isT_lst_list, Ev.tyOk_lst, List.not_mem_nil, not_false_eq_true, List.nodup_cons, Bool.false_eq_true, ↓reduceIte, List.nodup_nil, true_and, and_true])
  unfold B_law_7
  (simp (config := { maxSteps := 100000000 }) only [Ev.wS, Ev.wE.eq_1, Ev.wE.eq_2, Ev.wE.eq_3, Ev.wE.eq_4, Ev.wE.eq_6, Ev.wE.eq_7, Ev.wE.eq_8, Ev.wE.eq_9, Ev.wE.eq_10, Ev.wE.eq_11, Ev.wE.eq_12, Ev.wE.eq_13, Ev.wE.eq_14, Ev.wE.eq_15, Ev.wE.eq_16, Ev.wE.eq_17, Ev.wE.eq_18, Ev.wE.eq_19, Ev.wE.eq_20, Ev.wE.eq_21, Ev.wE.eq_22, Ev.wE.eq_23, Ev.wE.eq_24, Ev.wE.eq_25, Ev.wE.eq_26, Ev.wE.eq_27, Ev.wE_var, Ev.optK_some, Ev.selR_val, Ev.selR_own, Ev.rdS_val, Ev.rdS_own, Ev.fzS_val, Ev.fzS_own, Ev.argS_val, Ev.argS_own, Ev.wT, Ev.wAs, Ev.wEs, Ev.wI, Ev.wO, Ev.wG_nam, Ev.wG_tup, Ev.wGs_nil, Ev.wGs_cons, Ev.Tg.n, Ev.wipeE, Ev.restE, List.getD_cons_zero, List.getD_cons_succ, Ev.same2, Ev.items, Ev.rdK_val, Ev.rdK_tmp, Ev.rdK_at, Ev.rdsK, Ev.fzK_val, Ev.fzK_tmp, Ev.fzK_at, Ev.stW_val, Ev.stW_tmp, Ev.stW_bor, Ev.nbW_val, Ev.nbW_tmp, Ev.nbW_bor, Ev.binW_add, Ev.binW_sub, Ev.binW_mul, Ev.binW_div, Ev.binW_mod, Ev.binW_pow, Ev.binW_lst, Ev.binW_tup, Ev.binW_str, Ev.binW_rep, Ev.cmpW_lt, Ev.cmpW_le, Ev.cmpW_gt, Ev.cmpW_ge, Ev.cmpW_eq, Ev.cmpW_ne, Ev.cmpW_is, Ev.cmpW_isN, Ev.cmpW_inT, Ev.cmpW_inL, Ev.cmpW_niT, Ev.cmpW_niL, Ev.ixW_tup, Ev.ixW_lst, Ev.bltW_abs, Ev.bltW_int, Ev.bltW_gcd, Ev.bltW_lenT, Ev.bltW_lenL, Ev.bltW_scr, Ev.bltW_listL, Ev.bltW_listT, Ev.bltW_tupL, Ev.bltW_tupT, List.replicate, List.append_nil, List.cons_append, List.nil_append, List.getElem?_cons_zero, List.getElem?_cons_succ, List.length_cons, List.length_nil, List.set_cons_zero, List.set_cons_succ, Ev.argsOf, Ev.argOf_val, Ev.argOf_at, Ev.bors, Ev.backs_val, Ev.backs_bor, Ev.backs_nil, Ev.loses, Ev.retW_val, Ev.retW_tmp, Ev.parOf, Ev.outsOf, List.replicate_zero, Nat.sub_self, Ev.isOwnL, List.getElem?_nil, reduceCtorEq, decide_eq_true_eq, Ev.cmpOk_int, Ev.cmpOk_bl, Ev.cmpOk_non, Ev.cmpOk_nil, Ev.cmpOk_nilT, Ev.peq_int, Ev.peq_bl, Ev.peq_str, Ev.peq_non, Ev.peq_nil, Ev.peq_nilT, Ev.peq_consL, Ev.isT_non_int, Ev.isT_non_bool, Ev.isT_non_str, Ev.isT_non_tuple, Ev.isT_non_list, Ev.tyOk_non, Ev.isT_bl_int, Ev.isT_bl_bool, Ev.isT_bl_str, Ev.isT_bl_tuple, Ev.isT_bl_list, Ev.tyOk_bl, Ev.isT_int_int, Ev.isT_int_bool, Ev.isT_int_str, Ev.isT_int_tuple, Ev.isT_int_list, Ev.tyOk_int, Ev.isT_str_int, Ev.isT_str_bool, Ev.isT_str_str, Ev.isT_str_tuple, Ev.isT_str_list, Ev.tyOk_str, Ev.isT_tup_int, Ev.isT_tup_bool, Ev.isT_tup_str, Ev.isT_tup_tuple, Ev.isT_tup_list, Ev.tyOk_tup, Ev.isT_lst_int, Ev.isT_lst_bool, Ev.isT_lst_str, Ev.isT_lst_tuple, Ev.isT_lst_list, Ev.tyOk_lst, List.not_mem_nil, not_false_eq_true, List.nodup_cons, Bool.false_eq_true, ↓reduceIte, List.nodup_nil, true_and, and_true])
  (repeat (refine ⟨by decide, ?_⟩))
  unfold B_law_8
  (simp (config := { maxSteps := 100000000 }) only [Ev.wS, Ev.wE.eq_1, Ev.wE.eq_2, Ev.wE.eq_3, Ev.wE.eq_4, Ev.wE.eq_6, Ev.wE.eq_7, Ev.wE.eq_8, Ev.wE.eq_9, Ev.wE.eq_10, Ev.wE.eq_11, Ev.wE.eq_12, Ev.wE.eq_13, Ev.wE.eq_14, Ev.wE.eq_15, Ev.wE.eq_16, Ev.wE.eq_17, Ev.wE.eq_18, Ev.wE.eq_19, Ev.wE.eq_20, Ev.wE.eq_21, Ev.wE.eq_22, Ev.wE.eq_23, Ev.wE.eq_24, Ev.wE.eq_25, Ev.wE.eq_26, Ev.wE.eq_27, Ev.wE_var, Ev.optK_some, Ev.selR_val, Ev.selR_own, Ev.rdS_val, Ev.rdS_own, Ev.fzS_val, Ev.fzS_own, Ev.argS_val, Ev.argS_own, Ev.wT, Ev.wAs, Ev.wEs, Ev.wI, Ev.wO, Ev.wG_nam, Ev.wG_tup, Ev.wGs_nil, Ev.wGs_cons, Ev.Tg.n, Ev.wipeE, Ev.restE, List.getD_cons_zero, List.getD_cons_succ, Ev.same2, Ev.items, Ev.rdK_val, Ev.rdK_tmp, Ev.rdK_at, Ev.rdsK, Ev.fzK_val, Ev.fzK_tmp, Ev.fzK_at, Ev.stW_val, Ev.stW_tmp, Ev.stW_bor, Ev.nbW_val, Ev.nbW_tmp, Ev.nbW_bor, Ev.binW_add, Ev.binW_sub, Ev.binW_mul, Ev.binW_div, Ev.binW_mod, Ev.binW_pow, Ev.binW_lst, Ev.binW_tup, Ev.binW_str, Ev.binW_rep, Ev.cmpW_lt, Ev.cmpW_le, Ev.cmpW_gt, Ev.cmpW_ge, Ev.cmpW_eq, Ev.cmpW_ne, Ev.cmpW_is, Ev.cmpW_isN, Ev.cmpW_inT, Ev.cmpW_inL, Ev.cmpW_niT, Ev.cmpW_niL, Ev.ixW_tup, Ev.ixW_lst, Ev.bltW_abs, Ev.bltW_int, Ev.bltW_gcd, Ev.bltW_lenT, Ev.bltW_lenL, Ev.bltW_scr, Ev.bltW_listL, Ev.bltW_listT, Ev.bltW_tupL, Ev.bltW_tupT, List.replicate, List.append_nil, List.cons_append, List.nil_append, List.getElem?_cons_zero, List.getElem?_cons_succ, List.length_cons, List.length_nil, List.set_cons_zero, List.set_cons_succ, Ev.argsOf, Ev.argOf_val, Ev.argOf_at, Ev.bors, Ev.backs_val, Ev.backs_bor, Ev.backs_nil, Ev.loses, Ev.retW_val, Ev.retW_tmp, Ev.parOf, Ev.outsOf, List.replicate_zero, Nat.sub_self, Ev.isOwnL, List.getElem?_nil, reduceCtorEq, decide_eq_true_eq, Ev.cmpOk_int, Ev.cmpOk_bl, Ev.cmpOk_non, Ev.cmpOk_nil, Ev.cmpOk_nilT, Ev.peq_int, Ev.peq_bl, Ev.peq_str, Ev.peq_non, Ev.peq_nil, Ev.peq_nilT, Ev.peq_consL, Ev.isT_non_int, Ev.isT_non_bool, Ev.isT_non_str, Ev.isT_non_tuple, Ev.isT_non_list, Ev.tyOk_non, Ev.isT_bl_int, Ev.isT_bl_bool, Ev.isT_bl_str, Ev.isT_bl_tuple, Ev.isT_bl_list, Ev.tyOk_bl, Ev.isT_int_int, Ev.isT_int_bool, Ev.isT_int_str, Ev.isT_int_tuple, Ev.isT_int_list, Ev.tyOk_int, Ev.isT_str_int, Ev.isT_str_bool, Ev.isT_str_str, Ev.isT_str_tuple, Ev.isT_str_list, Ev.tyOk_str, Ev.isT_tup_int, Ev.isT_tup_bool, Ev.isT_tup_str, Ev.isT_tup_tuple, Ev.isT_tup_list, Ev.tyOk_tup, Ev.isT_lst_int, Ev.isT_lst_bool, Ev.isT_lst_str, Ev.isT_lst_tuple, Ev.isT_lst_list, Ev.tyOk_lst, List.not_mem_nil, not_false_eq_true, List.nodup_cons, Bool.false_eq_true, ↓reduceIte, List.nodup_nil, true_and, and_true])
  (repeat (refine ⟨by decide, ?_⟩))
  exact law_tail L hc hk
end K
namespace K
open PySem PySem.Spec PyProof.Rows L2 Ev
abbrev RWK : PySem.W.OpenLaw := PySem.Challenge.rw_mapsdrawn_k00_whole_quotients
def d_is_whole : He.DefD := ⟨("is_whole", none), "is_whole", "is_whole", defArgs (topS 7), defBody (topS 7), defScope (topS 7), [], []⟩
def d_need_whole : He.DefD := ⟨("need_whole", none), "need_whole", "need_whole", defArgs (topS 8), defBody (topS 8), defScope (topS 8), [], []⟩
def d_is_tuple_of : He.DefD := ⟨("is_tuple_of", none), "is_tuple_of", "is_tuple_of", defArgs (topS 9), defBody (topS 9), defScope (topS 9), [], []⟩
def d_is_quotient : He.DefD := ⟨("is_quotient", none), "is_quotient", "is_quotient", defArgs (topS 12), defBody (topS 12), defScope (topS 12), [], []⟩
def d_need_quotient : He.DefD := ⟨("need_quotient", none), "need_quotient", "need_quotient", defArgs (topS 13), defBody (topS 13), defScope (topS 13), [], []⟩
def d_plain : He.DefD := ⟨("plain", none), "plain", "plain", defArgs (topS 14), defBody (topS 14), defScope (topS 14), [], []⟩
def d_plus : He.DefD := ⟨("plus", none), "plus", "plus", defArgs (topS 15), defBody (topS 15), defScope (topS 15), [], []⟩
def d_times : He.DefD := ⟨("times", none), "times", "times", defArgs (topS 16), defBody (topS 16), defScope (topS 16), [], []⟩
def d_lead : He.DefD := ⟨("lead", none), "lead", "lead", defArgs (topS 17), defBody (topS 17), defScope (topS 17), [], []⟩
def d_quotient : He.DefD := ⟨("quotient", none), "quotient", "quotient", defArgs (topS 18), defBody (topS 18), defScope (topS 18), [], []⟩
def d_quotient_sum : He.DefD := ⟨("quotient_sum", none), "quotient_sum", "quotient_sum", defArgs (topS 19), defBody (topS 19), defScope (topS 19), [], []⟩
def d_quotient_product : He.DefD := ⟨("quotient_product", none), "quotient_product", "quotient_product", defArgs (topS 20), defBody (topS 20), defScope (topS 20), [], []⟩
def d_quotient_by : He.DefD := ⟨("quotient_by", none), "quotient_by", "quotient_by", defArgs (topS 21), defBody (topS 21), defScope (topS 21), [], []⟩
def d_is_greater : He.DefD := ⟨("is_greater", none), "is_greater", "is_greater", defArgs (topS 22), defBody (topS 22), defScope (topS 22), [], []⟩
def d__law_cup : He.DefD := ⟨("_law_cup", none), "_law_cup", "_law_cup", defArgs (topS 24), defBody (topS 24), defScope (topS 24), [], []⟩
def d__law_roll : He.DefD := ⟨("_law_roll", none), "_law_roll", "_law_roll", defArgs (topS 25), defBody (topS 25), defScope (topS 25), [], []⟩
def d__law_some : He.DefD := ⟨("_law_some", none), "_law_some", "_law_some", defArgs (topS 26), defBody (topS 26), defScope (topS 26), [], []⟩
def d__law_sort : He.DefD := ⟨("_law_sort", none), "_law_sort", "_law_sort", defArgs (topS 27), defBody (topS 27), defScope (topS 27), [], []⟩
def d__law_like : He.DefD := ⟨("_law_like", none), "_law_like", "_law_like", defArgs (topS 28), defBody (topS 28), defScope (topS 28), [], []⟩
def d__law_divisor : He.DefD := ⟨("_law_divisor", none), "_law_divisor", "_law_divisor", defArgs (topS 29), defBody (topS 29), defScope (topS 29), [], []⟩
def d__law_plain : He.DefD := ⟨("_law_plain", none), "_law_plain", "_law_plain", defArgs (topS 30), defBody (topS 30), defScope (topS 30), [], []⟩
def d__law_great : He.DefD := ⟨("_law_great", none), "_law_great", "_law_great", defArgs (topS 31), defBody (topS 31), defScope (topS 31), [], []⟩
def d__law_quotient : He.DefD := ⟨("_law_quotient", none), "_law_quotient", "_law_quotient", defArgs (topS 32), defBody (topS 32), defScope (topS 32), [], []⟩
def d__law_error : He.DefD := ⟨("_law_error", none), "_law_error", "_law_error", defArgs (topS 33), defBody (topS 33), defScope (topS 33), [], []⟩
def d__law_pair_right : He.DefD := ⟨("_law_pair_right", none), "_law_pair_right", "_law_pair_right", defArgs (topS 34), defBody (topS 34), defScope (topS 34), [], []⟩
def d_law : He.DefD := ⟨("law", none), "law", "law", defArgs (topS 35), defBody (topS 35), defScope (topS 35), [], []⟩
def defsK : List He.DefD := [d_is_whole, d_need_whole, d_is_tuple_of, d_is_quotient, d_need_quotient, d_plain, d_plus, d_times, d_lead, d_quotient, d_quotient_sum, d_quotient_product, d_quotient_by, d_is_greater, d__law_cup, d__law_roll, d__law_some, d__law_sort, d__law_like, d__law_divisor, d__law_plain, d__law_great, d__law_quotient, d__law_error, d__law_pair_right, d_law]
def factsK : List He.Fa := [.glo "is_whole", .glo "need_whole", .glo "is_tuple_of", .glo "is_quotient", .glo "need_quotient", .glo "plain", .glo "plus", .glo "times", .glo "lead", .glo "quotient", .glo "quotient_sum", .glo "quotient_product", .glo "quotient_by", .glo "is_greater", .glo "_law_cup", .glo "_law_roll", .glo "_law_some", .glo "_law_sort", .glo "_law_like", .glo "_law_divisor", .glo "_law_plain", .glo "_law_great", .glo "_law_quotient", .glo "_law_error", .glo "_law_pair_right", .glo "law", .glo "MapError", .glo "InvalidNumber", .glo "InvalidQuotient", .glo "NotFound", .exc "InvalidNumber", .exm "InvalidNumber" "MapError" true, .exc "InvalidQuotient", .exm "InvalidQuotient" "MapError" true, .exc "NotFound", .exm "NotFound" "MapError" true, .int "GREAT" (1000000000000000000000000000000000000000000000000000000000000), .free "len", .free "abs", .free "int", .free "list", .free "tuple", .free "bool", .free "str", .free "isinstance", .free "range", .free "zip"]
def tabK : List He.Defn := [("_law_pair_right", none), ("law", none)]
def exK : PySem.W.Frag → Bool := fun K => excCB K "InvalidNumber" && excCB K "InvalidQuotient" && excCB K "NotFound" && isB K "InvalidNumber" "InvalidNumber" true && isB K "InvalidNumber" "InvalidQuotient" false && isB K "InvalidNumber" "NotFound" false && isB K "InvalidQuotient" "InvalidNumber" false && isB K "InvalidQuotient" "InvalidQuotient" true && isB K "InvalidQuotient" "NotFound" false && isB K "NotFound" "InvalidNumber" false && isB K "NotFound" "InvalidQuotient" false && isB K "NotFound" "NotFound" true && gcdB K && apartB K tabK
abbrev hookK : PySem.W.Hook := He.hookX 6 factsK defsK [] tabK exK
def obK (s : PySem.W.SharedT) : He.AlX := He.obsX 6 factsK defsK [] tabK exK (HandSHeadRun.getT s)
theorem obK_eq (s : PySem.W.SharedT) : obK s = hookK.obs s.abs := He.obsX_eq (HandSHeadRun.getT_eq s)
def looseK0 : List PySem.Str := ["MapError", "InvalidNumber", "InvalidQuotient", "NotFound", "is_whole", "need_whole", "is_tuple_of", "GREAT", "is_quotient", "need_quotient", "plain", "plus", "times", "lead", "quotient", "quotient_sum", "quotient_product", "quotient_by", "is_greater", "_law_cup", "_law_roll", "_law_some", "_law_sort", "_law_like", "_law_divisor", "_law_plain", "_law_great", "_law_quotient", "_law_error", "_law_pair_right"]
def looseK : List PySem.Str := looseK0
theorem runK (w : World) : HandSHeadRun.RunEqI RWK.row (PySem.W.view RWK.prog [0, 35]) hookK obK 4000 looseK w := by
  unfold HandSHeadRun.RunEqI
  kernel_rfl
def dErr : ErrD := ⟨"MapError", "e", 1, "none", "", [("quotient", "InvalidQuotient"), ("number", "InvalidNumber"), ("no", "NotFound")]⟩
def raisedK : List Str := ["InvalidNumber", "InvalidQuotient", "NotFound"]
theorem c_err : cErr 10 ["call", "e", "pairs", "word", "is_so"] (defScope (topS 33)) raisedK "call" (defBody (topS 33)) = some dErr := by kernel_rfl
def isCk (c c2 : Str) : Bool := decide (c = c2)
def gfK : GF := gfOf dErr raisedK isCk
def conK : List (Str × PV) := [("GREAT", .int GR), ("is_whole", .fn "is_whole"), ("need_whole", .fn "need_whole"), ("is_tuple_of", .fn "is_tuple_of"), ("is_quotient", .fn "is_quotient"), ("need_quotient", .fn "need_quotient"), ("plain", .fn "plain"), ("plus", .fn "plus"), ("times", .fn "times"), ("lead", .fn "lead"), ("quotient", .fn "quotient"), ("quotient_sum", .fn "quotient_sum"), ("quotient_product", .fn "quotient_product"), ("quotient_by", .fn "quotient_by"), ("is_greater", .fn "is_greater"), ("_law_cup", .fn "_law_cup"), ("_law_roll", .fn "_law_roll"), ("_law_some", .fn "_law_some"), ("_law_sort", .fn "_law_sort"), ("_law_like", .fn "_law_like"), ("_law_divisor", .fn "_law_divisor"), ("_law_plain", .fn "_law_plain"), ("_law_great", .fn "_law_great"), ("_law_quotient", .fn "_law_quotient"), ("_law_pair_right", .fn "_law_pair_right")]
def lamK : List (Str × GF) := [("_law_error", gfK)]
theorem sc_is_whole : FnScope ["value", "low", "high"] ["value", "low", "high"] (defScope (topS 7)) := ⟨by kernel_rfl, by kernel_rfl, by kernel_rfl, by decide +kernel, by kernel_rfl, by decide +kernel, by decide +kernel⟩
theorem sc_need_whole : FnScope ["value", "low", "high"] ["value", "low", "high"] (defScope (topS 8)) := ⟨by kernel_rfl, by kernel_rfl, by kernel_rfl, by decide +kernel, by kernel_rfl, by decide +kernel, by decide +kernel⟩
theorem sc_is_tuple_of : FnScope ["value", "low", "high"] ["value", "low", "high"] (defScope (topS 9)) := ⟨by kernel_rfl, by kernel_rfl, by kernel_rfl, by decide +kernel, by kernel_rfl, by decide +kernel, by decide +kernel⟩
theorem sc_is_quotient : FnScope ["value"] ["value"] (defScope (topS 12)) := ⟨by kernel_rfl, by kernel_rfl, by kernel_rfl, by decide +kernel, by kernel_rfl, by decide +kernel, by decide +kernel⟩
theorem sc_need_quotient : FnScope ["value"] ["value"] (defScope (topS 13)) := ⟨by kernel_rfl, by kernel_rfl, by kernel_rfl, by decide +kernel, by kernel_rfl, by decide +kernel, by decide +kernel⟩
theorem sc_plain : FnScope ["top", "bottom", "shared"] ["top", "bottom"] (defScope (topS 14)) := ⟨by kernel_rfl, by kernel_rfl, by kernel_rfl, by decide +kernel, by kernel_rfl, by decide +kernel, by decide +kernel⟩
theorem sc_plus : FnScope ["one", "other"] ["one", "other"] (defScope (topS 15)) := ⟨by kernel_rfl, by kernel_rfl, by kernel_rfl, by decide +kernel, by kernel_rfl, by decide +kernel, by decide +kernel⟩
theorem sc_times : FnScope ["one", "other"] ["one", "other"] (defScope (topS 16)) := ⟨by kernel_rfl, by kernel_rfl, by kernel_rfl, by decide +kernel, by kernel_rfl, by decide +kernel, by decide +kernel⟩
theorem sc_lead : FnScope ["one", "other"] ["one", "other"] (defScope (topS 17)) := ⟨by kernel_rfl, by kernel_rfl, by kernel_rfl, by decide +kernel, by kernel_rfl, by decide +kernel, by decide +kernel⟩
theorem sc_quotient : FnScope ["top", "bottom"] ["top", "bottom"] (defScope (topS 18)) := ⟨by kernel_rfl, by kernel_rfl, by kernel_rfl, by decide +kernel, by kernel_rfl, by decide +kernel, by decide +kernel⟩
theorem sc_quotient_sum : FnScope ["one", "other"] ["one", "other"] (defScope (topS 19)) := ⟨by kernel_rfl, by kernel_rfl, by kernel_rfl, by decide +kernel, by kernel_rfl, by decide +kernel, by decide +kernel⟩
theorem sc_quotient_product : FnScope ["one", "other"] ["one", "other"] (defScope (topS 20)) := ⟨by kernel_rfl, by kernel_rfl, by kernel_rfl, by decide +kernel, by kernel_rfl, by decide +kernel, by decide +kernel⟩
theorem sc_quotient_by : FnScope ["one", "other"] ["one", "other"] (defScope (topS 21)) := ⟨by kernel_rfl, by kernel_rfl, by kernel_rfl, by decide +kernel, by kernel_rfl, by decide +kernel, by decide +kernel⟩
theorem sc_is_greater : FnScope ["one", "other"] ["one", "other"] (defScope (topS 22)) := ⟨by kernel_rfl, by kernel_rfl, by kernel_rfl, by decide +kernel, by kernel_rfl, by decide +kernel, by decide +kernel⟩
theorem sc__law_cup : FnScope ["script", "cell"] ["script"] (defScope (topS 24)) := ⟨by kernel_rfl, by kernel_rfl, by kernel_rfl, by decide +kernel, by kernel_rfl, by decide +kernel, by decide +kernel⟩
theorem sc__law_roll : FnScope ["cup", "many", "found", "deep"] ["cup", "many"] (defScope (topS 25)) := ⟨by kernel_rfl, by kernel_rfl, by kernel_rfl, by decide +kernel, by kernel_rfl, by decide +kernel, by decide +kernel⟩
theorem sc__law_some : FnScope ["cup", "things"] ["cup", "things"] (defScope (topS 26)) := ⟨by kernel_rfl, by kernel_rfl, by kernel_rfl, by decide +kernel, by kernel_rfl, by decide +kernel, by decide +kernel⟩
theorem sc__law_sort : FnScope ["value"] ["value"] (defScope (topS 27)) := ⟨by kernel_rfl, by kernel_rfl, by kernel_rfl, by decide +kernel, by kernel_rfl, by decide +kernel, by decide +kernel⟩
theorem sc__law_like : FnScope ["one", "other", "sort", "first", "second"] ["one", "other"] (defScope (topS 28)) := ⟨by kernel_rfl, by kernel_rfl, by kernel_rfl, by decide +kernel, by kernel_rfl, by decide +kernel, by decide +kernel⟩
theorem sc__law_divisor : FnScope ["one", "other", "turn"] ["one", "other"] (defScope (topS 29)) := ⟨by kernel_rfl, by kernel_rfl, by kernel_rfl, by decide +kernel, by kernel_rfl, by decide +kernel, by decide +kernel⟩
theorem sc__law_plain : FnScope ["top", "bottom", "shared"] ["top", "bottom"] (defScope (topS 30)) := ⟨by kernel_rfl, by kernel_rfl, by kernel_rfl, by decide +kernel, by kernel_rfl, by decide +kernel, by decide +kernel⟩
theorem sc__law_great : FnScope ["cup", "size", "found", "turn"] ["cup", "size"] (defScope (topS 31)) := ⟨by kernel_rfl, by kernel_rfl, by kernel_rfl, by decide +kernel, by kernel_rfl, by decide +kernel, by decide +kernel⟩
theorem sc__law_quotient : FnScope ["cup", "size"] ["cup"] (defScope (topS 32)) := ⟨by kernel_rfl, by kernel_rfl, by kernel_rfl, by decide +kernel, by kernel_rfl, by decide +kernel, by decide +kernel⟩
theorem sc__law_error : FnScope ["call", "e", "pairs", "word", "is_so"] ["call"] (defScope (topS 33)) := ⟨by kernel_rfl, by kernel_rfl, by kernel_rfl, by decide +kernel, by kernel_rfl, by decide +kernel, by decide +kernel⟩
theorem sc__law_pair_right : FnScope ["one", "other", "first", "second", "told", "due"] ["one", "other"] (defScope (topS 34)) := ⟨by kernel_rfl, by kernel_rfl, by kernel_rfl, by decide +kernel, by kernel_rfl, by decide +kernel, by decide +kernel⟩
theorem sc_law : FnScope ["script", "cup", "last", "turn", "one", "great", "told", "odds", "odd", "bad", "words", "name", "pair"] ["script"] (defScope (topS 35)) := ⟨by kernel_rfl, by kernel_rfl, by kernel_rfl, by decide +kernel, by kernel_rfl, by decide +kernel, by decide +kernel⟩
def fl0 : List (Str × FnS) := []
def fl1 : List (Str × FnS) := ("is_whole", S_is_whole) :: fl0
def fl2 : List (Str × FnS) := ("need_whole", S_need_whole) :: fl1
def fl3 : List (Str × FnS) := ("is_tuple_of", S_is_tuple_of) :: fl2
def fl4 : List (Str × FnS) := ("is_quotient", S_is_quotient) :: fl3
def fl5 : List (Str × FnS) := ("need_quotient", S_need_quotient) :: fl4
def fl6 : List (Str × FnS) := ("plain", S_plain) :: fl5
def fl7 : List (Str × FnS) := ("plus", S_plus) :: fl6
def fl8 : List (Str × FnS) := ("times", S_times) :: fl7
def fl9 : List (Str × FnS) := ("lead", S_lead) :: fl8
def fl10 : List (Str × FnS) := ("quotient", S_quotient) :: fl9
def fl11 : List (Str × FnS) := ("quotient_sum", S_quotient_sum) :: fl10
def fl12 : List (Str × FnS) := ("quotient_product", S_quotient_product) :: fl11
def fl13 : List (Str × FnS) := ("quotient_by", S_quotient_by) :: fl12
def fl14 : List (Str × FnS) := ("is_greater", S_is_greater) :: fl13
def fl15 : List (Str × FnS) := ("_law_cup", S__law_cup) :: fl14
def fl16 : List (Str × FnS) := ("_law_roll", S__law_roll) :: fl15
def fl17 : List (Str × FnS) := ("_law_some", S__law_some) :: fl16
def fl18 : List (Str × FnS) := ("_law_sort", S__law_sort) :: fl17
def flL (S : FnS) : List (Str × FnS) := ("_law_like", S) :: fl18
def fl19 : List (Str × FnS) := ("_law_like", S_like 3) :: fl18
def fl20 : List (Str × FnS) := ("_law_divisor", S__law_divisor) :: fl19
def fl21 : List (Str × FnS) := ("_law_plain", S__law_plain) :: fl20
def fl22 : List (Str × FnS) := ("_law_great", S__law_great) :: fl21
def fl23 : List (Str × FnS) := ("_law_quotient", S__law_quotient) :: fl22
def fl24 : List (Str × FnS) := ("_law_pair_right", S__law_pair_right) :: fl23
section
variable {w : World} {KK : PySem.W.Frag} {mg : Str → Option Value} {h0 : Heap} {base : Heap}
abbrev WK (KK : PySem.W.Frag) (mg : Str → Option Value) : Wd := wdOf KK mg tabK
theorem con_ok (c : He.SaysX factsK defsK [] tabK exK w h0 KK) (KX : KK.In base) (G : base.Ns mainGlobals mg) : ∀ p ∈ conK, ∃ u v, (WK KK mg).mg p.1 = some v ∧ RelV u v ∧ ∀ F, Rep (WK KK mg) F p.2 u := by
  have gf : ∀ (x : Str) (i : Nat), factsK[i]? = some (.glo x) → ∃ u v, (WK KK mg).mg x = some v ∧ RelV u v ∧ ∀ F, Rep (WK KK mg) F (.fn x) u := fun x i h => by
    have m := He.glo_ok KX G (c.t.d.fact i (f := .glo x) h)
    exact ⟨.ref (He.ga KK x), .ref (He.ga KK x), m, rfl, fun F => ⟨_, rfl, m⟩⟩
  unfold conK
  simp only [List.forall_mem_cons]
  obtain ⟨tk, gt⟩ := He.int_ok KX G (c.t.d.fact 36 (f := .int "GREAT" (1000000000000000000000000000000000000000000000000000000000000)) rfl)
  exact ⟨⟨.int GR, _, gt, ⟨tk, rfl⟩, fun F => rfl⟩, gf _ 0 rfl, gf _ 1 rfl, gf _ 2 rfl, gf _ 3 rfl, gf _ 4 rfl, gf _ 5 rfl, gf _ 6 rfl, gf _ 7 rfl, gf _ 8 rfl, gf _ 9 rfl, gf _ 10 rfl, gf _ 11 rfl, gf _ 12 rfl, gf _ 13 rfl, gf _ 14 rfl, gf _ 15 rfl, gf _ 16 rfl, gf _ 17 rfl, gf _ 18 rfl, gf _ 19 rfl, gf _ 20 rfl, gf _ 21 rfl, gf _ 22 rfl, gf _ 24 rfl, fun p hp => by simp at hp⟩
theorem blt_ok' (c : He.SaysX factsK defsK [] tabK exK w h0 KK) (KX : KK.In base) (G : base.Ns mainGlobals mg) : ∀ x, x ∈ freeNames → (WK KK mg).mg x = none := by
  have g : ∀ x ∈ freeNames, mg x = none := by
    unfold freeNames
    simp only [List.forall_mem_cons]
    exact ⟨He.free_ok KX G (c.t.d.fact 37 (f := .free "len") rfl), He.free_ok KX G (c.t.d.fact 38 (f := .free "abs") rfl), He.free_ok KX G (c.t.d.fact 39 (f := .free "int") rfl), He.free_ok KX G (c.t.d.fact 40 (f := .free "list") rfl), He.free_ok KX G (c.t.d.fact 41 (f := .free "tuple") rfl), He.free_ok KX G (c.t.d.fact 42 (f := .free "bool") rfl), He.free_ok KX G (c.t.d.fact 43 (f := .free "str") rfl), He.free_ok KX G (c.t.d.fact 44 (f := .free "isinstance") rfl), He.free_ok KX G (c.t.d.fact 45 (f := .free "range") rfl), He.free_ok KX G (c.t.d.fact 46 (f := .free "zip") rfl), fun p hp => by simp at hp⟩
  exact g
theorem exc_ok' (c : He.SaysX factsK defsK [] tabK exK w h0 KK) (KX : KK.In base) (G : base.Ns mainGlobals mg) : ∀ x, raisedK.contains x = true → ∃ Ca, (WK KK mg).mg x = some (.ref Ca) ∧ PySem.W.excIn (WK KK mg).K Ca [.type "ValueError", .type "Exception", .type "BaseException", .type "object"] "ValueError.__new__" = true ∧ PySem.W.keepIn (WK KK mg).K (.ref Ca) = true ∧ PySem.W.subIn (WK KK mg).K (.ref Ca) (.type "BaseException") = some true ∧ PySem.W.typeIn (WK KK mg).K (.ref Ca) = some (.type "type") := by
  intro x hx
  have hx2 : x = "InvalidNumber" ∨ x = "InvalidQuotient" ∨ x = "NotFound" := by simpa [raisedK] using hx
  rcases hx2 with rfl | rfl | rfl
  · obtain ⟨e1, e2, e3, e4⟩ := He.exc_ok (c.t.d.fact 30 (f := .exc "InvalidNumber") rfl)
    exact ⟨_, He.glo_ok KX G (c.t.d.fact 27 (f := .glo "InvalidNumber") rfl), e1, e2, e3, e4⟩
  · obtain ⟨e1, e2, e3, e4⟩ := He.exc_ok (c.t.d.fact 32 (f := .exc "InvalidQuotient") rfl)
    exact ⟨_, He.glo_ok KX G (c.t.d.fact 28 (f := .glo "InvalidQuotient") rfl), e1, e2, e3, e4⟩
  · obtain ⟨e1, e2, e3, e4⟩ := He.exc_ok (c.t.d.fact 34 (f := .exc "NotFound") rfl)
    exact ⟨_, He.glo_ok KX G (c.t.d.fact 29 (f := .glo "NotFound") rfl), e1, e2, e3, e4⟩
theorem chain (c : He.SaysX factsK defsK [] tabK exK w h0 KK) (KX : KK.In base) (G : base.Ns mainGlobals mg) (TB : ∀ z ∈ tabK.map (He.cT KK), LamX.TabB base mg z.1 z.2) {fd : FuncData} (F : FunD KK "law" "law" (defArgs (topS 35)) (defBody (topS 35)) (defScope (topS 35)) [] [] (He.fAd KK ("law", none)) fd) :
    FnOk RWK.prog w KK mg base (L2N.CX RWK.prog w) 100 (He.fAd KK ("law", none)) fd ["script"] (spOf (WK KK mg) lawS) := by
  have con := con_ok (mg := mg) (base := base) c KX G
  have blt := blt_ok' (mg := mg) (base := base) c KX G
  have exc := exc_ok' (mg := mg) (base := base) c KX G
  have hx := c.more
  simp only [exK, Bool.and_eq_true] at hx
  obtain ⟨⟨⟨⟨⟨⟨⟨⟨⟨⟨⟨⟨⟨x_InvalidNumber, x_InvalidQuotient⟩, x_NotFound⟩, i_InvalidNumber_InvalidNumber⟩, i_InvalidNumber_InvalidQuotient⟩, i_InvalidNumber_NotFound⟩, i_InvalidQuotient_InvalidNumber⟩, i_InvalidQuotient_InvalidQuotient⟩, i_InvalidQuotient_NotFound⟩, i_NotFound_InvalidNumber⟩, i_NotFound_InvalidQuotient⟩, i_NotFound_NotFound⟩, hgcd⟩, hap⟩ := hx
  have gcd : (WK KK mg).mg "gcd" = some (.builtin "math.gcd") := gcdB_ok KX G hgcd
  have df : ∀ X : Cx, X.prog = RWK.prog → X.w = w → X.K = (WK KK mg).K → X.mg = (WK KK mg).mg → ∀ y : Str, (["_law_error"] : List Str).contains y = true → ∃ gf, (tblOf conK [] lamK).lam y = some gf ∧ LamDef (WK KK mg) X y gf := by
    intro X hP hw hK hM y hy
    have hy2 : y = ("_law_error" : Str) := by simpa using hy
    subst hy2
    obtain ⟨fdE, FE⟩ := c.t.d.def_ 23 (d := d__law_error) rfl
    have bE : Binds KK fdE ["call"] [] := FunD.bindsN FE (fun _ _ _ _ _ _ us hl => match us, hl with | [_], _ => rfl)
    refine ⟨gfK, by rfl, He.fAd KK ("_law_error", none), fdE, topS 33, "call", ["call", "e", "pairs", "word", "is_so"], by rw [hK]; exact FE, by rw [hM]; exact He.glo_ok KX G (c.t.d.fact 23 (f := .glo "_law_error") rfl), by rw [hK]; exact bE, sc__law_error, rfl, .inl (by kernel_rfl), by decide +kernel, fun cd => ?_⟩
    refine err_gives (CM := He.ga KK "MapError") c_err (by rw [hM]; exact He.glo_ok KX G (c.t.d.fact 26 (f := .glo "MapError") rfl)) sc__law_error.nd (by decide) (by rw [hM]; exact blt _ (by decide +kernel)) fun x hx C hC => ?_
    rw [hK, hM]
    have hx2 : x = "InvalidNumber" ∨ x = "InvalidQuotient" ∨ x = "NotFound" := by simpa [raisedK] using hx
    rcases hx2 with rfl | rfl | rfl
    · have e := hC.symm.trans (He.glo_ok KX G (c.t.d.fact 27 (f := .glo "InvalidNumber") rfl))
      cases e
      refine ⟨He.exm_ok (c.t.d.fact 31 (f := .exm "InvalidNumber" "MapError" true) rfl), excCB_ok x_InvalidNumber, fun c2 hc2 => ?_⟩
      have h2 : c2 = "InvalidNumber" ∨ c2 = "InvalidQuotient" ∨ c2 = "NotFound" := by simpa [raisedK] using hc2
      rcases h2 with rfl | rfl | rfl
      · exact ⟨_, He.glo_ok KX G (c.t.d.fact 27 (f := .glo "InvalidNumber") rfl), isB_ok i_InvalidNumber_InvalidNumber⟩
      · exact ⟨_, He.glo_ok KX G (c.t.d.fact 28 (f := .glo "InvalidQuotient") rfl), isB_ok i_InvalidNumber_InvalidQuotient⟩
      · exact ⟨_, He.glo_ok KX G (c.t.d.fact 29 (f := .glo "NotFound") rfl), isB_ok i_InvalidNumber_NotFound⟩
    · have e := hC.symm.trans (He.glo_ok KX G (c.t.d.fact 28 (f := .glo "InvalidQuotient") rfl))
      cases e
      refine ⟨He.exm_ok (c.t.d.fact 33 (f := .exm "InvalidQuotient" "MapError" true) rfl), excCB_ok x_InvalidQuotient, fun c2 hc2 => ?_⟩
      have h2 : c2 = "InvalidNumber" ∨ c2 = "InvalidQuotient" ∨ c2 = "NotFound" := by simpa [raisedK] using hc2
      rcases h2 with rfl | rfl | rfl
      · exact ⟨_, He.glo_ok KX G (c.t.d.fact 27 (f := .glo "InvalidNumber") rfl), isB_ok i_InvalidQuotient_InvalidNumber⟩
      · exact ⟨_, He.glo_ok KX G (c.t.d.fact 28 (f := .glo "InvalidQuotient") rfl), isB_ok i_InvalidQuotient_InvalidQuotient⟩
      · exact ⟨_, He.glo_ok KX G (c.t.d.fact 29 (f := .glo "NotFound") rfl), isB_ok i_InvalidQuotient_NotFound⟩
    · have e := hC.symm.trans (He.glo_ok KX G (c.t.d.fact 29 (f := .glo "NotFound") rfl))
      cases e
      refine ⟨He.exm_ok (c.t.d.fact 35 (f := .exm "NotFound" "MapError" true) rfl), excCB_ok x_NotFound, fun c2 hc2 => ?_⟩
      have h2 : c2 = "InvalidNumber" ∨ c2 = "InvalidQuotient" ∨ c2 = "NotFound" := by simpa [raisedK] using hc2
      rcases h2 with rfl | rfl | rfl
      · exact ⟨_, He.glo_ok KX G (c.t.d.fact 27 (f := .glo "InvalidNumber") rfl), isB_ok i_NotFound_InvalidNumber⟩
      · exact ⟨_, He.glo_ok KX G (c.t.d.fact 28 (f := .glo "InvalidQuotient") rfl), isB_ok i_NotFound_InvalidQuotient⟩
      · exact ⟨_, He.glo_ok KX G (c.t.d.fact 29 (f := .glo "NotFound") rfl), isB_ok i_NotFound_NotFound⟩
  have l0 : KeptL RWK.prog w (WK KK mg) base 0 fl0 := KeptL.nil
  obtain ⟨fd_is_whole, F_is_whole⟩ := c.t.d.def_ 0 (d := d_is_whole) rfl
  have m_is_whole : (WK KK mg).mg "is_whole" = some (.ref (He.fAd KK ("is_whole", none))) := He.glo_ok KX G (c.t.d.fact 0 (f := .glo "is_whole") rfl)
  have b_is_whole : Binds KK fd_is_whole ["value", "low", "high"] [] := FunD.bindsN F_is_whole (fun _ _ _ _ _ _ us hl => match us, hl with | [_, _, _], _ => rfl)
  have k_is_whole : Kept RWK.prog w (WK KK mg) base 1 "is_whole" S_is_whole := (kept_of (C := ci_is_whole) (Φ := tblOf conK fl0 lamK) (k := 0) (kk := 0) (n := 60) F_is_whole sc_is_whole m_is_whole b_is_whole c_is_whole (by decide) (modu_of (by kernel_rfl) (by kernel_rfl) con blt (fun _ => gcd) exc) l0.get (by omega) (fun z => (Bool.false_ne_true z).elim)).imp (ok_is_whole )
  have l1 : KeptL RWK.prog w (WK KK mg) base 1 fl1 := KeptL.cons l0 k_is_whole (by omega)
  obtain ⟨fd_need_whole, F_need_whole⟩ := c.t.d.def_ 1 (d := d_need_whole) rfl
  have m_need_whole : (WK KK mg).mg "need_whole" = some (.ref (He.fAd KK ("need_whole", none))) := He.glo_ok KX G (c.t.d.fact 1 (f := .glo "need_whole") rfl)
  have b_need_whole : Binds KK fd_need_whole ["value", "low", "high"] [] := FunD.bindsN F_need_whole (fun _ _ _ _ _ _ us hl => match us, hl with | [_, _, _], _ => rfl)
  have k_need_whole : Kept RWK.prog w (WK KK mg) base 2 "need_whole" S_need_whole := (kept_of (C := ci_need_whole) (Φ := tblOf conK fl1 lamK) (k := 1) (kk := 1) (n := 60) F_need_whole sc_need_whole m_need_whole b_need_whole c_need_whole (by decide) (modu_of (by kernel_rfl) (by kernel_rfl) con blt (fun _ => gcd) exc) l1.get (by omega) (fun z => (Bool.false_ne_true z).elim)).imp (ok_need_whole (by kernel_rfl))
  have l2 : KeptL RWK.prog w (WK KK mg) base 2 fl2 := KeptL.cons l1 k_need_whole (by omega)
  obtain ⟨fd_is_tuple_of, F_is_tuple_of⟩ := c.t.d.def_ 2 (d := d_is_tuple_of) rfl
  have m_is_tuple_of : (WK KK mg).mg "is_tuple_of" = some (.ref (He.fAd KK ("is_tuple_of", none))) := He.glo_ok KX G (c.t.d.fact 2 (f := .glo "is_tuple_of") rfl)
  have b_is_tuple_of : Binds KK fd_is_tuple_of ["value", "low", "high"] [] := FunD.bindsN F_is_tuple_of (fun _ _ _ _ _ _ us hl => match us, hl with | [_, _, _], _ => rfl)
  have k_is_tuple_of : Kept RWK.prog w (WK KK mg) base 3 "is_tuple_of" S_is_tuple_of := (kept_of (C := ci_is_tuple_of) (Φ := tblOf conK fl2 lamK) (k := 2) (kk := 2) (n := 60) F_is_tuple_of sc_is_tuple_of m_is_tuple_of b_is_tuple_of c_is_tuple_of (by decide) (modu_of (by kernel_rfl) (by kernel_rfl) con blt (fun _ => gcd) exc) l2.get (by omega) (fun z => (Bool.false_ne_true z).elim)).imp (ok_is_tuple_of )
  have l3 : KeptL RWK.prog w (WK KK mg) base 3 fl3 := KeptL.cons l2 k_is_tuple_of (by omega)
  obtain ⟨fd_is_quotient, F_is_quotient⟩ := c.t.d.def_ 3 (d := d_is_quotient) rfl
  have m_is_quotient : (WK KK mg).mg "is_quotient" = some (.ref (He.fAd KK ("is_quotient", none))) := He.glo_ok KX G (c.t.d.fact 3 (f := .glo "is_quotient") rfl)
  have b_is_quotient : Binds KK fd_is_quotient ["value"] [] := FunD.bindsN F_is_quotient (fun _ _ _ _ _ _ us hl => match us, hl with | [_], _ => rfl)
  have k_is_quotient : Kept RWK.prog w (WK KK mg) base 4 "is_quotient" S_is_quotient := (kept_of (C := ci_is_quotient) (Φ := tblOf conK fl3 lamK) (k := 3) (kk := 3) (n := 60) F_is_quotient sc_is_quotient m_is_quotient b_is_quotient c_is_quotient (by decide) (modu_of (by kernel_rfl) (by kernel_rfl) con blt (fun _ => gcd) exc) l3.get (by omega) (fun z => (Bool.false_ne_true z).elim)).imp (ok_is_quotient (by kernel_rfl) (by kernel_rfl) (by kernel_rfl))
  have l4 : KeptL RWK.prog w (WK KK mg) base 4 fl4 := KeptL.cons l3 k_is_quotient (by omega)
  obtain ⟨fd_need_quotient, F_need_quotient⟩ := c.t.d.def_ 4 (d := d_need_quotient) rfl
  have m_need_quotient : (WK KK mg).mg "need_quotient" = some (.ref (He.fAd KK ("need_quotient", none))) := He.glo_ok KX G (c.t.d.fact 4 (f := .glo "need_quotient") rfl)
  have b_need_quotient : Binds KK fd_need_quotient ["value"] [] := FunD.bindsN F_need_quotient (fun _ _ _ _ _ _ us hl => match us, hl with | [_], _ => rfl)
  have k_need_quotient : Kept RWK.prog w (WK KK mg) base 5 "need_quotient" S_need_quotient := (kept_of (C := ci_need_quotient) (Φ := tblOf conK fl4 lamK) (k := 4) (kk := 4) (n := 60) F_need_quotient sc_need_quotient m_need_quotient b_need_quotient c_need_quotient (by decide) (modu_of (by kernel_rfl) (by kernel_rfl) con blt (fun _ => gcd) exc) l4.get (by omega) (fun z => (Bool.false_ne_true z).elim)).imp (ok_need_quotient (by kernel_rfl))
  have l5 : KeptL RWK.prog w (WK KK mg) base 5 fl5 := KeptL.cons l4 k_need_quotient (by omega)
  obtain ⟨fd_plain, F_plain⟩ := c.t.d.def_ 5 (d := d_plain) rfl
  have m_plain : (WK KK mg).mg "plain" = some (.ref (He.fAd KK ("plain", none))) := He.glo_ok KX G (c.t.d.fact 5 (f := .glo "plain") rfl)
  have b_plain : Binds KK fd_plain ["top", "bottom"] [] := FunD.bindsN F_plain (fun _ _ _ _ _ _ us hl => match us, hl with | [_, _], _ => rfl)
  have k_plain : Kept RWK.prog w (WK KK mg) base 6 "plain" S_plain := (kept_of (C := ci_plain) (Φ := tblOf conK fl5 lamK) (k := 5) (kk := 5) (n := 60) F_plain sc_plain m_plain b_plain c_plain (by decide) (modu_of (by kernel_rfl) (by kernel_rfl) con blt (fun _ => gcd) exc) l5.get (by omega) (fun z => (Bool.false_ne_true z).elim)).imp (ok_plain )
  have l6 : KeptL RWK.prog w (WK KK mg) base 6 fl6 := KeptL.cons l5 k_plain (by omega)
  obtain ⟨fd_plus, F_plus⟩ := c.t.d.def_ 6 (d := d_plus) rfl
  have m_plus : (WK KK mg).mg "plus" = some (.ref (He.fAd KK ("plus", none))) := He.glo_ok KX G (c.t.d.fact 6 (f := .glo "plus") rfl)
  have b_plus : Binds KK fd_plus ["one", "other"] [] := FunD.bindsN F_plus (fun _ _ _ _ _ _ us hl => match us, hl with | [_, _], _ => rfl)
  have k_plus : Kept RWK.prog w (WK KK mg) base 7 "plus" S_plus := (kept_of (C := ci_plus) (Φ := tblOf conK fl6 lamK) (k := 6) (kk := 6) (n := 60) F_plus sc_plus m_plus b_plus c_plus (by decide) (modu_of (by kernel_rfl) (by kernel_rfl) con blt (fun _ => gcd) exc) l6.get (by omega) (fun z => (Bool.false_ne_true z).elim)).imp (ok_plus (by kernel_rfl))
  have l7 : KeptL RWK.prog w (WK KK mg) base 7 fl7 := KeptL.cons l6 k_plus (by omega)
  obtain ⟨fd_times, F_times⟩ := c.t.d.def_ 7 (d := d_times) rfl
  have m_times : (WK KK mg).mg "times" = some (.ref (He.fAd KK ("times", none))) := He.glo_ok KX G (c.t.d.fact 7 (f := .glo "times") rfl)
  have b_times : Binds KK fd_times ["one", "other"] [] := FunD.bindsN F_times (fun _ _ _ _ _ _ us hl => match us, hl with | [_, _], _ => rfl)
  have k_times : Kept RWK.prog w (WK KK mg) base 8 "times" S_times := (kept_of (C := ci_times) (Φ := tblOf conK fl7 lamK) (k := 7) (kk := 7) (n := 60) F_times sc_times m_times b_times c_times (by decide) (modu_of (by kernel_rfl) (by kernel_rfl) con blt (fun _ => gcd) exc) l7.get (by omega) (fun z => (Bool.false_ne_true z).elim)).imp (ok_times (by kernel_rfl))
  have l8 : KeptL RWK.prog w (WK KK mg) base 8 fl8 := KeptL.cons l7 k_times (by omega)
  obtain ⟨fd_lead, F_lead⟩ := c.t.d.def_ 8 (d := d_lead) rfl
  have m_lead : (WK KK mg).mg "lead" = some (.ref (He.fAd KK ("lead", none))) := He.glo_ok KX G (c.t.d.fact 8 (f := .glo "lead") rfl)
  have b_lead : Binds KK fd_lead ["one", "other"] [] := FunD.bindsN F_lead (fun _ _ _ _ _ _ us hl => match us, hl with | [_, _], _ => rfl)
  have k_lead : Kept RWK.prog w (WK KK mg) base 9 "lead" S_lead := (kept_of (C := ci_lead) (Φ := tblOf conK fl8 lamK) (k := 8) (kk := 8) (n := 60) F_lead sc_lead m_lead b_lead c_lead (by decide) (modu_of (by kernel_rfl) (by kernel_rfl) con blt (fun _ => gcd) exc) l8.get (by omega) (fun z => (Bool.false_ne_true z).elim)).imp (ok_lead )
  have l9 : KeptL RWK.prog w (WK KK mg) base 9 fl9 := KeptL.cons l8 k_lead (by omega)
  obtain ⟨fd_quotient, F_quotient⟩ := c.t.d.def_ 9 (d := d_quotient) rfl
  have m_quotient : (WK KK mg).mg "quotient" = some (.ref (He.fAd KK ("quotient", none))) := He.glo_ok KX G (c.t.d.fact 9 (f := .glo "quotient") rfl)
  have b_quotient : Binds KK fd_quotient ["top", "bottom"] [] := FunD.bindsN F_quotient (fun _ _ _ _ _ _ us hl => match us, hl with | [_, _], _ => rfl)
  have k_quotient : Kept RWK.prog w (WK KK mg) base 10 "quotient" S_quotient := (kept_of (C := ci_quotient) (Φ := tblOf conK fl9 lamK) (k := 9) (kk := 9) (n := 60) F_quotient sc_quotient m_quotient b_quotient c_quotient (by decide) (modu_of (by kernel_rfl) (by kernel_rfl) con blt (fun _ => gcd) exc) l9.get (by omega) (fun z => (Bool.false_ne_true z).elim)).imp (ok_quotient (by kernel_rfl) (by kernel_rfl) (by kernel_rfl))
  have l10 : KeptL RWK.prog w (WK KK mg) base 10 fl10 := KeptL.cons l9 k_quotient (by omega)
  obtain ⟨fd_quotient_sum, F_quotient_sum⟩ := c.t.d.def_ 10 (d := d_quotient_sum) rfl
  have m_quotient_sum : (WK KK mg).mg "quotient_sum" = some (.ref (He.fAd KK ("quotient_sum", none))) := He.glo_ok KX G (c.t.d.fact 10 (f := .glo "quotient_sum") rfl)
  have b_quotient_sum : Binds KK fd_quotient_sum ["one", "other"] [] := FunD.bindsN F_quotient_sum (fun _ _ _ _ _ _ us hl => match us, hl with | [_, _], _ => rfl)
  have k_quotient_sum : Kept RWK.prog w (WK KK mg) base 11 "quotient_sum" S_quotient_sum := (kept_of (C := ci_quotient_sum) (Φ := tblOf conK fl10 lamK) (k := 10) (kk := 10) (n := 60) F_quotient_sum sc_quotient_sum m_quotient_sum b_quotient_sum c_quotient_sum (by decide) (modu_of (by kernel_rfl) (by kernel_rfl) con blt (fun _ => gcd) exc) l10.get (by omega) (fun z => (Bool.false_ne_true z).elim)).imp (ok_quotient_sum (by kernel_rfl) (by kernel_rfl))
  have l11 : KeptL RWK.prog w (WK KK mg) base 11 fl11 := KeptL.cons l10 k_quotient_sum (by omega)
  obtain ⟨fd_quotient_product, F_quotient_product⟩ := c.t.d.def_ 11 (d := d_quotient_product) rfl
  have m_quotient_product : (WK KK mg).mg "quotient_product" = some (.ref (He.fAd KK ("quotient_product", none))) := He.glo_ok KX G (c.t.d.fact 11 (f := .glo "quotient_product") rfl)
  have b_quotient_product : Binds KK fd_quotient_product ["one", "other"] [] := FunD.bindsN F_quotient_product (fun _ _ _ _ _ _ us hl => match us, hl with | [_, _], _ => rfl)
  have k_quotient_product : Kept RWK.prog w (WK KK mg) base 12 "quotient_product" S_quotient_product := (kept_of (C := ci_quotient_product) (Φ := tblOf conK fl11 lamK) (k := 11) (kk := 11) (n := 60) F_quotient_product sc_quotient_product m_quotient_product b_quotient_product c_quotient_product (by decide) (modu_of (by kernel_rfl) (by kernel_rfl) con blt (fun _ => gcd) exc) l11.get (by omega) (fun z => (Bool.false_ne_true z).elim)).imp (ok_quotient_product (by kernel_rfl) (by kernel_rfl))
  have l12 : KeptL RWK.prog w (WK KK mg) base 12 fl12 := KeptL.cons l11 k_quotient_product (by omega)
  obtain ⟨fd_quotient_by, F_quotient_by⟩ := c.t.d.def_ 12 (d := d_quotient_by) rfl
  have m_quotient_by : (WK KK mg).mg "quotient_by" = some (.ref (He.fAd KK ("quotient_by", none))) := He.glo_ok KX G (c.t.d.fact 12 (f := .glo "quotient_by") rfl)
  have b_quotient_by : Binds KK fd_quotient_by ["one", "other"] [] := FunD.bindsN F_quotient_by (fun _ _ _ _ _ _ us hl => match us, hl with | [_, _], _ => rfl)
  have k_quotient_by : Kept RWK.prog w (WK KK mg) base 13 "quotient_by" S_quotient_by := (kept_of (C := ci_quotient_by) (Φ := tblOf conK fl12 lamK) (k := 12) (kk := 12) (n := 60) F_quotient_by sc_quotient_by m_quotient_by b_quotient_by c_quotient_by (by decide) (modu_of (by kernel_rfl) (by kernel_rfl) con blt (fun _ => gcd) exc) l12.get (by omega) (fun z => (Bool.false_ne_true z).elim)).imp (ok_quotient_by (by kernel_rfl) (by kernel_rfl))
  have l13 : KeptL RWK.prog w (WK KK mg) base 13 fl13 := KeptL.cons l12 k_quotient_by (by omega)
  obtain ⟨fd_is_greater, F_is_greater⟩ := c.t.d.def_ 13 (d := d_is_greater) rfl
  have m_is_greater : (WK KK mg).mg "is_greater" = some (.ref (He.fAd KK ("is_greater", none))) := He.glo_ok KX G (c.t.d.fact 13 (f := .glo "is_greater") rfl)
  have b_is_greater : Binds KK fd_is_greater ["one", "other"] [] := FunD.bindsN F_is_greater (fun _ _ _ _ _ _ us hl => match us, hl with | [_, _], _ => rfl)
  have k_is_greater : Kept RWK.prog w (WK KK mg) base 14 "is_greater" S_is_greater := (kept_of (C := ci_is_greater) (Φ := tblOf conK fl13 lamK) (k := 13) (kk := 13) (n := 60) F_is_greater sc_is_greater m_is_greater b_is_greater c_is_greater (by decide) (modu_of (by kernel_rfl) (by kernel_rfl) con blt (fun _ => gcd) exc) l13.get (by omega) (fun z => (Bool.false_ne_true z).elim)).imp (ok_is_greater (by kernel_rfl) (by kernel_rfl))
  have l14 : KeptL RWK.prog w (WK KK mg) base 14 fl14 := KeptL.cons l13 k_is_greater (by omega)
  obtain ⟨fd__law_cup, F__law_cup⟩ := c.t.d.def_ 14 (d := d__law_cup) rfl
  have m__law_cup : (WK KK mg).mg "_law_cup" = some (.ref (He.fAd KK ("_law_cup", none))) := He.glo_ok KX G (c.t.d.fact 14 (f := .glo "_law_cup") rfl)
  have b__law_cup : Binds KK fd__law_cup ["script"] [] := FunD.bindsN F__law_cup (fun _ _ _ _ _ _ us hl => match us, hl with | [_], _ => rfl)
  have k__law_cup : Kept RWK.prog w (WK KK mg) base 15 "_law_cup" S__law_cup := (kept_of (C := ci__law_cup) (Φ := tblOf conK fl14 lamK) (k := 14) (kk := 14) (n := 60) F__law_cup sc__law_cup m__law_cup b__law_cup c__law_cup (by decide) (modu_of (by kernel_rfl) (by kernel_rfl) con blt (fun _ => gcd) exc) l14.get (by omega) (fun z => (Bool.false_ne_true z).elim)).imp (ok__law_cup )
  have l15 : KeptL RWK.prog w (WK KK mg) base 15 fl15 := KeptL.cons l14 k__law_cup (by omega)
  obtain ⟨fd__law_roll, F__law_roll⟩ := c.t.d.def_ 15 (d := d__law_roll) rfl
  have m__law_roll : (WK KK mg).mg "_law_roll" = some (.ref (He.fAd KK ("_law_roll", none))) := He.glo_ok KX G (c.t.d.fact 15 (f := .glo "_law_roll") rfl)
  have b__law_roll : Binds KK fd__law_roll ["cup", "many"] [] := FunD.bindsN F__law_roll (fun _ _ _ _ _ _ us hl => match us, hl with | [_, _], _ => rfl)
  have k__law_roll : Kept RWK.prog w (WK KK mg) base 16 "_law_roll" S__law_roll := (kept_of (C := ci__law_roll) (Φ := tblOf conK fl15 lamK) (k := 15) (kk := 15) (n := 60) F__law_roll sc__law_roll m__law_roll b__law_roll c__law_roll (by decide) (modu_of (by kernel_rfl) (by kernel_rfl) con blt (fun _ => gcd) exc) l15.get (by omega) (fun z => (Bool.false_ne_true z).elim)).imp (ok__law_roll )
  have l16 : KeptL RWK.prog w (WK KK mg) base 16 fl16 := KeptL.cons l15 k__law_roll (by omega)
  obtain ⟨fd__law_some, F__law_some⟩ := c.t.d.def_ 16 (d := d__law_some) rfl
  have m__law_some : (WK KK mg).mg "_law_some" = some (.ref (He.fAd KK ("_law_some", none))) := He.glo_ok KX G (c.t.d.fact 16 (f := .glo "_law_some") rfl)
  have b__law_some : Binds KK fd__law_some ["cup", "things"] [] := FunD.bindsN F__law_some (fun _ _ _ _ _ _ us hl => match us, hl with | [_, _], _ => rfl)
  have k__law_some : Kept RWK.prog w (WK KK mg) base 17 "_law_some" S__law_some := (kept_of (C := ci__law_some) (Φ := tblOf conK fl16 lamK) (k := 16) (kk := 16) (n := 60) F__law_some sc__law_some m__law_some b__law_some c__law_some (by decide) (modu_of (by kernel_rfl) (by kernel_rfl) con blt (fun _ => gcd) exc) l16.get (by omega) (fun z => (Bool.false_ne_true z).elim)).imp (ok__law_some (by kernel_rfl))
  have l17 : KeptL RWK.prog w (WK KK mg) base 17 fl17 := KeptL.cons l16 k__law_some (by omega)
  obtain ⟨fd__law_sort, F__law_sort⟩ := c.t.d.def_ 17 (d := d__law_sort) rfl
  have m__law_sort : (WK KK mg).mg "_law_sort" = some (.ref (He.fAd KK ("_law_sort", none))) := He.glo_ok KX G (c.t.d.fact 17 (f := .glo "_law_sort") rfl)
  have b__law_sort : Binds KK fd__law_sort ["value"] [] := FunD.bindsN F__law_sort (fun _ _ _ _ _ _ us hl => match us, hl with | [_], _ => rfl)
  have k__law_sort : Kept RWK.prog w (WK KK mg) base 18 "_law_sort" S__law_sort := (kept_of (C := ci__law_sort) (Φ := tblOf conK fl17 lamK) (k := 17) (kk := 17) (n := 60) F__law_sort sc__law_sort m__law_sort b__law_sort c__law_sort (by decide) (modu_of (by kernel_rfl) (by kernel_rfl) con blt (fun _ => gcd) exc) l17.get (by omega) (fun z => (Bool.false_ne_true z).elim)).imp (ok__law_sort )
  have l18 : KeptL RWK.prog w (WK KK mg) base 18 fl18 := KeptL.cons l17 k__law_sort (by omega)
  obtain ⟨fd__law_like, F__law_like⟩ := c.t.d.def_ 18 (d := d__law_like) rfl
  have m__law_like : (WK KK mg).mg "_law_like" = some (.ref (He.fAd KK ("_law_like", none))) := He.glo_ok KX G (c.t.d.fact 18 (f := .glo "_law_like") rfl)
  have b__law_like : Binds KK fd__law_like ["one", "other"] [] := FunD.bindsN F__law_like (fun _ _ _ _ _ _ us hl => match us, hl with | [_, _], _ => rfl)
  have z0 : KeptL RWK.prog w (WK KK mg) base 18 (flL fun _ _ _ => False) := KeptL.cons l18 (kept_false m__law_like F__law_like.kp b__law_like) (Nat.le_refl _)
  have k_like0 : Kept RWK.prog w (WK KK mg) base 19 "_law_like" (S_like 0) := (kept_of (C := ci__law_like) (Φ := tblOf conK (flL (fun _ _ _ => False)) lamK) (k := 18) (kk := 18) (n := 60) F__law_like sc__law_like m__law_like b__law_like c__law_like (by decide) (modu_of (by kernel_rfl) (by kernel_rfl) con blt (fun _ => gcd) exc) z0.get (by omega) (fun z => (Bool.false_ne_true z).elim)).imp (ok__law_like (n := 0) (by kernel_rfl) (fun m e => by cases e))
  have z1 : KeptL RWK.prog w (WK KK mg) base 19 (flL (S_like 0)) := KeptL.cons (l18) k_like0 (by omega)
  have k_like1 : Kept RWK.prog w (WK KK mg) base 20 "_law_like" (S_like 1) := (kept_of (C := ci__law_like) (Φ := tblOf conK (flL (S_like 0)) lamK) (k := 19) (kk := 19) (n := 60) F__law_like sc__law_like m__law_like b__law_like c__law_like (by decide) (modu_of (by kernel_rfl) (by kernel_rfl) con blt (fun _ => gcd) exc) z1.get (by omega) (fun z => (Bool.false_ne_true z).elim)).imp (ok__law_like (n := 1) (by kernel_rfl) (fun m e => by cases e; kernel_rfl))
  have z2 : KeptL RWK.prog w (WK KK mg) base 20 (flL (S_like 1)) := KeptL.cons (l18) k_like1 (by omega)
  have k_like2 : Kept RWK.prog w (WK KK mg) base 21 "_law_like" (S_like 2) := (kept_of (C := ci__law_like) (Φ := tblOf conK (flL (S_like 1)) lamK) (k := 20) (kk := 20) (n := 60) F__law_like sc__law_like m__law_like b__law_like c__law_like (by decide) (modu_of (by kernel_rfl) (by kernel_rfl) con blt (fun _ => gcd) exc) z2.get (by omega) (fun z => (Bool.false_ne_true z).elim)).imp (ok__law_like (n := 2) (by kernel_rfl) (fun m e => by cases e; kernel_rfl))
  have z3 : KeptL RWK.prog w (WK KK mg) base 21 (flL (S_like 2)) := KeptL.cons (l18) k_like2 (by omega)
  have k_like3 : Kept RWK.prog w (WK KK mg) base 22 "_law_like" (S_like 3) := (kept_of (C := ci__law_like) (Φ := tblOf conK (flL (S_like 2)) lamK) (k := 21) (kk := 21) (n := 60) F__law_like sc__law_like m__law_like b__law_like c__law_like (by decide) (modu_of (by kernel_rfl) (by kernel_rfl) con blt (fun _ => gcd) exc) z3.get (by omega) (fun z => (Bool.false_ne_true z).elim)).imp (ok__law_like (n := 3) (by kernel_rfl) (fun m e => by cases e; kernel_rfl))
  have z4 : KeptL RWK.prog w (WK KK mg) base 22 (flL (S_like 3)) := KeptL.cons (l18) k_like3 (by omega)
  have l19 : KeptL RWK.prog w (WK KK mg) base 22 fl19 := z4
  obtain ⟨fd__law_divisor, F__law_divisor⟩ := c.t.d.def_ 19 (d := d__law_divisor) rfl
  have m__law_divisor : (WK KK mg).mg "_law_divisor" = some (.ref (He.fAd KK ("_law_divisor", none))) := He.glo_ok KX G (c.t.d.fact 19 (f := .glo "_law_divisor") rfl)
  have b__law_divisor : Binds KK fd__law_divisor ["one", "other"] [] := FunD.bindsN F__law_divisor (fun _ _ _ _ _ _ us hl => match us, hl with | [_, _], _ => rfl)
  have k__law_divisor : Kept RWK.prog w (WK KK mg) base 23 "_law_divisor" S__law_divisor := (kept_of (C := ci__law_divisor) (Φ := tblOf conK fl19 lamK) (k := 22) (kk := 22) (n := 60) F__law_divisor sc__law_divisor m__law_divisor b__law_divisor c__law_divisor (by decide) (modu_of (by kernel_rfl) (by kernel_rfl) con blt (fun _ => gcd) exc) l19.get (by omega) (fun z => (Bool.false_ne_true z).elim)).imp (ok__law_divisor )
  have l20 : KeptL RWK.prog w (WK KK mg) base 23 fl20 := KeptL.cons l19 k__law_divisor (by omega)
  obtain ⟨fd__law_plain, F__law_plain⟩ := c.t.d.def_ 20 (d := d__law_plain) rfl
  have m__law_plain : (WK KK mg).mg "_law_plain" = some (.ref (He.fAd KK ("_law_plain", none))) := He.glo_ok KX G (c.t.d.fact 20 (f := .glo "_law_plain") rfl)
  have b__law_plain : Binds KK fd__law_plain ["top", "bottom"] [] := FunD.bindsN F__law_plain (fun _ _ _ _ _ _ us hl => match us, hl with | [_, _], _ => rfl)
  have k__law_plain : Kept RWK.prog w (WK KK mg) base 24 "_law_plain" S__law_plain := (kept_of (C := ci__law_plain) (Φ := tblOf conK fl20 lamK) (k := 23) (kk := 23) (n := 60) F__law_plain sc__law_plain m__law_plain b__law_plain c__law_plain (by decide) (modu_of (by kernel_rfl) (by kernel_rfl) con blt (fun _ => gcd) exc) l20.get (by omega) (fun z => (Bool.false_ne_true z).elim)).imp (ok__law_plain (by kernel_rfl))
  have l21 : KeptL RWK.prog w (WK KK mg) base 24 fl21 := KeptL.cons l20 k__law_plain (by omega)
  obtain ⟨fd__law_great, F__law_great⟩ := c.t.d.def_ 21 (d := d__law_great) rfl
  have m__law_great : (WK KK mg).mg "_law_great" = some (.ref (He.fAd KK ("_law_great", none))) := He.glo_ok KX G (c.t.d.fact 21 (f := .glo "_law_great") rfl)
  have b__law_great : Binds KK fd__law_great ["cup", "size"] [] := FunD.bindsN F__law_great (fun _ _ _ _ _ _ us hl => match us, hl with | [_, _], _ => rfl)
  have k__law_great : Kept RWK.prog w (WK KK mg) base 25 "_law_great" S__law_great := (kept_of (C := ci__law_great) (Φ := tblOf conK fl21 lamK) (k := 24) (kk := 24) (n := 60) F__law_great sc__law_great m__law_great b__law_great c__law_great (by decide) (modu_of (by kernel_rfl) (by kernel_rfl) con blt (fun _ => gcd) exc) l21.get (by omega) (fun z => (Bool.false_ne_true z).elim)).imp (ok__law_great (by kernel_rfl))
  have l22 : KeptL RWK.prog w (WK KK mg) base 25 fl22 := KeptL.cons l21 k__law_great (by omega)
  obtain ⟨fd__law_quotient, F__law_quotient⟩ := c.t.d.def_ 22 (d := d__law_quotient) rfl
  have m__law_quotient : (WK KK mg).mg "_law_quotient" = some (.ref (He.fAd KK ("_law_quotient", none))) := He.glo_ok KX G (c.t.d.fact 22 (f := .glo "_law_quotient") rfl)
  have b__law_quotient : Binds KK fd__law_quotient ["cup"] [] := FunD.bindsN F__law_quotient (fun _ _ _ _ _ _ us hl => match us, hl with | [_], _ => rfl)
  have k__law_quotient : Kept RWK.prog w (WK KK mg) base 26 "_law_quotient" S__law_quotient := (kept_of (C := ci__law_quotient) (Φ := tblOf conK fl22 lamK) (k := 25) (kk := 25) (n := 60) F__law_quotient sc__law_quotient m__law_quotient b__law_quotient c__law_quotient (by decide) (modu_of (by kernel_rfl) (by kernel_rfl) con blt (fun _ => gcd) exc) l22.get (by omega) (fun z => (Bool.false_ne_true z).elim)).imp (ok__law_quotient (by kernel_rfl) (by kernel_rfl) (by kernel_rfl))
  have l23 : KeptL RWK.prog w (WK KK mg) base 26 fl23 := KeptL.cons l22 k__law_quotient (by omega)
  obtain ⟨fd__law_pair_right, F__law_pair_right⟩ := c.t.d.def_ 24 (d := d__law_pair_right) rfl
  have m__law_pair_right : (WK KK mg).mg "_law_pair_right" = some (.ref (He.fAd KK ("_law_pair_right", none))) := He.glo_ok KX G (c.t.d.fact 24 (f := .glo "_law_pair_right") rfl)
  have b__law_pair_right : Binds KK fd__law_pair_right ["one", "other"] [] := FunD.bindsN F__law_pair_right (fun _ _ _ _ _ _ us hl => match us, hl with | [_, _], _ => rfl)
  have k__law_pair_right : Kept RWK.prog w (WK KK mg) base 29 "_law_pair_right" S__law_pair_right := (kept_of (C := ci__law_pair_right) (Φ := tblOf conK fl23 lamK) (k := 26) (kk := 28) (n := 60) F__law_pair_right sc__law_pair_right m__law_pair_right b__law_pair_right c__law_pair_right (by decide) (modu_of (by kernel_rfl) (by kernel_rfl) con blt (fun _ => gcd) exc) l23.get (by omega) (fun z => ⟨by omega, lam_tab F__law_pair_right (by decide) rfl hap TB, df⟩)).imp (ok__law_pair_right (gf := gfK) (by kernel_rfl) (by kernel_rfl) (by kernel_rfl) (by kernel_rfl) (by kernel_rfl) (by kernel_rfl) (by kernel_rfl) (by kernel_rfl) (by kernel_rfl))
  have l24 : KeptL RWK.prog w (WK KK mg) base 29 fl24 := KeptL.cons l23 k__law_pair_right (by omega)
  have m_law : (WK KK mg).mg "law" = some (.ref (He.fAd KK ("law", none))) := He.glo_ok KX G (c.t.d.fact 25 (f := .glo "law") rfl)
  have fin := fnok_of (P := RWK.prog) (w := w) (W := WK KK mg) (base := base) (C := ci_law) (Φ := tblOf conK fl24 lamK) (k := 29) (kk := 99) (n := 60) F sc_law m_law c_law (by decide) (modu_of (by kernel_rfl) (by kernel_rfl) con blt (fun _ => gcd) exc) l24.get (by omega) (fun z => ⟨by omega, lam_tab F (by decide) rfl hap TB, df⟩)
  exact fin.imp fun vs H Q E z => spOf_imp (ok_law (gf := gfK) ⟨by kernel_rfl, by kernel_rfl, by kernel_rfl, by kernel_rfl, by kernel_rfl, by kernel_rfl, by kernel_rfl, by kernel_rfl, by kernel_rfl, by kernel_rfl, by kernel_rfl, by kernel_rfl, by kernel_rfl, by kernel_rfl, by kernel_rfl, by kernel_rfl, by kernel_rfl, by kernel_rfl⟩) z
end
end K
open PySem PySem.W PySem.Calls PyProof.Rows
theorem PySem.Challenge.cw_mapsdrawn_k00_whole_quotients_holds : PySem.Challenge.rw_mapsdrawn_k00_whole_quotients.Holds := by
  w_on; o_law
  refine HandSHeadRun.head_imp (r := OpenLaw.row K.RWK) (q := view (OpenLaw.row K.RWK).prog [0, 35]) (H := K.hookK) (ob := K.obK) (M := 4000) (loose := K.looseK) (d := HandSHeadRun.topDef (OpenLaw.row K.RWK).prog 35) (kwd := []) K.obK_eq
    K.runK (by kernel_rfl) (by kernel_rfl) (by kernel_rfl) (by rfl) (by first | assumption | decide +kernel) (by decide +kernel) ⟨rfl, rfl, rfl, rfl, rfl, by decide +kernel⟩ ?hw ?hc
  case hw => w_witness2
  case hc =>
    refine LamX.walk_ofTsE (l := K.RWK) (n := 63) (k := 100) (x := "script") (CX := fun w => L2N.CX K.RWK.prog w) rfl (by decide) (by kernel_rfl) ⟨by decide, by decide, by decide⟩ ?F ?E
    case E =>
      intro w H s e s' z
      obtain ⟨_, _, _, _, _, _, _, _, _, _, _, _, z⟩ := z
      exact z
    case F =>
      intro w mg fa h Y G hmg0
      obtain ⟨KK, KX, c⟩ := Y
      have hmg : mg ("law" : PySem.Str) = some (.ref fa) := by
        have e : (HandSHeadRun.topDef (OpenLaw.row K.RWK).prog 35).name = ("law" : PySem.Str) := by kernel_rfl
        rw [← e]
        exact hmg0
      obtain ⟨fd, F⟩ := c.t.d.def_ 25 (d := K.d_law) rfl
      have e := hmg.symm.trans (He.glo_ok KX G (c.t.d.fact 25 (f := .glo "law") rfl))
      cases e
      exact ⟨KK, KX, Ev.law_at (st := K.topS 35) KX c F (fun _ _ _ _ _ _ us hl => match us, hl with | [_], _ => rfl) fun base KX2 G2 TB => K.chain c KX2 G2 TB F⟩
